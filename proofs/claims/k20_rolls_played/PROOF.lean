import PyProof.Rows.All
import Wide.All
import OpenK.AllK
import Wide.FinOn
import HandS.ForMost
import HandS.ForExc
import HandS.Deep
import HandS.IsInst
import HandS.Wide
import HandS.WideBits
import HandS.EndBits
import HandS.Walk
import HandS.More
import HandS.StrMore
import HandS.NoneIn
import HandS.ExcOwn
import HandS.TupLe
import HandS.Flow
import PySem.Challenge.RW_barwright_k20_rolls_played
set_option Elab.async false
set_option linter.all false
set_option maxRecDepth 100000
set_option maxHeartbeats 0
/-! IPyA: values, stores, results of a small evaluator, and how they stand to the layer's heaps. -/
namespace IP
abbrev VSt := L2.St
open PySem PySem.Spec PyProof.Rows L2

/-- values: tuples are carried whole, and lists that nobody may write (sq: the script, the module's); other lists, dicts and instances by their place in the store -/
inductive IV where
  | non | bl (b : Bool) | int (i : Int) | str (x : Str) | tup (xs : List IV) | sq (xs : List IV) | ref (i : Nat) | ty (n : String) | fn (x : Str)
  deriving Inhabited

inductive SO where
  | lst (xs : List IV)
  | dct (kvs : List (Key × IV))
  | ins (C : Str) (fs : List (Str × IV))

abbrev Sto := List SO
abbrev Slo := List (Option IV)

inductive R (α : Type) where
  | ok (a : α) (S : Sto)
  | ex (c : Str) (fs : List (Str × IV)) (S : Sto)
  | no

def R.bind {α β : Type} (r : R α) (f : α → Sto → R β) : R β := match r with
  | .ok a S => f a S
  | .ex c fs S => .ex c fs S
  | .no => .no

def R.ofO {α : Type} : Option (α × Sto) → R α
  | some (a, S) => .ok a S
  | none => .no

inductive RS where
  | nx (t : Slo) (S : Sto)
  | ret (v : IV) (S : Sto)
  | brk (t : Slo) (S : Sto)
  | cnt (t : Slo) (S : Sto)
  | ex (c : Str) (fs : List (Str × IV)) (t : Slo) (S : Sto)
  | no

abbrev SE := Slo → Sto → R IV
abbrev SB := Slo → Sto → R Bool
abbrev SA := Slo → Sto → R (List IV)
abbrev SS := Slo → Sto → RS
abbrev FN := List IV → Sto → R IV

/-- a tuple that is tracked, or one of the module -/
def SqU (K : PySem.W.Frag) (H : Hp) (a : Addr) (xs : List V) : Prop := H a = some (.tup xs) ∨
  ∃ (o : Obj) (its : Array Value) (n : Nat), K.lookup a = some o ∧ o.cls = .type "tuple" ∧ o.data = .seq its n ∧ its.size ≤ sizeLine ∧ Vals xs its.toList
theorem SqU.t {K : PySem.W.Frag} {H : Hp} {a : Addr} {xs : List V} (h : SqU K H a xs) : SqT K H a xs := h.imp .inl id
/-- a list that is locked, or one of the module, or one that isn't told of (so nothing is written in it) -/
def SqF (K : PySem.W.Frag) (r : List Addr) (H : Hp) (a : Addr) (xs : List V) : Prop := (∃ o, H a = some (.frz o (.lst xs))) ∨ (H a = some (.lst xs) ∧ a ∉ r) ∨
  ∃ (o : Obj) (its : Array Value) (n : Nat), K.lookup a = some o ∧ o.cls = .type "list" ∧ o.dict = none ∧ o.data = .seq its n ∧ its.size ≤ sizeLine ∧ Vals xs its.toList
theorem SqF.l {K : PySem.W.Frag} {r : List Addr} {H : Hp} {a : Addr} {xs : List V} (h : SqF K r H a xs) : SqL K H a xs := by
  rcases h with h | h | h
  · exact .inl (.inr h)
  · exact .inl (.inl h.1)
  · exact .inr h
section
variable (K : PySem.W.Frag) (mg : Str → Option Value)
mutual
inductive VR (r : List Addr) (H : Hp) : IV → V → Prop
  | non : VR r H .non .non
  | bl (b : Bool) : VR r H (.bl b) (.bl b)
  | int (i : Int) : VR r H (.int i) (.int i)
  | str (x : Str) : VR r H (.str x) (.str x)
  | ty (n : String) : VR r H (.ty n) (.ty n)
  | ref {i : Nat} {a : Addr} : r[i]? = some a → VR r H (.ref i) (.ref a)
  | fn {x : Str} {a : Addr} : mg x = some (.ref a) → VR r H (.fn x) (.ref a)
  | tup {xs : List IV} {a : Addr} {vs : List V} : SqU K H a vs → VRs r H xs vs → VR r H (.tup xs) (.ref a)
  | sq {xs : List IV} {a : Addr} {vs : List V} : SqF K r H a vs → VRs r H xs vs → VR r H (.sq xs) (.ref a)
inductive VRs (r : List Addr) (H : Hp) : List IV → List V → Prop
  | nil : VRs r H [] []
  | cons {x : IV} {v : V} {xs : List IV} {vs : List V} : VR r H x v → VRs r H xs vs → VRs r H (x :: xs) (v :: vs)
end

/-- attributes, one by one -/
inductive FR (r : List Addr) (H : Hp) : List (Str × IV) → List (Str × V) → Prop
  | nil : FR r H [] []
  | cons {f : Str} {x : IV} {v : V} {xs : List (Str × IV)} {vs : List (Str × V)} : VR K mg r H x v → FR r H xs vs → FR r H ((f, x) :: xs) ((f, v) :: vs)
/-- a dict's pairs -/
inductive KR (r : List Addr) (H : Hp) : List (Key × IV) → List (Key × V) → Prop
  | nil : KR r H [] []
  | cons {k : Key} {x : IV} {v : V} {xs : List (Key × IV)} {vs : List (Key × V)} : VR K mg r H x v → KR r H xs vs → KR r H ((k, x) :: xs) ((k, v) :: vs)

def OR (r : List Addr) (H : Hp) (a : Addr) : SO → Prop
  | .lst xs => ∃ vs, H a = some (.lst vs) ∧ VRs K mg r H xs vs
  | .dct kvs => ∃ ws, H a = some (.dK ws) ∧ KR K mg r H kvs ws
  | .ins C fs => ∃ Ca dx ws, mg C = some (.ref Ca) ∧ H a = some (.ins Ca dx ws) ∧ FR K mg r H fs ws

structure Rel (r : List Addr) (S : Sto) (H : Hp) : Prop where
  len : r.length = S.length
  nd : r.Nodup
  obj : ∀ (i : Nat) (o : SO) (a : Addr), S[i]? = some o → r[i]? = some a → OR K mg r H a o

/-- what is told of the store stays, what isn't told of it too -/
structure Ex (r : List Addr) (H : Hp) (r' : List Addr) (H' : Hp) : Prop where
  pre : ∃ t, r' = r ++ t
  fr : ∀ a o, H a = some o → a ∉ r → H' a = some o ∧ a ∉ r'

/-- an exception: its class's name, its own attributes -/
def XR (r : List Addr) (H : Hp) (c : Str) (fs : List (Str × IV)) (cls : Value) (d : Option Addr) : Prop :=
  ∃ C, mg c = some (.ref C) ∧ cls = .ref C ∧ ((fs = [] ∧ d = none) ∨ ∃ dd ws, d = some dd ∧ H dd = some (.xd ws) ∧ FR K mg r H fs ws)

def Aft {α : Type} (W : XK) (x : R α) (r : List Addr) (H : Hp) (Q : List Addr → α → Sto → Hp → Prop) : Prop := match x with
  | .ok a S' => ∀ r' H', Ex r H r' H' → Rel K mg r' S' H' → Q r' a S' H'
  | .ex c fs S' => ∀ r' H' cls d, Ex r H r' H' → Rel K mg r' S' H' → XR K mg r' H' c fs cls d → W cls d H'
  | .no => False

structure St1 (r : List Addr) (n : Nat) (t : Slo) (s : VSt) (H : Hp) : Prop where
  l1 : t.length = n
  l2 : s.length = n
  at_ : ∀ (i : Nat) (v : IV), t[i]? = some (some v) → ∃ w, s[i]? = some (some w) ∧ VR K mg r H v w

end

section
variable {K : PySem.W.Frag} {mg : Str → Option Value} {r r' r2 : List Addr} {H H' H2 : Hp} {S S' : Sto}

theorem Ex.refl : Ex r H r H := ⟨⟨[], (List.append_nil r).symm⟩, fun _ _ e n => ⟨e, n⟩⟩
theorem Ex.trans (h : Ex r H r' H') (k : Ex r' H' r2 H2) : Ex r H r2 H2 := by
  obtain ⟨t, e⟩ := h.pre
  obtain ⟨t2, e2⟩ := k.pre
  refine ⟨⟨t ++ t2, by rw [e2, e, List.append_assoc]⟩, fun a o e n => ?_⟩
  obtain ⟨e1, n1⟩ := h.fr a o e n
  exact k.fr a o e1 n1
theorem Ex.at_ (h : Ex r H r' H') {i : Nat} {a : Addr} (e : r[i]? = some a) : r'[i]? = some a := by
  obtain ⟨t, rfl⟩ := h.pre
  rw [List.getElem?_append_left]
  · exact e
  · exact (List.getElem?_eq_some_iff.mp e).1

/-- no told place holds a tuple -/
theorem Rel.noTup (R : Rel K mg r S H) {a : Addr} {vs : List V} (h : H a = some (.tup vs)) : a ∉ r := by
  intro m
  obtain ⟨i, hi, ei⟩ := List.getElem_of_mem m
  have hS : i < S.length := R.len ▸ hi
  have q := R.obj i S[i] a (List.getElem?_eq_getElem hS) (by rw [List.getElem?_eq_getElem hi, ei])
  cases e : S[i] with
  | lst xs => rw [e] at q; obtain ⟨ws, q, _⟩ := q; rw [q] at h; cases h
  | dct kvs => rw [e] at q; obtain ⟨ws, q, _⟩ := q; rw [q] at h; cases h
  | ins C fs => rw [e] at q; obtain ⟨Ca, dx, ws, _, q, _⟩ := q; rw [q] at h; cases h

theorem Rel.noFrz (R : Rel K mg r S H) {a : Addr} {o : Obj} {u : HO} (h : H a = some (.frz o u)) : a ∉ r := by
  intro m
  obtain ⟨i, hi, ei⟩ := List.getElem_of_mem m
  have hS : i < S.length := R.len ▸ hi
  have q := R.obj i S[i] a (List.getElem?_eq_getElem hS) (by rw [List.getElem?_eq_getElem hi, ei])
  cases e : S[i] with
  | lst xs => rw [e] at q; obtain ⟨ws, q, _⟩ := q; rw [q] at h; cases h
  | dct kvs => rw [e] at q; obtain ⟨ws, q, _⟩ := q; rw [q] at h; cases h
  | ins C fs => rw [e] at q; obtain ⟨Ca, dx, ws, _, q, _⟩ := q; rw [q] at h; cases h
theorem sqU_mono (R : Rel K mg r S H) (x : Ex r H r' H') {a : Addr} {vs : List V} (h : SqU K H a vs) : SqU K H' a vs := by
  rcases h with h | h
  · exact .inl (x.fr a _ h (R.noTup h)).1
  · exact .inr h
theorem sqF_mono (R : Rel K mg r S H) (x : Ex r H r' H') {a : Addr} {vs : List V} (h : SqF K r H a vs) : SqF K r' H' a vs := by
  rcases h with ⟨o, h⟩ | h | h
  · exact .inl ⟨o, (x.fr a _ h (R.noFrz h)).1⟩
  · exact .inr (.inl (x.fr a _ h.1 h.2))
  · exact .inr (.inr h)

mutual
theorem VR.mono (R : Rel K mg r S H) (x : Ex r H r' H') : ∀ {v : IV} {w : V}, VR K mg r H v w → VR K mg r' H' v w
  | _, _, .non => .non
  | _, _, .bl b => .bl b
  | _, _, .int i => .int i
  | _, _, .str z => .str z
  | _, _, .ty n => .ty n
  | _, _, .ref e => .ref (x.at_ e)
  | _, _, .fn e => .fn e
  | _, _, .tup h q => .tup (sqU_mono R x h) (VRs.mono R x q)
  | _, _, .sq h q => .sq (sqF_mono R x h) (VRs.mono R x q)
theorem VRs.mono (R : Rel K mg r S H) (x : Ex r H r' H') : ∀ {v : List IV} {w : List V}, VRs K mg r H v w → VRs K mg r' H' v w
  | _, _, .nil => .nil
  | _, _, .cons h q => .cons (VR.mono R x h) (VRs.mono R x q)
end
theorem FR.mono (R : Rel K mg r S H) (x : Ex r H r' H') : ∀ {v : List (Str × IV)} {w : List (Str × V)}, FR K mg r H v w → FR K mg r' H' v w
  | _, _, .nil => .nil
  | _, _, .cons h q => .cons (h.mono R x) (FR.mono R x q)
theorem KR.mono (R : Rel K mg r S H) (x : Ex r H r' H') : ∀ {v : List (Key × IV)} {w : List (Key × V)}, KR K mg r H v w → KR K mg r' H' v w
  | _, _, .nil => .nil
  | _, _, .cons h q => .cons (h.mono R x) (KR.mono R x q)

theorem VRs.length : ∀ {xs : List IV} {vs : List V}, VRs K mg r H xs vs → xs.length = vs.length
  | _, _, .nil => rfl
  | _, _, .cons _ q => by rw [List.length_cons, List.length_cons, VRs.length q]
theorem VRs.get : ∀ {xs : List IV} {vs : List V}, VRs K mg r H xs vs → ∀ {i : Nat} {x : IV}, xs[i]? = some x → ∃ v, vs[i]? = some v ∧ VR K mg r H x v
  | _, _, .nil, i, x, e => by simp at e
  | _, _, .cons h q, 0, x, e => by simp at e; subst e; exact ⟨_, rfl, h⟩
  | _, _, .cons h q, i + 1, x, e => by
    obtain ⟨v, e1, e2⟩ := VRs.get q (i := i) (x := x) (by simpa using e)
    exact ⟨v, by simpa using e1, e2⟩
theorem VRs.get' : ∀ {xs : List IV} {vs : List V}, VRs K mg r H xs vs → ∀ {i : Nat} {v : V}, vs[i]? = some v → ∃ x, xs[i]? = some x ∧ VR K mg r H x v
  | _, _, .nil, i, x, e => by simp at e
  | _, _, .cons h q, 0, x, e => by simp at e; subst e; exact ⟨_, rfl, h⟩
  | _, _, .cons h q, i + 1, x, e => by
    obtain ⟨v, e1, e2⟩ := VRs.get' q (i := i) (v := x) (by simpa using e)
    exact ⟨v, by simpa using e1, e2⟩
theorem VRs.append : ∀ {xs ys : List IV} {vs ws : List V}, VRs K mg r H xs vs → VRs K mg r H ys ws → VRs K mg r H (xs ++ ys) (vs ++ ws)
  | _, _, _, _, .nil, s => s
  | _, _, _, _, .cons h t, s => .cons h (VRs.append t s)
theorem VRs.take : ∀ {xs : List IV} {vs : List V} (n : Nat), VRs K mg r H xs vs → VRs K mg r H (xs.take n) (vs.take n)
  | _, _, 0, _ => by rw [List.take_zero, List.take_zero]; exact .nil
  | _, _, _ + 1, .nil => .nil
  | _, _, n + 1, .cons h t => .cons h (VRs.take n t)
theorem VRs.drop : ∀ {xs : List IV} {vs : List V} (n : Nat), VRs K mg r H xs vs → VRs K mg r H (xs.drop n) (vs.drop n)
  | _, _, 0, h => h
  | _, _, _ + 1, .nil => .nil
  | _, _, n + 1, .cons _ t => VRs.drop n t
theorem VRs.set : ∀ {xs : List IV} {vs : List V} (i : Nat) {x : IV} {v : V}, VRs K mg r H xs vs → VR K mg r H x v → VRs K mg r H (xs.set i x) (vs.set i v)
  | _, _, _, _, _, .nil, _ => .nil
  | _, _, 0, _, _, .cons _ t, k => .cons k t
  | _, _, i + 1, _, _, .cons h t, k => .cons h (VRs.set i t k)
theorem VRs.dropLast : ∀ {xs : List IV} {vs : List V}, VRs K mg r H xs vs → VRs K mg r H xs.dropLast vs.dropLast
  | _, _, .nil => .nil
  | _, _, .cons _ .nil => .nil
  | _, _, .cons h (.cons k t) => .cons h (VRs.dropLast (.cons k t))
theorem VRs.eraseIdx : ∀ {xs : List IV} {vs : List V} (i : Nat), VRs K mg r H xs vs → VRs K mg r H (xs.eraseIdx i) (vs.eraseIdx i)
  | _, _, _, .nil => .nil
  | _, _, 0, .cons _ t => t
  | _, _, i + 1, .cons h t => .cons h (VRs.eraseIdx i t)
theorem VRs.reverse : ∀ {xs : List IV} {vs : List V}, VRs K mg r H xs vs → VRs K mg r H xs.reverse vs.reverse
  | _, _, .nil => .nil
  | _, _, .cons h t => by rw [List.reverse_cons, List.reverse_cons]; exact VRs.append (VRs.reverse t) (.cons h .nil)
theorem VRs.rep {xs : List IV} {vs : List V} (h : VRs K mg r H xs vs) : ∀ k : Nat, VRs K mg r H (List.replicate k xs).flatten (List.replicate k vs).flatten
  | 0 => .nil
  | k + 1 => by
    rw [List.replicate_succ, List.replicate_succ, List.flatten_cons, List.flatten_cons]
    exact VRs.append h (VRs.rep h k)
theorem VRs.ints : ∀ ns : List Int, VRs K mg r H (ns.map IV.int) (ns.map V.int)
  | [] => .nil
  | n :: ns => .cons (.int n) (VRs.ints ns)
theorem VRs.strs : ∀ ns : List Str, VRs K mg r H (ns.map IV.str) (ns.map V.str)
  | [] => .nil
  | n :: ns => .cons (.str n) (VRs.strs ns)
theorem VRs.one {x : IV} {v : V} (h : VR K mg r H x v) : VRs K mg r H [x] [v] := .cons h .nil

/-! ### results -/
theorem Aft.mono {α : Type} {W : XK} {x : R α} {Q Q' : List Addr → α → Sto → Hp → Prop} (h : Aft K mg W x r H Q) (x1 : Ex r H r' H')
    (q : ∀ r2 a S2 H2, Ex r' H' r2 H2 → Rel K mg r2 S2 H2 → Q r2 a S2 H2 → Q' r2 a S2 H2) : Aft K mg W x r' H' Q' := by
  cases x with
  | ok a S => exact fun r2 H2 e R => q _ _ _ _ e R (h r2 H2 (x1.trans e) R)
  | ex c fs S => exact fun r2 H2 cls d e R z => h r2 H2 cls d (x1.trans e) R z
  | no => exact h
theorem Aft.bind {α β : Type} {W : XK} {x : R α} {f : α → Sto → R β} {Q : List Addr → β → Sto → Hp → Prop} (h : Aft K mg W (x.bind f) r H Q) :
    Aft K mg W x r H (fun r1 a S1 H1 => Ex r H r1 H1 ∧ Rel K mg r1 S1 H1 ∧ Aft K mg W (f a S1) r1 H1 Q) := by
  cases x with
  | ok a S => exact fun r2 H2 e R => ⟨e, R, Aft.mono h e fun _ _ _ _ _ _ z => z⟩
  | ex c fs S => exact h
  | no => exact h

/-! ### slots -/
theorem St1.mono {n : Nat} {t : Slo} {s : VSt} (h : St1 K mg r n t s H) (R : Rel K mg r S H) (x : Ex r H r' H') : St1 K mg r' n t s H' :=
  ⟨h.l1, h.l2, fun i v e => let ⟨w, e1, e2⟩ := h.at_ i v e; ⟨w, e1, e2.mono R x⟩⟩
theorem St1.set {n : Nat} {t : Slo} {s : VSt} (h : St1 K mg r n t s H) (i : Nat) {v : IV} {w : V} (q : VR K mg r H v w) : St1 K mg r n (t.set i (some v)) (s.set i (some w)) H := by
  refine ⟨by rw [List.length_set, h.l1], by rw [List.length_set, h.l2], fun j u e => ?_⟩
  rw [List.getElem?_set] at e
  by_cases hj : i = j
  · rw [if_pos hj] at e
    subst hj
    by_cases hi : i < t.length
    · rw [if_pos hi] at e
      cases e
      refine ⟨w, ?_, q⟩
      rw [List.getElem?_set, if_pos rfl, if_pos (by rw [h.l2, ← h.l1]; exact hi)]
    · rw [if_neg hi] at e; cases e
  · rw [if_neg hj] at e
    obtain ⟨w', e1, e2⟩ := h.at_ j u e
    exact ⟨w', by rw [List.getElem?_set, if_neg hj]; exact e1, e2⟩
theorem St1.unset {n : Nat} {t : Slo} {s : VSt} (h : St1 K mg r n t s H) (i : Nat) : St1 K mg r n (t.set i none) (s.set i none) H := by
  refine ⟨by rw [List.length_set, h.l1], by rw [List.length_set, h.l2], fun j u e => ?_⟩
  rw [List.getElem?_set] at e
  by_cases hj : i = j
  · rw [if_pos hj] at e
    by_cases hi : i < t.length
    · rw [if_pos (by rw [hj] at hi; exact hj ▸ hi)] at e; cases e
    · rw [if_neg (by rw [hj] at hi; exact hj ▸ hi)] at e; cases e
  · rw [if_neg hj] at e
    obtain ⟨w', e1, e2⟩ := h.at_ j u e
    exact ⟨w', by rw [List.getElem?_set, if_neg hj]; exact e1, e2⟩
def wipeI (t : Slo) : List Nat → Slo
  | [] => t
  | v :: vs => (wipeI t vs).set v none
theorem St1.wipe {n : Nat} {t : Slo} {s : VSt} (h : St1 K mg r n t s H) : ∀ vs : List Nat, St1 K mg r n (wipeI t vs) (L2.wipe s vs) H
  | [] => h
  | v :: vs => (St1.wipe h vs).unset v
end

/-! ### the readings -/
def tI (X : Cx) (W : WX) (m : SE) : TE := fun s H Q => ∃ r t S, St1 X.K X.mg r X.N.length t s H ∧ Rel X.K X.mg r S H ∧
  Aft X.K X.mg (fun c d H' => W c d s H') (m t S) r H (fun r' v _ H' => ∀ w, VR X.K X.mg r' H' v w → Q w H')
def tIB (X : Cx) (W : WX) (m : SB) : TT := fun s H Q => ∃ r t S, St1 X.K X.mg r X.N.length t s H ∧ Rel X.K X.mg r S H ∧
  Aft X.K X.mg (fun c d H' => W c d s H') (m t S) r H (fun _ b _ H' => Q b H')
def tIA (X : Cx) (W : WX) (m : SA) : TA := fun s H Q => ∃ r t S, St1 X.K X.mg r X.N.length t s H ∧ Rel X.K X.mg r S H ∧
  Aft X.K X.mg (fun c d H' => W c d s H') (m t S) r H (fun r' v _ H' => ∀ w, VRs X.K X.mg r' H' v w → Q w H')
def AftS (X : Cx) (W : WX) (x : RS) (r : List Addr) (H : Hp) (D : Ends) : Prop := match x with
  | .nx t S => ∀ r' H' s', Ex r H r' H' → Rel X.K X.mg r' S H' → St1 X.K X.mg r' X.N.length t s' H' → D.nx s' H'
  | .ret v S => ∀ r' H' w, Ex r H r' H' → Rel X.K X.mg r' S H' → VR X.K X.mg r' H' v w → D.rt w H'
  | .brk t S => ∀ r' H' s', Ex r H r' H' → Rel X.K X.mg r' S H' → St1 X.K X.mg r' X.N.length t s' H' → D.bk s' H'
  | .cnt t S => ∀ r' H' s', Ex r H r' H' → Rel X.K X.mg r' S H' → St1 X.K X.mg r' X.N.length t s' H' → D.ct s' H'
  | .ex c fs t S => ∀ r' H' s' cls d, Ex r H r' H' → Rel X.K X.mg r' S H' → St1 X.K X.mg r' X.N.length t s' H' → XR X.K X.mg r' H' c fs cls d → W cls d s' H'
  | .no => False
def tS (X : Cx) (W : WX) (m : SS) : TS := fun D s H => ∃ r t S, St1 X.K X.mg r X.N.length t s H ∧ Rel X.K X.mg r S H ∧ AftS X W (m t S) r H D

abbrev EOk (X : Cx) (W : WX) (e : Expr) (m : SE) : Prop := PE X e (tI X W m)
abbrev BOk (X : Cx) (W : WX) (e : Expr) (m : SB) : Prop := PT X e (tIB X W m)
abbrev AOk (X : Cx) (W : WX) (es : List Expr) (m : SA) : Prop := PA X es (tIA X W m)
abbrev SOk (X : Cx) (W : WX) (st : Stmt) (m : SS) : Prop := PS X st (tS X W m)
abbrev SsOk (X : Cx) (W : WX) (sts : List Stmt) (m : SS) : Prop := PSs X sts (tS X W m)

theorem PE_imp {X : Cx} {e : Expr} {t u : TE} (h : PE X e t) (k : ∀ s H Q, u s H Q → t s H Q) : PE X e u :=
  ⟨fun pins s σ H Q I q => h.run pins s σ H Q I (k σ H Q q)⟩
theorem PT_imp {X : Cx} {e : Expr} {t u : TT} (h : PT X e t) (k : ∀ s H Q, u s H Q → t s H Q) : PT X e u :=
  ⟨fun pins s σ H Q I q => h.run pins s σ H Q I (k σ H Q q)⟩
theorem PW_imp {X : Cx} {e : Expr} {t u : TT} (h : PW X e t) (k : ∀ s H Q, u s H Q → t s H Q) : PW X e u :=
  ⟨fun wh pins s σ H Q I q => h.run wh pins s σ H Q I (k σ H Q q)⟩
theorem PA_imp {X : Cx} {es : List Expr} {t u : TA} (h : PA X es t) (k : ∀ s H Q, u s H Q → t s H Q) : PA X es u :=
  ⟨fun pos pins s σ H Q I q => h.run pos pins s σ H Q I (k σ H Q q)⟩
theorem PS_imp {X : Cx} {e : Stmt} {t u : TS} (h : PS X e t) (k : ∀ D s H, u D s H → t D s H) : PS X e u :=
  ⟨fun pins s σ H D I q => h.run pins s σ H D I (k D σ H q)⟩
theorem PSs_imp {X : Cx} {e : List Stmt} {t u : TS} (h : PSs X e t) (k : ∀ D s H, u D s H → t D s H) : PSs X e u :=
  ⟨fun pins s σ H D I q => h.run pins s σ H D I (k D σ H q)⟩
end IP

/-! IPyB: operations on values. -/
namespace IP
open PySem PySem.Spec PyProof.Rows L2

section
variable {K : PySem.W.Frag} {mg : Str → Option Value} {r r' r2 : List Addr} {H H' H2 : Hp} {S S' : Sto}

/-! ### the store -/
theorem Rel.at_ (R : Rel K mg r S H) {i : Nat} {o : SO} (e : S[i]? = some o) : ∃ a, r[i]? = some a ∧ OR K mg r H a o := by
  have h : i < r.length := by rw [R.len]; exact (List.getElem?_eq_some_iff.mp e).1
  exact ⟨r[i], List.getElem?_eq_getElem h, R.obj i o _ e (List.getElem?_eq_getElem h)⟩
theorem OR.hasObj {a : Addr} {o : SO} (h : OR K mg r H a o) : ∃ u, H a = some u := by
  cases o with
  | lst xs => obtain ⟨vs, h, _⟩ := h; exact ⟨_, h⟩
  | dct kvs => obtain ⟨ws, h, _⟩ := h; exact ⟨_, h⟩
  | ins C fs => obtain ⟨Ca, dx, ws, _, h, _⟩ := h; exact ⟨_, h⟩
theorem Rel.hasObj (R : Rel K mg r S H) {a : Addr} (m : a ∈ r) : ∃ u, H a = some u := by
  obtain ⟨i, hi, ei⟩ := List.getElem_of_mem m
  have hS : i < S.length := R.len ▸ hi
  exact (R.obj i S[i] a (List.getElem?_eq_getElem hS) (by rw [List.getElem?_eq_getElem hi, ei])).hasObj
theorem Rel.fresh (R : Rel K mg r S H) {p : Addr} (hp : H p = none) : p ∉ r := fun m => by
  obtain ⟨u, e⟩ := R.hasObj m
  rw [hp] at e; cases e
theorem OR.mono {o : SO} {a : Addr} (R : Rel K mg r S H) (x : Ex r H r' H') (hb : H' a = H a) (h : OR K mg r H a o) : OR K mg r' H' a o := by
  cases o with
  | lst xs => obtain ⟨vs, h, q⟩ := h; exact ⟨vs, hb.trans h, q.mono R x⟩
  | dct kvs => obtain ⟨ws, h, q⟩ := h; exact ⟨ws, hb.trans h, q.mono R x⟩
  | ins C fs => obtain ⟨Ca, dx, ws, g, h, q⟩ := h; exact ⟨Ca, dx, ws, g, hb.trans h, q.mono R x⟩
/-- a new object that the store doesn't tell of -/
theorem Rel.beside (R : Rel K mg r S H) {p : Addr} {u : HO} (hp : H p = none) : Ex r H r (upd H p u) ∧ Rel K mg r S (upd H p u) := by
  have x : Ex r H r (upd H p u) := ⟨⟨[], (List.append_nil r).symm⟩, fun a o e n => ⟨by rw [upd_ne (ne_of_none e hp)]; exact e, n⟩⟩
  refine ⟨x, R.len, R.nd, fun i o a e1 e2 => ?_⟩
  have q := R.obj i o a e1 e2
  obtain ⟨w, hw⟩ := q.hasObj
  exact q.mono R x (upd_ne (ne_of_none hw hp))
/-- a new object of the store -/
theorem Rel.alloc (R : Rel K mg r S H) {p : Addr} {u : HO} {o : SO} (hp : H p = none) (ho : Ex r H (r ++ [p]) (upd H p u) → OR K mg (r ++ [p]) (upd H p u) p o) :
    Ex r H (r ++ [p]) (upd H p u) ∧ Rel K mg (r ++ [p]) (S ++ [o]) (upd H p u) ∧ (r ++ [p])[S.length]? = some p := by
  have np := R.fresh hp
  have x : Ex r H (r ++ [p]) (upd H p u) := ⟨⟨[p], rfl⟩, fun a o e n => ⟨by rw [upd_ne (ne_of_none e hp)]; exact e, fun m => by
    rcases List.mem_append.mp m with m | m
    · exact n m
    · rw [List.mem_singleton.mp m, hp] at e; cases e⟩⟩
  have at_ : (r ++ [p])[S.length]? = some p := by rw [← R.len, List.getElem?_concat_length]
  refine ⟨x, ⟨by rw [List.length_append, List.length_append, R.len]; rfl, ?_, fun i o2 a e1 e2 => ?_⟩, at_⟩
  · rw [List.nodup_append]
    exact ⟨R.nd, by simp, fun a ha b hb e => np (by rw [← List.mem_singleton.mp hb, ← e]; exact ha)⟩
  · rw [List.getElem?_append] at e1
    by_cases hi : i < S.length
    · rw [if_pos hi] at e1
      rw [List.getElem?_append_left (by rw [R.len]; exact hi)] at e2
      have q := R.obj i o2 a e1 e2
      obtain ⟨w, hw⟩ := q.hasObj
      exact q.mono R x (upd_ne (ne_of_none hw hp))
    · rw [if_neg hi] at e1
      have h0 : i - S.length = 0 := by
        have := (List.getElem?_eq_some_iff.mp e1).1
        simp at this; omega
      rw [h0] at e1
      cases e1
      have : i = S.length := by omega
      subst this
      rw [at_] at e2
      cases e2
      exact ho x
/-- an object of the store is written -/
theorem Rel.write (R : Rel K mg r S H) {i : Nat} {a : Addr} {u : HO} {o : SO} (ha : r[i]? = some a) (ho : Ex r H r (upd H a u) → OR K mg r (upd H a u) a o) :
    Ex r H r (upd H a u) ∧ Rel K mg r (S.set i o) (upd H a u) := by
  have ma : a ∈ r := List.mem_of_getElem? ha
  have x : Ex r H r (upd H a u) := ⟨⟨[], (List.append_nil r).symm⟩, fun b o e n => ⟨by rw [upd_ne (fun z => n (by rw [z]; exact ma))]; exact e, n⟩⟩
  refine ⟨x, by rw [List.length_set, R.len], R.nd, fun j o2 b e1 e2 => ?_⟩
  rw [List.getElem?_set] at e1
  by_cases hj : i = j
  · subst hj
    rw [ha] at e2
    cases e2
    rw [if_pos rfl] at e1
    split at e1
    · cases e1; exact ho x
    · cases e1
  · rw [if_neg hj] at e1
    have q := R.obj j o2 b e1 e2
    have nb : b ≠ a := fun z => hj (by
      subst z
      exact (List.getElem?_inj (List.getElem?_eq_some_iff.mp ha).1 R.nd).mp (ha.trans e2.symm))
    exact q.mono R x (upd_ne nb)

/-- the list at a place of the store, to be read -/
theorem Rel.lstAt (R : Rel K mg r S H) {i : Nat} {a : Addr} {xs : List IV} (e : S[i]? = some (.lst xs)) (ha : r[i]? = some a) : ∃ vs, H a = some (.lst vs) ∧ VRs K mg r H xs vs := R.obj i _ a e ha
/-- the items of a list -/
def seqI (v : IV) (S : Sto) : Option (List IV) := match v with
  | .ref i => match S[i]? with
    | some (.lst xs) => some xs
    | _ => none
  | .sq xs => some xs
  | _ => none
theorem Rel.items (R : Rel K mg r S H) {v : IV} {w : V} {xs : List IV} (e : seqI v S = some xs) (h : VR K mg r H v w) : ∃ a vs, w = .ref a ∧ SqL K H a vs ∧ VRs K mg r H xs vs := by
  unfold seqI at e
  split at e
  · split at e
    · rename_i ys hy
      cases e
      cases h with | ref q1 =>
      obtain ⟨vs, h1, h2⟩ := R.lstAt hy q1
      exact ⟨_, vs, rfl, .inl (.inl h1), h2⟩
    · cases e
  · cases e
    cases h with | sq q1 q2 => exact ⟨_, _, rfl, q1.l, q2⟩
  · cases e
end

/-! ### what an operation by values is -/
abbrev O1 := IV → Sto → Option (IV × Sto)
abbrev O2 := IV → IV → Sto → Option (IV × Sto)
abbrev OL := List IV → Sto → Option (IV × Sto)

def Gives (K : PySem.W.Frag) (mg : Str → Option Value) (x : Option (IV × Sto)) (r : List Addr) (H : Hp) (Q : VK) : Prop :=
  ∃ z S', x = some (z, S') ∧ ∀ r' H' w, Ex r H r' H' → Rel K mg r' S' H' → VR K mg r' H' z w → Q w H'
def rO2 (X : Cx) (f : O2) : R2 := fun x y H Q => ∃ r S u v, Rel X.K X.mg r S H ∧ VR X.K X.mg r H u x ∧ VR X.K X.mg r H v y ∧ Gives X.K X.mg (f u v S) r H Q
def rO1 (X : Cx) (f : O1) : V → Hp → VK → Prop := fun x H Q => ∃ r S u, Rel X.K X.mg r S H ∧ VR X.K X.mg r H u x ∧ Gives X.K X.mg (f u S) r H Q
def rOL (X : Cx) (f : OL) : List V → Hp → VK → Prop := fun xs H Q => ∃ r S us, Rel X.K X.mg r S H ∧ VRs X.K X.mg r H us xs ∧ Gives X.K X.mg (f us S) r H Q
def rOM (X : Cx) (f : IV → OL) : V → List V → Hp → VK → Prop := fun x xs H Q => ∃ r S u us, Rel X.K X.mg r S H ∧ VR X.K X.mg r H u x ∧ VRs X.K X.mg r H us xs ∧ Gives X.K X.mg (f u us S) r H Q

abbrev Op2Ok (X : Cx) (g : Value → Value → Sem Value) (f : O2) : Prop := OpR X g (rO2 X f)
abbrev CallOk (X : Cx) (g : Value) (f : OL) : Prop := CallR X g (rOL X f)

section
variable {X : Cx}
theorem opR_by {g : Value → Value → Sem Value} {q : R2} (h : ∀ x y H Q, q x y H Q → ∃ p, OpR X g p ∧ p x y H Q) : OpR X g q := fun pins s σ H x y v u Q I rx ry z => by
  obtain ⟨p, k, e⟩ := h x y H Q z
  exact k pins s σ H x y v u Q I rx ry e
theorem unR_by {g : Value → Sem Value} {q : V → Hp → VK → Prop} (h : ∀ x H Q, q x H Q → ∃ p, UnR X g p ∧ p x H Q) : UnR X g q := fun pins s σ H x v Q I rx z => by
  obtain ⟨p, k, e⟩ := h x H Q z
  exact k pins s σ H x v Q I rx e
theorem callR_by {g : Value} {q : List V → Hp → VK → Prop} (h : ∀ x H Q, q x H Q → ∃ p, CallR X g p ∧ p x H Q) : CallR X g q := fun pins s σ H x v Q I rx z => by
  obtain ⟨p, k, e⟩ := h x H Q z
  exact k pins s σ H x v Q I rx e
theorem mtR_by {g : String} {q : V → List V → Hp → VK → Prop} (h : ∀ x xs H Q, q x xs H Q → ∃ p, MtR X g p ∧ p x xs H Q) : MtR X g q := fun pins s σ H x xs v us Q I rx rs z => by
  obtain ⟨p, k, e⟩ := h x xs H Q z
  exact k pins s σ H x xs v us Q I rx rs e
variable {K : PySem.W.Frag} {mg : Str → Option Value} {r : List Addr} {H : Hp} {S : Sto} {Q : VK}
/-- an operation that makes nothing -/
theorem Gives.same {z : IV} {w : V} (R : Rel K mg r S H) (g : Gives K mg (some (z, S)) r H Q) (h : VR K mg r H z w) : Q w H := by
  obtain ⟨z', S', e, q⟩ := g
  cases e
  exact q r H w .refl R h
theorem Gives.nothing {P : Prop} (g : Gives K mg none r H Q) : P := by
  obtain ⟨z', S', e, q⟩ := g
  cases e
/-- a new list -/
theorem Gives.newL {xs : List IV} {vs : List V} {p : Addr} (R : Rel K mg r S H) (g : Gives K mg (some (.ref S.length, S ++ [.lst xs])) r H Q) (hp : H p = .none) (h : VRs K mg r H xs vs) : Q (.ref p) (upd H p (.lst vs)) := by
  obtain ⟨z', S', e, q⟩ := g
  cases e
  obtain ⟨x, R', e⟩ := R.alloc (u := .lst vs) (o := .lst xs) hp fun x => ⟨vs, upd_same, h.mono R x⟩
  exact q _ _ _ x R' (.ref e)
/-- a new tuple -/
theorem Gives.newT {xs : List IV} {vs : List V} {p : Addr} (R : Rel K mg r S H) (g : Gives K mg (some (.tup xs, S)) r H Q) (hp : H p = .none) (h : VRs K mg r H xs vs) : Q (.ref p) (upd H p (.tup vs)) := by
  obtain ⟨z', S', e, q⟩ := g
  cases e
  obtain ⟨x, R'⟩ := R.beside (u := .tup vs) hp
  exact q _ _ _ x R' (.tup (.inl upd_same) (h.mono R x))
end

/-! ### ints, texts, lists: + - * // % -/
def okMul (i j : Int) : Bool := decide (-(2 ^ 64) < i ∧ i < 2 ^ 64) || decide (-(2 ^ 64) < j ∧ j < 2 ^ 64) || decide ((Builtin.Int.intBits i : Int) + (Builtin.Int.intBits j : Int) ≤ 134217728)
def iAdd : O2 := fun u v S => match u, v with
  | .int i, .int j => some (.int (i + j), S)
  | .int i, .bl b => some (.int (i + b2i b), S)
  | .str a, .str b => if a.length + b.length ≤ 16777216 then some (.str (a ++ b), S) else none
  | .tup xs, .tup ys => if xs.isEmpty || decide (16777216 < xs.length + ys.length) then none else some (.tup (xs ++ ys), S)
  | u, v => match seqI u S, seqI v S with
    | some xs, some ys => if xs.length + ys.length ≤ 16777216 then some (.ref S.length, S ++ [.lst (xs ++ ys)]) else none
    | _, _ => none
def iSub : O2 := fun u v S => match u, v with
  | .int i, .int j => some (.int (i - j), S)
  | _, _ => none
def iMul : O2 := fun u v S => match u, v with
  | .int i, .int j => if okMul i j then some (.int (i * j), S) else none
  | .str x, .int n => if decide (x.length ≤ 1000000 ∧ -1000000 ≤ n ∧ n ≤ 1000000 ∧ x.length * n.toNat ≤ 16777216) then some (.str (Txt.mul x n), S) else none
  | u, .int k => match seqI u S with
    | some xs => if decide (-(2 ^ 63) ≤ k ∧ k < 2 ^ 63 ∧ xs.length * k.toNat ≤ 16777216) then some (.ref S.length, S ++ [.lst (List.replicate k.toNat xs).flatten]) else none
    | none => none
  | _, _ => none
def iFdiv : O2 := fun u v S => match u, v with
  | .int i, .int j => if decide (0 < j ∧ j < 1073741824) then some (.int (i / j), S) else none
  | _, _ => none
def iMod : O2 := fun u v S => match u, v with
  | .int i, .int j => if decide (0 < j) then some (.int (i % j), S) else none
  | _, _ => none
def iPow : O2 := fun u v S => match u, v with
  | .int i, .int j => if decide (0 ≤ j ∧ j ≤ 1000000 ∧ i.natAbs < 2 ^ 64) then some (.int (i ^ j.toNat), S) else none
  | _, _ => none
def iShl : O2 := fun u v S => match u, v with
  | .int i, .int j => if decide (0 ≤ j ∧ j ≤ 1000000 ∧ i.natAbs < 2 ^ 64) then some (.int (i * 2 ^ j.toNat), S) else none
  | _, _ => none
def iShr : O2 := fun u v S => match u, v with
  | .int i, .int j => if decide (0 ≤ j) then some (.int (i / 2 ^ j.toNat), S) else none
  | _, _ => none
def iAnd : O2 := fun u v S => match u, v with
  | .int i, .int j => some (.int (Builtin.bitAnd i j), S)
  | _, _ => none
def iNeg : O1 := fun u S => match u with
  | .int i => some (.int (-i), S)
  | _ => none

section
variable {X : Cx}
theorem sl16 : sizeLine = 16777216 := sizeLine_eq
/-- list + list, list * int: whatever is read as a list -/
theorem op_catL : OpR X (binaryOp .Add) (fun x y H Q => ∃ a b xs zs, x = .ref a ∧ y = .ref b ∧ SqL X.K H a xs ∧ SqL X.K H b zs ∧ xs.length + zs.length ≤ sizeLine ∧ ∀ p, H p = none → Q (.ref p) (upd H p (.lst (xs ++ zs)))) := by
  intro pins s σ H x y v u Q I rx ry h
  obtain ⟨a, b, xs, zs, rfl, rfl, hA, hB, hz, q⟩ := h
  cases rx
  cases ry
  obtain ⟨its, r, ⟨⟨cls, dd, data, sl⟩, n, ho, hc, hn, hd⟩, _⟩ := I.list hA
  obtain ⟨its2, r2, ⟨⟨cls2, dd2, data2, sl2⟩, n2, ho2, hc2, hn2, hd2⟩, _⟩ := I.list hB
  simp only at hc hd hc2 hd2
  subst hc hd hc2 hd2
  have hl := r.length
  have hl2 := r2.length
  have ea : its.toArray ++ its2.toArray = (its ++ its2).toArray := by simp
  refine concat_meets ⟨_, ho, rfl⟩ ⟨_, ho2, rfl⟩ noFill_list_add seq_list_add PySem.F.slot_list_add PySem.F.entry_list_add (PySem.F.args_list_add_2 _ _) (list_addW a b its.toArray its2.toArray n n2 dd dd2 sl sl2 (by rw [List.size_toArray, List.size_toArray]; omega)) ⟨ho, ho2, ?_⟩
  rw [ea]
  exact ⟨.ref _, _, I.lnew (t' := s.toks) (r.append r2) (by rw [List.length_append]; omega), rfl, q _ I.fresh⟩
theorem op_repL : OpR X (binaryOp .Mult) (fun x y H Q => ∃ l k xs, x = .ref l ∧ y = .int k ∧ SqL X.K H l xs ∧ -(2 ^ 63) ≤ k ∧ k < 2 ^ 63 ∧ xs.length * k.toNat ≤ sizeLine ∧
    ∀ p, H p = none → Q (.ref p) (upd H p (.lst (List.replicate k.toNat xs).flatten))) := by
  intro pins s σ H x y v u Q I rx ry h
  obtain ⟨l, k, xs, rfl, rfl, hA, h1, h2, hz, q⟩ := h
  cases rx
  obtain ⟨t, rfl⟩ := ry
  obtain ⟨its, r, ⟨⟨cls, dd, data, sl⟩, n, ho, hc, hn, hd⟩, _⟩ := I.list hA
  simp only at hc hd
  subst hc hd
  have hl := r.length
  have hlen : its.toArray.size * k.toNat ≤ sizeLine := by rw [List.size_toArray, ← hl]; exact hz
  have hcap : ¬ its.toArray.size * k.toNat > (2 ^ 63 - 1) / 8 := by
    have : (sizeLine : Nat) ≤ (2 ^ 63 - 1) / 8 := by decide
    omega
  have hfit : ¬ (!Builtin.List.listFitsIndex k) = true := by
    simp [Builtin.List.listFitsIndex]; omega
  have hlong : ¬ Builtin.List.listTooLong (its.toArray.size * k.toNat) = true := by
    rw [notLongL hlen]
    exact Bool.false_ne_true
  refine wpAny_binaryOp_repeat_ref (T := "list") (U := "int") (by decide) ⟨_, ho, rfl⟩ (fun s' => typeIs_int s' k t) PySem.noFill_list_mul PySem.F.fills_int_mul PySem.F.slot_int_rmul PySem.repeat_list PySem.F.slot_int_index.lookup
    (call_meets PySem.F.slot_int_rmul (typeIs_int s k t) PySem.F.entry_int_rmul (PySem.F.args_int_rmul_2 _ _) (lm_int_rmul_list_any k t l its.toArray n dd sl)
      ⟨ho, rfl, ⟨_, ho, rfl⟩, call_meets PySem.F.slot_list_mul ⟨_, ho, rfl⟩ PySem.F.entry_list_mul (PySem.F.args_list_mul_2 _ _) (lm_list_mul_any l its.toArray n dd sl k t hfit hcap hlong) ⟨ho, ?_⟩⟩)
  rw [PyProof.Rows.listMul_foldl_if]
  exact ⟨.ref _, _, I.lnew (t' := s.toks) (r.rep k.toNat) (by rw [PyProof.Rows.lm_len_rep_flat, Nat.mul_comm]; exact hz), rfl, q _ I.fresh⟩
theorem catL_go {x y : V} {H : Hp} {Q : VK} {r : List Addr} {S : Sto} {u v : IV} (R : Rel X.K X.mg r S H) (hu : VR X.K X.mg r H u x) (hv : VR X.K X.mg r H v y)
    (g : Gives X.K X.mg (match seqI u S, seqI v S with
      | some xs, some ys => if xs.length + ys.length ≤ 16777216 then some (.ref S.length, S ++ [.lst (xs ++ ys)]) else none
      | _, _ => none) r H Q) : ∃ p, OpR X (binaryOp .Add) p ∧ p x y H Q := by
  split at g
  · rename_i xs ys h1 h2
    split at g
    · rename_i hl
      obtain ⟨a, vs, e1, e2, s1⟩ := R.items h1 hu
      obtain ⟨b, ws, e3, e4, s2⟩ := R.items h2 hv
      exact ⟨_, op_catL, a, b, vs, ws, e1, e3, e2, e4, by rw [sl16, ← s1.length, ← s2.length]; exact hl, fun p hp => g.newL R hp (s1.append s2)⟩
    · exact g.nothing
  · exact g.nothing
theorem repL_go {x : V} {k : Int} {H : Hp} {Q : VK} {r : List Addr} {S : Sto} {u : IV} (R : Rel X.K X.mg r S H) (hu : VR X.K X.mg r H u x)
    (g : Gives X.K X.mg (match seqI u S with
      | some xs => if decide (-(2 ^ 63) ≤ k ∧ k < 2 ^ 63 ∧ xs.length * k.toNat ≤ 16777216) then some (.ref S.length, S ++ [.lst (List.replicate k.toNat xs).flatten]) else none
      | none => none) r H Q) : ∃ p, OpR X (binaryOp .Mult) p ∧ p x (.int k) H Q := by
  split at g
  · rename_i xs h1
    split at g
    · rename_i hl
      rw [decide_eq_true_eq] at hl
      obtain ⟨a, vs, e1, e2, s1⟩ := R.items h1 hu
      exact ⟨_, op_repL, a, k, vs, e1, rfl, e2, hl.1, hl.2.1, by rw [sl16, ← s1.length]; exact hl.2.2, fun p hp => g.newL R hp (s1.rep _)⟩
    · exact g.nothing
  · exact g.nothing
theorem o_add : Op2Ok X (binaryOp .Add) iAdd := opR_by fun x y H Q h => by
  obtain ⟨r, S, u, v, R, hu, hv, g⟩ := h
  have hu0 := hu
  have hv0 := hv
  cases hu <;> cases hv <;> simp only [iAdd] at g <;> first | exact g.nothing | exact catL_go R hu0 hv0 g | skip
  case int.int i j => exact ⟨_, op_add, i, j, rfl, rfl, g.same R (.int _)⟩
  case int.bl i j => exact ⟨_, op_add_ib, i, j, rfl, rfl, g.same R (.int _)⟩
  case str.str i j =>
    split at g
    · rename_i hl
      exact ⟨_, op_add_str, i, j, rfl, rfl, by rw [sl16]; exact hl, g.same R (.str _)⟩
    · exact g.nothing
  case tup.tup xs a vs q1 q2 ys b ws q3 q4 =>
    split at g
    · exact g.nothing
    · rename_i hl
      simp only [Bool.or_eq_true, List.isEmpty_iff, decide_eq_true_eq, not_or] at hl
      refine ⟨_, op_catT, a, b, vs, ws, rfl, rfl, q1.t, q3.t, ?_, ?_, fun e => ?_, fun e p hp => ?_⟩
      · intro e; subst e; have := q2.length; cases xs with
        | nil => exact hl.1 rfl
        | cons _ _ => simp at this
      · rw [sl16, ← q2.length, ← q4.length]; omega
      · subst e
        have := q4.length
        cases ys with
        | nil => rw [List.append_nil] at g; exact g.same R (.tup q1 q2)
        | cons _ _ => simp at this
      · exact g.newT R hp (q2.append q4)
theorem o_sub : Op2Ok X (binaryOp .Sub) iSub := opR_by fun x y H Q h => by
  obtain ⟨r, S, u, v, R, hu, hv, g⟩ := h
  cases hu <;> cases hv <;> simp only [iSub] at g <;> first | exact g.nothing | skip
  case int.int i j => exact ⟨_, op_sub, i, j, rfl, rfl, g.same R (.int _)⟩
theorem op_mul_str : OpR X (binaryOp .Mult) (fun x y H Q => ∃ (z : Str) (n : Int), x = .str z ∧ y = .int n ∧ (z.length ≤ 1000000 ∧ -1000000 ≤ n ∧ n ≤ 1000000 ∧ z.length * n.toNat ≤ 16777216) ∧ Q (.str (Txt.mul z n)) H) :=
  fun pins s σ H x y v u Q I rx ry ⟨z, n, e1, e2, h, q⟩ => by
    subst e1
    subst e2
    obtain ⟨t, rfl⟩ := rx
    obtain ⟨t', rfl⟩ := ry
    refine SB.mul ⟨?_, fun h1 _ => ?_, fun h1 _ => ?_⟩ fun t2 k => ⟨.str (Txt.mul z n), H, I.tok k, ⟨t2, rfl⟩, q⟩
    · simp; omega
    · intro h2
      have h3 : (z.length : Int) ≤ (2 ^ 63 - 1) / n := by
        rw [Int.le_ediv_iff_mul_le (by omega)]
        have h4 : (z.length : Int) * n ≤ 1000000 * 1000000 := Int.mul_le_mul (by omega) (by omega) (by omega) (by omega)
        omega
      omega
    · unfold Builtin.Str.tooLong
      rw [sl16]
      simp
      omega
theorem o_mul : Op2Ok X (binaryOp .Mult) iMul := opR_by fun x y H Q h => by
  obtain ⟨r, S, u, v, R, hu, hv, g⟩ := h
  have hu0 := hu
  cases hu <;> cases hv <;> simp only [iMul] at g <;> first | exact g.nothing | exact repL_go R hu0 g | skip
  case int.int i j =>
    split at g
    · rename_i hl
      unfold okMul at hl
      rw [Bool.or_eq_true, Bool.or_eq_true, decide_eq_true_eq, decide_eq_true_eq, decide_eq_true_eq] at hl
      rcases hl with (hl | hl) | hl
      · exact ⟨_, op_mul, i, j, rfl, rfl, .inl hl, g.same R (.int _)⟩
      · exact ⟨_, op_mul, i, j, rfl, rfl, .inr hl, g.same R (.int _)⟩
      · exact ⟨_, op_mulX, i, j, rfl, rfl, hl, g.same R (.int _)⟩
    · exact g.nothing
  case str.int z n =>
    split at g
    · rename_i hl
      have hl := of_decide_eq_true hl
      exact ⟨_, op_mul_str, z, n, rfl, rfl, hl, g.same R (.str _)⟩
    · exact g.nothing
theorem o_fdiv : Op2Ok X (binaryOp .FloorDiv) iFdiv := opR_by fun x y H Q h => by
  obtain ⟨r, S, u, v, R, hu, hv, g⟩ := h
  cases hu <;> cases hv <;> simp only [iFdiv] at g <;> first | exact g.nothing | skip
  case int.int i j =>
    split at g
    · rename_i hl
      have hl := of_decide_eq_true hl
      exact ⟨_, op_fdiv, i, j, rfl, rfl, hl, g.same R (.int _)⟩
    · exact g.nothing
theorem o_mod : Op2Ok X (binaryOp .Mod) iMod := opR_by fun x y H Q h => by
  obtain ⟨r, S, u, v, R, hu, hv, g⟩ := h
  cases hu <;> cases hv <;> simp only [iMod] at g <;> first | exact g.nothing | skip
  case int.int i j =>
    split at g
    · rename_i hl
      exact ⟨_, op_mod, i, j, rfl, rfl, decide_eq_true_eq.mp hl, g.same R (.int _)⟩
    · exact g.nothing
theorem o_pow : Op2Ok X (binaryOp .Pow) iPow := opR_by fun x y H Q h => by
  obtain ⟨r, S, u, v, R, hu, hv, g⟩ := h
  cases hu <;> cases hv <;> simp only [iPow] at g <;> first | exact g.nothing | skip
  case int.int i j =>
    split at g
    · rename_i hl
      have hl := of_decide_eq_true hl
      exact ⟨_, op_pow, i, j, rfl, rfl, hl, g.same R (.int _)⟩
    · exact g.nothing
theorem o_shl : Op2Ok X (binaryOp .LShift) iShl := opR_by fun x y H Q h => by
  obtain ⟨r, S, u, v, R, hu, hv, g⟩ := h
  cases hu <;> cases hv <;> simp only [iShl] at g <;> first | exact g.nothing | skip
  case int.int i j =>
    split at g
    · rename_i hl
      have hl := of_decide_eq_true hl
      exact ⟨_, op_shl, i, j, rfl, rfl, hl, g.same R (.int _)⟩
    · exact g.nothing
theorem o_shr : Op2Ok X (binaryOp .RShift) iShr := opR_by fun x y H Q h => by
  obtain ⟨r, S, u, v, R, hu, hv, g⟩ := h
  cases hu <;> cases hv <;> simp only [iShr] at g <;> first | exact g.nothing | skip
  case int.int i j =>
    split at g
    · rename_i hl
      exact ⟨_, op_shr, i, j, rfl, rfl, decide_eq_true_eq.mp hl, g.same R (.int _)⟩
    · exact g.nothing
theorem o_and : Op2Ok X (binaryOp .BitAnd) iAnd := opR_by fun x y H Q h => by
  obtain ⟨r, S, u, v, R, hu, hv, g⟩ := h
  cases hu <;> cases hv <;> simp only [iAnd] at g <;> first | exact g.nothing | skip
  case int.int i j => exact ⟨_, op_and, i, j, rfl, rfl, g.same R (.int _)⟩
theorem o_neg : UnR X (unaryOp .USub) (rO1 X iNeg) := unR_by fun x H Q h => by
  obtain ⟨r, S, u, R, hu, g⟩ := h
  cases hu <;> simp only [iNeg] at g <;> first | exact g.nothing | skip
  case int i => exact ⟨_, un_neg, i, rfl, g.same R (.int _)⟩
end

/-! ### == != < <= > >= in is -/
def mapO {α β : Type} (f : α → Option β) : List α → Option (List β)
  | [] => some []
  | x :: xs => match f x with
    | none => none
    | some y => match mapO f xs with
      | none => none
      | some ys => some (y :: ys)
def toD (S : Sto) : Nat → IV → Option PyData
  | 0, _ => none
  | n + 1, v => match v with
    | .non => some .none
    | .bl b => some (.bool b)
    | .int i => some (.int i)
    | .str x => some (.str x)
    | .tup xs => (mapO (toD S n) xs).map .tuple
    | v => match seqI v S with
      | some xs => (mapO (toD S n) xs).map .list
      | none => none

section
variable {K : PySem.W.Frag} {mg : Str → Option Value} {r : List Addr} {H : Hp} {S : Sto} {Q : VK}
theorem dps_of {f : IV → Option PyData} (hf : ∀ v w d, VR K mg r H v w → f v = some d → Dp K H w d) : ∀ (v : List IV) (w : List V) (d : List PyData), VRs K mg r H v w → mapO f v = some d → DpAll K H w d
  | _, _, _, .nil, e => by simp only [mapO] at e; cases e; exact .nil
  | _, _, _, .cons (x := x) (xs := xs) h q, e => by
    simp only [mapO] at e
    split at e
    · cases e
    · rename_i y e1
      split at e
      · cases e
      · rename_i ys e2
        cases e
        exact .cons (hf _ _ _ h e1) (dps_of hf _ _ _ q e2)
theorem dp_of (R : Rel K mg r S H) : ∀ (n : Nat) (v : IV) (w : V) (d : PyData), VR K mg r H v w → toD S n v = some d → Dp K H w d
  | 0, _, _, _, _, e => by simp only [toD] at e; cases e
  | n + 1, v, w, d, h, e => by
    have lst : ∀ xs, seqI v S = some xs → (mapO (toD S n) xs).map PyData.list = some d → Dp K H w d := fun xs hx e => by
      simp only [Option.map_eq_some_iff] at e
      obtain ⟨ds, e1, e2⟩ := e
      subst e2
      obtain ⟨a, vs, rfl, s1, s2⟩ := R.items hx h
      exact .lst s1 (dps_of (dp_of R n) _ _ _ s2 e1)
    cases h with
    | non => simp only [toD] at e; cases e; exact .non
    | bl b => simp only [toD] at e; cases e; exact .bl b
    | int i => simp only [toD] at e; cases e; exact .int i
    | str x => simp only [toD] at e; cases e; exact .str x
    | ty n => simp only [toD, seqI] at e; cases e
    | fn q => simp only [toD, seqI] at e; cases e
    | tup q1 q2 =>
      simp only [toD, Option.map_eq_some_iff] at e
      obtain ⟨ds, e1, e2⟩ := e
      subst e2
      exact .tup q1.t (dps_of (dp_of R n) _ _ _ q2 e1)
    | sq q1 q2 => simp only [toD, seqI] at e; exact lst _ rfl e
    | ref q1 =>
      simp only [toD] at e
      split at e
      · rename_i xs hx; exact lst xs hx e
      · cases e
end

/-- two lists of other lengths -/
def lenNe (u v : IV) (S : Sto) : Bool := match seqI u S, seqI v S with
  | some xs, some ys => xs.length != ys.length
  | _, _ => false
/-- == of two values -/
def eqI (u v : IV) (S : Sto) : Option Bool := match u, v with
  | .int i, .int j => some (decide (i = j))
  | .str x, .str y => some (decide (x = y))
  | .bl x, .bl y => some (decide (x = y))
  | .non, .non => some true
  | _, _ => if lenNe u v S then some false else match toD S 20 u, toD S 20 v with
    | some d, some e => if SeqAt.shaped d && SeqAt.shaped e then some (PyData.eqv d e) else none
    | _, _ => none
def iEq : O2 := fun u v S => (eqI u v S).map fun b => (.bl b, S)
def iNe : O2 := fun u v S => (eqI u v S).map fun b => (.bl (!b), S)
def iLt : O2 := fun u v S => match u, v with
  | .int i, .int j => some (.bl (decide (i < j)), S)
  | _, _ => none
def iLe : O2 := fun u v S => match u, v with
  | .int i, .int j => some (.bl (decide (i ≤ j)), S)
  | _, _ => none
def iGt : O2 := fun u v S => match u, v with
  | .int i, .int j => some (.bl (decide (j < i)), S)
  | _, _ => none
def iGe : O2 := fun u v S => match u, v with
  | .int i, .int j => some (.bl (decide (j ≤ i)), S)
  | _, _ => none
/-- is: with None, True, False on the right -/
def isI (u v : IV) : Option Bool := match u, v with
  | .non, .non => some true
  | .bl a, .bl b => some (decide (a = b))
  | .ref _, .non => some false
  | .int _, .non => some false
  | .str _, .non => some false
  | .bl _, .non => some false
  | .tup _, .non => some false
  | .sq _, .non => some false
  | .ref _, .bl _ => some false
  | .sq _, .bl _ => some false
  | .int _, .bl _ => some false
  | .str _, .bl _ => some false
  | .non, .bl _ => some false
  | .tup _, .bl _ => some false
  | _, _ => none
def iIs : O2 := fun u v S => (isI u v).map fun b => (.bl b, S)
def iIsNot : O2 := fun u v S => (isI u v).map fun b => (.bl (!b), S)

section
variable {X : Cx}
theorem is_plain2 {u v : Value} {b : Bool} (hp : plainIs u v = true) (e : (u == v) = b) : ∀ (A : Around) (E : Value → Shared → Prop) (s : Shared) (M : Model) (Q : Value → Shared → Prop), Q (.bool b) s → wpAny M A (compareOp .Is u v) Q E s :=
  fun A E s M Q h => wpAny_is_plain hp (by rw [e]; exact h)
theorem op_eqLen (hu : X.A.units + 64 < cLine) : OpR X (compareOp .Eq) (fun x y H Q => ∃ a b xs ys, x = .ref a ∧ y = .ref b ∧ SqL X.K H a xs ∧ SqL X.K H b ys ∧ xs.length ≠ ys.length ∧ Q (.bl false) H) := by
  intro pins s σ H x y v u Q I rx ry h
  obtain ⟨a, b, xs, ys, rfl, rfl, h1, h2, hn, q⟩ := h
  cases rx
  cases ry
  obtain ⟨its, r1, p1, _⟩ := I.list h1
  obtain ⟨its2, r2, p2, _⟩ := I.list h2
  exact SeqAt.eq_list_lengthsAt p1.isList p2.isList (by rw [List.size_toArray, List.size_toArray, ← r1.length, ← r2.length]; simpa using hn) (by omega) ⟨.bl false, H, I, rfl, q⟩
theorem op_neLen (hu : X.A.units + 64 < cLine) : OpR X (compareOp .NotEq) (fun x y H Q => ∃ a b xs ys, x = .ref a ∧ y = .ref b ∧ SqL X.K H a xs ∧ SqL X.K H b ys ∧ xs.length ≠ ys.length ∧ Q (.bl true) H) := by
  intro pins s σ H x y v u Q I rx ry h
  obtain ⟨a, b, xs, ys, rfl, rfl, h1, h2, hn, q⟩ := h
  cases rx
  cases ry
  obtain ⟨its, r1, p1, _⟩ := I.list h1
  obtain ⟨its2, r2, p2, _⟩ := I.list h2
  exact SeqAt.RcNeAt.lists_lengths p1.isList p2.isList (by rw [List.size_toArray, List.size_toArray, ← r1.length, ← r2.length]; simpa using hn) (by omega) _ _ _ _ ⟨.bl true, H, I, rfl, q⟩
theorem lenNe_ok {r : List Addr} {S : Sto} {H : Hp} {u v : IV} {x y : V} (R : Rel X.K X.mg r S H) (h1 : VR X.K X.mg r H u x) (h2 : VR X.K X.mg r H v y) (e : lenNe u v S = true) : ∃ a b xs ys, x = .ref a ∧ y = .ref b ∧ SqL X.K H a xs ∧ SqL X.K H b ys ∧ xs.length ≠ ys.length := by
  unfold lenNe at e
  split at e
  · rename_i xs ys k1 k2
    obtain ⟨a, vs, e1, e2, s1⟩ := R.items k1 h1
    obtain ⟨b, ws, e3, e4, s2⟩ := R.items k2 h2
    exact ⟨a, b, vs, ws, e1, e3, e2, e4, by rw [← s1.length, ← s2.length]; simpa using e⟩
  · cases e
theorem o_eq (hu : X.A.units + 64 < cLine) : Op2Ok X (compareOp .Eq) iEq := opR_by fun x y H Q h => by
  obtain ⟨r, S, u, v, R, h1, h2, g⟩ := h
  have deep : ∀ d e, toD S 20 u = some d → toD S 20 v = some e → SeqAt.shaped d = true → SeqAt.shaped e = true → Q (.bl (PyData.eqv d e)) H → ∃ p, OpR X (compareOp .Eq) p ∧ p x y H Q := fun d e k1 k2 k3 k4 q =>
    ⟨_, op_eqD hu, d, e, dp_of R 20 _ _ _ h1 k1, dp_of R 20 _ _ _ h2 k2, k3, k4, q⟩
  unfold iEq eqI at g
  split at g
  · cases h1; cases h2; exact ⟨_, op_eq, rfl, by have q := g.same R (.bl _); simpa using q⟩
  · cases h1; cases h2; exact ⟨_, op_eq, rfl, by have q := g.same R (.bl _); simpa using q⟩
  · cases h1; cases h2; exact ⟨_, op_eq, rfl, by have q := g.same R (.bl _); simpa using q⟩
  · cases h1; cases h2; exact ⟨_, op_eq, rfl, by have q := g.same R (.bl _); simpa using q⟩
  · split at g
    · rename_i k0
      obtain ⟨a, b, xs, ys, f1, f2, f3, f4, f5⟩ := lenNe_ok R h1 h2 k0
      exact ⟨_, op_eqLen hu, a, b, xs, ys, f1, f2, f3, f4, f5, g.same R (.bl _)⟩
    · split at g
      · rename_i d e k1 k2
        split at g
        · rename_i k3
          rw [Bool.and_eq_true] at k3
          exact deep d e k1 k2 k3.1 k3.2 (g.same R (.bl _))
        · exact g.nothing
      · exact g.nothing
theorem o_ne (hu : X.A.units + 64 < cLine) : Op2Ok X (compareOp .NotEq) iNe := opR_by fun x y H Q h => by
  obtain ⟨r, S, u, v, R, h1, h2, g⟩ := h
  have deep : ∀ d e, toD S 20 u = some d → toD S 20 v = some e → SeqAt.shaped d = true → SeqAt.shaped e = true → Q (.bl (!PyData.eqv d e)) H → ∃ p, OpR X (compareOp .NotEq) p ∧ p x y H Q := fun d e k1 k2 k3 k4 q =>
    ⟨_, op_neD hu, d, e, dp_of R 20 _ _ _ h1 k1, dp_of R 20 _ _ _ h2 k2, k3, k4, q⟩
  unfold iNe eqI at g
  split at g
  · cases h1; cases h2; exact ⟨_, op_ne, rfl, by have q := g.same R (.bl _); simpa using q⟩
  · cases h1; cases h2; exact ⟨_, op_ne, rfl, by have q := g.same R (.bl _); simpa using q⟩
  · cases h1; cases h2; exact ⟨_, op_ne, rfl, by have q := g.same R (.bl _); simpa using q⟩
  · cases h1; cases h2; exact ⟨_, op_ne, rfl, by have q := g.same R (.bl _); simpa using q⟩
  · split at g
    · rename_i k0
      obtain ⟨a, b, xs, ys, f1, f2, f3, f4, f5⟩ := lenNe_ok R h1 h2 k0
      exact ⟨_, op_neLen hu, a, b, xs, ys, f1, f2, f3, f4, f5, g.same R (.bl _)⟩
    · split at g
      · rename_i d e k1 k2
        split at g
        · rename_i k3
          rw [Bool.and_eq_true] at k3
          exact deep d e k1 k2 k3.1 k3.2 (g.same R (.bl _))
        · exact g.nothing
      · exact g.nothing
theorem o_lt : Op2Ok X (compareOp .Lt) iLt := opR_by fun x y H Q h => by
  obtain ⟨r, S, u, v, R, hu, hv, g⟩ := h
  cases hu <;> cases hv <;> simp only [iLt] at g <;> first | exact g.nothing | skip
  case int.int i j => exact ⟨_, op_lt, i, j, rfl, rfl, g.same R (.bl _)⟩
theorem o_le : Op2Ok X (compareOp .LtE) iLe := opR_by fun x y H Q h => by
  obtain ⟨r, S, u, v, R, hu, hv, g⟩ := h
  cases hu <;> cases hv <;> simp only [iLe] at g <;> first | exact g.nothing | skip
  case int.int i j => exact ⟨_, op_le, i, j, rfl, rfl, g.same R (.bl _)⟩
theorem o_gt : Op2Ok X (compareOp .Gt) iGt := opR_by fun x y H Q h => by
  obtain ⟨r, S, u, v, R, hu, hv, g⟩ := h
  cases hu <;> cases hv <;> simp only [iGt] at g <;> first | exact g.nothing | skip
  case int.int i j => exact ⟨_, op_gt, i, j, rfl, rfl, g.same R (.bl _)⟩
theorem o_ge : Op2Ok X (compareOp .GtE) iGe := opR_by fun x y H Q h => by
  obtain ⟨r, S, u, v, R, hu, hv, g⟩ := h
  cases hu <;> cases hv <;> simp only [iGe] at g <;> first | exact g.nothing | skip
  case int.int i j => exact ⟨_, op_ge, i, j, rfl, rfl, g.same R (.bl _)⟩
theorem is_fin {x y : V} {u v : Value} {b : Bool} {s : Shared} {pins : List (Addr × Obj)} {σ : VSt} {H : Hp} {Q : VK} (I : Inv X pins σ H s) (hp : plainIs u v = true) (e : (u == v) = b) (q : Q (.bl b) H) :
    wpAny (model X.prog X.w) X.A (compareOp .Is u v) (EP X pins σ Q) X.xe s :=
  wpAny_is_plain hp (by rw [e]; exact ⟨.bl b, H, I, rfl, q⟩)
theorem isnot_fin {x y : V} {u v : Value} {b : Bool} {s : Shared} {pins : List (Addr × Obj)} {σ : VSt} {H : Hp} {Q : VK} (I : Inv X pins σ H s) (hp : plainIs u v = true) (e : (!(u == v)) = b) (q : Q (.bl b) H) :
    wpAny (model X.prog X.w) X.A (compareOp .IsNot u v) (EP X pins σ Q) X.xe s :=
  wpAny_isNot_plain hp (by rw [e]; exact ⟨.bl b, H, I, rfl, q⟩)
theorem o_is : Op2Ok X (compareOp .Is) iIs := fun pins s σ H x y v u Q I rx ry h => by
  obtain ⟨r, S, a, b, R, h1, h2, g⟩ := h
  cases h1 <;> cases h2 <;> simp only [iIs, isI, Option.map] at g <;> first | exact g.nothing | skip
  all_goals (have q := g.same R (.bl _); first | (obtain ⟨t, rfl⟩ := rx; cases ry) | (cases rx; cases ry))
  all_goals (refine is_fin (x := .non) (y := .non) I rfl ?_ q; first | rfl | exact beq_eq_false_iff_ne.mpr (by intro z; cases z) | (rename_i p1 p2; cases p1 <;> cases p2 <;> rfl))
theorem o_isNot : Op2Ok X (compareOp .IsNot) iIsNot := fun pins s σ H x y v u Q I rx ry h => by
  obtain ⟨r, S, a, b, R, h1, h2, g⟩ := h
  cases h1 <;> cases h2 <;> simp only [iIsNot, isI, Option.map] at g <;> first | exact g.nothing | skip
  all_goals (have q := g.same R (.bl _); first | (obtain ⟨t, rfl⟩ := rx; cases ry) | (cases rx; cases ry))
  all_goals (refine isnot_fin (x := .non) (y := .non) I rfl ?_ q; first | rfl | (rw [beq_eq_false_iff_ne.mpr (by intro z; cases z)]; rfl) | (rename_i p1 p2; cases p1 <;> cases p2 <;> rfl))
end
end IP

/-! IPyC: truth, subscripts, slices, membership, built-in functions and methods, by values. -/
namespace IP
open PySem PySem.Spec PyProof.Rows L2

section
variable {K : PySem.W.Frag} {mg : Str → Option Value} {r : List Addr} {H : Hp} {S : Sto} {Q : VK}
theorem VRs.isEmpty {xs : List IV} {vs : List V} (h : VRs K mg r H xs vs) : xs.isEmpty = vs.isEmpty := by
  have := h.length
  cases xs <;> cases vs <;> simp at this <;> rfl
theorem KR.length : ∀ {xs : List (Key × IV)} {vs : List (Key × V)}, KR K mg r H xs vs → xs.length = vs.length
  | _, _, .nil => rfl
  | _, _, .cons _ q => by rw [List.length_cons, List.length_cons, KR.length q]
theorem KR.isEmpty {xs : List (Key × IV)} {vs : List (Key × V)} (h : KR K mg r H xs vs) : xs.isEmpty = vs.isEmpty := by
  have := h.length
  cases xs <;> cases vs <;> simp at this <;> rfl
def valI (kvs : List (Key × IV)) (k : Key) : Option IV := (kvs.find? fun kv => decide (kv.1 = k)).map (·.2)
def putI (kvs : List (Key × IV)) (k : Key) (v : IV) : List (Key × IV) :=
  if (kvs.any fun kv => decide (kv.1 = k)) = true then kvs.map (fun kv => if kv.1 = k then (kv.1, v) else kv) else kvs ++ [(k, v)]
inductive OptR {K : PySem.W.Frag} {mg : Str → Option Value} (r : List Addr) (H : Hp) : Option IV → Option V → Prop
  | none : OptR r H none none
  | some {x : IV} {v : V} : VR K mg r H x v → OptR r H (some x) (some v)
theorem KR.val : ∀ {xs : List (Key × IV)} {vs : List (Key × V)} (k : Key), KR K mg r H xs vs → OptR (K := K) (mg := mg) r H (valI xs k) (valV vs k)
  | _, _, _, .nil => .none
  | _, _, k, .cons (k := j) (x := x) (v := v) (xs := xs) (vs := vs) h q => by
    unfold valI valV
    rw [List.find?_cons, List.find?_cons]
    by_cases e : j = k
    · simp only [e, decide_true]; exact .some h
    · simp only [e, decide_false]; exact KR.val k q
theorem KR.any : ∀ {xs : List (Key × IV)} {vs : List (Key × V)} (k : Key), KR K mg r H xs vs → (xs.any fun kv => decide (kv.1 = k)) = (vs.any fun kv => decide (kv.1 = k))
  | _, _, _, .nil => rfl
  | _, _, k, .cons h q => by rw [List.any_cons, List.any_cons, KR.any k q]
theorem KR.repl : ∀ {xs : List (Key × IV)} {vs : List (Key × V)} (k : Key) {y : IV} {w : V}, VR K mg r H y w → KR K mg r H xs vs →
    KR K mg r H (xs.map fun kv => if kv.1 = k then (kv.1, y) else kv) (vs.map fun kv => if kv.1 = k then (kv.1, w) else kv)
  | _, _, _, _, _, _, .nil => .nil
  | _, _, k, _, _, hy, .cons (k := j) h q => by
    rw [List.map_cons, List.map_cons]
    by_cases e : j = k
    · simp only [e, if_true]; exact .cons hy (KR.repl k hy q)
    · simp only [e, if_false]; exact .cons h (KR.repl k hy q)
theorem KR.snoc : ∀ {xs : List (Key × IV)} {vs : List (Key × V)} (k : Key) {y : IV} {w : V}, VR K mg r H y w → KR K mg r H xs vs → KR K mg r H (xs ++ [(k, y)]) (vs ++ [(k, w)])
  | _, _, _, _, _, hy, .nil => .cons hy .nil
  | _, _, k, _, _, hy, .cons h q => .cons h (KR.snoc k hy q)
theorem KR.put {xs : List (Key × IV)} {vs : List (Key × V)} (k : Key) {y : IV} {w : V} (hy : VR K mg r H y w) (h : KR K mg r H xs vs) : KR K mg r H (putI xs k y) (putK vs k w) := by
  unfold putI putK
  rw [h.any k]
  split
  · exact h.repl k hy
  · exact h.snoc k hy
end

/-- the dict at a place of the store -/
def dctI (v : IV) (S : Sto) : Option (Nat × List (Key × IV)) := match v with
  | .ref i => match S[i]? with
    | some (.dct kvs) => some (i, kvs)
    | _ => none
  | _ => none
theorem Rel.dct {K : PySem.W.Frag} {mg : Str → Option Value} {r : List Addr} {H : Hp} {S : Sto} (R : Rel K mg r S H) {v : IV} {w : V} {i : Nat} {kvs : List (Key × IV)} (e : dctI v S = some (i, kvs)) (h : VR K mg r H v w) :
    ∃ a ws, w = .ref a ∧ r[i]? = some a ∧ H a = some (.dK ws) ∧ KR K mg r H kvs ws := by
  unfold dctI at e
  split at e
  · split at e
    · rename_i ys hy
      cases e
      cases h with | ref q1 =>
      obtain ⟨ws, h1, h2⟩ := R.obj _ _ _ hy q1
      exact ⟨_, ws, rfl, q1, h1, h2⟩
    · cases e
  · cases e
/-! ### truth -/
def truI (v : IV) (S : Sto) : Option Bool := match v with
  | .non => some false
  | .bl b => some b
  | .int i => some (i != 0)
  | .str y => if y.length ≤ 16777216 then some ((y.length : Int) != 0) else none
  | .tup xs => some (!xs.isEmpty)
  | v => match dctI v S with
    | some (_, kvs) => some (!kvs.isEmpty)
    | none => (seqI v S).map fun xs => !xs.isEmpty
theorem tru_ok1 {K : PySem.W.Frag} {mg : Str → Option Value} {r : List Addr} {H : Hp} {S : Sto} (R : Rel K mg r S H) {v : IV} {w : V} {b : Bool} (h : VR K mg r H v w) (e : truI v S = some b) : TruV K w H b := by
  have gen : ((match dctI v S with
      | some (_, kvs) => some (!kvs.isEmpty)
      | none => (seqI v S).map fun xs => !xs.isEmpty) = some b) → TruV K w H b := fun e => by
    split at e
    · rename_i i kvs hk
      cases e
      obtain ⟨a, ws, rfl, _, e1, e2⟩ := R.dct hk h
      exact .inr (.inr ⟨ws, e1, by rw [e2.isEmpty]⟩)
    · simp only [Option.map_eq_some_iff] at e
      obtain ⟨xs, e1, e2⟩ := e
      subst e2
      obtain ⟨a, vs, rfl, s1, s2⟩ := R.items e1 h
      exact .inl ⟨vs, s1, by rw [s2.isEmpty]⟩
  unfold truI at e
  split at e
  · cases h; cases e; rfl
  · cases h; cases e; rfl
  · cases h; cases e; rfl
  · cases h
    split at e
    · cases e; exact ⟨by rw [sl16]; assumption, rfl⟩
    · cases e
  · cases h with | tup q1 q2 => cases e; exact .inr (.inl ⟨_, q1.t, by rw [q2.isEmpty]⟩)
  · exact gen e

/-! ### subscripts -/
def keyI : IV → Option Key
  | .int i => some (.inl i)
  | .str x => some (.inr x)
  | _ => none
theorem keyI_ok {K : PySem.W.Frag} {mg : Str → Option Value} {r : List Addr} {H : Hp} {v : IV} {w : V} {k : Key} (h : VR K mg r H v w) (e : keyI v = some k) : w = kV k := by
  cases h <;> simp only [keyI] at e <;> cases e <;> rfl
def ixI (u v : IV) (S : Sto) : Option IV := match u, v with
  | .tup xs, .int i => atI xs i
  | .str z, .int i => if z.length ≤ 16777216 then (atI z.cps.toList i).map fun c => .str ⟨#[c]⟩ else none
  | u, k => match dctI u S with
    | some (_, kvs) => (keyI k).bind fun key => valI kvs key
    | none => match seqI u S, k with
      | some xs, .int i => atI xs i
      | _, _ => none
def iIx : O2 := fun u v S => (ixI u v S).map fun z => (z, S)
theorem VRs.atI {K : PySem.W.Frag} {mg : Str → Option Value} {r : List Addr} {H : Hp} {xs : List IV} {vs : List V} (h : VRs K mg r H xs vs) {i : Int} {x : IV} (e : L2.atI xs i = some x) : ∃ v, L2.atI vs i = some v ∧ VR K mg r H x v := by
  unfold L2.atI at e ⊢
  rw [← h.length]
  cases hk : ixN xs.length i with
  | none => rw [hk] at e; cases e
  | some j => rw [hk] at e; exact h.get e
section
variable {X : Cx}
theorem ixR_by {q : R2} (h : ∀ x y H Q, q x y H Q → ∃ p, IxR X p ∧ p x y H Q) : IxR X q := fun va sl pins s σ H x y v u Q I rx ry z hs => by
  obtain ⟨p, k, e⟩ := h x y H Q z
  exact k va sl pins s σ H x y v u Q I rx ry e hs
theorem ix_dict (hu : X.A.units + 1 < cLine) : IxR X (fun x y H Q => ∃ a v, x = .ref a ∧ DGet H a y (some v) ∧ Q v H) := by
  intro va sl pins s σ H x y v u Q I rx ry ⟨a, z, e, g, q⟩ hs
  subst e
  obtain rfl : v = Value.ref a := rx
  exact tail_any (dict_typeIs I g) slot_dict_getitem.lookup (d_getItem hu I g ry fun w' s' I' rw => ⟨z, H, I', rw, q⟩) hs
theorem o_ix (hu : X.A.units + 1 < cLine) : IxR X (rO2 X iIx) := ixR_by fun x y H Q h => by
  obtain ⟨r, S, u, v, R, h1, h2, g⟩ := h
  cases e : ixI u v S with
  | none => unfold iIx at g; rw [e] at g; exact g.nothing
  | some z =>
    unfold iIx at g
    rw [e] at g
    simp only [Option.map_some] at g
    unfold ixI at e
    split at e
    · cases h1 with
      | tup q1 q2 =>
        cases h2
        obtain ⟨w, e1, e2⟩ := q2.atI e
        exact ⟨_, ix_tup, _, _, _, w, rfl, rfl, q1.t, e1, g.same R e2⟩
    · cases h1; cases h2
      split at e
      · simp only [Option.map_eq_some_iff] at e
        obtain ⟨c, e1, e2⟩ := e
        subst e2
        exact ⟨_, ix_str, _, _, c, rfl, rfl, by rw [sl16]; assumption, e1, g.same R (.str _)⟩
      · cases e
    · split at e
      · rename_i j kvs hk
        simp only [Option.bind_eq_some_iff] at e
        obtain ⟨key, e1, e2⟩ := e
        obtain ⟨a, ws, rfl, _, s1, s2⟩ := R.dct hk h1
        have q := s2.val key
        rw [e2] at q
        cases hv : valV ws key with
        | none => rw [hv] at q; cases q
        | some w =>
          rw [hv] at q
          cases q with
          | some q => exact ⟨_, ix_dict hu, _, w, rfl, .inl ⟨ws, key, .inl s1, keyI_ok h2 e1, hv.symm⟩, g.same R q⟩
      · split at e
        · rename_i xs i hx _ _
          cases h2
          obtain ⟨a, vs, rfl, s1, s2⟩ := R.items hx h1
          obtain ⟨w, e1, e2⟩ := s2.atI e
          exact ⟨_, ix_list, _, _, _, w, rfl, rfl, s1, e1, g.same R e2⟩
        · cases e
end

/-! ### slices -/
def cutI (xs : List IV) (lo hi : Option Int) : List IV := (xs.drop (HT.sIx xs.length 0 lo)).take (HT.sIx xs.length xs.length hi - HT.sIx xs.length 0 lo)
theorem VRs.cut {K : PySem.W.Frag} {mg : Str → Option Value} {r : List Addr} {H : Hp} {xs : List IV} {vs : List V} (h : VRs K mg r H xs vs) (lo hi : Option Int) : VRs K mg r H (cutI xs lo hi) (cutV vs lo hi) := by
  unfold cutI cutV
  rw [h.length]
  exact (h.drop _).take _
def iSl (u : IV) (lo hi : Option Int) (S : Sto) : Option (IV × Sto) := match u with
  | .str z => if z.length ≤ 16777216 then some (.str (cutS z lo hi), S) else none
  | .tup xs => if HT.sIx xs.length 0 lo = 0 ∧ HT.sIx xs.length xs.length hi = xs.length then none else some (.tup (cutI xs lo hi), S)
  | u => (seqI u S).map fun xs => (.ref S.length, S ++ [.lst (cutI xs lo hi)])
def rOS (X : Cx) : V → Option Int → Option Int → Hp → VK → Prop := fun x lo hi H Q => ∃ r S u, Rel X.K X.mg r S H ∧ VR X.K X.mg r H u x ∧ Gives X.K X.mg (iSl u lo hi S) r H Q
section
variable {X : Cx}
theorem slR_by {q : V → Option Int → Option Int → Hp → VK → Prop} (h : ∀ x lo hi H Q, q x lo hi H Q → ∃ p, SlR X p ∧ p x lo hi H Q) : SlR X q := fun pins s σ H x v vl vu lo hi sl Q I rx is pl pu z => by
  obtain ⟨p, k, e⟩ := h x lo hi H Q z
  exact k pins s σ H x v vl vu lo hi sl Q I rx is pl pu e
theorem o_sl : SlR X (rOS X) := slR_by fun x lo hi H Q h => by
  obtain ⟨r, S, u, R, h1, g⟩ := h
  unfold iSl at g
  split at g
  · cases h1
    split at g
    · exact ⟨_, sl_str, _, rfl, by rw [sl16]; assumption, g.same R (.str _)⟩
    · exact g.nothing
  · cases h1 with | tup q1 q2 =>
    split at g
    · exact g.nothing
    · rename_i hn
      exact ⟨_, sl_tup, _, _, rfl, q1.t, by rw [← q2.length]; exact hn, fun p hp => g.newT R hp (q2.cut lo hi)⟩
  · cases e : seqI u S with
    | none => rw [e] at g; exact g.nothing
    | some xs =>
      rw [e] at g
      obtain ⟨a, vs, rfl, s1, s2⟩ := R.items e h1
      exact ⟨_, sl_list, _, _, rfl, s1, fun p hp => g.newL R hp (s2.cut lo hi)⟩
end

/-! ### in -/
def flatI : IV → Bool
  | .non | .bl _ | .int _ | .str _ => true
  | _ => false
def eqF : IV → IV → Bool
  | .non, .non => true
  | .bl a, .bl b => a == b
  | .bl a, .int b => (if a then 1 else 0) == b
  | .int a, .bl b => a == (if b then 1 else 0)
  | .int a, .int b => a == b
  | .str a, .str b => a == b
  | _, _ => false
section
variable {K : PySem.W.Frag} {mg : Str → Option Value} {r : List Addr} {H : Hp} {S : Sto} {Q : VK}
theorem flat_ok {v : IV} {w : V} (h : VR K mg r H v w) (e : flatI v = true) : flatV w = true := by cases h <;> first | rfl | cases e
theorem eqF_ok {v v' : IV} {w w' : V} (h : VR K mg r H v w) (h' : VR K mg r H v' w') (e : flatI v = true) (e' : flatI v' = true) : eqV w w' = eqF v v' := by
  cases h <;> first | (cases e; done) | (cases h' <;> first | (cases e'; done) | rfl)
theorem flats_ok : ∀ {vs : List IV} {ws : List V}, VRs K mg r H vs ws → vs.all flatI = true → ws.all flatV = true
  | _, _, .nil, _ => rfl
  | _, _, .cons h q, e => by
    rw [List.all_cons, Bool.and_eq_true] at e
    rw [List.all_cons, flat_ok h e.1, flats_ok q e.2]; rfl
theorem anys_ok {v : IV} {w : V} (h : VR K mg r H v w) (e : flatI v = true) : ∀ {vs : List IV} {ws : List V}, VRs K mg r H vs ws → vs.all flatI = true → inV w ws = vs.any fun y => eqF y v
  | _, _, .nil, _ => rfl
  | _, _, .cons h1 q, e1 => by
    rw [List.all_cons, Bool.and_eq_true] at e1
    unfold inV
    rw [List.any_cons, List.any_cons, eqF_ok h1 h e1.1 e]
    exact congrArg _ (anys_ok h e q e1.2)
end
def inI (u v : IV) (S : Sto) : Option Bool := match u, v with
  | .str x, .str z => match x.cps.toList with
    | [c] => some (decide (c ∈ z.cps.toList))
    | _ => some (!(Builtin.Str.occurrences z x 0 z.length 1).isEmpty)
  | u, .tup xs => if flatI u && xs.all flatI then some (xs.any fun y => eqF y u) else none
  | u, v => match dctI v S with
    | some (_, kvs) => (keyI u).map fun key => (valI kvs key).isSome
    | none => match seqI v S with
      | some xs => if flatI u && xs.all flatI then some (xs.any fun y => eqF y u) else
        match toD S 20 u, toD S 20 v with
        | some d, some (.list ds) => if SeqAt.shaped d && SeqAt.shaped (.list ds) then some (ds.any fun z => PyData.eqv z d) else none
        | _, _ => none
      | none => none
def iIn : O2 := fun u v S => (inI u v S).map fun b => (.bl b, S)
def iNotIn : O2 := fun u v S => (inI u v S).map fun b => (.bl (!b), S)
section
variable {X : Cx}
theorem op_in_dct (hu : X.A.units + 1 < cLine) : OpR X (compareOp .In) (fun y x H Q => ∃ a o, x = .ref a ∧ DGet H a y o ∧ Q (.bl o.isSome) H) := fun pins s σ H y x v u Q I ry rx ⟨a, o, e, g, q⟩ => by
  subst e
  obtain rfl : u = Value.ref a := rx
  exact d_in hu I g ry fun s' I' => ⟨.bl o.isSome, H, I', rfl, q⟩
theorem op_notIn_dct (hu : X.A.units + 1 < cLine) : OpR X (compareOp .NotIn) (fun y x H Q => ∃ a o, x = .ref a ∧ DGet H a y o ∧ Q (.bl (!o.isSome)) H) := fun pins s σ H y x v u Q I ry rx ⟨a, o, e, g, q⟩ => by
  subst e
  obtain rfl : u = Value.ref a := rx
  exact d_notIn hu I g ry fun s' I' => ⟨.bl (!o.isSome), H, I', rfl, q⟩
/-- membership, read once for in and not in -/
theorem in_core {neg : Bool} {f : CmpOp} (hu : X.A.units + 65 < cLine)
    (c1 : OpR X (compareOp f) (fun x y H Q => ∃ (c : Nat) (z : Str), x = .str ⟨#[c]⟩ ∧ y = .str z ∧ Q (.bl (xor neg (decide (c ∈ z.cps.toList)))) H))
    (c2 : OpR X (compareOp f) (fun x y H Q => ∃ i j, x = .str i ∧ y = .str j ∧ Q (.bl (xor neg (!(Builtin.Str.occurrences j i 0 j.length 1).isEmpty))) H))
    (c3 : OpR X (compareOp f) (rIn X.K neg))
    (c4 : OpR X (compareOp f) (fun y x H Q => ∃ a o, x = .ref a ∧ DGet H a y o ∧ Q (.bl (xor neg o.isSome)) H))
    (c5 : OpR X (compareOp f) (fun x y H Q => ∃ d ds, Dp X.K H x d ∧ Dp X.K H y (.list ds) ∧ SeqAt.shaped d = true ∧ SeqAt.shaped (.list ds) = true ∧ Q (.bl (xor neg (ds.any fun z => PyData.eqv z d))) H)) :
    Op2Ok X (compareOp f) (fun u v S => (inI u v S).map fun b => (.bl (xor neg b), S)) := opR_by fun x y H Q h => by
  obtain ⟨r, S, u, v, R, h1, h2, g⟩ := h
  have rin : ∀ (p : Addr) (xs : List IV) (vs : List V), y = .ref p → (SqL X.K H p vs ∨ SqT X.K H p vs) → VRs X.K X.mg r H xs vs → (flatI u && xs.all flatI) = true → Q (.bl (xor neg (xs.any fun y => eqF y u))) H → ∃ q, OpR X (compareOp f) q ∧ q x y H Q :=
    fun p xs vs ey hs hv e q => by
      rw [Bool.and_eq_true] at e
      refine ⟨_, c3, p, vs, ey, hs, flat_ok h1 e.1, flats_ok hv e.2, ?_⟩
      rw [anys_ok h1 e.1 hv e.2]
      cases neg
      · simpa using q
      · simpa using q
  dsimp only at g
  cases e : inI u v S with
  | none => rw [e] at g; exact g.nothing
  | some b =>
    rw [e] at g
    simp only [Option.map_some] at g
    have q := g.same R (.bl _)
    unfold inI at e
    split at e
    · rename_i s1 s2
      cases h1; cases h2
      split at e
      · rename_i c hc
        cases e
        refine ⟨_, c1, c, s2, ?_, rfl, q⟩
        obtain ⟨⟨l⟩⟩ := s1
        simp only at hc
        rw [hc]
      · cases e
        exact ⟨_, c2, _, _, rfl, rfl, q⟩
    · cases h2 with
      | tup q1 q2 =>
        split at e
        · rename_i hf
          cases e
          exact rin _ _ _ rfl (.inr q1.t) q2 hf q
        · cases e
    · split at e
      · rename_i j kvs hk
        simp only [Option.map_eq_some_iff] at e
        obtain ⟨key, e1, e2⟩ := e
        subst e2
        obtain ⟨a, ws, rfl, _, s1, s2⟩ := R.dct hk h2
        have z := s2.val key
        refine ⟨_, c4, _, valV ws key, rfl, .inl ⟨ws, key, .inl s1, keyI_ok h1 e1, rfl⟩, ?_⟩
        have : (valV ws key).isSome = (valI kvs key).isSome := by
          generalize valI kvs key = o at z
          cases hv : valV ws key with
          | none => rw [hv] at z; cases z; rfl
          | some w => rw [hv] at z; cases z; rfl
        rw [this]; exact q
      · split at e
        · rename_i xs hx
          obtain ⟨a, vs, rfl, s1, s2⟩ := R.items hx h2
          split at e
          · rename_i hf
            cases e
            exact rin _ _ _ rfl (.inl s1) s2 hf q
          · split at e
            · rename_i d ds k1 k2
              split at e
              · rename_i k3
                cases e
                rw [Bool.and_eq_true] at k3
                exact ⟨_, c5, d, ds, dp_of R 20 _ _ _ h1 k1, dp_of R 20 _ _ _ h2 k2, k3.1, k3.2, q⟩
              · cases e
            · cases e
        · cases e
theorem o_in (hu : X.A.units + 65 < cLine) : Op2Ok X (compareOp .In) iIn := by
  have z := in_core (neg := false) (f := .In) hu (by simpa using op_in_sign) (by simpa using op_in_str) op_in_seq (by simpa using op_in_dct (by omega)) (by have z := op_inD (X := X) hu; unfold rInD at z; simpa using z)
  have e : iIn = fun u v S => (inI u v S).map fun b => (.bl (xor false b), S) := by funext u v S; unfold iIn; congr 1; funext b; simp
  rw [e]; exact z
theorem o_notIn (hu : X.A.units + 65 < cLine) : Op2Ok X (compareOp .NotIn) iNotIn := by
  have z := in_core (neg := true) (f := .NotIn) hu (by simpa using op_notIn_sign) (by simpa using op_notIn_str) op_notIn_seq (by simpa using op_notIn_dct (by omega)) (by have z := op_notInD (X := X) hu; unfold rNotInD at z; simpa using z)
  have e : iNotIn = fun u v S => (inI u v S).map fun b => (.bl (xor true b), S) := by funext u v S; unfold iNotIn; congr 1; funext b; simp
  rw [e]; exact z
end
end IP

/-! IPyD: built-in functions and methods, by values. -/
namespace IP
open PySem PySem.Spec PyProof.Rows L2

section
variable {K : PySem.W.Frag} {mg : Str → Option Value} {r : List Addr} {H : Hp} {S : Sto} {Q : VK}
/-- an object of the store gets another content -/
theorem Gives.setO {i : Nat} {a : Addr} {o : SO} {u : HO} {z : IV} {w : V} (R : Rel K mg r S H) (g : Gives K mg (some (z, S.set i o)) r H Q) (ha : r[i]? = some a)
    (ho : Ex r H r (upd H a u) → OR K mg r (upd H a u) a o) (hz : VR K mg r H z w) : Q w (upd H a u) := by
  obtain ⟨z', S', e, q⟩ := g
  cases e
  obtain ⟨x, R'⟩ := R.write (u := u) (o := o) ha ho
  exact q _ _ _ x R' (hz.mono R x)
theorem Gives.setL {i : Nat} {a : Addr} {ys : List IV} {ws : List V} {z : IV} {w : V} (R : Rel K mg r S H) (g : Gives K mg (some (z, S.set i (.lst ys))) r H Q) (ha : r[i]? = some a)
    (hv : VRs K mg r H ys ws) (hz : VR K mg r H z w) : Q w (upd H a (.lst ws)) :=
  g.setO R ha (fun x => ⟨ws, upd_same, hv.mono R x⟩) hz

def asInt : IV → Option Int | .int i => some i | _ => none
def asBl : IV → Option Bool | .bl i => some i | _ => none
def asStr : IV → Option Str | .str i => some i | _ => none
theorem ints_of : ∀ {xs : List IV} {ns : List Int} {vs : List V}, mapO asInt xs = some ns → VRs K mg r H xs vs → vs = ns.map V.int
  | _, _, _, e, .nil => by simp only [mapO] at e; cases e; rfl
  | _, _, _, e, .cons h q => by
    simp only [mapO] at e
    split at e
    · cases e
    · rename_i y e1
      split at e
      · cases e
      · rename_i ys e2
        cases e
        cases h <;> simp only [asInt] at e1 <;> cases e1
        rw [ints_of e2 q]; rfl
theorem bls_of : ∀ {xs : List IV} {ns : List Bool} {vs : List V}, mapO asBl xs = some ns → VRs K mg r H xs vs → vs = ns.map V.bl
  | _, _, _, e, .nil => by simp only [mapO] at e; cases e; rfl
  | _, _, _, e, .cons h q => by
    simp only [mapO] at e
    split at e
    · cases e
    · rename_i y e1
      split at e
      · cases e
      · rename_i ys e2
        cases e
        cases h <;> simp only [asBl] at e1 <;> cases e1
        rw [bls_of e2 q]; rfl
theorem strs_of : ∀ {xs : List IV} {ns : List Str} {vs : List V}, mapO asStr xs = some ns → VRs K mg r H xs vs → vs = ns.map V.str
  | _, _, _, e, .nil => by simp only [mapO] at e; cases e; rfl
  | _, _, _, e, .cons h q => by
    simp only [mapO] at e
    split at e
    · cases e
    · rename_i y e1
      split at e
      · cases e
      · rename_i ys e2
        cases e
        cases h <;> simp only [asStr] at e1 <;> cases e1
        rw [strs_of e2 q]; rfl
end

/-! ### functions -/
def iLen : OL := fun us S => match us with
  | [.str y] => if y.length ≤ 16777216 then some (.int y.length, S) else none
  | [.tup xs] => some (.int xs.length, S)
  | [v] => match dctI v S with
    | some (_, kvs) => some (.int kvs.length, S)
    | none => (seqI v S).map fun xs => (.int xs.length, S)
  | _ => none
def iAbs : OL := fun us S => match us with
  | [.int i] => some (.int (if i < 0 then -i else i), S)
  | _ => none
def listMax : List Int → Option Int
  | [] => none
  | [x] => some x
  | x :: xs => (listMax xs).map fun m => if m > x then m else x
def listMin : List Int → Option Int
  | [] => none
  | [x] => some x
  | x :: xs => (listMin xs).map fun m => if m < x then m else x
def iMax : OL := fun us S => match us with
  | [.int i, .int j] => some (.int (if j > i then j else i), S)
  | [v] => ((seqI v S).bind (mapO asInt)).bind fun ns => (listMax ns).map fun m => (.int m, S)
  | _ => none
def iMin : OL := fun us S => match us with
  | [.int i, .int j] => some (.int (if j < i then j else i), S)
  | [v] => ((seqI v S).bind (mapO asInt)).bind fun ns => (listMin ns).map fun m => (.int m, S)
  | _ => none
def iSum : OL := fun us S => match us with
  | [v] => ((seqI v S).bind (mapO asInt)).map fun ns => (.int ns.sum, S)
  | _ => none
def iAll : OL := fun us S => match us with
  | [v] => ((seqI v S).bind (mapO asBl)).map fun ns => (.bl (ns.all id), S)
  | _ => none
def iAny : OL := fun us S => match us with
  | [v] => ((seqI v S).bind (mapO asBl)).map fun ns => (.bl (ns.any id), S)
  | _ => none
def iInt : OL := fun us S => match us with
  | [.int i] => some (.int i, S)
  | [.bl b] => some (.int (if b then 1 else 0), S)
  | [.str x] => if x.length ≤ 640 then (PySem.intText? x).map fun n => (.int n, S) else none
  | _ => none
def iStr : OL := fun us S => match us with
  | [.int i] => if i.natAbs.log2 < 1920 then some (.str (toString i), S) else none
  | _ => none
def iList : OL := fun us S => match us with
  | [.tup xs] => some (.ref S.length, S ++ [.lst xs])
  | [v] => (seqI v S).map fun xs => (.ref S.length, S ++ [.lst xs])
  | _ => none
def iTuple : OL := fun us S => match us with
  | [.tup xs] => some (.tup xs, S)
  | [v] => (seqI v S).map fun xs => (.tup xs, S)
  | _ => none
def iDivmod : OL := fun us S => match us with
  | [.int i, .int j] => if decide (0 < j ∧ j < 1073741824) then some (.tup [.int (i / j), .int (i % j)], S) else none
  | _ => none
/-- the name of a value's built-in type -/
def tyI (v : IV) (S : Sto) : Option String := match v with
  | .non => some "NoneType"
  | .bl _ => some "bool"
  | .int _ => some "int"
  | .str _ => some "str"
  | .tup _ => some "tuple"
  | .sq _ => some "list"
  | .ref i => match S[i]? with
    | some (.lst _) => some "list"
    | some (.dct _) => some "dict"
    | _ => none
  | _ => none
def tyNames : List String := ["NoneType", "bool", "int", "str", "tuple", "list", "dict"]
def isSub (a b : String) : Bool := a == b || (a == "bool" && b == "int")
theorem kit_all : ∀ a ∈ tyNames, ∀ b ∈ tyNames, kitB a b = some (isSub a b) := by decide +kernel
def isIn1 (t : String) : List IV → Option Bool
  | [] => some false
  | .ty n :: r => if tyNames.contains n then (isIn1 t r).map fun b => isSub t n || b else none
  | _ => none
def iIsinst : OL := fun us S => match us with
  | [v, .ty n] => if tyNames.contains n then (tyI v S).map fun t => (.bl (isSub t n), S) else none
  | [v, .tup ts] => (tyI v S).bind fun t => (isIn1 t ts).map fun b => (.bl b, S)
  | _ => none

section
variable {X : Cx}
theorem listMax_ok : ∀ {ns : List Int} {m : Int}, listMax ns = some m → 0 < ns.length ∧ m ∈ ns ∧ ∀ y ∈ ns, y ≤ m
  | [], _, e => by cases e
  | [x], _, e => by cases e; simp
  | x :: y :: xs, m, e => by
    rw [listMax.eq_3 x (y :: xs) (by simp)] at e
    simp only [Option.map_eq_some_iff] at e
    obtain ⟨k, e1, e2⟩ := e
    obtain ⟨_, h2, h3⟩ := listMax_ok e1
    refine ⟨by simp, ?_, fun z hz => ?_⟩
    · subst e2; split
      · exact List.mem_cons_of_mem _ h2
      · exact List.mem_cons_self
    · subst e2
      rcases List.mem_cons.mp hz with rfl | hz
      · split <;> omega
      · have := h3 z hz
        split <;> omega
theorem listMin_ok : ∀ {ns : List Int} {m : Int}, listMin ns = some m → 0 < ns.length ∧ m ∈ ns ∧ ∀ y ∈ ns, m ≤ y
  | [], _, e => by cases e
  | [x], _, e => by cases e; simp
  | x :: y :: xs, m, e => by
    rw [listMin.eq_3 x (y :: xs) (by simp)] at e
    simp only [Option.map_eq_some_iff] at e
    obtain ⟨k, e1, e2⟩ := e
    obtain ⟨_, h2, h3⟩ := listMin_ok e1
    refine ⟨by simp, ?_, fun z hz => ?_⟩
    · subst e2; split
      · exact List.mem_cons_of_mem _ h2
      · exact List.mem_cons_self
    · subst e2
      rcases List.mem_cons.mp hz with rfl | hz
      · split <;> omega
      · have := h3 z hz
        split <;> omega
theorem call_len_d : CallR X (.builtin "len") (fun xs H Q => ∃ a kvs, xs = [.ref a] ∧ H a = some (.dK kvs) ∧ Q (.int kvs.length) H) := fun pins s σ H xs us Q I rv ⟨a, kvs, e, h, q⟩ => by
  subst e
  cases rv with
  | cons r1 r2 =>
    cases r2
    cases r1
    exact d_len I (.inl h) fun t s' I' => ⟨.int kvs.length, H, I', ⟨t, rfl⟩, q⟩
theorem c_len : CallOk X (.builtin "len") iLen := callR_by fun xs H Q h => by
  obtain ⟨r, S, us, R, hu, g⟩ := h
  unfold iLen at g
  split at g
  · cases hu with | cons h1 h2 => cases h2; cases h1; split at g; (exact ⟨_, call_len, _, _, rfl, ⟨by rw [sl16]; assumption, rfl⟩, g.same R (.int _)⟩); exact g.nothing
  · cases hu with | cons h1 h2 => cases h2; cases h1 with | tup q1 q2 => exact ⟨_, call_len, _, _, rfl, .inr ⟨_, q1.t, q2.length⟩, g.same R (.int _)⟩
  · cases hu with | cons h1 h2 =>
      cases h2
      split at g
      · rename_i j kvs hk
        obtain ⟨a, ws, rfl, _, s1, s2⟩ := R.dct hk h1
        refine ⟨_, call_len_d, _, ws, rfl, s1, ?_⟩
        rw [← s2.length]; exact g.same R (.int _)
      · rename_i v _ _ _ _ _
        cases e : seqI v S with
        | none => rw [e] at g; exact g.nothing
        | some ys =>
          rw [e] at g
          obtain ⟨a, vs, rfl, s1, s2⟩ := R.items e h1
          exact ⟨_, call_len, _, _, rfl, .inl ⟨_, s1, s2.length⟩, g.same R (.int _)⟩
  · exact g.nothing
theorem c_abs : CallOk X (.builtin "abs") iAbs := callR_by fun xs H Q h => by
  obtain ⟨r, S, us, R, hu, g⟩ := h
  unfold iAbs at g
  split at g
  · cases hu with | cons h1 h2 => cases h2; cases h1; exact ⟨_, call_abs, _, rfl, g.same R (.int _)⟩
  · exact g.nothing
/-- a list of ints, of bools, of texts handed in -/
theorem one_list {α : Type} {K : PySem.W.Frag} {mg : Str → Option Value} {r : List Addr} {H : Hp} {S : Sto} {v : IV} {w : V} {f : IV → Option α} {c : α → V}
    (hf : ∀ {xs : List IV} {ns : List α} {vs : List V}, mapO f xs = some ns → VRs K mg r H xs vs → vs = ns.map c) (R : Rel K mg r S H) (q1 : VR K mg r H v w) {ns : List α} (e : (seqI v S).bind (mapO f) = some ns) : ∃ p, w = .ref p ∧ SqL K H p (ns.map c) := by
  simp only [Option.bind_eq_some_iff] at e
  obtain ⟨xs, e1, e2⟩ := e
  obtain ⟨a, vs, rfl, s1, s2⟩ := R.items e1 q1
  rw [← hf e2 s2]; exact ⟨a, rfl, s1⟩
theorem c_max (hc : X.calm = true) : CallOk X (.builtin "max") iMax := callR_by fun xs H Q h => by
  obtain ⟨r, S, us, R, hu, g⟩ := h
  unfold iMax at g
  split at g
  · cases hu with | cons h1 h2 => cases h1; cases h2 with | cons h3 h4 => cases h3; cases h4; exact ⟨_, call_max2 hc, _, _, rfl, g.same R (.int _)⟩
  · cases hu with | cons h1 h2 =>
      cases h2
      rename_i v _
      cases e : (seqI v S).bind (mapO asInt) with
      | none => rw [e] at g; exact g.nothing
      | some ns =>
        rw [e] at g
        simp only [Option.bind_some] at g
        obtain ⟨p, rfl, sq⟩ := one_list ints_of R h1 e
        cases em : listMax ns with
        | none => rw [em] at g; exact g.nothing
        | some m =>
          rw [em] at g
          obtain ⟨k1, k2, k3⟩ := listMax_ok em
          refine ⟨_, cr_max hc, p, ns, rfl, sq, k1, fun m' hm hle => ?_⟩
          have : m' = m := Int.le_antisymm (k3 _ hm) (hle _ k2)
          subst this
          exact g.same R (.int _)
  · exact g.nothing
theorem c_min (hc : X.calm = true) : CallOk X (.builtin "min") iMin := callR_by fun xs H Q h => by
  obtain ⟨r, S, us, R, hu, g⟩ := h
  unfold iMin at g
  split at g
  · cases hu with | cons h1 h2 => cases h1; cases h2 with | cons h3 h4 => cases h3; cases h4; exact ⟨_, call_min2 hc, _, _, rfl, g.same R (.int _)⟩
  · cases hu with | cons h1 h2 =>
      cases h2
      rename_i v _
      cases e : (seqI v S).bind (mapO asInt) with
      | none => rw [e] at g; exact g.nothing
      | some ns =>
        rw [e] at g
        simp only [Option.bind_some] at g
        obtain ⟨p, rfl, sq⟩ := one_list ints_of R h1 e
        cases em : listMin ns with
        | none => rw [em] at g; exact g.nothing
        | some m =>
          rw [em] at g
          obtain ⟨k1, k2, k3⟩ := listMin_ok em
          refine ⟨_, cr_min hc, p, ns, rfl, sq, k1, fun m' hm hle => ?_⟩
          have : m' = m := Int.le_antisymm (hle _ k2) (k3 _ hm)
          subst this
          exact g.same R (.int _)
  · exact g.nothing
theorem c_sum (hc : X.calm = true) : CallOk X (.builtin "sum") iSum := callR_by fun xs H Q h => by
  obtain ⟨r, S, us, R, hu, g⟩ := h
  unfold iSum at g
  split at g
  · cases hu with | cons h1 h2 =>
      cases h2
      rename_i v _
      cases e : (seqI v S).bind (mapO asInt) with
      | none => rw [e] at g; exact g.nothing
      | some ns => rw [e] at g; obtain ⟨p, rfl, sq⟩ := one_list ints_of R h1 e; exact ⟨_, cr_sum hc, p, ns, rfl, sq, g.same R (.int _)⟩
  · exact g.nothing
theorem c_all (hc : X.calm = true) : CallOk X (.builtin "all") iAll := callR_by fun xs H Q h => by
  obtain ⟨r, S, us, R, hu, g⟩ := h
  unfold iAll at g
  split at g
  · cases hu with | cons h1 h2 =>
      cases h2
      rename_i v _
      cases e : (seqI v S).bind (mapO asBl) with
      | none => rw [e] at g; exact g.nothing
      | some ns => rw [e] at g; obtain ⟨p, rfl, sq⟩ := one_list bls_of R h1 e; exact ⟨_, cr_all hc, p, ns, rfl, sq, g.same R (.bl _)⟩
  · exact g.nothing
theorem c_any (hc : X.calm = true) : CallOk X (.builtin "any") iAny := callR_by fun xs H Q h => by
  obtain ⟨r, S, us, R, hu, g⟩ := h
  unfold iAny at g
  split at g
  · cases hu with | cons h1 h2 =>
      cases h2
      rename_i v _
      cases e : (seqI v S).bind (mapO asBl) with
      | none => rw [e] at g; exact g.nothing
      | some ns => rw [e] at g; obtain ⟨p, rfl, sq⟩ := one_list bls_of R h1 e; exact ⟨_, cr_any hc, p, ns, rfl, sq, g.same R (.bl _)⟩
  · exact g.nothing
theorem c_int : CallOk X (.type "int") iInt := callR_by fun xs H Q h => by
  obtain ⟨r, S, us, R, hu, g⟩ := h
  unfold iInt at g
  split at g
  · cases hu with | cons h1 h2 => cases h2; cases h1; exact ⟨_, call_int1, .inl ⟨_, rfl, g.same R (.int _)⟩⟩
  · cases hu with | cons h1 h2 => cases h2; cases h1; exact ⟨_, call_int1, .inr ⟨_, rfl, g.same R (.int _)⟩⟩
  · cases hu with | cons h1 h2 =>
      cases h2; cases h1
      split at g
      · rename_i x hl
        cases e : PySem.intText? x with
        | none => rw [e] at g; exact g.nothing
        | some n => rw [e] at g; exact ⟨_, call_int_str, _, n, rfl, e, hl, g.same R (.int _)⟩
      · exact g.nothing
  · exact g.nothing
theorem c_str : CallOk X (.type "str") iStr := callR_by fun xs H Q h => by
  obtain ⟨r, S, us, R, hu, g⟩ := h
  unfold iStr at g
  split at g
  · cases hu with | cons h1 h2 =>
      cases h2; cases h1
      split at g
      · rename_i hl; exact ⟨_, call_str_int, _, rfl, hl, g.same R (.str _)⟩
      · exact g.nothing
  · exact g.nothing
theorem c_list : CallOk X (.type "list") iList := callR_by fun xs H Q h => by
  obtain ⟨r, S, us, R, hu, g⟩ := h
  unfold iList at g
  split at g
  · cases hu with | cons h1 h2 => cases h2; cases h1 with | tup q1 q2 => exact ⟨_, call_list_of, _, _, rfl, .inr q1.t, fun l hl => g.newL R hl q2⟩
  · cases hu with | cons h1 h2 =>
      cases h2
      rename_i v _ _
      cases e : seqI v S with
      | none => rw [e] at g; exact g.nothing
      | some ys =>
        rw [e] at g
        obtain ⟨a, vs, rfl, s1, s2⟩ := R.items e h1
        exact ⟨_, call_list_of, a, vs, rfl, .inl s1, fun l hl => g.newL R hl s2⟩
  · exact g.nothing
theorem c_tuple : CallOk X (.type "tuple") iTuple := callR_by fun xs H Q h => by
  obtain ⟨r, S, us, R, hu, g⟩ := h
  unfold iTuple at g
  split at g
  · cases hu with | cons h1 h2 => cases h2; cases h1 with | tup q1 q2 => exact ⟨_, call_tuple_of, _, _, rfl, .inr ⟨q1.t, g.same R (.tup q1 q2)⟩⟩
  · cases hu with | cons h1 h2 =>
      cases h2
      rename_i v _ _
      cases e : seqI v S with
      | none => rw [e] at g; exact g.nothing
      | some ys =>
        rw [e] at g
        obtain ⟨a, vs, rfl, s1, s2⟩ := R.items e h1
        exact ⟨_, call_tuple_of, a, vs, rfl, .inl ⟨s1, fun l hl => g.newT R hl s2⟩⟩
  · exact g.nothing
theorem c_divmod : CallOk X (.builtin "divmod") iDivmod := callR_by fun xs H Q h => by
  obtain ⟨r, S, us, R, hu, g⟩ := h
  unfold iDivmod at g
  split at g
  · cases hu with | cons h1 h2 => cases h1; cases h2 with | cons h3 h4 =>
      cases h3; cases h4
      split at g
      · rename_i hl
        have hl := of_decide_eq_true hl
        exact ⟨_, call_divmod, _, _, rfl, hl, fun p hp => g.newT R hp (.cons (.int _) (.cons (.int _) .nil))⟩
      · exact g.nothing
  · exact g.nothing
theorem ty_ok {K : PySem.W.Frag} {mg : Str → Option Value} {r : List Addr} {H : Hp} {S : Sto} (R : Rel K mg r S H) {v : IV} {w : V} {t : String} (h : VR K mg r H v w) (e : tyI v S = some t) : TyX K H w (.type t) ∧ t ∈ tyNames := by
  cases h with
  | non => cases e; exact ⟨.base .non, by decide⟩
  | bl b => cases e; exact ⟨.base (.bl b), by decide⟩
  | int i => cases e; exact ⟨.base (.int i), by decide⟩
  | str x => cases e; exact ⟨.base (.str x), by decide⟩
  | ty n => cases e
  | fn q => cases e
  | tup q1 q2 =>
    cases e
    rcases q1 with q1 | ⟨o, its, n, q1, q3, _⟩
    · exact ⟨.base (.tup q1), by decide⟩
    · exact ⟨.kTuple q1 q3, by decide⟩
  | sq q1 q2 =>
    cases e
    rcases q1 with ⟨o, q1⟩ | q1 | ⟨o, its, n, q1, q3, _⟩
    · exact ⟨.base (.frz q1), by decide⟩
    · exact ⟨.base (.lst q1.1), by decide⟩
    · exact ⟨.kList q1 q3, by decide⟩
  | ref q1 =>
    simp only [tyI] at e
    split at e
    · rename_i xs hk; cases e; obtain ⟨vs, s1, _⟩ := R.obj _ _ _ hk q1; exact ⟨.base (.lst s1), by decide⟩
    · rename_i kvs hk; cases e; obtain ⟨ws, s1, _⟩ := R.obj _ _ _ hk q1; exact ⟨.base (.dK s1), by decide⟩
    · cases e
theorem isIn1_ok {K : PySem.W.Frag} {mg : Str → Option Value} {r : List Addr} {H : Hp} {t : String} (ht : t ∈ tyNames) : ∀ {ts : List IV} {b : Bool} {vs : List V}, isIn1 t ts = some b → VRs K mg r H ts vs →
    ∃ us, Paired ClsV vs us ∧ PySem.W.kitAny K (.type t) us = some b
  | [], b, _, e, .nil => by simp only [isIn1] at e; cases e; exact ⟨[], .nil, kitAny_nil⟩
  | .ty n :: rest, b, _, e, .cons h q => by
    simp only [isIn1] at e
    split at e
    · rename_i hn
      have hn : n ∈ tyNames := by simpa using hn
      have k := kit_ty (K := K) (kit_all t ht n hn)
      cases h
      simp only [Option.map_eq_some_iff] at e
      obtain ⟨b', e1, e2⟩ := e
      obtain ⟨us, p1, p2⟩ := isIn1_ok ht e1 q
      refine ⟨.type n :: us, .cons (.ty n) p1, kitAny_cons k (fun z => ?_) (fun z => ?_)⟩
      · rw [← e2, z]; simpa using p2
      · rw [← e2, z]; rfl
    · cases e
theorem c_isinst : CallOk X (.builtin "isinstance") iIsinst := callR_by fun xs H Q h => by
  obtain ⟨r, S, us, R, hu, g⟩ := h
  unfold iIsinst at g
  split at g
  · rename_i v n
    cases hu with | cons h1 h2 => cases h2 with | cons h3 h4 =>
      cases h4; cases h3
      split at g
      · rename_i hn
        have hn : n ∈ tyNames := by simpa using hn
        cases e : tyI v S with
        | none => rw [e] at g; exact g.nothing
        | some t =>
          rw [e] at g
          obtain ⟨k1, k2⟩ := ty_ok R h1 e
          exact ⟨_, call_isi, _, _, _, _, _, rfl, .ty n, k1, kit_ty (kit_all t k2 n hn), g.same R (.bl _)⟩
      · exact g.nothing
  · rename_i v ts
    cases hu with | cons h1 h2 => cases h2 with | cons h3 h4 =>
      cases h4
      cases e : tyI v S with
      | none => rw [e] at g; exact g.nothing
      | some t =>
        rw [e] at g
        simp only [Option.bind_some] at g
        obtain ⟨k1, k2⟩ := ty_ok R h1 e
        cases e2 : isIn1 t ts with
        | none => rw [e2] at g; exact g.nothing
        | some b =>
          rw [e2] at g
          cases h3 with
          | tup q1 q2 =>
            obtain ⟨us, p1, p2⟩ := isIn1_ok k2 e2 q2
            rcases q1 with q1 | ⟨o, its, n, q1, q3, q4, q5, q6⟩
            · exact ⟨_, call_isiT, _, _, _, _, _, _, rfl, q1, p1, k1, p2, g.same R (.bl _)⟩
            · have e3 : its.toList = us := ClsV.all p1 q6
              obtain ⟨oc, od, odat, osl⟩ := o
              cases q3
              cases q4
              refine ⟨_, call_isiK, _, _, od, us, n, osl, _, _, rfl, ?_, k1, p2, g.same R (.bl _)⟩
              rw [q1, ← e3]
  · exact g.nothing
end

/-! ### methods -/
def isTy (T : String) (v : IV) (S : Sto) : Bool := match v with
  | .str _ => T == "str"
  | .int _ => T == "int"
  | .sq _ => T == "list"
  | .ref i => match S[i]? with
    | some (.lst _) => T == "list"
    | some (.dct _) => T == "dict"
    | _ => false
  | _ => false
theorem isTy_ok {K : PySem.W.Frag} {mg : Str → Option Value} {r : List Addr} {H : Hp} {S : Sto} (R : Rel K mg r S H) {v : IV} {w : V} {T : String} (h : VR K mg r H v w) (e : isTy T v S = true) : tyV K T w H := by
  cases h with
  | str x => simp only [isTy, beq_iff_eq] at e; exact e
  | int x => simp only [isTy, beq_iff_eq] at e; exact e
  | sq q1 q2 => simp only [isTy, beq_iff_eq] at e; exact .inl ⟨e, _, q1.l⟩
  | ref q1 =>
    simp only [isTy] at e
    split at e
    · rename_i xs hk; obtain ⟨vs, s1, _⟩ := R.obj _ _ _ hk q1; exact .inl ⟨by simpa using e, _, .inl (.inl s1)⟩
    · rename_i kvs hk; obtain ⟨ws, s1, _⟩ := R.obj _ _ _ hk q1; exact .inr (.inr (.inl ⟨by simpa using e, .inl ⟨_, s1⟩⟩))
    · cases e
  | _ => cases e
abbrev OM := IV → List IV → Sto → Option (IV × Sto)
abbrev MtOk (X : Cx) (id : String) (f : OM) : Prop := MtR X id (rOM X f)
def lstI (u : IV) (S : Sto) : Option (Nat × List IV) := match u with
  | .ref i => match S[i]? with
    | some (.lst xs) => some (i, xs)
    | _ => none
  | _ => none
theorem lstI_ok {K : PySem.W.Frag} {mg : Str → Option Value} {r : List Addr} {H : Hp} {S : Sto} (R : Rel K mg r S H) {u : IV} {w : V} {i : Nat} {xs : List IV} (h : VR K mg r H u w) (e : lstI u S = some (i, xs)) :
    ∃ a vs, w = .ref a ∧ r[i]? = some a ∧ H a = some (.lst vs) ∧ VRs K mg r H xs vs := by
  cases h with
  | ref q1 =>
    simp only [lstI] at e
    split at e
    · rename_i ys hk
      cases e
      obtain ⟨vs, s1, s2⟩ := R.lstAt hk q1
      exact ⟨_, vs, rfl, q1, s1, s2⟩
    · cases e
  | _ => simp only [lstI] at e; cases e
def mAppend : OM := fun u vs S => match lstI u S, vs with
  | some (i, xs), [y] => if xs.length < 16777216 then some (.non, S.set i (.lst (xs ++ [y]))) else none
  | _, _ => none
def mExtend : OM := fun u vs S => match lstI u S, vs with
  | some (i, xs), [y] => match lstI y S with
    | some (_, zs) => if xs.length + zs.length ≤ 16777216 then some (.non, S.set i (.lst (xs ++ zs))) else none
    | none => none
  | _, _ => none
def mPop : OM := fun u vs S => match lstI u S, vs with
  | some (i, xs), [] => xs[xs.length - 1]?.map fun y => (y, S.set i (.lst xs.dropLast))
  | some (i, xs), [.int k] => if decide (-(2 ^ 63) ≤ k ∧ k < 2 ^ 63) then
      (seqIndex? k xs.length).bind fun j => xs[j]?.map fun y => (y, S.set i (.lst (xs.eraseIdx j)))
    else none
  | _, _ => none
def mClear : OM := fun u vs S => match lstI u S, vs with
  | some (i, _), [] => some (.non, S.set i (.lst []))
  | _, _ => none
def mInsert : OM := fun u vs S => match lstI u S, vs with
  | some (i, xs), [.int k, y] => if decide (xs.length < 16777216 ∧ 0 ≤ k ∧ k < 2 ^ 63) then some (.non, S.set i (.lst (xs.take k.toNat ++ [y] ++ xs.drop k.toNat))) else none
  | _, _ => none
/-- the first place of an equal item -/
def placeOf (y : IV) : List IV → Option Nat
  | [] => none
  | x :: xs => if eqF x y then some 0 else (placeOf y xs).map (· + 1)
def mIndex : OM := fun u vs S => match vs with
  | [y] => match seqI u S with
    | some xs => if flatI y && xs.all flatI then (placeOf y xs).map fun j => (.int j, S) else none
    | none => none
  | _ => none
def mFind : OM := fun u vs S => match u, vs with
  | .str a, [.str b] => some (.int (Txt.find a b), S)
  | _, _ => none
def mStartswith : OM := fun u vs S => match u, vs with
  | .str a, [.str b] => some (.bl (Txt.startswith a b), S)
  | _, _ => none
def mEndswith : OM := fun u vs S => match u, vs with
  | .str a, [.str b] => some (.bl (Txt.endswith a b), S)
  | _, _ => none
def mPartition : OM := fun u vs S => match u, vs with
  | .str a, [.str b] => if decide (b.length ≠ 0 ∧ a.length ≤ 16777216) then some (.tup [.str (Txt.partition a b).1, .str (Txt.partition a b).2.1, .str (Txt.partition a b).2.2], S) else none
  | _, _ => none
def mSplit : OM := fun u vs S => match u, vs with
  | .str a, [.str b] => if decide (b.length ≠ 0 ∧ a.length + 2 ≤ 16777216) then some (.ref S.length, S ++ [.lst ((Txt.split a b).map .str)]) else none
  | _, _ => none
def mJoin : OM := fun u vs S => match u, vs with
  | .str a, [.tup xs] => (mapO asStr xs).bind fun ys => if (ys.map (·.length)).sum + ys.length * a.length ≤ 16777216 then some (.str (Txt.join a ys), S) else none
  | .str a, [v] => ((seqI v S).bind (mapO asStr)).bind fun ys => if (ys.map (·.length)).sum + ys.length * a.length ≤ 16777216 then some (.str (Txt.join a ys), S) else none
  | _, _ => none
def mUpper : OM := fun u vs S => match u, vs with
  | .str a, [] => if a.length ≤ 5592405 then some (.str (Txt.upper a), S) else none
  | _, _ => none
def mRstrip : OM := fun u vs S => match u, vs with
  | .str a, [.str b] => if a.length ≤ 16777216 then some (.str (Txt.rstripChars a b), S) else none
  | _, _ => none
def mGet : OM := fun u vs S => match dctI u S with
  | some (_, kvs) => match vs with
    | [k] => (keyI k).map fun key => ((valI kvs key).getD .non, S)
    | [k, z] => (keyI k).map fun key => ((valI kvs key).getD z, S)
    | _ => none
  | none => none

section
variable {X : Cx}
theorem m_append : MtOk X "list.append" mAppend := mtR_by fun x xs H Q h => by
  obtain ⟨r, S, u, us, R, h1, hs, g⟩ := h
  unfold mAppend at g
  split at g
  · rename_i i ys y e
    obtain ⟨a, vs, rfl, q1, s1, s2⟩ := lstI_ok R h1 e
    cases hs with | cons k1 k2 =>
      cases k2
      split at g
      · exact ⟨_, mt_append, a, vs, _, rfl, rfl, s1, by rw [sl16, ← s2.length]; assumption, g.setL R q1 (s2.append (.one k1)) .non⟩
      · exact g.nothing
  · exact g.nothing
theorem m_extend : MtOk X "list.extend" mExtend := mtR_by fun x xs H Q h => by
  obtain ⟨r, S, u, us, R, h1, hs, g⟩ := h
  unfold mExtend at g
  split at g
  · rename_i i ys y e
    obtain ⟨a, vs, rfl, q1, s1, s2⟩ := lstI_ok R h1 e
    cases hs with | cons k1 k2 =>
      cases k2
      split at g
      · rename_i j zs e2
        obtain ⟨b, ws, rfl, q1', s1', s2'⟩ := lstI_ok R k1 e2
        split at g
        · exact ⟨_, mt_extend, a, b, vs, ws, rfl, rfl, s1, s1', by rw [sl16, ← s2.length, ← s2'.length]; assumption, g.setL R q1 (s2.append s2') .non⟩
        · exact g.nothing
      · exact g.nothing
  · exact g.nothing
theorem m_pop : MtOk X "list.pop" mPop := mtR_by fun x xs H Q h => by
  obtain ⟨r, S, u, us, R, h1, hs, g⟩ := h
  unfold mPop at g
  split at g
  · rename_i i ys e
    obtain ⟨a, vs, rfl, q1, s1, s2⟩ := lstI_ok R h1 e
    cases hs
    cases ey : ys[ys.length - 1]? with
    | none => rw [ey] at g; exact g.nothing
    | some y =>
      rw [ey] at g
      obtain ⟨w, e1, e2⟩ := s2.get ey
      exact ⟨_, mt_pop, a, vs, w, rfl, rfl, s1, by rw [← s2.length]; exact e1, g.setL R q1 s2.dropLast e2⟩
  · rename_i i ys k e
    obtain ⟨a, vs, rfl, q1, s1, s2⟩ := lstI_ok R h1 e
    cases hs with | cons k1 k2 =>
      cases k2; cases k1
      split at g
      · rename_i hk
        have hk := of_decide_eq_true hk
        cases ej : seqIndex? k ys.length with
        | none => rw [ej] at g; exact g.nothing
        | some j =>
          rw [ej] at g
          simp only [Option.bind_some] at g
          cases ey : ys[j]? with
          | none => rw [ey] at g; exact g.nothing
          | some y =>
            rw [ey] at g
            obtain ⟨w, e1, e2⟩ := s2.get ey
            exact ⟨_, mt_popAt, a, vs, k, j, w, rfl, rfl, s1, hk.1, hk.2, by rw [← s2.length]; exact ej, e1, g.setL R q1 (s2.eraseIdx j) e2⟩
      · exact g.nothing
  · exact g.nothing
theorem m_clear : MtOk X "list.clear" mClear := mtR_by fun x xs H Q h => by
  obtain ⟨r, S, u, us, R, h1, hs, g⟩ := h
  unfold mClear at g
  split at g
  · rename_i i ys e
    obtain ⟨a, vs, rfl, q1, s1, s2⟩ := lstI_ok R h1 e
    cases hs
    exact ⟨_, mt_clear, a, vs, rfl, rfl, s1, g.setL R q1 .nil .non⟩
  · exact g.nothing
theorem m_insert : MtOk X "list.insert" mInsert := mtR_by fun x xs H Q h => by
  obtain ⟨r, S, u, us, R, h1, hs, g⟩ := h
  unfold mInsert at g
  split at g
  · rename_i i ys k y e
    obtain ⟨a, vs, rfl, q1, s1, s2⟩ := lstI_ok R h1 e
    cases hs with | cons k1 k2 => cases k2 with | cons k3 k4 =>
      cases k4; cases k1
      split at g
      · rename_i hk
        have hk := of_decide_eq_true hk
        exact ⟨_, mt_insert, a, vs, k, _, rfl, rfl, s1, by rw [sl16, ← s2.length]; exact hk.1, hk.2.1, hk.2.2, g.setL R q1 (((s2.take _).append (.one k3)).append (s2.drop _)) .non⟩
      · exact g.nothing
  · exact g.nothing
theorem placeOf_ok {y : IV} : ∀ {xs : List IV} {j : Nat}, placeOf y xs = some j → (∃ z, xs[j]? = some z ∧ eqF z y = true) ∧ ∀ m z, m < j → xs[m]? = some z → eqF z y = false
  | [], _, e => by cases e
  | x :: xs, j, e => by
    simp only [placeOf] at e
    split at e
    · cases e; exact ⟨⟨x, rfl, by assumption⟩, fun m z hm => by omega⟩
    · rename_i hx
      simp only [Option.map_eq_some_iff] at e
      obtain ⟨k, e1, e2⟩ := e
      subst e2
      obtain ⟨⟨z, h1, h2⟩, h3⟩ := placeOf_ok e1
      refine ⟨⟨z, by simpa using h1, h2⟩, fun m z hm hz => ?_⟩
      cases m with
      | zero => simp at hz; subst hz; simpa using hx
      | succ m => exact h3 m z (by omega) (by simpa using hz)
theorem m_index : MtOk X "list.index" mIndex := mtR_by fun x xs H Q h => by
  obtain ⟨r, S, u, us, R, h1, hs, g⟩ := h
  unfold mIndex at g
  split at g
  · rename_i y
    split at g
    · rename_i ys hy
      split at g
      · rename_i hf
        rw [Bool.and_eq_true] at hf
        cases hs with | cons k1 k2 =>
          cases k2
          obtain ⟨a, vs, rfl, s1, s2⟩ := R.items hy h1
          cases ep : placeOf y ys with
          | none => rw [ep] at g; exact g.nothing
          | some j =>
            rw [ep] at g
            obtain ⟨⟨z, e1, e2⟩, e3⟩ := placeOf_ok ep
            obtain ⟨w, e4, e5⟩ := s2.get e1
            have fz : ∀ {m : Nat} {z : IV}, ys[m]? = some z → flatI z = true := fun {m z} q => List.all_eq_true.mp hf.2 z (List.mem_of_getElem? q)
            refine ⟨_, mt_index, _, vs, _, j, w, rfl, rfl, s1, flat_ok k1 hf.1, flats_ok s2 hf.2, e4, ?_, fun m z' hm hz => ?_, g.same R (.int _)⟩
            · rw [eqF_ok e5 k1 (fz e1) hf.1]; exact e2
            · obtain ⟨z2, e6, e7⟩ := s2.get' hz
              rw [eqF_ok e7 k1 (fz e6) hf.1]; exact e3 m z2 hm e6
      · exact g.nothing
    · exact g.nothing
  · exact g.nothing
theorem m_find : MtOk X "str.find" mFind := mtR_by fun x xs H Q h => by
  obtain ⟨r, S, u, us, R, h1, hs, g⟩ := h
  unfold mFind at g
  split at g
  · cases h1; cases hs with | cons k1 k2 => cases k2; cases k1; exact ⟨_, mt_find, _, _, rfl, rfl, g.same R (.int _)⟩
  · exact g.nothing
theorem m_startswith : MtOk X "str.startswith" mStartswith := mtR_by fun x xs H Q h => by
  obtain ⟨r, S, u, us, R, h1, hs, g⟩ := h
  unfold mStartswith at g
  split at g
  · cases h1; cases hs with | cons k1 k2 => cases k2; cases k1; exact ⟨_, mt_startswith, _, _, rfl, rfl, g.same R (.bl _)⟩
  · exact g.nothing
theorem m_endswith : MtOk X "str.endswith" mEndswith := mtR_by fun x xs H Q h => by
  obtain ⟨r, S, u, us, R, h1, hs, g⟩ := h
  unfold mEndswith at g
  split at g
  · cases h1; cases hs with | cons k1 k2 => cases k2; cases k1; exact ⟨_, mt_endswith, _, _, rfl, rfl, g.same R (.bl _)⟩
  · exact g.nothing
theorem m_partition : MtOk X "str.partition" mPartition := mtR_by fun x xs H Q h => by
  obtain ⟨r, S, u, us, R, h1, hs, g⟩ := h
  unfold mPartition at g
  split at g
  · cases h1; cases hs with | cons k1 k2 =>
      cases k2; cases k1
      split at g
      · rename_i hk
        have hk := of_decide_eq_true hk
        exact ⟨_, mt_partition, _, _, rfl, rfl, by simpa using hk.1, by rw [sl16]; exact hk.2, fun p hp => g.newT R hp (.cons (.str _) (.cons (.str _) (.cons (.str _) .nil)))⟩
      · exact g.nothing
  · exact g.nothing
theorem m_split : MtOk X "str.split" mSplit := mtR_by fun x xs H Q h => by
  obtain ⟨r, S, u, us, R, h1, hs, g⟩ := h
  unfold mSplit at g
  split at g
  · cases h1; cases hs with | cons k1 k2 =>
      cases k2; cases k1
      split at g
      · rename_i hk
        have hk := of_decide_eq_true hk
        exact ⟨_, mt_split, _, _, rfl, rfl, by simpa using hk.1, by rw [sl16]; exact hk.2, fun p hp => g.newL R hp (VRs.strs _)⟩
      · exact g.nothing
  · exact g.nothing
theorem m_join : MtOk X "str.join" mJoin := mtR_by fun x xs H Q h => by
  obtain ⟨r, S, u, us, R, h1, hs, g⟩ := h
  unfold mJoin at g
  split at g
  · cases h1; cases hs with | cons k1 k2 =>
      cases k2; cases k1 with | tup q1 q2 =>
        rename_i a xs p vs
        cases e : mapO asStr xs with
        | none => rw [e] at g; exact g.nothing
        | some ys =>
          rw [e] at g
          simp only [Option.bind_some] at g
          split at g
          · exact ⟨_, mt_join, _, p, ys, rfl, rfl, .inr (by rw [← strs_of e q2]; exact q1.t), by assumption, g.same R (.str _)⟩
          · exact g.nothing
  · cases h1; cases hs with | cons k1 k2 =>
      cases k2
      rename_i a v _ _
      cases e : (seqI v S).bind (mapO asStr) with
      | none => rw [e] at g; exact g.nothing
      | some ys =>
        rw [e] at g
        simp only [Option.bind_some] at g
        split at g
        · obtain ⟨p, rfl, sq⟩ := one_list strs_of R k1 e
          exact ⟨_, mt_join, _, p, ys, rfl, rfl, .inl sq, by assumption, g.same R (.str _)⟩
        · exact g.nothing
  · exact g.nothing
theorem m_upper : MtOk X "str.upper" mUpper := mtR_by fun x xs H Q h => by
  obtain ⟨r, S, u, us, R, h1, hs, g⟩ := h
  unfold mUpper at g
  split at g
  · cases h1; cases hs
    split at g
    · exact ⟨_, mt_upper, _, rfl, rfl, by assumption, g.same R (.str _)⟩
    · exact g.nothing
  · exact g.nothing
theorem mt_get1 (hu : X.A.units + 1 < cLine) : MtR X "dict.get" (fun x xs H Q => ∃ a y o, x = .ref a ∧ xs = [y] ∧ DGet H a y o ∧ Q (o.getD .non) H) := fun pins s σ H x xs v us Q I rx rv ⟨a, y, o, e, e2, g, q⟩ => by
  subst e
  subst e2
  obtain rfl : v = Value.ref a := rx
  cases rv with | cons r1 r2 => cases r2; exact d_get1 hu I g r1 fun w' s' I' rw => ⟨_, H, I', rw, q⟩
theorem mt_get2 (hu : X.A.units + 1 < cLine) : MtR X "dict.get" (fun x xs H Q => ∃ a y z o, x = .ref a ∧ xs = [y, z] ∧ DGet H a y o ∧ Q (o.getD z) H) := fun pins s σ H x xs v us Q I rx rv ⟨a, y, z, o, e, e2, g, q⟩ => by
  subst e
  subst e2
  obtain rfl : v = Value.ref a := rx
  cases rv with | cons r1 r2 => cases r2 with | cons r3 r4 => cases r4; exact d_get2 hu I g r1 r3 fun w' s' I' rw => ⟨_, H, I', rw, q⟩
theorem m_get (hu : X.A.units + 1 < cLine) : MtOk X "dict.get" mGet := mtR_by fun x xs H Q h => by
  obtain ⟨r, S, u, us, R, h1, hs, g⟩ := h
  unfold mGet at g
  split at g
  · rename_i j kvs hk
    obtain ⟨a, ws, rfl, _, s1, s2⟩ := R.dct hk h1
    split at g
    · rename_i k
      cases hs with | cons k1 k2 =>
        cases k2
        cases e : keyI k with
        | none => rw [e] at g; exact g.nothing
        | some key =>
          rw [e] at g
          refine ⟨_, mt_get1 hu, _, _, valV ws key, rfl, rfl, .inl ⟨ws, key, .inl s1, keyI_ok k1 e, rfl⟩, ?_⟩
          have z := s2.val key
          have g' := g.same R (w := (valV ws key).getD .non)
          generalize valI kvs key = o at z g'
          generalize valV ws key = o2 at z g' ⊢
          cases z with
          | none => exact g' .non
          | some z => exact g' z
    · rename_i k zz
      cases hs with | cons k1 k2 => cases k2 with | cons k3 k4 =>
        cases k4
        cases e : keyI k with
        | none => rw [e] at g; exact g.nothing
        | some key =>
          rw [e] at g
          refine ⟨_, mt_get2 hu, _, _, _, valV ws key, rfl, rfl, .inl ⟨ws, key, .inl s1, keyI_ok k1 e, rfl⟩, ?_⟩
          have z := s2.val key
          have g' := fun w => g.same R (w := w)
          generalize valI kvs key = o at z g'
          generalize valV ws key = o2 at z ⊢
          cases z with
          | none => exact g' _ k3
          | some z => exact g' _ z
    · exact g.nothing
  · exact g.nothing
end
end IP

/-! IPyE: the constructs of expressions. -/
namespace IP
open PySem PySem.Spec PyProof.Rows L2

/-- what a place where code runs must have -/
structure Gd (X : Cx) (W : WX) : Prop where
  calm : X.calm = true
  nd : X.N.Nodup
  tk : Takes X W
  un : X.A.units + 65 < cLine

/-! ### the evaluator's pieces -/
def mVar (i : Nat) : SE := fun t S => match t[i]? with
  | some (some v) => .ok v S
  | _ => .no
def mC (v : IV) : SE := fun _ S => .ok v S
def mBin (f : O2) (a b : SE) : SE := fun t S => (a t S).bind fun x S1 => (b t S1).bind fun y S2 => R.ofO (f x y S2)
def mUn (f : O1) (a : SE) : SE := fun t S => (a t S).bind fun x S1 => R.ofO (f x S1)
def asB (v : IV) (S : Sto) : R Bool := match v with
  | .bl b => .ok b S
  | _ => .no
/-- a value that must be True or False, as a test -/
def mB (a : SE) : SB := fun t S => (a t S).bind asB
def mTru (a : SE) : SB := fun t S => (a t S).bind fun v S1 => match truI v S1 with
  | some b => .ok b S1
  | none => .no
def mAndT (a b : SB) : SB := fun t S => (a t S).bind fun c S1 => if c then b t S1 else .ok false S1
def mOrT (a b : SB) : SB := fun t S => (a t S).bind fun c S1 => if c then .ok true S1 else b t S1
def mNotT (a : SB) : SB := fun t S => (a t S).bind fun c S1 => .ok (!c) S1
def mAnd (a b : SE) : SE := fun t S => (a t S).bind fun v S1 => match v with
  | .bl c => if c then b t S1 else .ok (.bl false) S1
  | _ => .no
def mOr (a b : SE) : SE := fun t S => (a t S).bind fun v S1 => match v with
  | .bl c => if c then .ok (.bl true) S1 else b t S1
  | _ => .no
def mNot (a : SE) : SE := fun t S => (a t S).bind fun v S1 => match v with
  | .bl c => .ok (.bl (!c)) S1
  | _ => .no
def mIf (c : SB) (a b : SE) : SE := fun t S => (c t S).bind fun k S1 => if k then a t S1 else b t S1
/-- a f b g c -/
def mChain (f g : O2) (a b c : SE) : SE := fun t S => (a t S).bind fun x S1 => (b t S1).bind fun y S2 => (R.ofO (f x y S2)).bind fun z S3 => match z with
  | .bl k => if k then (c t S3).bind fun w S4 => R.ofO (g y w S4) else .ok (.bl false) S3
  | _ => .no
def mNil : SA := fun _ S => .ok [] S
def mCons (a : SE) (b : SA) : SA := fun t S => (a t S).bind fun x S1 => (b t S1).bind fun xs S2 => .ok (x :: xs) S2
def mTup (a : SA) : SE := fun t S => (a t S).bind fun xs S1 => if xs.length ≤ 16777216 then .ok (.tup xs) S1 else .no
def mLst (a : SA) : SE := fun t S => (a t S).bind fun xs S1 => if xs.length ≤ 16777216 then .ok (.ref S1.length) (S1 ++ [.lst xs]) else .no
def mFn (f : OL) (a : SA) : SE := fun t S => (a t S).bind fun xs S1 => R.ofO (f xs S1)
def mMt (T : String) (f : OM) (o : SE) (a : SA) : SE := fun t S => (o t S).bind fun x S1 => if isTy T x S1 then (a t S1).bind fun xs S2 => R.ofO (f x xs S2) else .no
abbrev SO' := Slo → Sto → R (Option Int)
def pNone : SO' := fun _ S => .ok none S
def pSome (a : SE) : SO' := fun t S => (a t S).bind fun v S1 => match v with
  | .int i => .ok (some i) S1
  | _ => .no
def mSl (a : SE) (lo hi : SO') : SE := fun t S => (a t S).bind fun x S1 => (lo t S1).bind fun l S2 => (hi t S2).bind fun h S3 => R.ofO (iSl x l h S3)
def mCall (F : FN) (a : SA) : SE := fun t S => (a t S).bind fun xs S1 => F xs S1
def mDisp0 : SE := fun _ S => .ok (.ref S.length) (S ++ [.dct []])

section
variable {X : Cx} {W : WX}
/-! ### readings in a row -/
theorem rd_E {m : SE} {s : VSt} {H : Hp} {Q : VK} {r : List Addr} {t : Slo} {S : Sto} (hs : St1 X.K X.mg r X.N.length t s H) (R : Rel X.K X.mg r S H) {P : List Addr → IV → Sto → Hp → Prop}
    (h : Aft X.K X.mg (fun c d H' => W c d s H') (m t S) r H P)
    (k : ∀ r' v S' H' w, Ex r H r' H' → Rel X.K X.mg r' S' H' → St1 X.K X.mg r' X.N.length t s H' → VR X.K X.mg r' H' v w → P r' v S' H' → Q w H') : tI X W m s H Q :=
  ⟨r, t, S, hs, R, Aft.mono h .refl fun r2 a S2 H2 e R2 p w hw => k r2 a S2 H2 w e R2 (hs.mono R e) hw p⟩
theorem rd_B {m : SB} {s : VSt} {H : Hp} {Q : Bool → Hp → Prop} {r : List Addr} {t : Slo} {S : Sto} (hs : St1 X.K X.mg r X.N.length t s H) (R : Rel X.K X.mg r S H) {P : List Addr → Bool → Sto → Hp → Prop}
    (h : Aft X.K X.mg (fun c d H' => W c d s H') (m t S) r H P)
    (k : ∀ r' v S' H', Ex r H r' H' → Rel X.K X.mg r' S' H' → St1 X.K X.mg r' X.N.length t s H' → P r' v S' H' → Q v H') : tIB X W m s H Q :=
  ⟨r, t, S, hs, R, Aft.mono h .refl fun r2 a S2 H2 e R2 p => k r2 a S2 H2 e R2 (hs.mono R e) p⟩
theorem rd_A {m : SA} {s : VSt} {H : Hp} {Q : List V → Hp → Prop} {r : List Addr} {t : Slo} {S : Sto} (hs : St1 X.K X.mg r X.N.length t s H) (R : Rel X.K X.mg r S H) {P : List Addr → List IV → Sto → Hp → Prop}
    (h : Aft X.K X.mg (fun c d H' => W c d s H') (m t S) r H P)
    (k : ∀ r' v S' H' w, Ex r H r' H' → Rel X.K X.mg r' S' H' → St1 X.K X.mg r' X.N.length t s H' → VRs X.K X.mg r' H' v w → P r' v S' H' → Q w H') : tIA X W m s H Q :=
  ⟨r, t, S, hs, R, Aft.mono h .refl fun r2 a S2 H2 e R2 p w hw => k r2 a S2 H2 w e R2 (hs.mono R e) hw p⟩

theorem aft_ofO {K : PySem.W.Frag} {mg : Str → Option Value} {W : XK} {r : List Addr} {H : Hp} {x : Option (IV × Sto)} {Q : VK} (h : Aft K mg W (R.ofO x) r H (fun r' v _ H' => ∀ w, VR K mg r' H' v w → Q w H')) : Gives K mg x r H Q := by
  cases x with
  | none => exact h.elim
  | some p => exact ⟨p.1, p.2, rfl, fun r' H' w e R hw => h r' H' e R w hw⟩

/-! ### names, constants -/
theorem e_var {i : Nat} {x : Str} {pos : Pos} (hN : X.N[i]? = some x) (hv : Vis X.env.scope x) (hd : (x == ("__debug__" : Str)) = false) (hcd : (x == ("__classdict__" : Str)) = false) : EOk X W (.Name x pos) (mVar i) :=
  PE_imp (pe_var hN hv hd hcd) fun s H Q ⟨r, t, S, hs, R, h⟩ => by
    unfold mVar at h
    split at h
    · rename_i v e
      obtain ⟨w, e1, e2⟩ := hs.at_ i v e
      exact ⟨w, e1, h r H .refl R w e2⟩
    · exact h.elim
theorem tC_of {v : IV} {w : V} (hv : ∀ (r : List Addr) (H : Hp), VR X.K X.mg r H v w) {s : VSt} {H : Hp} {Q : VK} (h : tI X W (mC v) s H Q) : tC w s H Q := by
  obtain ⟨r, t, S, hs, R, h⟩ := h
  exact h r H .refl R w (hv r H)
theorem e_int {i : Int} {j pos} : EOk X W (.Constant (.int i) j pos) (mC (.int i)) := PE_imp pe_int fun s H Q h => tC_of (fun _ _ => .int i) h
theorem e_bl {i : Bool} {j pos} : EOk X W (.Constant (.bool i) j pos) (mC (.bl i)) := PE_imp pe_bl fun s H Q h => tC_of (fun _ _ => .bl i) h
theorem e_non {j pos} : EOk X W (.Constant .none j pos) (mC .non) := PE_imp pe_non fun s H Q h => tC_of (fun _ _ => .non) h
theorem e_str {i : Str} {j pos} : EOk X W (.Constant (.str i) j pos) (mC (.str i)) := PE_imp pe_str fun s H Q h => tC_of (fun _ _ => .str i) h
theorem e_glob {x : Str} {v : IV} {w : V} {u : Value} {pos : Pos} (hg : Gl X x) (hm : X.mg x = some u) (rl : RelV w u) (hv : ∀ (r : List Addr) (H : Hp), VR X.K X.mg r H v w) (hd : (x == ("__debug__" : Str)) = false) : EOk X W (.Name x pos) (mC v) :=
  PE_imp (pe_glob hg hm rl hd) fun s H Q h => tC_of hv h
theorem e_bty {x : Str} {n : String} {pos : Pos} (hg : Gl X x) (hm : X.mg x = none) (hv : bootBuiltins x = some (.type n)) (hn : x ≠ "__name__") (hd : (x == ("__debug__" : Str)) = false) : EOk X W (.Name x pos) (mC (.ty n)) :=
  PE_imp (pe_bltn (v := .ty n) hg hm hv rfl hn hd) fun s H Q h => tC_of (fun _ _ => .ty n) h

/-! ### operators -/
theorem rd_bin {f : O2} {ma mb : SE} {s : VSt} {H : Hp} {Q : VK} (h : tI X W (mBin f ma mb) s H Q) : tOp (rO2 X f) (tI X W ma) (tI X W mb) s H Q := by
  obtain ⟨r, t, S, hs, R, h⟩ := h
  refine rd_E hs R (Aft.bind h) fun r1 u S1 H1 x e1 R1 hs1 hu ⟨_, _, h1⟩ => ?_
  refine rd_E hs1 R1 (Aft.bind h1) fun r2 v S2 H2 y e2 R2 hs2 hv ⟨_, _, h2⟩ => ?_
  exact ⟨r2, S2, u, v, R2, hu.mono R1 e2, hv, aft_ofO h2⟩
theorem e_bin {op : Operator} {f : O2} {a b : Expr} {ma mb : SE} {pos : Pos} (ho : Op2Ok X (binaryOp op) f) (ha : EOk X W a ma) (hb : EOk X W b mb) : EOk X W (.BinOp a op b pos) (mBin f ma mb) :=
  PE_imp (pe_op ho ha hb) fun s H Q h => rd_bin h
theorem e_cmp {op : CmpOp} {f : O2} {a b : Expr} {ma mb : SE} {pos : Pos} (ho : Op2Ok X (compareOp op) f) (ha : EOk X W a ma) (hb : EOk X W b mb) (hm : behindInMarks op b = false) : EOk X W (.Compare a [op] [b] pos) (mBin f ma mb) :=
  PE_imp (pe_cmpR ho ha hb hm) fun s H Q h => rd_bin h
theorem e_ix {a b : Expr} {ma mb : SE} {pos : Pos} (hu : X.A.units + 1 < cLine) (ha : EOk X W a ma) (hb : EOk X W b mb) (hs : PlainIx b) : EOk X W (.Subscript a b pos) (mBin iIx ma mb) :=
  PE_imp (pe_ix (o_ix hu) ha hb hs) fun s H Q h => rd_bin h
theorem e_un {op : UnaryOp} {f : O1} {a : Expr} {ma : SE} {pos : Pos} (ho : UnR X (unaryOp op) (rO1 X f)) (ha : EOk X W a ma) : EOk X W (.UnaryOp op a pos) (mUn f ma) :=
  PE_imp (pe_un ho ha) fun s H Q ⟨r, t, S, hs, R, h⟩ => rd_E hs R (Aft.bind h) fun r1 u S1 H1 x e1 R1 hs1 hu ⟨_, _, h1⟩ => ⟨r1, S1, u, R1, hu, aft_ofO h1⟩
theorem b_of {ma : SE} {s : VSt} {H : Hp} {Q : Bool → Hp → Prop} (h : tIB X W (mB ma) s H Q) : tI X W ma s H fun x H' => ∃ k, x = .bl k ∧ Q k H' := by
  obtain ⟨r, t, S, hs, R, h⟩ := h
  refine rd_E hs R (Aft.bind h) fun r1 u S1 H1 x e1 R1 hs1 hu ⟨_, _, h1⟩ => ?_
  unfold asB at h1
  split at h1
  · cases hu; exact ⟨_, rfl, h1 r1 H1 .refl R1⟩
  · exact h1.elim
/-- a comparison as a test -/
theorem b_cmp {op : CmpOp} {f : O2} {a b : Expr} {ma mb : SE} {pos : Pos} (ho : Op2Ok X (compareOp op) f) (ha : EOk X W a ma) (hb : EOk X W b mb) (hm : behindInMarks op b = false) : BOk X W (.Compare a [op] [b] pos) (mB (mBin f ma mb)) :=
  PT_imp (pt_cmpR ho ha hb hm) fun s H Q h => rd_bin (b_of h)
theorem rd_chain {f g : O2} {ma mb mc : SE} {s : VSt} {H : Hp} {Q : VK} (h : tI X W (mChain f g ma mb mc) s H Q) : tChain (rO2 X f) (rO2 X g) (tI X W ma) (tI X W mb) (tI X W mc) s H Q := by
  obtain ⟨r, t, S, hs, R, h⟩ := h
  refine rd_E hs R (Aft.bind h) fun r1 u S1 H1 x e1 R1 hs1 hu ⟨_, _, h1⟩ => ?_
  refine rd_E hs1 R1 (Aft.bind h1) fun r2 v S2 H2 y e2 R2 hs2 hv ⟨_, _, h2⟩ => ?_
  refine ⟨r2, S2, u, v, R2, hu.mono R1 e2, hv, ?_⟩
  cases ef : f u v S2 with
  | none => rw [ef] at h2; exact h2.elim
  | some p =>
    rw [ef] at h2
    refine ⟨p.1, p.2, rfl, fun r3 H3 w3 e3 R3 hw => ?_⟩
    have h3 := (Aft.bind h2) r3 H3 e3 R3
    obtain ⟨_, _, h3⟩ := h3
    split at h3
    · rename_i k ek
      rw [ek] at hw
      cases hw
      refine ⟨k, rfl, ?_⟩
      cases k with
      | false =>
        rw [if_neg (by simp)] at h3 ⊢
        exact h3 r3 H3 .refl R3 _ (.bl _)
      | true =>
        rw [if_pos rfl] at h3 ⊢
        refine rd_E (hs2.mono R2 e3) R3 (Aft.bind h3) fun r4 w S4 H4 z e4 R4 hs4 hw4 ⟨_, _, h4⟩ => ?_
        exact ⟨r4, S4, v, w, R4, (hv.mono R2 e3).mono R3 e4, hw4, aft_ofO h4⟩
    · exact h3.elim
theorem e_chain {op op' : CmpOp} {f g : O2} {a b c : Expr} {ma mb mc : SE} {pos : Pos} (ho : Op2Ok X (compareOp op) f) (ho' : Op2Ok X (compareOp op') g) (ha : EOk X W a ma) (hb : EOk X W b mb) (hc : EOk X W c mc)
    (hm : lastMarks [op, op'] [b, c] = false) : EOk X W (.Compare a [op, op'] [b, c] pos) (mChain f g ma mb mc) := PE_imp (pe_chain ho ho' ha hb hc hm) fun s H Q h => rd_chain h
theorem b_chain {op op' : CmpOp} {f g : O2} {a b c : Expr} {ma mb mc : SE} {pos : Pos} (ho : Op2Ok X (compareOp op) f) (ho' : Op2Ok X (compareOp op') g) (ha : EOk X W a ma) (hb : EOk X W b mb) (hc : EOk X W c mc)
    (hm : lastMarks [op, op'] [b, c] = false) : BOk X W (.Compare a [op, op'] [b, c] pos) (mB (mChain f g ma mb mc)) := PT_imp (pt_chain ho ho' ha hb hc hm) fun s H Q h => rd_chain (b_of h)
/-! ### truth, and, or, not, if -/
theorem b_tru {a : Expr} {ma : SE} (ha : EOk X W a ma) (he : ∀ whole, isTrue a X.env whole = (do let v ← whole; standAt a.pos; holding [v] (truthy v))) : BOk X W a (mTru ma) :=
  PT_imp (pt_truth ha he) fun s H Q ⟨r, t, S, hs, R, h⟩ => rd_E hs R (Aft.bind h) fun r1 u S1 H1 x e1 R1 hs1 hu ⟨_, _, h1⟩ => by
    split at h1
    · rename_i b eb; exact ⟨b, tru_ok1 R1 hu eb, h1 r1 H1 .refl R1⟩
    · exact h1.elim
theorem b_not {a : Expr} {ma : SB} {pos : Pos} (ha : BOk X W a ma) : BOk X W (.UnaryOp .Not a pos) (mNotT ma) :=
  PT_imp (pt_not ha) fun s H Q ⟨r, t, S, hs, R, h⟩ => rd_B hs R (Aft.bind h) fun r1 c S1 H1 e1 R1 hs1 ⟨_, _, h1⟩ => h1 r1 H1 .refl R1
theorem w_and1 {a : Expr} {ma : SB} {pos : Pos} (ha : BOk X W a ma) : PW X (.BoolOp .And [a] pos) (tIB X W ma) := pw_and1 ha
theorem w_or1 {a : Expr} {ma : SB} {pos : Pos} (ha : BOk X W a ma) : PW X (.BoolOp .Or [a] pos) (tIB X W ma) := pw_or1 ha
theorem w_and {a b : Expr} {rest : List Expr} {ma mb : SB} {pos : Pos} (ha : BOk X W a ma) (hb : PW X (.BoolOp .And (b :: rest) pos) (tIB X W mb)) : PW X (.BoolOp .And (a :: b :: rest) pos) (tIB X W (mAndT ma mb)) :=
  PW_imp (pw_and ha hb) fun s H Q ⟨r, t, S, hs, R, h⟩ => rd_B hs R (Aft.bind h) fun r1 c S1 H1 e1 R1 hs1 ⟨_, _, h1⟩ => by
    cases c with
    | true => rw [if_pos rfl] at h1 ⊢; exact ⟨r1, t, S1, hs1, R1, h1⟩
    | false => rw [if_neg (by simp)] at h1 ⊢; exact h1 r1 H1 .refl R1
theorem w_or {a b : Expr} {rest : List Expr} {ma mb : SB} {pos : Pos} (ha : BOk X W a ma) (hb : PW X (.BoolOp .Or (b :: rest) pos) (tIB X W mb)) : PW X (.BoolOp .Or (a :: b :: rest) pos) (tIB X W (mOrT ma mb)) :=
  PW_imp (pw_or ha hb) fun s H Q ⟨r, t, S, hs, R, h⟩ => rd_B hs R (Aft.bind h) fun r1 c S1 H1 e1 R1 hs1 ⟨_, _, h1⟩ => by
    cases c with
    | true => rw [if_pos rfl] at h1 ⊢; exact h1 r1 H1 .refl R1
    | false => rw [if_neg (by simp)] at h1 ⊢; exact ⟨r1, t, S1, hs1, R1, h1⟩
theorem e_one {op} {a : Expr} {ma : SE} {pos : Pos} (ha : EOk X W a ma) : EOk X W (.BoolOp op [a] pos) ma := pe_one ha
theorem e_and {a b : Expr} {rest : List Expr} {ma mb : SE} {pos : Pos} (ha : EOk X W a ma) (hb : EOk X W (.BoolOp .And (b :: rest) pos) mb) : EOk X W (.BoolOp .And (a :: b :: rest) pos) (mAnd ma mb) :=
  PE_imp (pe_and ha hb) fun s H Q ⟨r, t, S, hs, R, h⟩ => rd_E hs R (Aft.bind h) fun r1 u S1 H1 x e1 R1 hs1 hu ⟨_, _, h1⟩ => by
    split at h1
    · rename_i c _
      cases hu
      refine ⟨c, rfl, ?_⟩
      cases c with
      | true => rw [if_pos rfl] at h1 ⊢; exact ⟨r1, t, S1, hs1, R1, h1⟩
      | false => rw [if_neg (by simp)] at h1 ⊢; exact h1 r1 H1 .refl R1 _ (.bl _)
    · exact h1.elim
theorem e_or {a b : Expr} {rest : List Expr} {ma mb : SE} {pos : Pos} (ha : EOk X W a ma) (hb : EOk X W (.BoolOp .Or (b :: rest) pos) mb) : EOk X W (.BoolOp .Or (a :: b :: rest) pos) (mOr ma mb) :=
  PE_imp (pe_or ha hb) fun s H Q ⟨r, t, S, hs, R, h⟩ => rd_E hs R (Aft.bind h) fun r1 u S1 H1 x e1 R1 hs1 hu ⟨_, _, h1⟩ => by
    split at h1
    · rename_i c _
      cases hu
      refine ⟨c, rfl, ?_⟩
      cases c with
      | true => rw [if_pos rfl] at h1 ⊢; exact h1 r1 H1 .refl R1 _ (.bl _)
      | false => rw [if_neg (by simp)] at h1 ⊢; exact ⟨r1, t, S1, hs1, R1, h1⟩
    · exact h1.elim
theorem e_not {a : Expr} {ma : SE} {pos : Pos} (ha : EOk X W a ma) : EOk X W (.UnaryOp .Not a pos) (mNot ma) :=
  PE_imp (pe_not ha) fun s H Q ⟨r, t, S, hs, R, h⟩ => rd_E hs R (Aft.bind h) fun r1 u S1 H1 x e1 R1 hs1 hu ⟨_, _, h1⟩ => by
    split at h1
    · rename_i c _; cases hu; exact ⟨c, rfl, h1 r1 H1 .refl R1 _ (.bl _)⟩
    · exact h1.elim
theorem e_if {c a b : Expr} {mc : SB} {ma mb : SE} {pos : Pos} (hc : BOk X W c mc) (ha : EOk X W a ma) (hb : EOk X W b mb) : EOk X W (.IfExp c a b pos) (mIf mc ma mb) :=
  PE_imp (pe_ifExp hc ha hb) fun s H Q ⟨r, t, S, hs, R, h⟩ => rd_B hs R (Aft.bind h) fun r1 k S1 H1 e1 R1 hs1 ⟨_, _, h1⟩ => by
    cases k with
    | true => rw [if_pos rfl] at h1 ⊢; exact ⟨r1, t, S1, hs1, R1, h1⟩
    | false => rw [if_neg (by simp)] at h1 ⊢; exact ⟨r1, t, S1, hs1, R1, h1⟩
/-! ### argument lists, displays -/
theorem a_nil : AOk X W [] mNil := PA_imp pa_nil fun s H Q ⟨r, t, S, hs, R, h⟩ => h r H .refl R [] .nil
theorem a_cons {e : Expr} {es : List Expr} {ma : SE} {mb : SA} (ha : EOk X W e ma) (hb : AOk X W es mb) (hst : starEach (e :: es) X.env = (false, eval e X.env) :: starEach es X.env) : AOk X W (e :: es) (mCons ma mb) :=
  PA_imp (pa_cons ha hb hst) fun s H Q ⟨r, t, S, hs, R, h⟩ => rd_E hs R (Aft.bind h) fun r1 u S1 H1 x e1 R1 hs1 hu ⟨_, _, h1⟩ =>
    rd_A hs1 R1 (Aft.bind h1) fun r2 us S2 H2 xs e2 R2 hs2 hus ⟨_, _, h2⟩ => h2 r2 H2 .refl R2 _ (.cons (hu.mono R1 e2) hus)
theorem e_tup {es : List Expr} {ma : SA} {k : Nat} {pos : Pos} (ha : AOk X W es ma) : EOk X W (.Tuple es k pos) (mTup ma) :=
  PE_imp (pe_tup ha) fun s H Q ⟨r, t, S, hs, R, h⟩ => rd_A hs R (Aft.bind h) fun r1 us S1 H1 xs e1 R1 hs1 hus ⟨_, _, h1⟩ => by
    split at h1
    · rename_i hl
      exact ⟨by rw [sl16, ← hus.length]; exact hl, fun p hp => Gives.newT R1 (aft_ofO (x := some (.tup us, S1)) h1) hp hus⟩
    · exact h1.elim
theorem e_lst {es : List Expr} {ma : SA} {pos : Pos} (ha : AOk X W es ma) : EOk X W (.List es pos) (mLst ma) :=
  PE_imp (pe_lst ha) fun s H Q ⟨r, t, S, hs, R, h⟩ => rd_A hs R (Aft.bind h) fun r1 us S1 H1 xs e1 R1 hs1 hus ⟨_, _, h1⟩ => by
    split at h1
    · rename_i hl
      exact ⟨by rw [sl16, ← hus.length]; exact hl, fun p hp => Gives.newL R1 (aft_ofO (x := some (.ref S1.length, S1 ++ [.lst us])) h1) hp hus⟩
    · exact h1.elim
theorem e_dict0 {pos : Pos} : EOk X W (.Dict [] [] pos) mDisp0 :=
  PE_imp pe_dnewK fun s H Q ⟨r, t, S, hs, R, h⟩ => fun p hp => by
    obtain ⟨x, R', e⟩ := R.alloc (u := .dK []) (o := .dct []) hp fun x => ⟨[], upd_same, .nil⟩
    exact h _ _ x R' _ (.ref e)
/-! ### slices -/
def tIO (X : Cx) (W : WX) (m : SO') : TO := fun s H Q => ∃ r t S, St1 X.K X.mg r X.N.length t s H ∧ Rel X.K X.mg r S H ∧
  Aft X.K X.mg (fun c d H' => W c d s H') (m t S) r H (fun _ b _ H' => Q b H')
abbrev POk (X : Cx) (W : WX) (e : Option Expr) (m : SO') : Prop := PO X e (tIO X W m)
theorem PO_imp {e : Option Expr} {t u : TO} (h : PO X e t) (k : ∀ s H Q, u s H Q → t s H Q) : PO X e u :=
  ⟨fun pins s σ H Q I q => h.run pins s σ H Q I (k σ H Q q)⟩
theorem p_none : POk X W none pNone := PO_imp po_none fun s H Q ⟨r, t, S, hs, R, h⟩ => h r H .refl R
theorem p_some {e : Expr} {m : SE} (he : EOk X W e m) : POk X W (some e) (pSome m) := PO_imp (po_some he) fun s H Q ⟨r, t, S, hs, R, h⟩ =>
  rd_E hs R (Aft.bind h) fun r1 u S1 H1 x e1 R1 hs1 hu ⟨_, _, h1⟩ => by
    split at h1
    · cases hu; exact ⟨_, rfl, h1 r1 H1 .refl R1⟩
    · exact h1.elim
theorem rd_O {m : SO'} {s : VSt} {H : Hp} {Q : Option Int → Hp → Prop} {r : List Addr} {t : Slo} {S : Sto} (hs : St1 X.K X.mg r X.N.length t s H) (R : Rel X.K X.mg r S H) {P : List Addr → Option Int → Sto → Hp → Prop}
    (h : Aft X.K X.mg (fun c d H' => W c d s H') (m t S) r H P)
    (k : ∀ r' v S' H', Ex r H r' H' → Rel X.K X.mg r' S' H' → St1 X.K X.mg r' X.N.length t s H' → P r' v S' H' → Q v H') : tIO X W m s H Q :=
  ⟨r, t, S, hs, R, Aft.mono h .refl fun r2 a S2 H2 e R2 p => k r2 a S2 H2 e R2 (hs.mono R e) p⟩
theorem e_sl {a : Expr} {lo hi : Option Expr} {ma : SE} {ml mh : SO'} {p2 pos : Pos} (ha : EOk X W a ma) (hl : POk X W lo ml) (hh : POk X W hi mh) : EOk X W (.Subscript a (.Slice lo hi none p2) pos) (mSl ma ml mh) :=
  PE_imp (pe_slice o_sl ha hl hh) fun s H Q ⟨r, t, S, hs, R, h⟩ => rd_E hs R (Aft.bind h) fun r1 u S1 H1 x e1 R1 hs1 hu ⟨_, _, h1⟩ =>
    rd_O hs1 R1 (Aft.bind h1) fun r2 l S2 H2 e2 R2 hs2 ⟨_, _, h2⟩ => rd_O hs2 R2 (Aft.bind h2) fun r3 k S3 H3 e3 R3 hs3 ⟨_, _, h3⟩ =>
      ⟨r3, S3, u, R3, (hu.mono R1 e2).mono R2 e3, aft_ofO h3⟩
/-! ### calls -/
theorem e_bi {x : Str} {id : String} {f : OL} {e : Expr} {es : List Expr} {ma : SA} {p pos : Pos} (hc : CallOk X (.builtin id) f) (hg : Gl X x) (hm : X.mg x = none) (hv : bootBuiltins x = some (.builtin id)) (ha : AOk X W (e :: es) ma)
    (hn : x ≠ "__name__") (hdb : (x == ("__debug__" : Str)) = false) (he : starEach (e :: es) X.env = (false, eval e X.env) :: starEach es X.env) (hpl : (backTo pos (starEach es X.env)).any (·.1) = false) :
    EOk X W (.Call (.Name x p) (e :: es) [] pos) (mFn f ma) :=
  PE_imp (pe_callB hc hg hm hv ha hn hdb he hpl) fun s H Q ⟨r, t, S, hs, R, h⟩ => rd_A hs R (Aft.bind h) fun r1 us S1 H1 xs e1 R1 hs1 hus ⟨_, _, h1⟩ => ⟨r1, S1, us, R1, hus, aft_ofO h1⟩
theorem e_bt {x : Str} {T : String} {f : OL} {e : Expr} {es : List Expr} {ma : SA} {p pos : Pos} (hc : CallOk X (.type T) f) (hg : Gl X x) (hm : X.mg x = none) (hv : bootBuiltins x = some (.type T)) (ha : AOk X W (e :: es) ma)
    (hn : x ≠ "__name__") (hdb : (x == ("__debug__" : Str)) = false) (he : starEach (e :: es) X.env = (false, eval e X.env) :: starEach es X.env) (hpl : (backTo pos (starEach es X.env)).any (·.1) = false) :
    EOk X W (.Call (.Name x p) (e :: es) [] pos) (mFn f ma) :=
  PE_imp (pe_callTy hc hg hm hv ha hn hdb he hpl) fun s H Q ⟨r, t, S, hs, R, h⟩ => rd_A hs R (Aft.bind h) fun r1 us S1 H1 xs e1 R1 hs1 hus ⟨_, _, h1⟩ => ⟨r1, S1, us, R1, hus, aft_ofO h1⟩
theorem e_mt {o e : Expr} {es : List Expr} {mo : SE} {ma : SA} {name : Str} {apos cpos : Pos} {T id : String} {f : OM} (pa : PlainAttrs T) (slot : Slot T name id) (hty : typeOf (.builtin id) = pure (.type "method_descriptor")) (hm : MtOk X id f)
    (ho : EOk X W o mo) (ha : AOk X W (e :: es) ma)
    (hbase : attributeBase o name X.env (eval o X.env) = eval o X.env)
    (hfew : ((backTo cpos (starEach (e :: es) X.env)).all (fun x => !x.1) && (backToKw cpos (keywordEach [] X.env)).all (fun x => x.1.isSome)
      && decide ((e :: es).length + ([] : List Keyword).length + (if ([] : List Keyword).isEmpty then 0 else 1) < 30)) = true)
    (hline : (apos.endLine == cpos.line) = true) (hs : starEach (e :: es) X.env = (false, eval e X.env) :: starEach es X.env) (hplain : (backTo cpos (starEach es X.env)).any (·.1) = false) :
    EOk X W (.Call (.Attribute o name apos) (e :: es) [] cpos) (mMt T f mo ma) :=
  PE_imp (pe_bm pa slot hty hm ho ha hbase hfew hline hs hplain) fun s H Q ⟨r, t, S, hs, R, h⟩ => rd_E hs R (Aft.bind h) fun r1 u S1 H1 x e1 R1 hs1 hu ⟨_, _, h1⟩ => by
    split at h1
    · rename_i hT
      exact ⟨isTy_ok R1 hu hT, rd_A hs1 R1 (Aft.bind h1) fun r2 us S2 H2 xs e2 R2 hs2 hus ⟨_, _, h2⟩ => ⟨r2, S2, u, us, R2, hu.mono R1 e2, hus, aft_ofO h2⟩⟩
    · exact h1.elim
theorem e_mt0 {o : Expr} {mo : SE} {name : Str} {apos cpos : Pos} {T id : String} {f : OM} (pa : PlainAttrs T) (slot : Slot T name id) (hty : typeOf (.builtin id) = pure (.type "method_descriptor")) (hm : MtOk X id f)
    (ho : EOk X W o mo) (hbase : attributeBase o name X.env (eval o X.env) = eval o X.env) (hline : (apos.endLine == cpos.line) = true) :
    EOk X W (.Call (.Attribute o name apos) [] [] cpos) (mMt T f mo mNil) :=
  PE_imp (pe_bm0 pa slot hty hm ho hbase hline) fun s H Q ⟨r, t, S, hs, R, h⟩ => rd_E hs R (Aft.bind h) fun r1 u S1 H1 x e1 R1 hs1 hu ⟨_, _, h1⟩ => by
    split at h1
    · rename_i hT
      exact ⟨isTy_ok R1 hu hT, r1, S1, u, [], R1, hu, .nil, aft_ofO h1⟩
    · exact h1.elim
/-- a def's promise: it hands back what its evaluator tells -/
def spI (K : PySem.W.Frag) (mg : Str → Option Value) (F : FN) (n : Nat) : Sp := fun vs H Q E => vs.length = n ∧ ∃ r S us, Rel K mg r S H ∧ VRs K mg r H us vs ∧ Aft K mg E (F us S) r H (fun r' v _ H' => ∀ w, VR K mg r' H' v w → Q w H')
/-- the def that stands under a name of the module -/
structure DefOk (P : Program) (w : World) (K : PySem.W.Frag) (mg : Str → Option Value) (base : Heap) (x : Str) (F : FN) (n k : Nat) : Prop where
  ex : ∃ f fd ps, mg x = some (.ref f) ∧ PySem.W.keepIn K (.ref f) = true ∧ Binds K fd ps [] ∧ ps.length = n ∧ FnOk P w K mg base (L2.CX P w) k f fd ps (spI K mg F n)
theorem e_call {x : Str} {F : FN} {n k : Nat} {e : Expr} {es : List Expr} {ma : SA} {p pos : Pos} (D : DefOk X.prog X.w X.K X.mg X.base x F n k) (tk : Takes X W) (hr : Room k X.A) (hg : Gl X x) (hn : (e :: es).length = n) (ha : AOk X W (e :: es) ma)
    (hdb : (x == ("__debug__" : Str)) = false) (he : starEach (e :: es) X.env = (false, eval e X.env) :: starEach es X.env) (hpl : (backTo pos (starEach es X.env)).any (·.1) = false)
    (hl : ∀ t S xs S', ma t S = .ok xs S' → xs.length = n) :
    EOk X W (.Call (.Name x p) (e :: es) [] pos) (mCall F ma) := by
  obtain ⟨f, fd, ps, hm, hk, hb, hps, G⟩ := D.ex
  refine PE_imp (pe_callS G hr hg hm hk hb (fun σ => passAt tk σ) ha hdb he hpl) fun s H Q ⟨r, t, S, hs, R, h⟩ => ?_
  refine ⟨r, t, S, hs, R, ?_⟩
  have h' := Aft.bind h
  unfold mCall at h
  cases em : ma t S with
  | no => rw [em] at h'; exact h'
  | ex c fs S' => rw [em] at h'; exact h'
  | ok xs S' =>
    rw [em] at h'
    have hlen := hl t S xs S' em
    intro r1 H1 e1 R1 ws hws
    obtain ⟨_, _, h1⟩ := h' r1 H1 e1 R1
    exact ⟨by rw [← hws.length, hlen], r1, S', xs, R1, hws, h1⟩
theorem e_call0 {x : Str} {F : FN} {k : Nat} {p pos : Pos} (D : DefOk X.prog X.w X.K X.mg X.base x F 0 k) (tk : Takes X W) (hr : Room k X.A) (hg : Gl X x)
    (hdb : (x == ("__debug__" : Str)) = false) : EOk X W (.Call (.Name x p) [] [] pos) (mCall F mNil) := by
  obtain ⟨f, fd, ps, hm, hk, hb, hps, G⟩ := D.ex
  refine ⟨fun pins s σ H Q I h => ?_⟩
  refine wpAny_Call_Name_kw (ld_glob I hg hm ?_ hdb)
  obtain ⟨r, t, S, hs, R, h⟩ := h
  exact PySem.W.callWith_K0 I.kIn hk (run_fnS (us := []) G hr hb (passAt tk σ) I .nil ⟨rfl, r, S, [], R, .nil, h⟩)
end
end IP

/-! IPyF: statements, targets, loops, comprehensions. -/
namespace IP
open PySem PySem.Spec PyProof.Rows L2

/-! ### statements -/
def sNil : SS := fun t S => .nx t S
def sSeq (a b : SS) : SS := fun t S => match a t S with
  | .nx t1 S1 => b t1 S1
  | x => x
def sExpr (a : SE) : SS := fun t S => match a t S with
  | .ok _ S1 => .nx t S1
  | .ex c fs S1 => .ex c fs t S1
  | .no => .no
def sRet (a : SE) : SS := fun t S => match a t S with
  | .ok v S1 => .ret v S1
  | .ex c fs S1 => .ex c fs t S1
  | .no => .no
def sRetN : SS := fun _ S => .ret .non S
def sBrk : SS := fun t S => .brk t S
def sCnt : SS := fun t S => .cnt t S
def sIf (c : SB) (a b : SS) : SS := fun t S => match c t S with
  | .ok k S1 => if k then a t S1 else b t S1
  | .ex c fs S1 => .ex c fs t S1
  | .no => .no
/-- targets of names -/
inductive Tg where
  | nm (i : Nat)
  | tu (ts : List Tg)
mutual
def tgSet (S : Sto) : Tg → IV → Slo → Option Slo
  | .nm i, v, t => some (t.set i (some v))
  | .tu ts, v, t => match v with
    | .tup xs => tgSets S ts xs t
    | v => match seqI v S with
      | some xs => tgSets S ts xs t
      | none => none
def tgSets (S : Sto) : List Tg → List IV → Slo → Option Slo
  | [], [], t => some t
  | g :: gs, x :: xs, t => match tgSet S g x t with
    | some t1 => tgSets S gs xs t1
    | none => none
  | _, _, _ => none
end
mutual
def tgOf (K : PySem.W.Frag) : Tg → TG
  | .nm i => gName i
  | .tu ts => fun v σ H Q => gTup K ts.length (tgsOf K ts) v σ H Q ∨ gUnl K ts.length (tgsOf K ts) v σ H Q
def tgsOf (K : PySem.W.Frag) : List Tg → TGs
  | [] => gNil
  | g :: gs => gCons (tgOf K g) (tgsOf K gs)
end
mutual
def tgIn (own : List Nat) : Tg → Bool
  | .nm i => own.contains i
  | .tu ts => tgsIn own ts
def tgsIn (own : List Nat) : List Tg → Bool
  | [] => true
  | g :: gs => tgIn own g && tgsIn own gs
end
def sAsg (g : Tg) (a : SE) : SS := fun t S => match a t S with
  | .ok v S1 => match tgSet S1 g v t with
    | some t1 => .nx t1 S1
    | none => .no
  | .ex c fs S1 => .ex c fs t S1
  | .no => .no
def sAug (f : O2) (i : Nat) (a : SE) : SS := fun t S => match t[i]? with
  | some (some x) => match a t S with
    | .ok y S1 => match f x y S1 with
      | some (z, S2) => .nx (t.set i (some z)) S2
      | none => .no
    | .ex c fs S1 => .ex c fs t S1
    | .no => .no
  | _ => .no
/-- o[i] = v -/
def putO (o i v : IV) (S : Sto) : Option Sto := match lstI o S with
  | some (j, xs) => match i with
    | .int k => (ixN xs.length k).map fun n => S.set j (.lst (xs.set n v))
    | _ => none
  | none => match dctI o S with
    | some (j, kvs) => (keyI i).bind fun key => if kvs.length < 16777216 then some (S.set j (.dct (putI kvs key v))) else none
    | none => none
def sPut (o i a : SE) : SS := fun t S => match (a t S).bind (fun v S1 => (o t S1).bind fun x S2 => (i t S2).bind fun y S3 => match putO x y v S3 with
    | some S4 => .ok () S4
    | none => .no) with
  | .ok _ S1 => .nx t S1
  | .ex c fs S1 => .ex c fs t S1
  | .no => .no

section
variable {X : Cx} {W : WX}
theorem AftS.mono {x : RS} {r r' : List Addr} {H H' : Hp} {D D' : Ends} (h : AftS X W x r H D) (e : Ex r H r' H') (k1 : ∀ s H, D.nx s H → D'.nx s H) (k2 : ∀ v H, D.rt v H → D'.rt v H) (k3 : ∀ s H, D.bk s H → D'.bk s H) (k4 : ∀ s H, D.ct s H → D'.ct s H) :
    AftS X W x r' H' D' := by
  cases x with
  | nx t S => exact fun r2 H2 s2 e2 R2 hs => k1 _ _ (h r2 H2 s2 (e.trans e2) R2 hs)
  | ret v S => exact fun r2 H2 w e2 R2 hs => k2 _ _ (h r2 H2 w (e.trans e2) R2 hs)
  | brk t S => exact fun r2 H2 s2 e2 R2 hs => k3 _ _ (h r2 H2 s2 (e.trans e2) R2 hs)
  | cnt t S => exact fun r2 H2 s2 e2 R2 hs => k4 _ _ (h r2 H2 s2 (e.trans e2) R2 hs)
  | ex c fs t S => exact fun r2 H2 s2 cls d e2 R2 hs => h r2 H2 s2 cls d (e.trans e2) R2 hs
  | no => exact h
theorem AftS.ext {x : RS} {r r' : List Addr} {H H' : Hp} {D : Ends} (h : AftS X W x r H D) (e : Ex r H r' H') : AftS X W x r' H' D := AftS.mono h e (fun _ _ z => z) (fun _ _ z => z) (fun _ _ z => z) fun _ _ z => z
/-- an expression ahead of the rest of a statement -/
theorem rd_SE {m : SE} {s : VSt} {H : Hp} {Q : VK} {r : List Addr} {t : Slo} {S : Sto} (hs : St1 X.K X.mg r X.N.length t s H) (R : Rel X.K X.mg r S H) {k : IV → Sto → RS} {D : Ends}
    (h : AftS X W (match m t S with | .ok v S1 => k v S1 | .ex c fs S1 => .ex c fs t S1 | .no => .no) r H D)
    (kk : ∀ r' v S' H' w, Ex r H r' H' → Rel X.K X.mg r' S' H' → St1 X.K X.mg r' X.N.length t s H' → VR X.K X.mg r' H' v w → AftS X W (k v S') r' H' D → Q w H') : tI X W m s H Q := by
  refine ⟨r, t, S, hs, R, ?_⟩
  cases em : m t S with
  | no => rw [em] at h; exact h
  | ex c fs S1 => rw [em] at h; exact fun r' H' cls d e R' z => h r' H' s cls d e R' (hs.mono R e) z
  | ok v S1 => rw [em] at h; exact fun r' H' e R' w hw => kk r' v S1 H' w e R' (hs.mono R e) hw (h.ext e)
theorem rd_SB {m : SB} {s : VSt} {H : Hp} {Q : Bool → Hp → Prop} {r : List Addr} {t : Slo} {S : Sto} (hs : St1 X.K X.mg r X.N.length t s H) (R : Rel X.K X.mg r S H) {k : Bool → Sto → RS} {D : Ends}
    (h : AftS X W (match m t S with | .ok v S1 => k v S1 | .ex c fs S1 => .ex c fs t S1 | .no => .no) r H D)
    (kk : ∀ r' v S' H', Ex r H r' H' → Rel X.K X.mg r' S' H' → St1 X.K X.mg r' X.N.length t s H' → AftS X W (k v S') r' H' D → Q v H') : tIB X W m s H Q := by
  refine ⟨r, t, S, hs, R, ?_⟩
  cases em : m t S with
  | no => rw [em] at h; exact h
  | ex c fs S1 => rw [em] at h; exact fun r' H' cls d e R' z => h r' H' s cls d e R' (hs.mono R e) z
  | ok v S1 => rw [em] at h; exact fun r' H' e R' => kk r' v S1 H' e R' (hs.mono R e) (h.ext e)

theorem s_nil : SsOk X W [] sNil := PSs_imp pss_nil fun D s H ⟨r, t, S, hs, R, h⟩ => h r H s .refl R hs
theorem s_cons {st : Stmt} {sts : List Stmt} {a b : SS} (h1 : SOk X W st a) (h2 : SsOk X W sts b) : SsOk X W (st :: sts) (sSeq a b) :=
  PSs_imp (pss_cons h1 h2) fun D s H ⟨r, t, S, hs, R, h⟩ => by
    refine ⟨r, t, S, hs, R, ?_⟩
    unfold sSeq at h
    cases ea : a t S with
    | nx t1 S1 => rw [ea] at h; exact fun r' H' s' e R' hs' => ⟨r', t1, S1, hs', R', AftS.ext h e⟩
    | ret v S1 => rw [ea] at h; exact h
    | brk t1 S1 => rw [ea] at h; exact h
    | cnt t1 S1 => rw [ea] at h; exact h
    | ex c fs t1 S1 => rw [ea] at h; exact h
    | no => rw [ea] at h; exact h
theorem s_one {st : Stmt} {a : SS} (h1 : SOk X W st a) : SsOk X W [st] a := pss_one h1
theorem s_pass {pos : Pos} : SOk X W (.Pass pos) sNil := PS_imp ps_pass fun D s H ⟨r, t, S, hs, R, h⟩ => h r H s .refl R hs
theorem s_brk {pos : Pos} : SOk X W (.Break pos) sBrk := PS_imp ps_break fun D s H ⟨r, t, S, hs, R, h⟩ => h r H s .refl R hs
theorem s_cnt {pos : Pos} : SOk X W (.Continue pos) sCnt := PS_imp ps_continue fun D s H ⟨r, t, S, hs, R, h⟩ => h r H s .refl R hs
theorem s_doc {x : Str} {j : Nat} {pos pos' : Pos} : SOk X W (.Expr (.Constant (.str x) j pos) pos') sNil := PS_imp ps_doc fun D s H ⟨r, t, S, hs, R, h⟩ => h r H s .refl R hs
theorem s_expr {e : Expr} {m : SE} {pos : Pos} (he : EOk X W e m) (hsw : swapsWith e none pos.line X.env = pure false) : SOk X W (.Expr e pos) (sExpr m) :=
  PS_imp (ps_expr he hsw) fun D s H ⟨r, t, S, hs, R, h⟩ => rd_SE (D := D) hs R h fun r' v S' H' w e R' hs' hv h' => h' r' H' s .refl R' hs'
theorem s_ret {e : Expr} {m : SE} {pos : Pos} (he : EOk X W e m) : SOk X W (.Return (some e) pos) (sRet m) :=
  PS_imp (ps_ret he) fun D s H ⟨r, t, S, hs, R, h⟩ => rd_SE (D := D) hs R h fun r' v S' H' w e R' hs' hv h' => h' r' H' w .refl R' hv
theorem s_retN {pos : Pos} : SOk X W (.Return none pos) sRetN := PS_imp ps_retN fun D s H ⟨r, t, S, hs, R, h⟩ => h r H .non .refl R .non
theorem s_if {c : Expr} {a b : List Stmt} {mc : SB} {ma mb : SS} {pos : Pos} (hc : BOk X W c mc) (ha : SsOk X W a ma) (hb : SsOk X W b mb) : SOk X W (.If c a b pos) (sIf mc ma mb) :=
  PS_imp (ps_if hc ha hb) fun D s H ⟨r, t, S, hs, R, h⟩ => rd_SB (D := D) hs R h fun r' v S' H' e R' hs' h' => by
    cases v with
    | true => rw [if_pos rfl] at h' ⊢; exact ⟨r', t, S', hs', R', h'⟩
    | false => rw [if_neg (by simp)] at h' ⊢; exact ⟨r', t, S', hs', R', h'⟩

/-! ### targets -/
mutual
theorem tg_run {r : List Addr} {H : Hp} {S : Sto} (R : Rel X.K X.mg r S H) : ∀ (g : Tg) {v : IV} {w : V} {t t' : Slo} {s : VSt} {own : List Nat} {Q : VSt → Hp → Prop}, VR X.K X.mg r H v w → St1 X.K X.mg r X.N.length t s H → tgSet S g v t = some t' →
    (∀ s', St1 X.K X.mg r X.N.length t' s' H → (tgIn own g = true → L2.wipe s' own = L2.wipe s own) → Q s' H) → tgOf X.K g w s H Q
  | .nm i, v, w, t, t', s, own, Q, hv, hs, e, q => by
    simp only [tgSet] at e
    cases e
    refine q _ (hs.set i hv) fun hi => ?_
    simp only [tgIn] at hi
    exact wipe_set (by simpa using hi)
  | .tu ts, v, w, t, t', s, own, Q, hv, hs, e, q => by
    simp only [tgSet] at e
    simp only [tgOf]
    split at e
    · cases hv with | tup q1 q2 => exact .inl ⟨_, _, rfl, q1.t, by rw [← q2.length]; exact tgs_len ts e, tgs_run R ts q2 hs e q⟩
    · split at e
      · rename_i xs hx
        obtain ⟨a, vs, rfl, s1, s2⟩ := R.items hx hv
        exact .inr ⟨_, _, rfl, s1, by rw [← s2.length]; exact tgs_len ts e, tgs_run R ts s2 hs e q⟩
      · cases e
theorem tgs_run {r : List Addr} {H : Hp} {S : Sto} (R : Rel X.K X.mg r S H) : ∀ (gs : List Tg) {vs : List IV} {ws : List V} {t t' : Slo} {s : VSt} {own : List Nat} {Q : VSt → Hp → Prop}, VRs X.K X.mg r H vs ws → St1 X.K X.mg r X.N.length t s H → tgSets S gs vs t = some t' →
    (∀ s', St1 X.K X.mg r X.N.length t' s' H → (tgsIn own gs = true → L2.wipe s' own = L2.wipe s own) → Q s' H) → tgsOf X.K gs ws s H Q
  | [], _, _, t, t', s, own, Q, .nil, hs, e, q => by
    simp only [tgSets] at e
    cases e
    exact ⟨rfl, q s hs fun _ => rfl⟩
  | [], _, _, t, t', s, own, Q, .cons _ _, hs, e, q => by simp only [tgSets] at e; cases e
  | g :: gs, _, _, t, t', s, own, Q, .nil, hs, e, q => by simp only [tgSets] at e; cases e
  | g :: gs, _, _, t, t', s, own, Q, .cons (x := x) (v := v) (xs := xs) (vs := vs) h1 h2, hs, e, q => by
    simp only [tgSets] at e
    split at e
    · rename_i t1 e1
      refine ⟨v, vs, rfl, tg_run R g (own := own) h1 hs e1 fun s1 hs1 hw1 => tgs_run R gs (own := own) h2 hs1 e fun s2 hs2 hw2 => q s2 hs2 fun hi => ?_⟩
      simp only [tgsIn, Bool.and_eq_true] at hi
      rw [hw2 hi.2, hw1 hi.1]
    · cases e
theorem tgs_len {S : Sto} : ∀ (gs : List Tg) {vs : List IV} {t t' : Slo}, tgSets S gs vs t = some t' → vs.length = gs.length
  | [], [], _, _, _ => rfl
  | [], _ :: _, _, _, e => by simp only [tgSets] at e; cases e
  | _ :: _, [], _, _, e => by simp only [tgSets] at e; cases e
  | g :: gs, x :: xs, t, t', e => by
    simp only [tgSets] at e
    split at e
    · rw [List.length_cons, List.length_cons, tgs_len gs e]
    · cases e
theorem wipe_set {s : VSt} {i : Nat} {w : V} : ∀ {own : List Nat}, i ∈ own → L2.wipe (s.set i (some w)) own = L2.wipe s own
  | j :: own, h => by
    simp only [L2.wipe]
    by_cases hj : i ∈ own
    · rw [wipe_set hj]
    · have : i = j := by simpa [hj] using h
      subst this
      exact wipe_set_ne own
theorem wipe_set_ne {s : VSt} {i : Nat} {w : V} : ∀ (own : List Nat), (L2.wipe (s.set i (some w)) own).set i none = (L2.wipe s own).set i none
  | [] => by simp only [L2.wipe, List.set_set]
  | j :: own => by
    simp only [L2.wipe]
    by_cases e : j = i
    · subst e; rw [List.set_set, List.set_set]; exact wipe_set_ne own
    · rw [List.set_comm _ _ e, wipe_set_ne own, List.set_comm _ _ e]
end
abbrev TgOk (X : Cx) (e : Expr) (g : Tg) : Prop := PG X e (tgOf X.K g)
theorem pg_or {e : Expr} {g g' : TG} (h : PG X e g) (h' : PG X e g') : PG X e (fun v σ H Q => g v σ H Q ∨ g' v σ H Q) :=
  ⟨fun pins s σ H v u Q I rv z => z.elim (h.run pins s σ H v u Q I rv) (h'.run pins s σ H v u Q I rv)⟩
theorem s_asg {tg : Expr} {g : Tg} {e : Expr} {m : SE} {pos : Pos} (hg : TgOk X tg g) (he : EOk X W e m) (hsw : swapsWithSole [tg] e pos.line X.env = pure false) (hw : swappedStores [tg] e X.env = pure none) (h1 : (assignEach [tg] X.env).map (·.2) = [assign tg X.env]) : SOk X W (.Assign [tg] e pos) (sAsg g m) :=
  PS_imp (ps_asg he hg hsw hw h1) fun D s H ⟨r, t, S, hs, R, h⟩ => rd_SE (D := D) hs R h fun r' v S' H' w e R' hs' hv h' => by
    split at h'
    · rename_i t1 et
      exact tg_run R' g (own := []) hv hs' et fun s1 hs1 _ => h' r' H' s1 .refl R' hs1
    · exact h'.elim
theorem tg_nm {i : Nat} {x : Str} {pos : Pos} (hN : X.N.Nodup) (hi : X.N[i]? = some x) (hx : Loc X.env.scope x) (hf : X.fn x = true ∨ X.env.scope.names.lookup x = some .local) : TgOk X (.Name x pos) (.nm i) := by
  unfold TgOk tgOf
  exact pg_name hN hi hx hf
abbrev TgsOk (X : Cx) (es : List Expr) (gs : List Tg) : Prop := PGs X es (tgsOf X.K gs)
theorem tgs_nil : TgsOk X [] [] := by unfold TgsOk tgsOf; exact pgs_nil
theorem tgs_cons {e : Expr} {es : List Expr} {g : Tg} {gs : List Tg} (h : TgOk X e g) (hs : TgsOk X es gs) (he : (assignEach (e :: es) X.env).map (·.2) = assign e X.env :: (assignEach es X.env).map (·.2)) : TgsOk X (e :: es) (g :: gs) := by
  unfold TgsOk tgsOf
  exact pgs_cons h hs he
theorem tg_tu {es : List Expr} {gs : List Tg} {k : Nat} {pos : Pos} (hc : X.calm = true) (h : TgsOk X es gs) (hn : (assignEach es X.env).length = gs.length) (hst : (assignEach es X.env).findIdx? (·.1) = none) : TgOk X (.Tuple es k pos) (.tu gs) := by
  unfold TgOk tgOf
  exact pg_or (pg_tup hc h hn hst) (pg_unl hc h hn hst)

/-! ### x op= e, o[i] = e -/
theorem s_aug {i : Nat} {x : Str} {op : Operator} {f : O2} {e : Expr} {m : SE} {pos pos' : Pos} (hN : X.N.Nodup) (hi : X.N[i]? = some x) (hx : Loc X.env.scope x) (hf : X.fn x = true ∨ X.env.scope.names.lookup x = some .local)
    (ho : OpR X (inplaceOp op) (rO2 X f)) (he : EOk X W e m) : SOk X W (.AugAssign (.Name x pos') op e pos) (sAug f i m) :=
  PS_imp (ps_aug (ti := rO2 X f) hN hi hx he ho hf) fun D s H ⟨r, t, S, hs, R, h⟩ => by
    unfold sAug at h
    split at h
    · rename_i u eu
      obtain ⟨w, e1, e2⟩ := hs.at_ i u eu
      refine ⟨w, e1, rd_SE (D := D) hs R h fun r' v S' H' y ex R' hs' hv h' => ?_⟩
      refine ⟨r', S', u, v, R', e2.mono R ex, hv, ?_⟩
      cases ef : f u v S' with
      | none => rw [ef] at h'; exact h'.elim
      | some p =>
        rw [ef] at h'
        exact ⟨p.1, p.2, rfl, fun r2 H2 z e3 R2 hz => h' r2 H2 _ e3 R2 ((hs'.mono R' e3).set i hz)⟩
    · exact h.elim
/-- a[i] = v by values: a list or a dict -/
def rPut (X : Cx) : TSet := fun o i v H Q => ∃ r S a b c S', Rel X.K X.mg r S H ∧ VR X.K X.mg r H a o ∧ VR X.K X.mg r H b i ∧ VR X.K X.mg r H c v ∧ putO a b c S = some S' ∧ ∀ H', Ex r H r H' → Rel X.K X.mg r S' H' → Q H'
theorem setR_by {q : TSet} (h : ∀ o i v H Q, q o i v H Q → ∃ p, PSet X p ∧ p o i v H Q) : PSet X q := fun pins s σ H o i v ov iv u Q I ro ri rv z => by
  obtain ⟨p, k, e⟩ := h o i v H Q z
  exact k pins s σ H o i v ov iv u Q I ro ri rv e
theorem set_dict1 (hu : X.A.units + 1 < cLine) : PSet X (fun o i v H Q => ∃ a H', o = .ref a ∧ DPut H a i v H' ∧ Q H') := fun pins s σ H o i v ov iv u Q I ro ri rv ⟨a, H', e, g, q⟩ => by
  subst e
  obtain rfl : ov = Value.ref a := ro
  exact d_setItem hu I g ri rv fun s' I' => ⟨H', I', q⟩
theorem o_put (hu : X.A.units + 1 < cLine) : PSet X (rPut X) := setR_by fun o i v H Q h => by
  obtain ⟨r, S, a, b, c, S', R, h1, h2, h3, e, q⟩ := h
  unfold putO at e
  split at e
  · rename_i j xs hk
    obtain ⟨a, vs, rfl, q1, s1, s2⟩ := lstI_ok R h1 hk
    split at e
    · rename_i k
      cases h2
      simp only [Option.map_eq_some_iff] at e
      obtain ⟨n, e1, e2⟩ := e
      subst e2
      refine ⟨_, set_list, _, vs, k, n, rfl, rfl, s1, by rw [← s2.length]; exact e1, ?_⟩
      obtain ⟨x, R'⟩ := R.write (u := .lst (vs.set n v)) (o := .lst (xs.set n c)) q1 fun x => ⟨_, upd_same, (s2.mono R x).set n (h3.mono R x)⟩
      exact q _ x R'
    · cases e
  · split at e
    · rename_i j kvs hk
      obtain ⟨a, ws, rfl, q1, s1, s2⟩ := R.dct hk h1
      simp only [Option.bind_eq_some_iff] at e
      obtain ⟨key, e1, e2⟩ := e
      split at e2
      · rename_i hl
        cases e2
        have ek := keyI_ok h2 e1
        refine ⟨_, set_dict1 hu, _, _, rfl, .inl ⟨ws, key, s1, ek, by rw [sl16, ← s2.length]; exact hl, rfl⟩, ?_⟩
        obtain ⟨x, R'⟩ := R.write (u := .dK (putK ws key v)) (o := .dct (putI kvs key c)) q1 fun x => ⟨_, upd_same, (s2.mono R x).put key (h3.mono R x)⟩
        exact q _ x R'
      · cases e2
    · cases e
theorem s_put {o i e : Expr} {mo mi m : SE} {pos pos' : Pos} (hu : X.A.units + 1 < cLine) (ho : EOk X W o mo) (hi : EOk X W i mi) (he : EOk X W e m)
    (hsw : swapsWithSole [.Subscript o i pos'] e pos.line X.env = pure false) (hw : swappedStores [.Subscript o i pos'] e X.env = pure none) (h1 : (assignEach [.Subscript o i pos'] X.env).map (·.2) = [assign (.Subscript o i pos') X.env])
    (ha : ∀ v, assign (.Subscript o i pos') X.env v = (do
      let ov ← holding [v] (eval o X.env)
      let iv ← holding [v, ov] (eval i X.env)
      standAt pos'
      holding [v, ov, iv] (setItem ov iv v)
      release [v, ov, iv] [])) : SOk X W (.Assign [.Subscript o i pos'] e pos) (sPut mo mi m) :=
  PS_imp (ps_asg he (pg_sub ho hi (o_put hu) ha) hsw hw h1) fun D s H ⟨r, t, S, hs, R, h⟩ => by
    have h : Aft X.K X.mg (fun c d H' => W c d s H') ((m t S).bind (fun v S1 => (mo t S1).bind fun x S2 => (mi t S2).bind fun y S3 => match putO x y v S3 with
      | some S4 => .ok () S4
      | none => .no)) r H (fun r' _ S' H' => Rel X.K X.mg r' S' H' → St1 X.K X.mg r' X.N.length t s H' → D.nx s H') := by
      unfold sPut at h
      revert h
      generalize ((m t S).bind _ : IP.R Unit) = z
      intro h
      cases z with
      | ok a S1 => exact fun r' H' e R' R2 hs2 => h r' H' s e R' hs2
      | ex c fs S1 => exact fun r' H' cls d e R' z => h r' H' s cls d e R' (hs.mono R e) z
      | no => exact h
    refine rd_E hs R (Aft.bind h) fun r1 u S1 H1 x e1 R1 hs1 hu1 ⟨_, _, h1⟩ => ?_
    refine rd_E hs1 R1 (Aft.bind h1) fun r2 v S2 H2 y e2 R2 hs2 hv2 ⟨_, _, h2⟩ => ?_
    refine rd_E hs2 R2 (Aft.bind h2) fun r3 k S3 H3 z e3 R3 hs3 hk3 ⟨_, _, h3⟩ => ?_
    split at h3
    · rename_i S4 ep
      exact ⟨r3, S3, v, k, u, S4, R3, hv2.mono R2 e3, hk3, (hu1.mono R1 e2).mono R2 e3, ep, fun H4 e4 R4 => h3 r3 H4 e4 R4 R4 (hs3.mono R3 e4)⟩
    · exact h3.elim
end
end IP

/-! IPyG: loops and comprehensions. -/
namespace IP
open PySem PySem.Spec PyProof.Rows L2

inductive ItS where
  | lst (v : IV)
  | tup (xs : List IV)
  | str (z : Str)
  | rng (lo c : Int) (n : Nat)
  | enum (v : IV)
  | zip (v w : IV)
  | rev (v : IV) (n : Nat)

def nextAt (it : ItS) (n : Nat) (S : Sto) : Option (Option IV) := match it with
  | .lst v => (seqI v S).map fun xs => xs[n]?
  | .tup xs => some xs[n]?
  | .str z => some (z.cps[n]?.map fun c => .str ⟨#[c]⟩)
  | .rng lo c k => some (if n < k then some (.int (lo + n * c)) else none)
  | .enum v => (seqI v S).map fun xs => xs[n]?.map fun x => .tup [.int n, x]
  | .zip v w => match seqI v S, seqI w S with
    | some xs, some ys => some (match xs[n]?, ys[n]? with
      | some x, some y => some (.tup [x, y])
      | _, _ => none)
    | _, _ => none
  | .rev v k => if n < k then (seqI v S).bind fun xs => xs[k - 1 - n]?.map some else some none

abbrev SI := Slo → Sto → R ItS

def ItOk (K : PySem.W.Frag) (mg : Str → Option Value) (r0 : List Addr) (H0 : Hp) (it : ItS) (J : It) : Prop :=
  ∀ r S H, Ex r0 H0 r H → Rel K mg r S H → ∀ n, match nextAt it n S with
    | none => True
    | some none => J.stop n H
    | some (some v) => J.go n H ∧ ∀ x H', J.yld n H x H' → Ex r H r H' ∧ Rel K mg r S H' ∧ VR K mg r H' v x
theorem ItOk.mono {K : PySem.W.Frag} {mg : Str → Option Value} {r0 r1 : List Addr} {H0 H1 : Hp} {it : ItS} {J : It} (h : ItOk K mg r0 H0 it J) (e : Ex r0 H0 r1 H1) : ItOk K mg r1 H1 it J :=
  fun r S H e2 R n => h r S H (e.trans e2) R n

def tIt (X : Cx) (W : WX) (m : SI) : TI := fun s H Q => ∃ r t S, St1 X.K X.mg r X.N.length t s H ∧ Rel X.K X.mg r S H ∧
  Aft X.K X.mg (fun c d H' => W c d s H') (m t S) r H (fun r' it _ H' => ∀ J, ItOk X.K X.mg r' H' it J → Q J H')
abbrev IOk (X : Cx) (W : WX) (tg e : Expr) (m : SI) : Prop := PI X tg e (tIt X W m)
theorem PI_imp {X : Cx} {tg e : Expr} {t u : TI} (h : PI X tg e t) (k : ∀ s H Q, u s H Q → t s H Q) : PI X tg e u :=
  ⟨fun pins s σ H Q I q => h.run pins s σ H Q I (k σ H Q q)⟩

section
variable {X : Cx} {W : WX} {tg : Expr}
/-! ### what is walked -/
theorem pi_any {e : Expr} {te : TE} (he : PE X e te) : PI X tg e (fun s H Q => te s H fun x H1 => (∃ a, x = .ref a ∧ (∃ xs, SqL X.K H1 a xs) ∧ Q (Itl X.K a) H1) ∨ (∃ a, x = .ref a ∧ (∃ xs, SqT X.K H1 a xs) ∧ Q (Itt X.K a) H1) ∨ ∃ z, x = .str z ∧ Q (Its z) H1) := by
  refine ⟨fun pins s σ H Q I h => ?_⟩
  refine thn (he.run pins s σ H _ I h) fun v s1 ⟨x, H1, I1, r1, q1⟩ => ?_
  rcases q1 with ⟨a, e, ⟨xs, hq⟩, q⟩ | ⟨a, e, ⟨xs, hq⟩, q⟩ | ⟨z, e, q⟩
  · subst e
    cases r1
    obtain ⟨its, rv, p, hz⟩ := I1.list hq
    refine wpAny_pyIter_list p.isList ?_
    refine ⟨s1.heap.objs.size, [s1.heap.objs.size], _, _, H1, rfl, I1.kept (t' := s1.toks) fun b o e => Heap.get?_push_of_some _ e, turn_list a _, ⟨_, Heap.get?_push_size _ rfl, rfl, rfl⟩, fun b hb => ?_, q⟩
    have e : b = s1.heap.objs.size := by simpa using hb
    subst e
    exact I1.fpOk (Nat.le_refl _) (I1.hok.fresh (Nat.le_refl _))
  · subst e
    cases r1
    obtain ⟨its, rv, p, hz⟩ := I1.tuple hq
    refine wpAny_pyIter_tuple (show s1.heap.IsTuple a its.toArray from p) ?_
    refine ⟨s1.heap.objs.size, [s1.heap.objs.size], _, _, H1, rfl, I1.kept (t' := s1.toks) fun b o e => Heap.get?_push_of_some _ e, turn_tuple a _, ⟨_, Heap.get?_push_size _ rfl, rfl, rfl⟩, fun b hb => ?_, q⟩
    have e : b = s1.heap.objs.size := by simpa using hb
    subst e
    exact I1.fpOk (Nat.le_refl _) (I1.hok.fresh (Nat.le_refl _))
  · subst e
    obtain ⟨t, rfl⟩ := r1
    cases ha : z.cps.all (· < 128)
    · exact wpAny_pyIter_wide ha (pi_one (tk := s1.toks) I1 _ (turn_str _ z t "str_iterator" (.inr rfl)) ⟨_, Heap.get?_push_size _ rfl, rfl, rfl⟩ q)
    · exact wpAny_pyIter_ascii ha (pi_one (tk := s1.toks) I1 _ (turn_str _ z t "str_ascii_iterator" (.inl rfl)) ⟨_, Heap.get?_push_size _ rfl, rfl, rfl⟩ q)

theorem it_lst {K : PySem.W.Frag} {mg : Str → Option Value} {r : List Addr} {H : Hp} {S0 : Sto} {i : IV} {a : Addr} (R0 : Rel K mg r S0 H) (ha : VR K mg r H i (.ref a)) : ItOk K mg r H (.lst i) (Itl K a) := fun r2 S H2 e R n => by
  simp only [nextAt]
  cases ei : seqI i S with
  | none => trivial
  | some xs =>
    obtain ⟨a', vs, ea, s1, s2⟩ := R.items ei (ha.mono R0 e); cases ea
    simp only [Option.map_some]
    cases ex : xs[n]? with
    | none => exact ⟨vs, s1, by rw [← s2.length]; exact List.getElem?_eq_none_iff.mp ex⟩
    | some x =>
      obtain ⟨w, e1, e2⟩ := s2.get ex
      refine ⟨⟨vs, w, s1, e1⟩, fun y H' hy => ?_⟩
      obtain ⟨rfl, hy⟩ := hy
      have : y = w := Option.some.inj ((hy vs s1).symm.trans e1)
      subst this
      exact ⟨.refl, R, e2⟩
theorem it_tup {K : PySem.W.Frag} {mg : Str → Option Value} {r : List Addr} {S : Sto} {H : Hp} {xs : List IV} {a : Addr} {vs : List V} (R : Rel K mg r S H) (q1 : SqU K H a vs) (q2 : VRs K mg r H xs vs) : ItOk K mg r H (.tup xs) (Itt K a) := fun r2 S2 H2 e R2 n => by
  simp only [nextAt]
  have s1 := (sqU_mono R e q1).t
  have s2 := q2.mono R e
  cases ex : xs[n]? with
  | none => exact ⟨vs, s1, by rw [← s2.length]; exact List.getElem?_eq_none_iff.mp ex⟩
  | some x =>
    obtain ⟨w, e1, e2⟩ := s2.get ex
    refine ⟨⟨vs, w, s1, e1⟩, fun y H' hy => ?_⟩
    obtain ⟨rfl, hy⟩ := hy
    have : y = w := Option.some.inj ((hy vs s1).symm.trans e1)
    subst this
    exact ⟨.refl, R2, e2⟩
theorem it_str {K : PySem.W.Frag} {mg : Str → Option Value} {r : List Addr} {H : Hp} {z : Str} : ItOk K mg r H (.str z) (Its z) := fun r2 S2 H2 e R2 n => by
  simp only [nextAt]
  cases ex : z.cps[n]? with
  | none => exact Array.getElem?_eq_none_iff.mp ex
  | some c =>
    refine ⟨(Array.getElem?_eq_some_iff.mp ex).1, fun y H' hy => ?_⟩
    obtain ⟨rfl, c', h1, rfl⟩ := hy
    rw [ex] at h1
    cases h1
    exact ⟨.refl, R2, .str _⟩
theorem it_rng {K : PySem.W.Frag} {mg : Str → Option Value} {r : List Addr} {H : Hp} {lo c : Int} {k : Nat} : ItOk K mg r H (.rng lo c k) (Itc lo c k) := fun r2 S2 H2 e R2 n => by
  simp only [nextAt]
  by_cases h : n < k
  · rw [if_pos h]
    refine ⟨h, fun y H' hy => ?_⟩
    obtain ⟨rfl, rfl⟩ := hy
    exact ⟨.refl, R2, .int _⟩
  · rw [if_neg h]
    exact Nat.le_of_not_lt h
theorem it_rng1 {K : PySem.W.Frag} {mg : Str → Option Value} {r : List Addr} {H : Hp} {lo : Int} {k : Nat} : ItOk K mg r H (.rng lo 1 k) (Itr lo k) := fun r2 S2 H2 e R2 n => by
  simp only [nextAt]
  by_cases h : n < k
  · rw [if_pos h]
    refine ⟨h, fun y H' hy => ?_⟩
    obtain ⟨rfl, rfl⟩ := hy
    rw [Int.mul_one]
    exact ⟨.refl, R2, .int _⟩
  · rw [if_neg h]
    exact Nat.le_of_not_lt h
theorem it_enum {K : PySem.W.Frag} {mg : Str → Option Value} {r : List Addr} {H : Hp} {S0 : Sto} {i : IV} {a : Addr} (R0 : Rel K mg r S0 H) (ha : VR K mg r H i (.ref a)) : ItOk K mg r H (.enum i) (Ite K a) := fun r2 S H2 e R n => by
  simp only [nextAt]
  cases ei : seqI i S with
  | none => trivial
  | some xs =>
    obtain ⟨a', vs, ea, s1, s2⟩ := R.items ei (ha.mono R0 e); cases ea
    simp only [Option.map_some]
    cases ex : xs[n]? with
    | none => exact ⟨vs, s1, by rw [← s2.length]; exact List.getElem?_eq_none_iff.mp ex⟩
    | some x =>
      obtain ⟨w, e1, e2⟩ := s2.get ex
      refine ⟨⟨vs, w, s1, e1⟩, fun y H' hy => ?_⟩
      obtain ⟨T, x', rfl, hT, rfl, hy⟩ := hy
      have : x' = w := Option.some.inj ((hy vs s1).symm.trans e1)
      subst this
      obtain ⟨x1, R1⟩ := R.beside (u := .tup [.int (n : Nat), x']) hT
      exact ⟨x1, R1, .tup (.inl upd_same) (.cons (.int _) (.cons (e2.mono R x1) .nil))⟩
theorem it_zip {K : PySem.W.Frag} {mg : Str → Option Value} {r : List Addr} {H : Hp} {S0 : Sto} {i j : IV} {a b : Addr} (R0 : Rel K mg r S0 H) (ha : VR K mg r H i (.ref a)) (hb : VR K mg r H j (.ref b)) : ItOk K mg r H (.zip i j) (Itz K a b) := fun r2 S H2 e R n => by
  simp only [nextAt]
  cases ei : seqI i S with
  | none => trivial
  | some xs =>
    cases ej : seqI j S with
    | none => trivial
    | some ys =>
      obtain ⟨a', vs, ea, s1, s2⟩ := R.items ei (ha.mono R0 e); cases ea
      obtain ⟨b', ws, eb, s3, s4⟩ := R.items ej (hb.mono R0 e); cases eb
      simp only
      cases ex : xs[n]? with
      | none => exact ⟨vs, ws, s1, s3, .inl (by rw [← s2.length]; exact List.getElem?_eq_none_iff.mp ex)⟩
      | some x =>
        cases ey : ys[n]? with
        | none => exact ⟨vs, ws, s1, s3, .inr (by rw [← s4.length]; exact List.getElem?_eq_none_iff.mp ey)⟩
        | some y =>
          obtain ⟨w, e1, e2⟩ := s2.get ex
          obtain ⟨w', e3, e4⟩ := s4.get ey
          refine ⟨⟨vs, ws, w, w', s1, s3, e1, e3⟩, fun z H' hz => ?_⟩
          obtain ⟨T, x', y', rfl, hT, rfl, hx, hy⟩ := hz
          have t1 : x' = w := Option.some.inj ((hx vs s1).symm.trans e1)
          have t2 : y' = w' := Option.some.inj ((hy ws s3).symm.trans e3)
          subst t1
          subst t2
          obtain ⟨x1, R1⟩ := R.beside (u := .tup [x', y']) hT
          exact ⟨x1, R1, .tup (.inl upd_same) (.cons (e2.mono R x1) (.cons (e4.mono R x1) .nil))⟩
theorem it_rev {K : PySem.W.Frag} {mg : Str → Option Value} {r : List Addr} {H : Hp} {S0 : Sto} {i : IV} {k : Nat} {a : Addr} (R0 : Rel K mg r S0 H) (ha : VR K mg r H i (.ref a)) : ItOk K mg r H (.rev i k) (Itv K a k) := fun r2 S H2 e R n => by
  simp only [nextAt]
  by_cases h : n < k
  · rw [if_pos h]
    cases ei : seqI i S with
    | none => trivial
    | some xs =>
      obtain ⟨a', vs, ea, s1, s2⟩ := R.items ei (ha.mono R0 e); cases ea
      simp only [Option.bind_some]
      cases ex : xs[k - 1 - n]? with
      | none => trivial
      | some x =>
        obtain ⟨w, e1, e2⟩ := s2.get ex
        refine ⟨⟨h, vs, w, s1, e1⟩, fun y H' hy => ?_⟩
        obtain ⟨rfl, hy⟩ := hy
        have : y = w := Option.some.inj ((hy vs s1).symm.trans e1)
        subst this
        exact ⟨.refl, R, e2⟩
  · rw [if_neg h]
    exact Nat.le_of_not_lt h

def iVal (a : SE) : SI := fun t S => (a t S).bind fun v S1 => match v with
  | .tup xs => .ok (.tup xs) S1
  | .str z => .ok (.str z) S1
  | v => match seqI v S1 with
    | some _ => .ok (.lst v) S1
    | none => .no
theorem i_val {e : Expr} {m : SE} (he : EOk X W e m) : IOk X W tg e (iVal m) :=
  PI_imp (pi_any he) fun s H Q ⟨r, t, S, hs, R, h⟩ => rd_E hs R (Aft.bind h) fun r1 u S1 H1 x e1 R1 hs1 hu ⟨_, _, h1⟩ => by
    split at h1
    · cases hu with | tup q1 q2 => exact .inr (.inl ⟨_, rfl, ⟨_, q1.t⟩, h1 r1 H1 .refl R1 _ (it_tup R1 q1 q2)⟩)
    · cases hu; exact .inr (.inr ⟨_, rfl, h1 r1 H1 .refl R1 _ it_str⟩)
    · split at h1
      · rename_i xs hx
        obtain ⟨a, vs, rfl, s1, s2⟩ := R1.items hx hu
        exact .inl ⟨_, rfl, ⟨vs, s1⟩, h1 r1 H1 .refl R1 _ (it_lst R1 hu)⟩
      · exact h1.elim
def small62 (i : Int) : Bool := decide (-(2 ^ 62) ≤ i ∧ i < 2 ^ 62)
def iRange1 (a : SA) : SI := fun t S => (a t S).bind fun vs S1 => match vs with
  | [.int j] => if small62 j then .ok (.rng 0 1 j.toNat) S1 else .no
  | _ => .no
def iRange2 (a : SA) : SI := fun t S => (a t S).bind fun vs S1 => match vs with
  | [.int i, .int j] => if small62 i && small62 j then .ok (.rng i 1 (j - i).toNat) S1 else .no
  | _ => .no
def iRange3 (a : SA) : SI := fun t S => (a t S).bind fun vs S1 => match vs with
  | [.int i, .int j, .int c] => if small62 i && small62 j && decide (c = -1) then .ok (.rng i (-1) (i - j).toNat) S1 else .no
  | _ => .no
def iEnumS (a : SA) : SI := fun t S => (a t S).bind fun vs S1 => match vs with
  | [v] => match seqI v S1 with
    | some _ => .ok (.enum v) S1
    | none => .no
  | _ => .no
def iZipS (a : SA) : SI := fun t S => (a t S).bind fun vs S1 => match vs with
  | [v, w] => match seqI v S1, seqI w S1 with
    | some _, some _ => .ok (.zip v w) S1
    | _, _ => .no
  | _ => .no
def iRevS (a : SA) : SI := fun t S => (a t S).bind fun vs S1 => match vs with
  | [v] => match seqI v S1 with
    | some xs => .ok (.rev v xs.length) S1
    | none => .no
  | _ => .no
theorem i_range1 {a : Expr} {ma : SA} {p pos : Pos} (hg : Gl X "range") (hm : X.mg "range" = none) (ha : AOk X W [a] ma) (hs : starEach [a] X.env = [(false, eval a X.env)]) : IOk X W tg (.Call (.Name "range" p) [a] [] pos) (iRange1 ma) :=
  PI_imp (pi_range1 hg hm ha hs) fun s H Q ⟨r, t, S, hs, R, h⟩ => rd_A hs R (Aft.bind h) fun r1 us S1 H1 xs e1 R1 hs1 hus ⟨_, _, h1⟩ => by
    split at h1
    · split at h1
      · rename_i hl
        have hl := of_decide_eq_true hl
        cases hus with | cons k1 k2 =>
        cases k2; cases k1
        exact ⟨_, rfl, hl.1, hl.2, h1 r1 H1 .refl R1 _ it_rng1⟩
      · exact h1.elim
    · exact h1.elim
theorem i_range2 {a b : Expr} {ma : SA} {p pos : Pos} (hg : Gl X "range") (hm : X.mg "range" = none) (ha : AOk X W [a, b] ma) (hs : starEach [a, b] X.env = [(false, eval a X.env), (false, eval b X.env)]) (hs2 : starEach [b] X.env = [(false, eval b X.env)]) :
    IOk X W tg (.Call (.Name "range" p) [a, b] [] pos) (iRange2 ma) :=
  PI_imp (pi_range2 hg hm ha hs hs2) fun s H Q ⟨r, t, S, hs, R, h⟩ => rd_A hs R (Aft.bind h) fun r1 us S1 H1 xs e1 R1 hs1 hus ⟨_, _, h1⟩ => by
    split at h1
    · split at h1
      · rename_i hl
        rw [Bool.and_eq_true] at hl
        have hl1 := of_decide_eq_true hl.1
        have hl2 := of_decide_eq_true hl.2
        cases hus with | cons k1 k2 => cases k2 with | cons k3 k4 =>
        cases k4; cases k3; cases k1
        exact ⟨_, _, rfl, ⟨hl1.1, hl1.2, hl2.1, hl2.2⟩, h1 r1 H1 .refl R1 _ it_rng1⟩
      · exact h1.elim
    · exact h1.elim
theorem i_range3 {a b c : Expr} {ma : SA} {p pos : Pos} (hg : Gl X "range") (hm : X.mg "range" = none) (ha : AOk X W [a, b, c] ma)
    (hs : starEach [a, b, c] X.env = (false, eval a X.env) :: starEach [b, c] X.env) (hpl : (backTo pos (starEach [b, c] X.env)).any (·.1) = false) : IOk X W tg (.Call (.Name "range" p) [a, b, c] [] pos) (iRange3 ma) :=
  PI_imp (pi_range3 hg hm ha hs hpl) fun s H Q ⟨r, t, S, hs, R, h⟩ => rd_A hs R (Aft.bind h) fun r1 us S1 H1 xs e1 R1 hs1 hus ⟨_, _, h1⟩ => by
    split at h1
    · split at h1
      · rename_i hl
        rw [Bool.and_eq_true, Bool.and_eq_true] at hl
        have hl1 := of_decide_eq_true hl.1.1
        have hl2 := of_decide_eq_true hl.1.2
        have hl3 := of_decide_eq_true hl.2
        cases hus with | cons k1 k2 => cases k2 with | cons k3 k4 => cases k4 with | cons k5 k6 =>
        cases k6; cases k5; cases k3; cases k1
        subst hl3
        exact ⟨_, _, _, _, rfl, RgC.neg hl1.1 hl1.2 hl2.1 hl2.2, h1 r1 H1 .refl R1 _ it_rng⟩
      · exact h1.elim
    · exact h1.elim
theorem i_enum {e : Expr} {elts : List Expr} {kk : Nat} {ma : SA} {p pos tpos : Pos} (hg : Gl X "enumerate") (hm : X.mg "enumerate" = none) (ha : AOk X W [e] ma) (hs : starEach [e] X.env = [(false, eval e X.env)]) :
    IOk X W (.Tuple elts kk tpos) (.Call (.Name "enumerate" p) [e] [] pos) (iEnumS ma) :=
  PI_imp (pi_enum hg hm ha hs) fun s H Q ⟨r, t, S, hs, R, h⟩ => rd_A hs R (Aft.bind h) fun r1 us S1 H1 xs e1 R1 hs1 hus ⟨_, _, h1⟩ => by
    split at h1
    · split at h1
      · rename_i ys hy
        cases hus with | cons k1 k2 =>
        cases k2
        obtain ⟨a, vs, rfl, s1, s2⟩ := R1.items hy k1
        exact ⟨_, vs, rfl, s1, h1 r1 H1 .refl R1 _ (it_enum R1 k1)⟩
      · exact h1.elim
    · exact h1.elim
theorem i_zip {e e2 : Expr} {elts : List Expr} {kk : Nat} {ma : SA} {p pos tpos : Pos} (hg : Gl X "zip") (hm : X.mg "zip" = none) (ha : AOk X W [e, e2] ma)
    (hs : starEach [e, e2] X.env = (false, eval e X.env) :: starEach [e2] X.env) (hpl : (backTo pos (starEach [e2] X.env)).any (·.1) = false) :
    IOk X W (.Tuple elts kk tpos) (.Call (.Name "zip" p) [e, e2] [] pos) (iZipS ma) :=
  PI_imp (pi_zip hg hm ha hs hpl) fun s H Q ⟨r, t, S, hs, R, h⟩ => rd_A hs R (Aft.bind h) fun r1 us S1 H1 xs e1 R1 hs1 hus ⟨_, _, h1⟩ => by
    split at h1
    · split at h1
      · rename_i ys zs hy hz
        cases hus with | cons k1 k2 => cases k2 with | cons k3 k4 =>
        cases k4
        obtain ⟨a, vs, rfl, s1, s2⟩ := R1.items hy k1
        obtain ⟨b, ws, rfl, s3, s4⟩ := R1.items hz k3
        exact ⟨_, _, vs, ws, rfl, s1, s3, h1 r1 H1 .refl R1 _ (it_zip R1 k1 k3)⟩
      · exact h1.elim
    · exact h1.elim
theorem i_rev {e : Expr} {ma : SA} {p pos : Pos} (hg : Gl X "reversed") (hm : X.mg "reversed" = none) (ha : AOk X W [e] ma) (hs : starEach [e] X.env = [(false, eval e X.env)]) : IOk X W tg (.Call (.Name "reversed" p) [e] [] pos) (iRevS ma) :=
  PI_imp (pi_reversed hg hm ha hs) fun s H Q ⟨r, t, S, hs, R, h⟩ => rd_A hs R (Aft.bind h) fun r1 us S1 H1 xs e1 R1 hs1 hus ⟨_, _, h1⟩ => by
    split at h1
    · split at h1
      · rename_i ys hy
        cases hus with | cons k1 k2 =>
        cases k2
        obtain ⟨a, vs, rfl, s1, s2⟩ := R1.items hy k1
        refine ⟨_, vs, rfl, s1, ?_⟩
        rw [← s2.length]
        exact h1 r1 H1 .refl R1 _ (it_rev R1 k1)
      · exact h1.elim
    · exact h1.elim

/-! ### for -/
def loopI (g : Tg) (b : SS) (it : ItS) : Nat → Nat → Slo → Sto → RS
  | 0, _, _, _ => .no
  | f + 1, n, t, S => match nextAt it n S with
    | none => .no
    | some none => .nx t S
    | some (some v) => match tgSet S g v t with
      | none => .no
      | some t1 => match b t1 S with
        | .nx t2 S2 => loopI g b it f (n + 1) t2 S2
        | .cnt t2 S2 => loopI g b it f (n + 1) t2 S2
        | .brk t2 S2 => .nx t2 S2
        | x => x
def sFor (g : Tg) (m : SI) (b : SS) : SS := fun t S => match m t S with
  | .ok it S1 => loopI g b it 1000000 0 t S1
  | .ex c fs S1 => .ex c fs t S1
  | .no => .no
theorem s_for {iter : Expr} {g : Tg} {m : SI} {body : List Stmt} {mb : SS} {pos : Pos} (hp : PassesOwn (model X.prog X.w) X.A X.env X.xe) (hc : X.calm = true) (hi : IOk X W tg iter m) (hg : TgOk X tg g) (hb : SsOk X W body mb)
    (hs : ∀ x, foldedSetIterable iter X.env x = pure x) : SOk X W (.For tg iter body [] pos) (sFor g m mb) :=
  PS_imp (ps_for hp hc hi hg hb hs) fun D s H ⟨r, t, S, hs, R, h⟩ => by
    unfold sFor at h
    refine ⟨r, t, S, hs, R, ?_⟩
    cases em : m t S with
    | no => rw [em] at h; exact h
    | ex c fs S1 => rw [em] at h; exact fun r' H' cls d e R' z => h r' H' s cls d e R' (hs.mono R e) z
    | ok it S1 =>
      rw [em] at h
      intro r1 H1 e1 R1 J hJ
      refine ⟨fun i k s H => ∃ r t S, Ex r1 H1 r H ∧ St1 X.K X.mg r X.N.length t s H ∧ Rel X.K X.mg r S H ∧ AftS X W (loopI g mb it k i t S) r H D, ⟨1000000, r1, t, S1, .refl, hs.mono R e1, R1, AftS.ext h e1⟩, ?_⟩
      rintro i k s2 H2 ⟨r2, t2, S2, e2, hs2, R2, h2⟩
      cases k with
      | zero => exact h2.elim
      | succ k =>
        have hj := hJ r2 S2 H2 e2 R2 i
        simp only [loopI] at h2
        cases en : nextAt it i S2 with
        | none => rw [en] at h2; exact h2.elim
        | some o =>
          rw [en] at h2 hj
          cases o with
          | none => exact .inl ⟨hj, h2 r2 H2 s2 .refl R2 hs2⟩
          | some v =>
            obtain ⟨hgo, hy⟩ := hj
            refine .inr ⟨hgo, fun s3 H3 => ∃ r t S, Ex r1 H1 r H3 ∧ St1 X.K X.mg r X.N.length t s3 H3 ∧ Rel X.K X.mg r S H3 ∧ AftS X W (loopI g mb it k (i + 1) t S) r H3 D, fun s3 H3 q => ⟨k, Nat.lt_succ_self _, q⟩, fun x H3 hx => ?_⟩
            obtain ⟨e3, R3, hv⟩ := hy x H3 hx
            simp only at h2
            cases et : tgSet S2 g v t2 with
            | none => rw [et] at h2; exact h2.elim
            | some t3 =>
              rw [et] at h2
              refine tg_run R3 g (own := []) hv (hs2.mono R2 e3) et fun s4 hs4 _ => ?_
              refine ⟨r2, t3, S2, hs4, R3, ?_⟩
              simp only at h2
              have h3 := AftS.ext h2 e3
              cases eb : mb t3 S2 with
              | nx t5 S5 => rw [eb] at h3; exact fun r5 H5 s5 e5 R5 hs5 => ⟨r5, t5, S5, (e2.trans e3).trans e5, hs5, R5, AftS.ext h3 e5⟩
              | cnt t5 S5 => rw [eb] at h3; exact fun r5 H5 s5 e5 R5 hs5 => ⟨r5, t5, S5, (e2.trans e3).trans e5, hs5, R5, AftS.ext h3 e5⟩
              | brk t5 S5 => rw [eb] at h3; exact h3
              | ret v5 S5 => rw [eb] at h3; exact h3
              | ex c fs t5 S5 => rw [eb] at h3; exact h3
              | no => rw [eb] at h3; exact h3

/-! ### while -/
def whileI (c : SB) (b : SS) : Nat → Slo → Sto → RS
  | 0, _, _ => .no
  | f + 1, t, S => match c t S with
    | .ok k S1 => if k then (match b t S1 with
        | .nx t2 S2 => whileI c b f t2 S2
        | .cnt t2 S2 => whileI c b f t2 S2
        | .brk t2 S2 => .nx t2 S2
        | x => x) else .nx t S1
    | .ex x fs S1 => .ex x fs t S1
    | .no => .no
def sWhile (c : SB) (b : SS) : SS := whileI c b 1000000
theorem s_while {c : Expr} {mc : SB} {body : List Stmt} {mb : SS} {pos : Pos} (hp : PassesOwn (model X.prog X.w) X.A X.env X.xe) (hc : BOk X W c mc) (hb : SsOk X W body mb) : SOk X W (.While c body [] pos) (sWhile mc mb) :=
  PS_imp (ps_while hp hc hb) fun D s H ⟨r, t, S, hs, R, h⟩ => by
    unfold sWhile at h
    refine ⟨fun k s H => ∃ r t S, St1 X.K X.mg r X.N.length t s H ∧ Rel X.K X.mg r S H ∧ AftS X W (whileI mc mb k t S) r H D, ⟨1000000, r, t, S, hs, R, h⟩, ?_⟩
    rintro k s2 H2 ⟨r2, t2, S2, hs2, R2, h2⟩
    cases k with
    | zero => exact h2.elim
    | succ k =>
      simp only [whileI] at h2
      refine rd_SB (D := D) hs2 R2 h2 fun r3 v S3 H3 e3 R3 hs3 h3 => ?_
      cases v with
      | false => rw [if_neg (by simp)] at h3 ⊢; exact h3 r3 H3 s2 .refl R3 hs3
      | true =>
        rw [if_pos rfl] at h3 ⊢
        refine ⟨fun s3 H3 => ∃ r t S, St1 X.K X.mg r X.N.length t s3 H3 ∧ Rel X.K X.mg r S H3 ∧ AftS X W (whileI mc mb k t S) r H3 D, fun s3 H3 q => ⟨k, Nat.lt_succ_self _, q⟩, r3, t2, S3, hs3, R3, ?_⟩
        cases eb : mb t2 S3 with
        | nx t5 S5 => rw [eb] at h3; exact fun r5 H5 s5 e5 R5 hs5 => ⟨r5, t5, S5, hs5, R5, AftS.ext h3 e5⟩
        | cnt t5 S5 => rw [eb] at h3; exact fun r5 H5 s5 e5 R5 hs5 => ⟨r5, t5, S5, hs5, R5, AftS.ext h3 e5⟩
        | brk t5 S5 => rw [eb] at h3; exact h3
        | ret v5 S5 => rw [eb] at h3; exact h3
        | ex c fs t5 S5 => rw [eb] at h3; exact h3
        | no => rw [eb] at h3; exact h3
end

/-! ### comprehensions -/
def lcI (own : List Nat) (g : Tg) (c : SB) (e : SE) (it : ItS) (t0 : Slo) (d : Nat) : Nat → Nat → Sto → R IV
  | 0, _, _ => .no
  | f + 1, n, S => match nextAt it n S with
    | none => .no
    | some none => .ok (.ref d) S
    | some (some v) => match tgSet S g v (wipeI t0 own) with
      | none => .no
      | some t1 => (c t1 S).bind fun k S1 => if k then (e t1 S1).bind fun y S2 => (match S2[d]? with
          | some (.lst acc) => if acc.length < 16777216 then lcI own g c e it t0 d f (n + 1) (S2.set d (.lst (acc ++ [y]))) else .no
          | _ => .no)
        else lcI own g c e it t0 d f (n + 1) S1
def R.calm {α : Type} (r : R α) : R α := match r with
  | .ex _ _ _ => .no
  | x => x
def mLc (own : List Nat) (g : Tg) (m : SI) (c : SB) (e : SE) : SE := fun t S => (m t S).bind fun it S1 => (lcI own g c e it t S1.length 1000000 0 (S1 ++ [.lst []])).calm
def bYes : SB := fun _ S => .ok true S

section
variable {X : Cx} {W : WX} {tg : Expr}
theorem Aft.noEx {K : PySem.W.Frag} {mg : Str → Option Value} {α : Type} {x : R α} {r : List Addr} {H : Hp} {W : XK} {Q : List Addr → α → Sto → Hp → Prop} (h : Aft K mg (fun _ _ _ => False) x r H Q) : Aft K mg W x r H Q := by
  cases x with
  | ok a S => exact h
  | ex c fs S => exact fun r' H' cls d e R z => (h r' H' cls d e R z).elim
  | no => exact h
theorem set_wipe {s : VSt} {i : Nat} : ∀ {own : List Nat}, i ∈ own → (L2.wipe s own).set i none = L2.wipe s own
  | j :: own, h => by
    simp only [L2.wipe]
    by_cases e : j = i
    · subst e; rw [List.set_set]
    · rw [List.set_comm _ _ e, set_wipe (by rcases List.mem_cons.mp h with rfl | h; exact absurd rfl e; exact h)]
theorem wipe_wipe_in {s : VSt} {all : List Nat} : ∀ (own : List Nat), (∀ i ∈ own, i ∈ all) → L2.wipe (L2.wipe s all) own = L2.wipe s all
  | [], _ => rfl
  | j :: own, h => by
    simp only [L2.wipe]
    rw [wipe_wipe_in own fun i hi => h i (List.mem_cons_of_mem _ hi), set_wipe (h j List.mem_cons_self)]
theorem wipe_wipe {s : VSt} (own : List Nat) : L2.wipe (L2.wipe s own) own = L2.wipe s own := wipe_wipe_in own fun _ h => h
/-- the reading of a comprehension: its pieces raise nothing -/
theorem rd_lc {own : List Nat} {g : Tg} {m : SI} {c : SB} {e : SE} {s : VSt} {H : Hp} {Q : VK} (hin : tgIn own g = true) (h : tI X W (mLc own g m c e) s H Q) :
    tLc (tIt X W m) (tgOf X.K g) (tIB X (fun _ _ _ _ => False) c) (tI X (fun _ _ _ _ => False) e) own s H Q := by
  obtain ⟨r, t, S, hs, R, h⟩ := h
  have h := Aft.bind h
  refine ⟨r, t, S, hs, R, ?_⟩
  cases em : m t S with
  | no => rw [em] at h; exact h
  | ex c fs S1 => rw [em] at h; exact fun r' H' cls d e R' z => h r' H' cls d e R' z
  | ok it S1 =>
    rw [em] at h
    intro r1 H1 e1 R1 J hJ D hD
    obtain ⟨_, _, h1⟩ := h r1 H1 e1 R1
    have sz : (0 : Nat) < sizeLine := by rw [sl16]; omega
    obtain ⟨xD, RD, atD⟩ := R1.alloc (u := .lst []) (o := .lst []) hD (fun _ => ⟨[], upd_same, .nil⟩)
    let P : List Addr → IV → Sto → Hp → Prop := fun r' v _ H' => ∀ w, VR X.K X.mg r' H' v w → Q w H'
    let Inv2 : Nat → Nat → Hp → Prop := fun i k H2 => ∃ r2 S2, Ex r1 H1 r2 H2 ∧ Rel X.K X.mg r2 S2 H2 ∧ r2[S1.length]? = some D ∧
      Aft X.K X.mg (fun c d H' => W c d s H') (lcI own g c e it t S1.length k i S2).calm r1 H1 P
    have hs1 := hs.mono R e1
    refine ⟨Inv2, ⟨1000000, r1 ++ [D], S1 ++ [.lst []], xD, RD, atD, h1⟩, ?_⟩
    rintro i k H2 ⟨r2, S2, e2, R2, a2, hC⟩
    cases k with
    | zero => exact hC.elim
    | succ k =>
      have hj := hJ r2 S2 H2 e2 R2 i
      simp only [lcI] at hC
      cases en : nextAt it i S2 with
      | none => rw [en] at hC; exact hC.elim
      | some o =>
        rw [en] at hC hj
        cases o with
        | none =>
          refine .inl ⟨hj, ?_⟩
          have hC' : ∀ r' H', Ex r1 H1 r' H' → Rel X.K X.mg r' S2 H' → P r' (.ref S1.length) S2 H' := hC
          exact hC' r2 H2 e2 R2 (.ref D) (.ref a2)
        | some v =>
          obtain ⟨hgo, hy⟩ := hj
          refine .inr ⟨hgo, fun H3 => Inv2 (i + 1) k H3, fun H3 q => ⟨k, Nat.lt_succ_self _, q⟩, fun x H3 hx => ?_⟩
          obtain ⟨e3, R3, hv⟩ := hy x H3 hx
          simp only at hC
          cases et : tgSet S2 g v (wipeI t own) with
          | none => rw [et] at hC; exact hC.elim
          | some t1 =>
            rw [et] at hC
            simp only at hC
            have e23 := e2.trans e3
            refine tg_run R3 g (own := own) hv ((hs1.mono R1 e23).wipe own) et fun s4 hs4 hw4 => ⟨by rw [hw4 hin]; exact wipe_wipe own, ?_⟩
            refine ⟨r2, t1, S2, hs4, R3, ?_⟩
            cases ec : c t1 S2 with
            | no => rw [ec] at hC; exact hC
            | ex x fs S5 => rw [ec] at hC; exact hC.elim
            | ok b S5 =>
              rw [ec] at hC
              intro r5 H5 e5 R5
              have e25 := e23.trans e5
              have a5 := e5.at_ a2
              cases b with
              | false => exact ⟨r5, S5, e25, R5, a5, hC⟩
              | true =>
                dsimp only
                rw [if_pos rfl]
                refine ⟨r5, t1, S5, hs4.mono R3 e5, R5, ?_⟩
                have hC : Aft X.K X.mg (fun c d H' => W c d s H') ((e t1 S5).bind fun y S2 => (match S2[S1.length]? with
                  | some (.lst acc) => if acc.length < 16777216 then lcI own g c e it t S1.length k (i + 1) (S2.set S1.length (.lst (acc ++ [y]))) else .no
                  | _ => .no)).calm r1 H1 P := hC
                cases ee : e t1 S5 with
                | no => rw [ee] at hC; exact hC
                | ex x fs S6 => rw [ee] at hC; exact hC.elim
                | ok y S6 =>
                  rw [ee] at hC
                  intro r6 H6 e6 R6 w hw
                  have a6 := e6.at_ a5
                  simp only [IP.R.bind] at hC
                  split at hC
                  · rename_i acc hk
                    obtain ⟨vs, hD6, hv6⟩ := R6.obj _ _ _ hk a6
                    split at hC
                    · rename_i hl
                      obtain ⟨x7, R7⟩ := R6.write (u := .lst (vs ++ [w])) (o := .lst (acc ++ [y])) a6 (fun x => ⟨vs ++ [w], upd_same, (hv6.mono R6 x).append (.one (hw.mono R6 x))⟩)
                      exact ⟨vs, hD6, by rw [sl16, ← hv6.length]; exact hl, r6, _, (e25.trans e6).trans x7, R7, a6, hC⟩
                    · exact hC.elim
                  · exact hC.elim
theorem bs_nil : PTs X [] (tIB X W bYes) := ⟨fun pins s σ H Q I ⟨r, t, S, hs, R, h⟩ => pts_nil.run pins s σ H Q I (h r H .refl R)⟩
theorem bs_one {c : Expr} {m : SB} (h : BOk X W c m) : PTs X [c] (tIB X W m) := pts_one h
/-- the evaluator's piece is good in the comprehension's block, wherever it runs -/
def EBlk (X : Cx) (scope : Scope) (e : Expr) (m : SE) : Prop := ∀ (s : Shared) (H : Hp) (C : Addr) (cl : List (Str × Addr)) (fp : List Addr), EOk (X.blk s H scope (compEnvC scope cl C X.env) fp) (fun _ _ _ _ => False) e m
def BBlk (X : Cx) (scope : Scope) (ifs : List Expr) (m : SB) : Prop := ∀ (s : Shared) (H : Hp) (C : Addr) (cl : List (Str × Addr)) (fp : List Addr), PTs (X.blk s H scope (compEnvC scope cl C X.env) fp) ifs (tIB (X.blk s H scope (compEnvC scope cl C X.env) fp) (fun _ _ _ _ => False) m)
def GBlk (X : Cx) (scope : Scope) (tg : Expr) (g : Tg) : Prop := ∀ (s : Shared) (H : Hp) (C : Addr) (cl : List (Str × Addr)) (fp : List Addr), TgOk (X.blk s H scope (compEnvC scope cl C X.env) fp) tg g
theorem e_lc {elt iter : Expr} {ifs : List Expr} {scope : Scope} {own : List (Str × Nat)} {pos : Pos} {g : Tg} {m : SI} {c : SB} {e : SE} (hc : X.calm = true) (hN : X.N.Nodup) (hi : IOk X W tg iter m) (ok : BlkOk X.N X.env.scope scope own)
    (hg : GBlk X scope tg g) (ht : BBlk X scope ifs c) (he : EBlk X scope elt e) (hin : tgIn (own.map (·.2)) g = true) (hs : ∀ x, foldedSetIterable iter X.env x = pure x) :
    EOk X W (.ListComp elt [⟨tg, iter, ifs, 0⟩] scope pos) (mLc (own.map (·.2)) g m c e) :=
  PE_imp (pe_lc (g := tgOf X.K g) (tt := tIB X (fun _ _ _ _ => False) c) (te := tI X (fun _ _ _ _ => False) e) hc hN hi ok hg ht he hs) fun s H Q h => rd_lc hin h
theorem s_lc {i : Nat} {y : Str} {py : Pos} {elt iter : Expr} {ifs : List Expr} {scope : Scope} {own : List (Str × Nat)} {pos spos : Pos} {g : Tg} {m : SI} {c : SB} {e : SE} (hc : X.calm = true) (hN : X.N.Nodup) (hy : X.N[i]? = some y) (hyl : X.env.scope.names.lookup y = some .local)
    (hsw : swapsWith (.ListComp elt [⟨tg, iter, ifs, 0⟩] scope pos) (some (.Name y py)) spos.line X.env = pure true) (hi : IOk X W tg iter m) (ok : BlkOk X.N X.env.scope scope own)
    (hg : GBlk X scope tg g) (ht : BBlk X scope ifs c) (he : EBlk X scope elt e) (hin : tgIn (own.map (·.2)) g = true) (hs : ∀ x, foldedSetIterable iter X.env x = pure x) :
    SOk X W (.Assign [.Name y py] (.ListComp elt [⟨tg, iter, ifs, 0⟩] scope pos) spos) (sAsg (.nm i) (mLc (own.map (·.2)) g m c e)) :=
  PS_imp (ps_setLc (g := tgOf X.K g) (tt := tIB X (fun _ _ _ _ => False) c) (te := tI X (fun _ _ _ _ => False) e) hc hN hy hyl hsw hi ok hg ht he hs) fun D s H ⟨r, t, S, hs, R, h⟩ => by
    refine rd_lc hin (rd_SE (D := D) hs R h fun r' v S' H' w e R' hs' hv h' => ?_)
    simp only [tgSet] at h'
    exact h' r' H' _ .refl R' (hs'.set i hv)
end
end IP

/-! IPyH: from the text to the evaluator's pieces, with its soundness. -/
namespace IP
open PySem PySem.Spec PyProof.Rows L2

/-- names by place, their kinds, which cells are made here -/
structure Cc where
  N : List Str
  names : List (Str × NameKind)
  fnc : Str → Bool

/-- what the module's names are: defs (parameters, evaluator), constants, built-ins that no one writes over -/
structure Tb where
  fn : List (Str × Nat × FN)
  gv : List (Str × IV)
  nb : List Str

structure TabOk (P : Program) (w : World) (K : PySem.W.Frag) (mg : Str → Option Value) (base : Heap) (T : Tb) (k : Nat) : Prop where
  fns : ∀ x n F, T.fn.lookup x = some (n, F) → DefOk P w K mg base x F n k
  gvs : ∀ x v, T.gv.lookup x = some v → ∃ u w', mg x = some u ∧ RelV w' u ∧ ∀ r H, VR K mg r H v w'
  nbs : ∀ x, x ∈ T.nb → mg x = none

structure CxOk (T : Tb) (k : Nat) (cc : Cc) (X : Cx) (W : WX) : Prop where
  gd : Gd X W
  n : X.N = cc.N
  nm : X.env.scope.names = cc.names
  kd : X.env.scope.kind = .function
  fc : ∀ x, cc.fnc x = true → X.fn x = true
  rm : Room k X.A
  tb : TabOk X.prog X.w X.K X.mg X.base T k

def ixOf (x : Str) : List Str → Option Nat
  | [] => none
  | y :: ys => if y = x then some 0 else (ixOf x ys).map (· + 1)
theorem ixOf_ok {x : Str} : ∀ {N : List Str} {i : Nat}, ixOf x N = some i → N[i]? = some x
  | [], _, e => by cases e
  | y :: ys, i, e => by
    simp only [ixOf] at e
    split at e
    · rename_i h; cases e; simp [h]
    · simp only [Option.map_eq_some_iff] at e
      obtain ⟨j, e1, e2⟩ := e
      subst e2
      simpa using ixOf_ok e1

def opF : Operator → Option O2
  | .Add => some iAdd | .Sub => some iSub | .Mult => some iMul | .FloorDiv => some iFdiv | .Mod => some iMod | .Pow => some iPow | .LShift => some iShl | .RShift => some iShr | .BitAnd => some iAnd
  | _ => none
theorem opF_ok {X : Cx} {op : Operator} {f : O2} (e : opF op = some f) : Op2Ok X (binaryOp op) f := by
  cases op <;> simp only [opF] at e <;> cases e
  · exact o_add
  · exact o_sub
  · exact o_mul
  · exact o_mod
  · exact o_pow
  · exact o_shl
  · exact o_shr
  · exact o_and
  · exact o_fdiv
def cmpF : CmpOp → O2
  | .Eq => iEq | .NotEq => iNe | .Lt => iLt | .LtE => iLe | .Gt => iGt | .GtE => iGe | .Is => iIs | .IsNot => iIsNot | .In => iIn | .NotIn => iNotIn
theorem cmpF_ok {X : Cx} (hu : X.A.units + 65 < cLine) : ∀ op, Op2Ok X (compareOp op) (cmpF op)
  | .Eq => o_eq (by omega) | .NotEq => o_ne (by omega) | .Lt => o_lt | .LtE => o_le | .Gt => o_gt | .GtE => o_ge | .Is => o_is | .IsNot => o_isNot | .In => o_in hu | .NotIn => o_notIn hu

theorem lookup_mem {α : Type} : ∀ {l : List (Str × α)} {x : Str} {v : α}, l.lookup x = some v → (x, v) ∈ l
  | [], _, _, e => by cases e
  | (y, w) :: l, x, v, e => by
    rw [List.lookup_cons] at e
    cases h : x == y with
    | true => rw [h] at e; cases e; rw [beq_iff_eq.mp h]; exact List.mem_cons_self
    | false => rw [h] at e; exact List.mem_cons_of_mem _ (lookup_mem e)
/-- built-in functions: name, whether a type, the name in the model, the evaluator -/
def biL : List (Str × Bool × String × OL) := [("len", false, "len", iLen), ("abs", false, "abs", iAbs), ("max", false, "max", iMax), ("min", false, "min", iMin), ("sum", false, "sum", iSum), ("all", false, "all", iAll), ("any", false, "any", iAny), ("divmod", false, "divmod", iDivmod), ("isinstance", false, "isinstance", iIsinst), ("int", true, "int", iInt), ("str", true, "str", iStr), ("list", true, "list", iList), ("tuple", true, "tuple", iTuple)]
def biF (x : Str) : Option (Bool × String × OL) := biL.lookup x
def BiGood (X : Cx) (x : Str) (b : Bool) (id : String) (f : OL) : Prop :=
  (b = false ∧ CallOk X (.builtin id) f ∧ bootBuiltins x = some (.builtin id) ∨ b = true ∧ CallOk X (.type id) f ∧ bootBuiltins x = some (.type id)) ∧ x ≠ "__name__" ∧ (x == ("__debug__" : Str)) = false
theorem biF_ok {X : Cx} (hc : X.calm = true) {x : Str} {b : Bool} {id : String} {f : OL} (e : biF x = some (b, id, f)) : BiGood X x b id f := by
  have h := lookup_mem e
  simp only [biL, List.mem_cons, List.not_mem_nil, or_false, Prod.mk.injEq] at h
  rcases h with ⟨rfl, rfl, rfl, rfl⟩ | ⟨rfl, rfl, rfl, rfl⟩ | ⟨rfl, rfl, rfl, rfl⟩ | ⟨rfl, rfl, rfl, rfl⟩ | ⟨rfl, rfl, rfl, rfl⟩ | ⟨rfl, rfl, rfl, rfl⟩ | ⟨rfl, rfl, rfl, rfl⟩ | ⟨rfl, rfl, rfl, rfl⟩ | ⟨rfl, rfl, rfl, rfl⟩ | ⟨rfl, rfl, rfl, rfl⟩ | ⟨rfl, rfl, rfl, rfl⟩ | ⟨rfl, rfl, rfl, rfl⟩ | ⟨rfl, rfl, rfl, rfl⟩
  · exact ⟨.inl ⟨rfl, c_len, by decide +kernel⟩, by decide, by decide⟩
  · exact ⟨.inl ⟨rfl, c_abs, by decide +kernel⟩, by decide, by decide⟩
  · exact ⟨.inl ⟨rfl, c_max hc, by decide +kernel⟩, by decide, by decide⟩
  · exact ⟨.inl ⟨rfl, c_min hc, by decide +kernel⟩, by decide, by decide⟩
  · exact ⟨.inl ⟨rfl, c_sum hc, by decide +kernel⟩, by decide, by decide⟩
  · exact ⟨.inl ⟨rfl, c_all hc, by decide +kernel⟩, by decide, by decide⟩
  · exact ⟨.inl ⟨rfl, c_any hc, by decide +kernel⟩, by decide, by decide⟩
  · exact ⟨.inl ⟨rfl, c_divmod, by decide +kernel⟩, by decide, by decide⟩
  · exact ⟨.inl ⟨rfl, c_isinst, by decide +kernel⟩, by decide, by decide⟩
  · exact ⟨.inr ⟨rfl, c_int, by decide +kernel⟩, by decide, by decide⟩
  · exact ⟨.inr ⟨rfl, c_str, by decide +kernel⟩, by decide, by decide⟩
  · exact ⟨.inr ⟨rfl, c_list, by decide +kernel⟩, by decide, by decide⟩
  · exact ⟨.inr ⟨rfl, c_tuple, by decide +kernel⟩, by decide, by decide⟩
/-- built-in types as values -/
def tyL : List (Str × String) := [("int", "int"), ("bool", "bool"), ("str", "str"), ("list", "list"), ("tuple", "tuple"), ("dict", "dict")]
def tyF (x : Str) : Option String := tyL.lookup x
theorem tyF_ok {x : Str} {n : String} (e : tyF x = some n) : bootBuiltins x = some (.type n) ∧ x ≠ "__name__" ∧ (x == ("__debug__" : Str)) = false := by
  have h := lookup_mem e
  simp only [tyL, List.mem_cons, List.not_mem_nil, or_false, Prod.mk.injEq] at h
  rcases h with ⟨rfl, rfl⟩ | ⟨rfl, rfl⟩ | ⟨rfl, rfl⟩ | ⟨rfl, rfl⟩ | ⟨rfl, rfl⟩ | ⟨rfl, rfl⟩ <;> exact ⟨by decide +kernel, by decide, by decide⟩

/-- methods of built-in types: type, name in the model, evaluator -/
structure MtD (X : Cx) (name : Str) (T id : String) (f : OM) : Prop where
  pa : PlainAttrs T
  slot : Slot T name id
  hty : typeOf (.builtin id) = pure (.type "method_descriptor")
  hm : MtOk X id f
def mtL : List (Str × String × String × OM) := [("append", "list", "list.append", mAppend), ("extend", "list", "list.extend", mExtend), ("pop", "list", "list.pop", mPop), ("clear", "list", "list.clear", mClear), ("insert", "list", "list.insert", mInsert), ("index", "list", "list.index", mIndex), ("find", "str", "str.find", mFind), ("startswith", "str", "str.startswith", mStartswith), ("endswith", "str", "str.endswith", mEndswith), ("partition", "str", "str.partition", mPartition), ("split", "str", "str.split", mSplit), ("join", "str", "str.join", mJoin), ("upper", "str", "str.upper", mUpper), ("get", "dict", "dict.get", mGet)]
def mtF (x : Str) : Option (String × String × OM) := mtL.lookup x
theorem mtF_ok {X : Cx} (hu : X.A.units + 65 < cLine) {x : Str} {T id : String} {f : OM} (e : mtF x = some (T, id, f)) : MtD X x T id f := by
  have h := lookup_mem e
  simp only [mtL, List.mem_cons, List.not_mem_nil, or_false, Prod.mk.injEq] at h
  rcases h with ⟨rfl, rfl, rfl, rfl⟩ | ⟨rfl, rfl, rfl, rfl⟩ | ⟨rfl, rfl, rfl, rfl⟩ | ⟨rfl, rfl, rfl, rfl⟩ | ⟨rfl, rfl, rfl, rfl⟩ | ⟨rfl, rfl, rfl, rfl⟩ | ⟨rfl, rfl, rfl, rfl⟩ | ⟨rfl, rfl, rfl, rfl⟩ | ⟨rfl, rfl, rfl, rfl⟩ | ⟨rfl, rfl, rfl, rfl⟩ | ⟨rfl, rfl, rfl, rfl⟩ | ⟨rfl, rfl, rfl, rfl⟩ | ⟨rfl, rfl, rfl, rfl⟩ | ⟨rfl, rfl, rfl, rfl⟩
  · exact ⟨F.plainAttrs_list, F.slot_list_append, F.type_list_append, m_append⟩
  · exact ⟨F.plainAttrs_list, F.slot_list_extend, F.type_list_extend, m_extend⟩
  · exact ⟨F.plainAttrs_list, F.slot_list_pop, F.type_list_pop, m_pop⟩
  · exact ⟨F.plainAttrs_list, F.slot_list_clear, F.type_list_clear, m_clear⟩
  · exact ⟨F.plainAttrs_list, F.slot_list_insert, F.type_list_insert, m_insert⟩
  · exact ⟨F.plainAttrs_list, F.slot_list_index, F.type_list_index, m_index⟩
  · exact ⟨F.plainAttrs_str, F.slot_str_find, F.type_str_find, m_find⟩
  · exact ⟨F.plainAttrs_str, F.slot_str_startswith, F.type_str_startswith, m_startswith⟩
  · exact ⟨F.plainAttrs_str, F.slot_str_endswith, F.type_str_endswith, m_endswith⟩
  · exact ⟨F.plainAttrs_str, F.slot_str_partition, F.type_str_partition, m_partition⟩
  · exact ⟨F.plainAttrs_str, F.slot_str_split, F.type_str_split, m_split⟩
  · exact ⟨F.plainAttrs_str, F.slot_str_join, F.type_str_join, m_join⟩
  · exact ⟨F.plainAttrs_str, F.slot_str_upper, F.type_str_upper, m_upper⟩
  · exact ⟨F.plainAttrs_dict, F.slot_dict_get, F.type_dict_get, m_get (by omega)⟩

/-! ### the text's form -/
def noStar : Expr → Bool
  | .Starred _ _ => false
  | _ => true
theorem star_ok {e : Expr} {es : List Expr} {env : Env} (h : noStar e = true) : starEach (e :: es) env = (false, eval e env) :: starEach es env := by
  cases e <;> first | rfl | (simp [noStar] at h)
theorem stars_plain {pos : Pos} {env : Env} : ∀ {es : List Expr}, es.all noStar = true → (backTo pos (starEach es env)).any (·.1) = false
  | [], _ => rfl
  | e :: es, h => by
    rw [List.all_cons, Bool.and_eq_true] at h
    rw [star_ok h.1]
    show (false || (backTo pos (starEach es env)).any (·.1)) = false
    rw [stars_plain h.2]; rfl
theorem stars_few {pos : Pos} {env : Env} : ∀ {es : List Expr}, es.all noStar = true → (backTo pos (starEach es env)).all (fun x => !x.1) = true
  | [], _ => rfl
  | e :: es, h => by
    rw [List.all_cons, Bool.and_eq_true] at h
    rw [star_ok h.1]
    show (!false && (backTo pos (starEach es env)).all (fun x => !x.1)) = true
    rw [stars_few h.2]; rfl
def noSet : Expr → Bool
  | .Set _ _ _ => false
  | _ => true
theorem behind_ok {op : CmpOp} {e : Expr} (h : noSet e = true) : behindInMarks op e = false := by
  cases e <;> first | rfl | (simp [noSet] at h)
theorem folded_ok {e : Expr} {env : Env} (h : noSet e = true) : ∀ x, foldedSetIterable e env x = pure x := fun x => by
  cases e <;> first | rfl | (simp [noSet] at h)
theorem lastm_ok {op op' : CmpOp} {b c : Expr} (h : noSet c = true) : lastMarks [op, op'] [b, c] = false := by
  show behindInMarks op' c = false
  exact behind_ok h
def noSlice : Expr → Bool
  | .Slice _ _ _ _ => false
  | _ => true
theorem plainIx_ok {e : Expr} (h : noSlice e = true) : PlainIx e := fun o i => by
  cases e <;> first | rfl | (simp [noSlice] at h)
/-- nothing like super() -/
def noSuper : Expr → Bool
  | .Call (.Name _ _) [] [] _ => false
  | _ => true
theorem base_ok {o : Expr} {a : Str} {env : Env} {w : Sem Value} (h : noSuper o = true) : attributeBase o a env w = w := by
  unfold attributeBase
  split
  · simp [noSuper] at h
  · rfl
/-- an expression whose test is the truth of its value -/
def truForm : Expr → Bool
  | .UnaryOp .Not _ _ | .BoolOp _ _ _ | .IfExp _ _ _ _ | .Compare _ _ _ _ => false
  | _ => true
theorem tru_form {e : Expr} {env : Env} (h : truForm e = true) : ∀ whole, isTrue e env whole = (do let v ← whole; standAt e.pos; holding [v] (truthy v)) := fun whole => by
  cases e <;> first | rfl | (simp [truForm] at h; done) | skip
  rename_i op x p
  cases op <;> first | rfl | (simp [truForm] at h)
end IP

/-! IPyI: from the text to the evaluator: expressions. -/
namespace IP
open PySem PySem.Spec PyProof.Rows L2

structure Den where
  E : Cc → Expr → Option SE
  B : Cc → Expr → Option SB

def denA (E : Expr → Option SE) : List Expr → Option SA
  | [] => some mNil
  | e :: es => if noStar e then match E e, denA E es with
    | some a, some b => some (mCons a b)
    | _, _ => none else none
def denAnd (E : Expr → Option SE) : List Expr → Option SE
  | [] => none
  | [a] => E a
  | a :: b :: r => match E a, denAnd E (b :: r) with
    | some x, some y => some (mAnd x y)
    | _, _ => none
def denOr (E : Expr → Option SE) : List Expr → Option SE
  | [] => none
  | [a] => E a
  | a :: b :: r => match E a, denOr E (b :: r) with
    | some x, some y => some (mOr x y)
    | _, _ => none
def denAndT (E : Expr → Option SB) : List Expr → Option SB
  | [] => none
  | [a] => E a
  | a :: b :: r => match E a, denAndT E (b :: r) with
    | some x, some y => some (mAndT x y)
    | _, _ => none
def denOrT (E : Expr → Option SB) : List Expr → Option SB
  | [] => none
  | [a] => E a
  | a :: b :: r => match E a, denOrT E (b :: r) with
    | some x, some y => some (mOrT x y)
    | _, _ => none
def denO (E : Expr → Option SE) : Option Expr → Option SO'
  | none => some pNone
  | some e => (E e).map pSome
def denTg (cc : Cc) : Nat → Expr → Option Tg
  | 0, _ => none
  | n + 1, e => match e with
    | .Name x _ => match cc.names.lookup x with
      | some .local => (ixOf x cc.N).map .nm
      | some .cell => if cc.fnc x then (ixOf x cc.N).map .nm else none
      | _ => none
    | .Tuple es _ _ => if es.all noStar then (mapO (denTg cc n) es).map .tu else none
    | _ => none
def denIfs (B : Expr → Option SB) : List Expr → Option SB
  | [] => some bYes
  | [c] => B c
  | _ => none
def glob (T : Tb) (cc : Cc) (x : Str) : Bool := cc.names.lookup x == some .globalImplicit && T.nb.contains x
def isTup : Expr → Bool
  | .Tuple _ _ _ => true
  | _ => false
def denIc (T : Tb) (E : Expr → Option SE) (x : Str) (es : List Expr) (tg : Expr) : Option (Option SI) :=
  if x = "range" then some (match es with
    | [_] => (denA E es).map iRange1
    | [_, _] => (denA E es).map iRange2
    | [_, _, _] => (denA E es).map iRange3
    | _ => none)
  else if x = "enumerate" then some (match es with
    | [_] => if isTup tg then (denA E es).map iEnumS else none
    | _ => none)
  else if x = "zip" then some (match es with
    | [_, _] => if isTup tg then (denA E es).map iZipS else none
    | _ => none)
  else if x = "reversed" then some (match es with
    | [_] => (denA E es).map iRevS
    | _ => none)
  else none
def denI (T : Tb) (E : Expr → Option SE) (cc : Cc) (tg iter : Expr) : Option SI := match iter with
  | .Call (.Name x _) es [] _ => match (if glob T cc x then denIc T E x es tg else none) with
    | some r => r
    | none => (E iter).map iVal
  | _ => (E iter).map iVal
def ownOf (N : List Str) (scope : Scope) : List (Str × Nat) := scope.names.filterMap fun y => match y.2 with
  | .local | .cell => (ixOf y.1 N).map fun i => (y.1, i)
  | _ => none
def relab (scope : Scope) (names : List (Str × NameKind)) : List (Str × NameKind) := scope.names.map fun (n, k) => if (k == .free && names.lookup n == some .cell) then (n, .cell) else (n, k)
def scOf (cc : Cc) : Scope := { kind := .function, names := cc.names, isGenerator := false, isCoroutine := false }
def blkCc (cc : Cc) (scope : Scope) : Cc := ⟨cc.N, relab scope cc.names, fun x => scope.names.lookup x == some .cell⟩
def denLc (T : Tb) (D : Den) (cc : Cc) (elt tg iter : Expr) (ifs : List Expr) (scope : Scope) : Option SE :=
  if blkC cc.N (scOf cc) scope (ownOf cc.N scope) && noSet iter then
    match denI T (D.E cc) cc tg iter, denTg (blkCc cc scope) 10 tg, denIfs (D.B (blkCc cc scope)) ifs, D.E (blkCc cc scope) elt with
    | some m, some g, some c, some e => if tgIn ((ownOf cc.N scope).map (·.2)) g then some (mLc ((ownOf cc.N scope).map (·.2)) g m c e) else none
    | _, _, _, _ => none
  else none
def badName (x : Str) : Bool := x == ("__debug__" : Str) || x == ("__classdict__" : Str)
def denCall (T : Tb) (E : Expr → Option SE) (cc : Cc) (x : Str) (es : List Expr) : Option SE :=
  if cc.names.lookup x == some .globalImplicit && !badName x && es.all noStar then
    match T.fn.lookup x with
    | some (n, F) => if es.length = n then (denA E es).map (mCall F) else none
    | none => if T.nb.contains x && !es.isEmpty then match biF x with
        | some (_, _, f) => (denA E es).map (mFn f)
        | none => none
      else none
  else none
def denMeth (E : Expr → Option SE) (o : Expr) (name : Str) (es : List Expr) (apos cpos : Pos) : Option SE :=
  if noSuper o && apos.endLine == cpos.line && es.all noStar && decide (es.length < 30) then
    match mtF name, E o, denA E es with
    | some (T, _, f), some mo, some ma => some (mMt T f mo ma)
    | _, _, _ => none
  else none
def stepE (T : Tb) (D : Den) (cc : Cc) (e : Expr) : Option SE := match e with
  | .Name x _ => if badName x then none else match cc.names.lookup x with
    | some .globalImplicit => match T.gv.lookup x with
      | some v => some (mC v)
      | none => if T.nb.contains x then (tyF x).map fun n => mC (.ty n) else none
    | some .local => (ixOf x cc.N).map mVar
    | some .cell => (ixOf x cc.N).map mVar
    | some .free => (ixOf x cc.N).map mVar
    | _ => none
  | .Constant c _ _ => match c with
    | .int i => some (mC (.int i))
    | .bool b => some (mC (.bl b))
    | .str x => some (mC (.str x))
    | .none => some (mC .non)
    | _ => none
  | .BinOp a op b _ => match opF op, D.E cc a, D.E cc b with
    | some f, some x, some y => some (mBin f x y)
    | _, _, _ => none
  | .UnaryOp .Not a _ => (D.E cc a).map mNot
  | .UnaryOp .USub a _ => (D.E cc a).map (mUn iNeg)
  | .Compare a [op] [b] _ => if noSet b then match D.E cc a, D.E cc b with
    | some x, some y => some (mBin (cmpF op) x y)
    | _, _ => none else none
  | .Compare a [op, op'] [b, c] _ => if noSet c then match D.E cc a, D.E cc b, D.E cc c with
    | some x, some y, some z => some (mChain (cmpF op) (cmpF op') x y z)
    | _, _, _ => none else none
  | .BoolOp .And es _ => denAnd (D.E cc) es
  | .BoolOp .Or es _ => denOr (D.E cc) es
  | .IfExp c a b _ => match D.B cc c, D.E cc a, D.E cc b with
    | some x, some y, some z => some (mIf x y z)
    | _, _, _ => none
  | .Tuple es _ _ => (denA (D.E cc) es).map mTup
  | .List es _ => (denA (D.E cc) es).map mLst
  | .Dict [] [] _ => some mDisp0
  | .Subscript a (.Slice lo hi none _) _ => match D.E cc a, denO (D.E cc) lo, denO (D.E cc) hi with
    | some x, some y, some z => some (mSl x y z)
    | _, _, _ => none
  | .Subscript a b _ => if noSlice b then match D.E cc a, D.E cc b with
    | some x, some y => some (mBin iIx x y)
    | _, _ => none else none
  | .Call (.Name x _) es [] _ => denCall T (D.E cc) cc x es
  | .Call (.Attribute o name apos) es [] cpos => denMeth (D.E cc) o name es apos cpos
  | .ListComp elt [⟨tg, iter, ifs, k⟩] scope _ => if k = 0 then denLc T D cc elt tg iter ifs scope else none
  | _ => none
def stepB (D : Den) (cc : Cc) (e : Expr) : Option SB := match e with
  | .UnaryOp .Not a _ => (D.B cc a).map mNotT
  | .Compare a [op] [b] _ => if noSet b then match D.E cc a, D.E cc b with
    | some x, some y => some (mB (mBin (cmpF op) x y))
    | _, _ => none else none
  | .Compare a [op, op'] [b, c] _ => if noSet c then match D.E cc a, D.E cc b, D.E cc c with
    | some x, some y, some z => some (mB (mChain (cmpF op) (cmpF op') x y z))
    | _, _, _ => none else none
  | .BoolOp .And es _ => denAndT (D.B cc) es
  | .BoolOp .Or es _ => denOrT (D.B cc) es
  | e => if truForm e then (D.E cc e).map mTru else none
def den (T : Tb) : Nat → Den
  | 0 => ⟨fun _ _ => none, fun _ _ => none⟩
  | n + 1 => ⟨stepE T (den T n), stepB (den T n)⟩

structure DenOk (T : Tb) (k : Nat) (D : Den) : Prop where
  E : ∀ {cc X W e m}, CxOk T k cc X W → D.E cc e = some m → EOk X W e m
  B : ∀ {cc X W e m}, CxOk T k cc X W → D.B cc e = some m → BOk X W e m

section
variable {T : Tb} {k : Nat} {D : Den} {cc : Cc} {X : Cx} {W : WX}
theorem denA_ok {E : Expr → Option SE} (hE : ∀ {e m}, E e = some m → EOk X W e m) : ∀ {es : List Expr} {m : SA}, denA E es = some m → AOk X W es m ∧ es.all noStar = true ∧ ∀ t S xs S', m t S = .ok xs S' → xs.length = es.length
  | [], m, h => by
    simp only [denA] at h; cases h
    exact ⟨a_nil, rfl, fun t S xs S' e => by cases e; rfl⟩
  | e :: es, m, h => by
    simp only [denA] at h
    split at h
    · rename_i hn
      split at h
      · rename_i a b ha hb
        cases h
        obtain ⟨h1, h2, h3⟩ := denA_ok hE hb
        refine ⟨a_cons (hE ha) h1 (star_ok hn), by rw [List.all_cons, hn, h2]; rfl, fun t S xs S' e => ?_⟩
        unfold mCons at e
        cases ea : a t S with
        | no => rw [ea] at e; cases e
        | ex c fs S1 => rw [ea] at e; cases e
        | ok v S1 =>
          rw [ea] at e
          cases eb : b t S1 with
          | no => simp only [R.bind, eb] at e; cases e
          | ex c fs S1 => simp only [R.bind, eb] at e; cases e
          | ok vs S2 =>
            simp only [R.bind, eb] at e
            cases e
            rw [List.length_cons, List.length_cons, h3 _ _ _ _ eb]
      · cases h
    · cases h
theorem denAnd_ok {E : Expr → Option SE} (hE : ∀ {e m}, E e = some m → EOk X W e m) {pos : Pos} : ∀ {es : List Expr} {m : SE}, denAnd E es = some m → EOk X W (.BoolOp .And es pos) m
  | [], m, h => by simp only [denAnd] at h; cases h
  | [a], m, h => e_one (hE h)
  | a :: b :: r, m, h => by
    simp only [denAnd] at h
    split at h
    · rename_i x y hx hy; cases h; exact e_and (hE hx) (denAnd_ok hE hy)
    · cases h
theorem denOr_ok {E : Expr → Option SE} (hE : ∀ {e m}, E e = some m → EOk X W e m) {pos : Pos} : ∀ {es : List Expr} {m : SE}, denOr E es = some m → EOk X W (.BoolOp .Or es pos) m
  | [], m, h => by simp only [denOr] at h; cases h
  | [a], m, h => e_one (hE h)
  | a :: b :: r, m, h => by
    simp only [denOr] at h
    split at h
    · rename_i x y hx hy; cases h; exact e_or (hE hx) (denOr_ok hE hy)
    · cases h
theorem denAndT_ok {E : Expr → Option SB} (hE : ∀ {e m}, E e = some m → BOk X W e m) {pos : Pos} : ∀ {es : List Expr} {m : SB}, denAndT E es = some m → PW X (.BoolOp .And es pos) (tIB X W m)
  | [], m, h => by simp only [denAndT] at h; cases h
  | [a], m, h => w_and1 (hE h)
  | a :: b :: r, m, h => by
    simp only [denAndT] at h
    split at h
    · rename_i x y hx hy; cases h; exact w_and (hE hx) (denAndT_ok hE hy)
    · cases h
theorem denOrT_ok {E : Expr → Option SB} (hE : ∀ {e m}, E e = some m → BOk X W e m) {pos : Pos} : ∀ {es : List Expr} {m : SB}, denOrT E es = some m → PW X (.BoolOp .Or es pos) (tIB X W m)
  | [], m, h => by simp only [denOrT] at h; cases h
  | [a], m, h => w_or1 (hE h)
  | a :: b :: r, m, h => by
    simp only [denOrT] at h
    split at h
    · rename_i x y hx hy; cases h; exact w_or (hE hx) (denOrT_ok hE hy)
    · cases h
theorem denO_ok {E : Expr → Option SE} (hE : ∀ {e m}, E e = some m → EOk X W e m) {o : Option Expr} {m : SO'} (h : denO E o = some m) : POk X W o m := by
  cases o with
  | none => simp only [denO] at h; cases h; exact p_none
  | some e =>
    simp only [denO, Option.map_eq_some_iff] at h
    obtain ⟨a, h1, h2⟩ := h
    subst h2
    exact p_some (hE h1)
theorem each_tg {env : Env} {e : Expr} {es : List Expr} (h : noStar e = true) : assignEach (e :: es) env = (false, assign e env) :: assignEach es env := by
  cases e <;> first | rfl | (simp [noStar] at h)
theorem each_find {env : Env} : ∀ {es : List Expr}, es.all noStar = true → (assignEach es env).findIdx? (·.1) = none
  | [], _ => rfl
  | e :: es, h => by
    rw [List.all_cons, Bool.and_eq_true] at h
    rw [each_tg h.1, List.findIdx?_cons, each_find h.2]; rfl
theorem each_len {env : Env} : ∀ {es : List Expr}, es.all noStar = true → (assignEach es env).length = es.length
  | [], _ => rfl
  | e :: es, h => by
    rw [List.all_cons, Bool.and_eq_true] at h
    rw [each_tg h.1, List.length_cons, List.length_cons, each_len h.2]
theorem mapO_len {α β : Type} {f : α → Option β} : ∀ {xs : List α} {ys : List β}, mapO f xs = some ys → ys.length = xs.length
  | [], _, e => by simp only [mapO] at e; cases e; rfl
  | x :: xs, ys, e => by
    simp only [mapO] at e
    split at e
    · cases e
    · split at e
      · cases e
      · rename_i h2; cases e; rw [List.length_cons, List.length_cons, mapO_len h2]
theorem denTgs_ok {f : Expr → Option Tg} (hf : ∀ {e g}, f e = some g → TgOk X e g) : ∀ {es : List Expr} {gs : List Tg}, es.all noStar = true → mapO f es = some gs → TgsOk X es gs
  | [], _, _, e => by simp only [mapO] at e; cases e; exact tgs_nil
  | x :: xs, _, hn, e => by
    rw [List.all_cons, Bool.and_eq_true] at hn
    simp only [mapO] at e
    split at e
    · cases e
    · rename_i y h1
      split at e
      · cases e
      · rename_i ys h2
        cases e
        exact tgs_cons (hf h1) (denTgs_ok hf hn.2 h2) (by rw [each_tg hn.1]; rfl)
theorem denTg_ok (hn : X.N = cc.N) (hm : X.env.scope.names = cc.names) (hf : ∀ x, cc.fnc x = true → X.fn x = true) (nd : X.N.Nodup) (hc : X.calm = true) : ∀ (n : Nat) {e : Expr} {g : Tg}, denTg cc n e = some g → TgOk X e g
  | 0, _, _, h => by simp only [denTg] at h; cases h
  | n + 1, e, g, h => by
    simp only [denTg] at h
    split at h
    · rename_i x p
      split at h
      · rename_i hk
        simp only [Option.map_eq_some_iff] at h
        obtain ⟨i, h1, h2⟩ := h
        subst h2
        exact tg_nm nd (by rw [hn]; exact ixOf_ok h1) (.inl (by rw [hm]; exact hk)) (.inr (by rw [hm]; exact hk))
      · rename_i hk
        split at h
        · rename_i hx
          simp only [Option.map_eq_some_iff] at h
          obtain ⟨i, h1, h2⟩ := h
          subst h2
          exact tg_nm nd (by rw [hn]; exact ixOf_ok h1) (.inr (by rw [hm]; exact hk)) (.inl (hf x hx))
        · cases h
      · cases h
    · split at h
      · rename_i hs
        simp only [Option.map_eq_some_iff] at h
        obtain ⟨gs, h1, h2⟩ := h
        subst h2
        exact tg_tu hc (denTgs_ok (denTg_ok hn hm hf nd hc n) hs h1) (by rw [each_len hs, mapO_len h1]) (each_find hs)
      · cases h
    · cases h
theorem denIfs_ok {B : Expr → Option SB} (hB : ∀ {e m}, B e = some m → BOk X W e m) {es : List Expr} {m : SB} (h : denIfs B es = some m) : PTs X es (tIB X W m) := by
  unfold denIfs at h
  split at h
  · cases h; exact bs_nil
  · exact bs_one (hB h)
  · cases h
theorem CxOk.gl (C : CxOk T k cc X W) {x : Str} (h : cc.names.lookup x = some .globalImplicit) : Gl X x := by
  show X.env.scope.names.lookup x = some .globalImplicit
  rw [C.nm]; exact h
theorem glob_ok (C : CxOk T k cc X W) {x : Str} (h : glob T cc x = true) : Gl X x ∧ X.mg x = none := by
  unfold glob at h
  rw [Bool.and_eq_true, beq_iff_eq] at h
  exact ⟨C.gl h.1, C.tb.nbs x (by simpa using h.2)⟩
theorem isTup_ok {e : Expr} (h : isTup e = true) : ∃ es k p, e = .Tuple es k p := by
  cases e <;> first | (simp [isTup] at h; done) | exact ⟨_, _, _, rfl⟩
theorem denIc_ok {E : Expr → Option SE} (hE : ∀ {e m}, E e = some m → EOk X W e m) {x : Str} {es : List Expr} {tg : Expr} {m : SI} {p pos : Pos} (hg : Gl X x) (hm : X.mg x = none) (h : denIc T E x es tg = some (some m)) : IOk X W tg (.Call (.Name x p) es [] pos) m := by
  unfold denIc at h
  split at h
  · rename_i hx
    subst hx
    simp only [Option.some.injEq] at h
    split at h
    · simp only [Option.map_eq_some_iff] at h
      obtain ⟨a, h1, h2⟩ := h
      subst h2
      obtain ⟨k1, k2, _⟩ := denA_ok hE h1
      simp only [List.all_cons, List.all_nil, Bool.and_true] at k2
      exact i_range1 hg hm k1 (star_ok k2)
    · simp only [Option.map_eq_some_iff] at h
      obtain ⟨a, h1, h2⟩ := h
      subst h2
      obtain ⟨k1, k2, _⟩ := denA_ok hE h1
      simp only [List.all_cons, List.all_nil, Bool.and_true, Bool.and_eq_true] at k2
      exact i_range2 hg hm k1 (by rw [star_ok k2.1, star_ok k2.2]; rfl) (star_ok k2.2)
    · simp only [Option.map_eq_some_iff] at h
      obtain ⟨a, h1, h2⟩ := h
      subst h2
      obtain ⟨k1, k2, _⟩ := denA_ok hE h1
      rw [List.all_cons, Bool.and_eq_true] at k2
      exact i_range3 hg hm k1 (star_ok k2.1) (stars_plain k2.2)
    · cases h
  · split at h
    · rename_i hx
      subst hx
      simp only [Option.some.injEq] at h
      split at h
      · split at h
        · rename_i ht
          obtain ⟨ts, kk, tp, rfl⟩ := isTup_ok ht
          simp only [Option.map_eq_some_iff] at h
          obtain ⟨a, h1, h2⟩ := h
          subst h2
          obtain ⟨k1, k2, _⟩ := denA_ok hE h1
          simp only [List.all_cons, List.all_nil, Bool.and_true] at k2
          exact i_enum hg hm k1 (star_ok k2)
        · cases h
      · cases h
    · split at h
      · rename_i hx
        subst hx
        simp only [Option.some.injEq] at h
        split at h
        · split at h
          · rename_i ht
            obtain ⟨ts, kk, tp, rfl⟩ := isTup_ok ht
            simp only [Option.map_eq_some_iff] at h
            obtain ⟨a, h1, h2⟩ := h
            subst h2
            obtain ⟨k1, k2, _⟩ := denA_ok hE h1
            rw [List.all_cons, Bool.and_eq_true] at k2
            exact i_zip hg hm k1 (star_ok k2.1) (stars_plain k2.2)
          · cases h
        · cases h
      · split at h
        · rename_i hx
          subst hx
          simp only [Option.some.injEq] at h
          split at h
          · simp only [Option.map_eq_some_iff] at h
            obtain ⟨a, h1, h2⟩ := h
            subst h2
            obtain ⟨k1, k2, _⟩ := denA_ok hE h1
            simp only [List.all_cons, List.all_nil, Bool.and_true] at k2
            exact i_rev hg hm k1 (star_ok k2)
          · cases h
        · cases h
theorem denI_ok (C : CxOk T k cc X W) {E : Expr → Option SE} (hE : ∀ {e m}, E e = some m → EOk X W e m) {tg iter : Expr} {m : SI} (h : denI T E cc tg iter = some m) : IOk X W tg iter m := by
  unfold denI at h
  split at h
  · rename_i x p es pos
    split at h
    · rename_i r hr
      split at hr
      · rename_i hx
        obtain ⟨hg, hm⟩ := glob_ok C hx
        rw [h] at hr
        exact denIc_ok hE hg hm hr
      · cases hr
    · simp only [Option.map_eq_some_iff] at h
      obtain ⟨a, h1, h2⟩ := h
      subst h2
      exact i_val (hE h1)
  · simp only [Option.map_eq_some_iff] at h
    obtain ⟨a, h1, h2⟩ := h
    subst h2
    exact i_val (hE h1)
theorem relab_ok (C : CxOk T k cc X W) (scope : Scope) : (relabel scope X.env).names = relab scope cc.names := by
  unfold relabel relab
  have e : ∀ n, X.env.kindOf n = cc.names.lookup n := fun n => by
    show X.env.scope.names.lookup n = _
    rw [C.nm]
  have e2 : (X.env.scope.kind == .function) = true := by rw [C.kd]; rfl
  simp only [e, e2, Bool.and_true]
theorem CxOk.blk (C : CxOk T k cc X W) {scope : Scope} (hk : scope.kind = .function) (s : Shared) (H : Hp) (a : Addr) (cl : List (Str × Addr)) (fp : List Addr) : CxOk T k (blkCc cc scope) (X.blk s H scope (compEnvC scope cl a X.env) fp) (fun _ _ _ _ => False) where
  gd := ⟨C.gd.calm, C.gd.nd, L2.takes0, C.gd.un⟩
  n := C.n
  nm := relab_ok C scope
  kd := hk
  fc := fun x h => h
  rm := C.rm
  tb := C.tb
theorem blk_of (C : CxOk T k cc X W) {scope : Scope} {own : List (Str × Nat)} (h : blkC cc.N (scOf cc) scope own = true) : BlkOk X.N X.env.scope scope own := by
  have z := blkOk_by h
  rw [← C.n] at z
  exact ⟨z.kind, z.uniq, z.ix, fun y hy e => by rw [C.nm]; exact z.free y hy e, z.own⟩
theorem denLc_ok (D0 : DenOk T k D) (C : CxOk T k cc X W) {elt tg iter : Expr} {ifs : List Expr} {scope : Scope} {pos : Pos} {m : SE} (h : denLc T D cc elt tg iter ifs scope = some m) : EOk X W (.ListComp elt [⟨tg, iter, ifs, 0⟩] scope pos) m ∧
    ∀ {i : Nat} {y : Str} {py spos : Pos}, X.N[i]? = some y → X.env.scope.names.lookup y = some .local → swapsWith (.ListComp elt [⟨tg, iter, ifs, 0⟩] scope pos) (some (.Name y py)) spos.line X.env = pure true →
      SOk X W (.Assign [.Name y py] (.ListComp elt [⟨tg, iter, ifs, 0⟩] scope pos) spos) (sAsg (.nm i) m) := by
  unfold denLc at h
  split at h
  · rename_i hb
    rw [Bool.and_eq_true] at hb
    split at h
    · rename_i mi g mc me h1 h2 h3 h4
      split at h
      · rename_i hin
        cases h
        have B := blk_of C hb.1
        have hi := denI_ok C (fun h => D0.E C h) h1
        have hg : GBlk X scope tg g := fun s H a cl fp => by
          have C' := C.blk B.kind s H a cl fp
          exact denTg_ok C'.n C'.nm C'.fc C'.gd.nd C'.gd.calm 10 h2
        have hc : BBlk X scope ifs mc := fun s H a cl fp => denIfs_ok (fun h => D0.B (C.blk B.kind s H a cl fp) h) h3
        have he : EBlk X scope elt me := fun s H a cl fp => D0.E (C.blk B.kind s H a cl fp) h4
        exact ⟨e_lc C.gd.calm C.gd.nd hi B hg hc he hin (folded_ok hb.2), fun hy hyl hsw => s_lc C.gd.calm C.gd.nd hy hyl hsw hi B hg hc he hin (folded_ok hb.2)⟩
      · cases h
    · cases h
  · cases h
theorem badName_ok {x : Str} (h : badName x = false) : (x == ("__debug__" : Str)) = false ∧ (x == ("__classdict__" : Str)) = false := by
  unfold badName at h
  rw [Bool.or_eq_false_iff] at h
  exact h
theorem denCall_ok (C : CxOk T k cc X W) {E : Expr → Option SE} (hE : ∀ {e m}, E e = some m → EOk X W e m) {x : Str} {es : List Expr} {m : SE} {p pos : Pos} (h : denCall T E cc x es = some m) : EOk X W (.Call (.Name x p) es [] pos) m := by
  unfold denCall at h
  split at h
  · rename_i hx
    rw [Bool.and_eq_true, Bool.and_eq_true, beq_iff_eq] at hx
    obtain ⟨⟨hx1, hx2⟩, hx3⟩ := hx
    have hx2 : badName x = false := by simpa using hx2
    have hg := C.gl hx1
    split at h
    · rename_i n F hF
      split at h
      · rename_i hn
        simp only [Option.map_eq_some_iff] at h
        obtain ⟨a, h1, h2⟩ := h
        subst h2
        obtain ⟨k1, k2, k3⟩ := denA_ok hE h1
        have DD := C.tb.fns x n F hF
        cases es with
        | nil =>
          simp only [denA] at h1
          cases h1
          simp only [List.length_nil] at hn
          subst hn
          exact e_call0 DD C.gd.tk C.rm hg (badName_ok hx2).1
        | cons e es =>
          rw [List.all_cons, Bool.and_eq_true] at hx3
          exact e_call DD C.gd.tk C.rm hg hn k1 (badName_ok hx2).1 (star_ok hx3.1) (stars_plain hx3.2) (fun t S xs S' e => by rw [k3 t S xs S' e]; exact hn)
      · cases h
    · split at h
      · rename_i hb
        rw [Bool.and_eq_true] at hb
        have hm := C.tb.nbs x (by simpa using hb.1)
        split at h
        · rename_i b id f hf
          simp only [Option.map_eq_some_iff] at h
          obtain ⟨a, h1, h2⟩ := h
          subst h2
          obtain ⟨k1, k2, k3⟩ := denA_ok hE h1
          obtain ⟨g1, g2, g3⟩ := biF_ok (X := X) C.gd.calm hf
          cases es with
          | nil => simp at hb
          | cons e es =>
            rw [List.all_cons, Bool.and_eq_true] at hx3
            rcases g1 with ⟨_, g1, g4⟩ | ⟨_, g1, g4⟩
            · exact e_bi g1 hg hm g4 k1 g2 g3 (star_ok hx3.1) (stars_plain hx3.2)
            · exact e_bt g1 hg hm g4 k1 g2 g3 (star_ok hx3.1) (stars_plain hx3.2)
        · cases h
      · cases h
  · cases h
theorem denMeth_ok (C : CxOk T k cc X W) {E : Expr → Option SE} (hE : ∀ {e m}, E e = some m → EOk X W e m) {o : Expr} {name : Str} {es : List Expr} {apos cpos : Pos} {m : SE} (h : denMeth E o name es apos cpos = some m) : EOk X W (.Call (.Attribute o name apos) es [] cpos) m := by
  unfold denMeth at h
  split at h
  · rename_i hx
    rw [Bool.and_eq_true, Bool.and_eq_true, Bool.and_eq_true] at hx
    obtain ⟨⟨⟨x1, x2⟩, x3⟩, x4⟩ := hx
    split at h
    · rename_i T' id f mo ma h1 h2 h3
      cases h
      have M := mtF_ok (X := X) C.gd.un h1
      obtain ⟨k1, k2, k3⟩ := denA_ok hE h3
      cases es with
      | nil =>
        simp only [denA] at h3
        cases h3
        exact e_mt0 M.pa M.slot M.hty M.hm (hE h2) (base_ok x1) x2
      | cons e es =>
        have x3' := x3
        rw [List.all_cons, Bool.and_eq_true] at x3'
        refine e_mt M.pa M.slot M.hty M.hm (hE h2) k1 (base_ok x1) ?_ x2 (star_ok x3'.1) (stars_plain x3'.2)
        rw [stars_few x3]
        have z : (backToKw cpos (keywordEach [] X.env)).all (fun x => x.1.isSome) = true := rfl
        rw [z]
        simpa using x4
    · cases h
  · cases h
theorem stepE_ok (D0 : DenOk T k D) (C : CxOk T k cc X W) {e : Expr} {m : SE} (h : stepE T D cc e = some m) : EOk X W e m := by
  have hE : ∀ {e m}, D.E cc e = some m → EOk X W e m := fun h => D0.E C h
  unfold stepE at h
  split at h
  · rename_i x p
    split at h
    · cases h
    · rename_i hb
      have hb : badName x = false := by simpa using hb
      split at h
      · rename_i hk
        split at h
        · rename_i v hv
          cases h
          obtain ⟨u, w', h1, h2, h3⟩ := C.tb.gvs x v hv
          exact e_glob (C.gl hk) h1 h2 h3 (badName_ok hb).1
        · split at h
          · rename_i hn
            simp only [Option.map_eq_some_iff] at h
            obtain ⟨n, h1, h2⟩ := h
            subst h2
            obtain ⟨g1, g2, g3⟩ := tyF_ok h1
            exact e_bty (C.gl hk) (C.tb.nbs x (by simpa using hn)) g1 g2 g3
          · cases h
      all_goals first | (cases h; done) | skip
      all_goals (rename_i hk; simp only [Option.map_eq_some_iff] at h; obtain ⟨i, h1, h2⟩ := h; subst h2)
      · exact e_var (by rw [C.n]; exact ixOf_ok h1) (.inl (by rw [C.nm]; exact hk)) (badName_ok hb).1 (badName_ok hb).2
      · exact e_var (by rw [C.n]; exact ixOf_ok h1) (.inr (.inl (by rw [C.nm]; exact hk))) (badName_ok hb).1 (badName_ok hb).2
      · exact e_var (by rw [C.n]; exact ixOf_ok h1) (.inr (.inr (by rw [C.nm]; exact hk))) (badName_ok hb).1 (badName_ok hb).2
  · split at h
    · cases h; exact e_int
    · cases h; exact e_bl
    · cases h; exact e_str
    · cases h; exact e_non
    · cases h
  · split at h
    · rename_i f x y h1 h2 h3; cases h; exact e_bin (opF_ok h1) (hE h2) (hE h3)
    · cases h
  · simp only [Option.map_eq_some_iff] at h
    obtain ⟨a, h1, h2⟩ := h
    subst h2
    exact e_not (hE h1)
  · simp only [Option.map_eq_some_iff] at h
    obtain ⟨a, h1, h2⟩ := h
    subst h2
    exact e_un o_neg (hE h1)
  · split at h
    · rename_i hs
      split at h
      · rename_i x y h1 h2; cases h; exact e_cmp (cmpF_ok C.gd.un _) (hE h1) (hE h2) (behind_ok hs)
      · cases h
    · cases h
  · split at h
    · rename_i hs
      split at h
      · rename_i x y z h1 h2 h3; cases h; exact e_chain (cmpF_ok C.gd.un _) (cmpF_ok C.gd.un _) (hE h1) (hE h2) (hE h3) (lastm_ok hs)
      · cases h
    · cases h
  · exact denAnd_ok hE h
  · exact denOr_ok hE h
  · split at h
    · rename_i x y z h1 h2 h3; cases h; exact e_if (D0.B C h1) (hE h2) (hE h3)
    · cases h
  · simp only [Option.map_eq_some_iff] at h
    obtain ⟨a, h1, h2⟩ := h
    subst h2
    exact e_tup (denA_ok hE h1).1
  · simp only [Option.map_eq_some_iff] at h
    obtain ⟨a, h1, h2⟩ := h
    subst h2
    exact e_lst (denA_ok hE h1).1
  · cases h; exact e_dict0
  · split at h
    · rename_i x y z h1 h2 h3; cases h; exact e_sl (hE h1) (denO_ok hE h2) (denO_ok hE h3)
    · cases h
  · split at h
    · rename_i hs
      split at h
      · rename_i x y h1 h2; cases h; exact e_ix (by have := C.gd.un; omega) (hE h1) (hE h2) (plainIx_ok hs)
      · cases h
    · cases h
  · exact denCall_ok C hE h
  · exact denMeth_ok C hE h
  · split at h
    · rename_i hk
      subst hk
      exact (denLc_ok D0 C h).1
    · cases h
  · cases h
theorem stepB_ok (D0 : DenOk T k D) (C : CxOk T k cc X W) {e : Expr} {m : SB} (h : stepB D cc e = some m) : BOk X W e m := by
  have hE : ∀ {e m}, D.E cc e = some m → EOk X W e m := fun h => D0.E C h
  have hB : ∀ {e m}, D.B cc e = some m → BOk X W e m := fun h => D0.B C h
  unfold stepB at h
  split at h
  · simp only [Option.map_eq_some_iff] at h
    obtain ⟨a, h1, h2⟩ := h
    subst h2
    exact b_not (hB h1)
  · split at h
    · rename_i hs
      split at h
      · rename_i x y h1 h2; cases h; exact b_cmp (cmpF_ok C.gd.un _) (hE h1) (hE h2) (behind_ok hs)
      · cases h
    · cases h
  · split at h
    · rename_i hs
      split at h
      · rename_i x y z h1 h2 h3; cases h; exact b_chain (cmpF_ok C.gd.un _) (cmpF_ok C.gd.un _) (hE h1) (hE h2) (hE h3) (lastm_ok hs)
      · cases h
    · cases h
  · exact (denAndT_ok hB h).pt
  · exact (denOrT_ok hB h).pt
  · split at h
    · rename_i ht
      simp only [Option.map_eq_some_iff] at h
      obtain ⟨a, h1, h2⟩ := h
      subst h2
      exact b_tru (hE h1) (tru_form ht)
    · cases h
theorem den_ok : ∀ n, DenOk T k (den T n)
  | 0 => { E := fun _ h => (by cases h), B := fun _ h => (by cases h) }
  | n + 1 => { E := fun C h => stepE_ok (den_ok n) C h, B := fun C h => stepB_ok (den_ok n) C h }
end
end IP

/-! IPyJ: from the text to the evaluator: statements, defs. -/
namespace IP
open PySem PySem.Spec PyProof.Rows L2

/-! ### op= -/
def iAugAdd : O2 := fun u v S => match u, v with
  | .int i, .int j => some (.int (i + j), S)
  | .str a, .str b => if a.length + b.length ≤ 16777216 then some (.str (a ++ b), S) else none
  | _, _ => none
section
variable {X : Cx}
theorem o_augAdd : OpR X (inplaceOp .Add) (rO2 X iAugAdd) := opR_by fun x y H Q h => by
  obtain ⟨r, S, u, v, R, hu, hv, g⟩ := h
  cases hu <;> cases hv <;> simp only [iAugAdd] at g <;> first | exact g.nothing | skip
  case int.int i j => exact ⟨_, iop_add, i, j, rfl, rfl, g.same R (.int _)⟩
  case str.str i j =>
    split at g
    · rename_i hl
      exact ⟨_, iop_add_str, i, j, rfl, rfl, by rw [sl16]; exact hl, g.same R (.str _)⟩
    · exact g.nothing
theorem o_augSub : OpR X (inplaceOp .Sub) (rO2 X iSub) := opR_by fun x y H Q h => by
  obtain ⟨r, S, u, v, R, hu, hv, g⟩ := h
  cases hu <;> cases hv <;> simp only [iSub] at g <;> first | exact g.nothing | skip
  case int.int i j => exact ⟨_, iop_sub, i, j, rfl, rfl, g.same R (.int _)⟩
end
def augF : Operator → Option O2
  | .Add => some iAugAdd
  | .Sub => some iSub
  | _ => none
theorem augF_ok {X : Cx} {op : Operator} {f : O2} (e : augF op = some f) : OpR X (inplaceOp op) (rO2 X f) := by
  cases op <;> simp only [augF] at e <;> cases e
  · exact o_augAdd
  · exact o_augSub

/-! ### the text's form -/
def noComp : Expr → Bool
  | .ListComp _ _ _ _ => false
  | .SetComp _ _ _ _ => false
  | .DictComp _ _ _ _ _ => false
  | _ => true
def isNm : Expr → Bool
  | .Name _ _ => true
  | _ => false
theorem sw_none {e : Expr} {l : Nat} {env : Env} (h : noComp e = true) : swapsWith e none l env = pure false := by
  cases e <;> first | rfl | (simp [noComp] at h)
theorem sw_sole {tg e : Expr} {l : Nat} {env : Env} (h : noComp e = true ∨ isNm tg = false) : swapsWithSole [tg] e l env = pure false := by
  show swapsWith e (some tg) l env = pure false
  rcases h with h | h
  · cases e <;> first | rfl | (simp [noComp] at h)
  · cases tg <;> first | (simp [isNm] at h; done) | (cases e <;> rfl)
def swapsB (cc : Cc) (y : Str) (py pos : Pos) (scope : Scope) : Bool := cc.names.lookup y == some .local && py.line == pos.line && !(scope.names.any fun (n, k) => n == y && (k == .local || k == .cell))
theorem sw_false {elt : Expr} {gs : List Comprehension} {scope : Scope} {pos py : Pos} {y : Str} {l : Nat} {env : Env} {cc : Cc} (hn : env.scope.names = cc.names) (h : swapsB cc y py pos scope = false) :
    swapsWithSole [.Name y py] (.ListComp elt gs scope pos) l env = pure false := by
  show (pure (env.blockKind == .function && env.kindOf y == some .local && py.line == pos.line && !(scope.names.any fun (n, k) => n == y && (k == .local || k == .cell))) : Sem Bool) = pure false
  have e : env.kindOf y = cc.names.lookup y := by
    show env.scope.names.lookup y = _
    rw [hn]
  rw [e]
  unfold swapsB at h
  have z : (env.blockKind == .function && cc.names.lookup y == some .local && py.line == pos.line && !(scope.names.any fun (n, k) => n == y && (k == .local || k == .cell))) = false := by
    rw [Bool.and_assoc, Bool.and_assoc, ← Bool.and_assoc (cc.names.lookup y == some .local), h, Bool.and_false]
  rw [z]
/-- no two displays of several places -/
def noPar (tg e : Expr) : Bool := match tg, e with
  | .Tuple _ _ _, .Tuple _ _ _ => false
  | .List _ _, .Tuple _ _ _ => false
  | _, _ => true
theorem par_ok {tg e : Expr} {env : Env} (h : noPar tg e = true) : swappedStores [tg] e env = pure none := by
  cases tg <;> first | rfl | (cases e <;> first | rfl | (simp [noPar] at h))
theorem one_tg {tg : Expr} {env : Env} (h : noStar tg = true) : (assignEach [tg] env).map (·.2) = [assign tg env] := by
  rw [each_tg h]; rfl
theorem sub_tg {o i : Expr} {pos : Pos} {env : Env} (h : noSlice i = true) : ∀ v, assign (.Subscript o i pos) env v = (do
      let ov ← holding [v] (eval o env)
      let iv ← holding [v, ov] (eval i env)
      standAt pos
      holding [v, ov, iv] (setItem ov iv v)
      release [v, ov, iv] []) := fun v => by
  cases i <;> first | rfl | (simp [noSlice] at h)

/-! ### statements -/
def denSs (S : Stmt → Option SS) : List Stmt → Option SS
  | [] => some sNil
  | [a] => S a
  | a :: b :: r => match S a, denSs S (b :: r) with
    | some x, some y => some (sSeq x y)
    | _, _ => none
def denAsg0 (D : Den) (cc : Cc) (tg e : Expr) : Option SS :=
  if noPar tg e && noStar tg then match denTg cc 10 tg, D.E cc e with
    | some g, some m => some (sAsg g m)
    | _, _ => none
  else none
def denAsg (T : Tb) (D : Den) (cc : Cc) (tg e : Expr) : Option SS := match tg with
  | .Subscript o i _ => if noSlice i then match D.E cc o, D.E cc i, D.E cc e with
      | some mo, some mi, some m => some (sPut mo mi m)
      | _, _, _ => none
    else none
  | .Name y py => match e with
    | .ListComp elt [⟨tg', iter, ifs, k⟩] scope pos => if k = 0 then
        if swapsB cc y py pos scope then match denLc T D cc elt tg' iter ifs scope, ixOf y cc.N with
          | some m, some i => some (sAsg (.nm i) m)
          | _, _ => none
        else denAsg0 D cc tg e
      else none
    | e => if noComp e then denAsg0 D cc tg e else none
  | .Tuple _ _ _ => denAsg0 D cc tg e
  | _ => none
def denS (T : Tb) (D : Den) (cc : Cc) : Nat → Stmt → Option SS
  | 0, _ => none
  | n + 1, st => match st with
    | .Expr e _ => match e with
      | .Constant (.str _) _ _ => some sNil
      | e => if noComp e then (D.E cc e).map sExpr else none
    | .Return (some e) _ => (D.E cc e).map sRet
    | .Return none _ => some sRetN
    | .If c a b _ => match D.B cc c, denSs (denS T D cc n) a, denSs (denS T D cc n) b with
      | some x, some y, some z => some (sIf x y z)
      | _, _, _ => none
    | .While c b [] _ => match D.B cc c, denSs (denS T D cc n) b with
      | some x, some y => some (sWhile x y)
      | _, _ => none
    | .For tg it b [] _ => if noSet it then match denTg cc 10 tg, denI T (D.E cc) cc tg it, denSs (denS T D cc n) b with
        | some x, some y, some z => some (sFor x y z)
        | _, _, _ => none
      else none
    | .Assign [tg] e _ => denAsg T D cc tg e
    | .AugAssign (.Name x _) op e _ => if cc.names.lookup x == some .local then match ixOf x cc.N, augF op, D.E cc e with
        | some i, some f, some m => some (sAug f i m)
        | _, _, _ => none
      else none
    | .Pass _ => some sNil
    | .Break _ => some sBrk
    | .Continue _ => some sCnt
    | _ => none

section
variable {T : Tb} {k : Nat} {D : Den} {cc : Cc} {X : Cx} {W : WX}
theorem denSs_ok {S : Stmt → Option SS} (hS : ∀ {st m}, S st = some m → SOk X W st m) : ∀ {sts : List Stmt} {m : SS}, denSs S sts = some m → SsOk X W sts m
  | [], m, h => by simp only [denSs] at h; cases h; exact s_nil
  | [a], m, h => s_one (hS h)
  | a :: b :: r, m, h => by
    simp only [denSs] at h
    split at h
    · rename_i x y h1 h2; cases h; exact s_cons (hS h1) (denSs_ok hS h2)
    · cases h
theorem denAsg0_ok (D0 : DenOk T k D) (C : CxOk T k cc X W) {tg e : Expr} {pos : Pos} {m : SS} (hsw : swapsWithSole [tg] e pos.line X.env = pure false) (h : denAsg0 D cc tg e = some m) : SOk X W (.Assign [tg] e pos) m := by
  unfold denAsg0 at h
  split at h
  · rename_i hp
    rw [Bool.and_eq_true] at hp
    split at h
    · rename_i g m h1 h2
      cases h
      exact s_asg (denTg_ok C.n C.nm C.fc C.gd.nd C.gd.calm 10 h1) (D0.E C h2) hsw (par_ok hp.1) (one_tg hp.2)
    · cases h
  · cases h
theorem denAsg_ok (D0 : DenOk T k D) (C : CxOk T k cc X W) {tg e : Expr} {pos : Pos} {m : SS} (h : denAsg T D cc tg e = some m) : SOk X W (.Assign [tg] e pos) m := by
  unfold denAsg at h
  split at h
  · rename_i o i p
    split at h
    · rename_i hs
      split at h
      · rename_i mo mi m h1 h2 h3
        cases h
        exact s_put (by have := C.gd.un; omega) (D0.E C h1) (D0.E C h2) (D0.E C h3) (sw_sole (.inr rfl)) (par_ok (by cases e <;> rfl)) (one_tg rfl) (sub_tg hs)
      · cases h
    · cases h
  · rename_i y py
    split at h
    · rename_i elt tg' iter ifs kk scope p2
      split at h
      · rename_i hk
        subst hk
        split at h
        · rename_i hb
          split at h
          · rename_i m i h1 h2
            cases h
            unfold swapsB at hb
            rw [Bool.and_eq_true, Bool.and_eq_true, beq_iff_eq] at hb
            obtain ⟨⟨b1, b2⟩, b3⟩ := hb
            have b3 : (scope.names.any fun (n, k) => n == y && (k == .local || k == .cell)) = false := by
              rw [Bool.not_eq_true'] at b3; exact b3
            have hl : X.env.scope.names.lookup y = some .local := by rw [C.nm]; exact b1
            exact (denLc_ok D0 C h1).2 (by rw [C.n]; exact ixOf_ok h2) hl (sw_true C.kd hl b2 b3)
          · cases h
        · rename_i hb
          exact denAsg0_ok D0 C (sw_false C.nm (by simpa using hb)) h
      · cases h
    · split at h
      · rename_i hc
        exact denAsg0_ok D0 C (sw_sole (.inl hc)) h
      · cases h
  · exact denAsg0_ok D0 C (sw_sole (.inr rfl)) h
  · cases h
theorem denS_ok (D0 : DenOk T k D) (C : CxOk T k cc X W) (hp : PassesOwn (model X.prog X.w) X.A X.env X.xe) : ∀ (n : Nat) {st : Stmt} {m : SS}, denS T D cc n st = some m → SOk X W st m
  | 0, _, _, h => by simp only [denS] at h; cases h
  | n + 1, st, m, h => by
    have hE : ∀ {e m}, D.E cc e = some m → EOk X W e m := fun h => D0.E C h
    have hS : ∀ {st m}, denS T D cc n st = some m → SOk X W st m := fun h => denS_ok D0 C hp n h
    simp only [denS] at h
    split at h
    · split at h
      · cases h; exact s_doc
      · split at h
        · rename_i hc
          simp only [Option.map_eq_some_iff] at h
          obtain ⟨a, h1, h2⟩ := h
          subst h2
          exact s_expr (hE h1) (sw_none hc)
        · cases h
    · simp only [Option.map_eq_some_iff] at h
      obtain ⟨a, h1, h2⟩ := h
      subst h2
      exact s_ret (hE h1)
    · cases h; exact s_retN
    · split at h
      · rename_i x y z h1 h2 h3; cases h; exact s_if (D0.B C h1) (denSs_ok hS h2) (denSs_ok hS h3)
      · cases h
    · split at h
      · rename_i x y h1 h2; cases h; exact s_while hp (D0.B C h1) (denSs_ok hS h2)
      · cases h
    · split at h
      · rename_i hs
        split at h
        · rename_i x y z h1 h2 h3
          cases h
          exact s_for hp C.gd.calm (denI_ok C hE h2) (denTg_ok C.n C.nm C.fc C.gd.nd C.gd.calm 10 h1) (denSs_ok hS h3) (folded_ok hs)
        · cases h
      · cases h
    · exact denAsg_ok D0 C h
    · split at h
      · rename_i hl
        have hl := beq_iff_eq.mp hl
        split at h
        · rename_i i f m h1 h2 h3
          cases h
          exact s_aug C.gd.nd (by rw [C.n]; exact ixOf_ok h1) (.inl (by rw [C.nm]; exact hl)) (.inr (by rw [C.nm]; exact hl)) (augF_ok h2) (hE h3)
        · cases h
      · cases h
    · cases h; exact s_pass
    · cases h; exact s_brk
    · cases h; exact s_cnt
    · cases h
end

/-! ### defs -/
def startI (N : List Str) (us : List IV) : Slo := us.map some ++ List.replicate (N.length - us.length) none
def mFun (N : List Str) (b : SS) : FN := fun us S => match b (startI N us) S with
  | .nx _ S1 => .ok .non S1
  | .ret v S1 => .ok v S1
  | .ex c fs _ S1 => .ex c fs S1
  | _ => .no
/-- the evaluator's body of a def, out of its text -/
def denDef (T : Tb) (N : List Str) (st : Stmt) : Option SS := denSs (denS T (den T 40) ⟨N, (defScope st).names, fun _ => true⟩ 40) (defBody st)

section
variable {P : Program} {w : World} {K : PySem.W.Frag} {mg : Str → Option Value} {base : Heap} {T : Tb} {k : Nat}
theorem start_ok {r : List Addr} {H : Hp} {N : List Str} {us : List IV} {vs : List V} (h : VRs K mg r H us vs) (hl : vs.length ≤ N.length) : St1 K mg r N.length (startI N us) (L2.start N vs) H := by
  have e := h.length
  refine ⟨?_, ?_, fun i v q => ?_⟩
  · unfold startI; rw [List.length_append, List.length_map, List.length_replicate]; omega
  · unfold L2.start; rw [List.length_append, List.length_map, List.length_replicate]; omega
  · unfold startI at q
    unfold L2.start
    rw [List.getElem?_append] at q
    split at q
    · rename_i hi
      rw [List.length_map] at hi
      rw [List.getElem?_map] at q
      cases hu : us[i]? with
      | none => rw [hu] at q; cases q
      | some u =>
        rw [hu] at q
        cases q
        obtain ⟨w, e1, e2⟩ := h.get hu
        exact ⟨w, by rw [List.getElem?_append_left (by rw [List.length_map]; omega), List.getElem?_map, e1]; rfl, e2⟩
    · rw [List.getElem?_replicate] at q
      split at q <;> cases q
theorem def_fn {x : Str} {st : Stmt} {f : Addr} {fd : FuncData} {N ps : List Str} {b : SS} {n : Nat} (TO : TabOk P w K mg base T k) (F : Fun K x x st f fd) (S : FnScope N ps (defScope st)) (hn : ps.length = n)
    (hd : denDef T N st = some b) : FnOk P w K mg base (L2.CX P w) (k + 1) f fd ps (spI K mg (mFun N b) n) := by
  refine F.okX S (fun vs H Q E h => by rw [hn]; exact h.1) fun cdv A outer s H vs Q E hr h => ?_
  obtain ⟨hl, r, S0, us, R, hus, h⟩ := h
  have tk : Takes (cxOf (L2.CX P w) P w K mg base N x (defScope st) f cdv A outer s H E) (fun cls d _ H => E cls d H) := takes_of rfl rfl rfl rfl
  have gd : Gd (cxOf (L2.CX P w) P w K mg base N x (defScope st) f cdv A outer s H E) (fun cls d _ H => E cls d H) := ⟨rfl, S.nd, tk, by have z := hr.un; show (A.deeper (envOfC x (defScope st) s.heap.objs.size f cdv)).units + 65 < cLine; omega⟩
  have C : CxOk T k ⟨N, (defScope st).names, fun _ => true⟩ (cxOf (L2.CX P w) P w K mg base N x (defScope st) f cdv A outer s H E) (fun cls d _ H => E cls d H) := ⟨gd, rfl, rfl, S.kind, fun _ _ => rfl, hr, TO⟩
  refine ⟨_, denSs_ok (fun h => denS_ok (den_ok 40) C (passes_of rfl) 40 h) hd, r, startI N us, S0, start_ok hus ?_, R, ?_⟩
  · have : (N.take ps.length).length = ps.length := by rw [S.pre]
    rw [List.length_take] at this
    show vs.length ≤ N.length
    rw [hl, ← hn]; omega
  · unfold mFun at h
    cases eb : b (startI N us) S0 with
    | nx t S1 => rw [eb] at h; exact fun r' H' s' e R' hs' => h r' H' e R' _ .non
    | ret v S1 => rw [eb] at h; exact fun r' H' w e R' hw => h r' H' e R' w hw
    | ex c fs t S1 => rw [eb] at h; exact fun r' H' s' cls d e R' hs' z => h r' H' cls d e R' z
    | brk t S1 => rw [eb] at h; exact h.elim
    | cnt t S1 => rw [eb] at h; exact h.elim
    | no => rw [eb] at h; exact h
theorem def_ok {x : Str} {st : Stmt} {f : Addr} {fd : FuncData} {N ps : List Str} {b : SS} {n : Nat} (TO : TabOk P w K mg base T k) (F : Fun K x x st f fd) (hm : mg x = some (.ref f)) (S : FnScope N ps (defScope st)) (hb : Binds K fd ps []) (hn : ps.length = n)
    (hd : denDef T N st = some b) : DefOk P w K mg base x (mFun N b) n (k + 1) := ⟨f, fd, ps, hm, F.kp, hb, hn, def_fn TO F S hn hd⟩
theorem DefOk.mono {x : Str} {F : FN} {n j k : Nat} (D : DefOk P w K mg base x F n j) (h : j ≤ k) : DefOk P w K mg base x F n k := by
  obtain ⟨f, fd, ps, h1, h2, h3, h4, h5⟩ := D.ex
  exact ⟨f, fd, ps, h1, h2, h3, h4, h5.mono h⟩
theorem TabOk.mono {j k : Nat} (TO : TabOk P w K mg base T j) (h : j ≤ k) : TabOk P w K mg base T k := ⟨fun x n F e => (TO.fns x n F e).mono h, TO.gvs, TO.nbs⟩
/-- one def more -/
theorem TabOk.def {x : Str} {F : FN} {n : Nat} (TO : TabOk P w K mg base T k) (D : DefOk P w K mg base x F n (k + 1)) : TabOk P w K mg base ⟨(x, n, F) :: T.fn, T.gv, T.nb⟩ (k + 1) := by
  refine ⟨fun y m G e => ?_, TO.gvs, TO.nbs⟩
  rw [List.lookup_cons] at e
  cases h : y == x with
  | true => rw [h] at e; cases e; rw [beq_iff_eq.mp h]; exact D
  | false => rw [h] at e; exact (TO.fns y m G e).mono (Nat.le_succ _)
end
end IP

/-! IPyK: the law's end. -/
namespace IP
open PySem PySem.Spec PyProof.Rows L2

/-- a def of the module, under its name -/
def DefK (K : PySem.W.Frag) (mg : Str → Option Value) (x : Str) (st : Stmt) : Prop := ∃ f fd, Fun K x x st f fd ∧ mg x = some (.ref f)
theorem defK_mk {K : PySem.W.Frag} {h : Heap} {mg : Str → Option Value} {x : Str} {st : Stmt} {f : Addr} {oc : Value} {od an : Option Addr} {osl : Array (Option Value)} {kV doc pm cdv ct : Value} (X : K.In h) (G : h.Ns mainGlobals mg)
    (a : PySem.W.nsIn K mainGlobals x = some (some (.ref f))) (l : K.lookup f = some ⟨oc, od, .func (PySem.W.fnOf x x (defArgs st) (defBody st) (defScope st) .none kV doc pm an cdv ct), osl⟩)
    (c : PySem.W.codeIn K cdv x = true) (k : PySem.W.keepIn K (.ref f) = true) : DefK K mg x st := ⟨f, _, fun_mk l c k, PySem.W.mg_of X G a⟩
/-- how its arguments are bound -/
def BindA (x : Str) (st : Stmt) (ps : List Str) : Prop := ∀ (kV doc pm : Value) (an : Option Addr) (cdv ct : Value) (us : List Value), us.length = ps.length → bindArgs (PySem.W.fnOf x x (defArgs st) (defBody st) (defScope st) .none kV doc pm an cdv ct) ⟨us, []⟩ = pure (ps.zip us)
section
variable {P : Program} {w : World} {K : PySem.W.Frag} {mg : Str → Option Value} {base : Heap} {T : Tb} {k : Nat}
theorem defK_ok {x : Str} {st : Stmt} {N ps : List Str} {b : SS} {n : Nat} (TO : TabOk P w K mg base T k) (F : DefK K mg x st) (S : FnScope N ps (defScope st)) (hb : BindA x st ps) (hn : ps.length = n) (hd : denDef T N st = some b) : DefOk P w K mg base x (mFun N b) n (k + 1) := by
  obtain ⟨f, fd, F, hm⟩ := F
  exact def_ok TO F hm S (F.binds hb) hn hd
/-- a def that calls itself: by fuel -/
def recF (N : List Str) (b : FN → SS) : Nat → FN
  | 0 => fun _ _ => .no
  | j + 1 => mFun N (b (recF N b j))
theorem rec_ok {x : Str} {st : Stmt} {N ps : List Str} {b : FN → SS} {n : Nat} (TO : TabOk P w K mg base T k) (F : DefK K mg x st) (S : FnScope N ps (defScope st)) (hb : BindA x st ps) (hn : ps.length = n)
    (hd : ∀ G, denDef ⟨(x, n, G) :: T.fn, T.gv, T.nb⟩ N st = some (b G)) : ∀ j, DefOk P w K mg base x (recF N b j) n (k + j)
  | 0 => by
    obtain ⟨f, fd, F, hm⟩ := F
    refine ⟨f, fd, ps, hm, F.kp, F.binds hb, hn, ⟨fun vs H Q E h => by rw [hn]; exact h.1, fun A outer s H args us vs Q E _ _ _ _ hs => ?_⟩⟩
    obtain ⟨_, r, S0, us, R, hus, h⟩ := hs
    exact h.elim
  | j + 1 => by
    have D := rec_ok TO F S hb hn hd j
    refine defK_ok (T := ⟨(x, n, recF N b j) :: T.fn, T.gv, T.nb⟩) (k := k + j) ⟨fun y m G e => ?_, TO.gvs, TO.nbs⟩ F S hb hn (hd _)
    rw [List.lookup_cons] at e
    cases h : y == x with
    | true => rw [h] at e; cases e; rw [beq_iff_eq.mp h]; exact D
    | false => rw [h] at e; exact (TO.fns y m G e).mono (Nat.le_add_right _ _)
/-- several levels at once -/
theorem TabOk.defN {x : Str} {F : FN} {n j : Nat} (TO : TabOk P w K mg base T k) (D : DefOk P w K mg base x F n j) (h : k ≤ j) : TabOk P w K mg base ⟨(x, n, F) :: T.fn, T.gv, T.nb⟩ j := by
  refine ⟨fun y m G e => ?_, TO.gvs, TO.nbs⟩
  rw [List.lookup_cons] at e
  cases h' : y == x with
  | true => rw [h'] at e; cases e; rw [beq_iff_eq.mp h']; exact D
  | false => rw [h'] at e; exact (TO.fns y m G e).mono h
def spLaw (K : PySem.W.Frag) : Sp := fun vs H Q _ => ∃ (a : Addr) (ns : List Int), vs = [.ref a] ∧ Only H ∧ SqL K H a (ns.map V.int) ∧ ns.length ≤ 63 ∧ (∀ z ∈ ns, Builtin.Int.intBits z ≤ 1048576) ∧ ∀ H', Q (.bl true) H'
/-! ### names of the module that hold a constant -/
def GvK (K : PySem.W.Frag) (mg : Str → Option Value) (x : Str) (v : IV) : Prop := ∃ u w', mg x = some u ∧ RelV w' u ∧ ∀ r H, VR K mg r H v w'
theorem vrs_ints {r : List Addr} {H : Hp} : ∀ ns : List Int, VRs K mg r H (ns.map IV.int) (ns.map V.int)
  | [] => .nil
  | i :: ns => .cons (.int i) (vrs_ints ns)
theorem law_imp {x : Str} {f : Addr} {fd : FuncData} {F : FN} {CX : CXT} (run : ∀ ns : List Int, ns.length ≤ 63 → (∀ z ∈ ns, Builtin.Int.intBits z ≤ 1048576) → ∃ S, F [.sq (ns.map IV.int)] [] = .ok (.bl true) S)
    (G : FnOk P w K mg base CX k f fd [x] (spI K mg F 1)) : FnOk P w K mg base CX k f fd [x] (spLaw K) := G.imp fun vs H Q E ⟨a, ns, e, O, sq, hl, hz, q⟩ => by
  subst e
  obtain ⟨S, e⟩ := run ns hl hz
  have sf : SqF K [] H a (ns.map V.int) := by
    rcases sq with z | z
    · rcases z with z | ⟨o, z⟩
      · rcases O a with y | ⟨o, xs, y⟩
        · rw [z] at y; cases y
        · rw [z] at y; cases y
      · exact .inl ⟨o, z⟩
    · exact .inr (.inr z)
  refine ⟨rfl, [], [], [.sq (ns.map IV.int)], ⟨rfl, List.nodup_nil, fun i o a h => by cases h⟩, .cons (.sq sf (vrs_ints ns)) .nil, ?_⟩
  rw [e]
  exact fun r' H' _ _ w hw => by cases hw; exact q H'
theorem law_ok {x : Str} {st : Stmt} {f : Addr} {fd : FuncData} {N : List Str} {p : Str} {b : SS} (TO : TabOk P w K mg base T k) (F : Fun K x x st f fd) (S : FnScope N [p] (defScope st)) (hd : denDef T N st = some b)
    (run : ∀ ns : List Int, ns.length ≤ 63 → (∀ z ∈ ns, Builtin.Int.intBits z ≤ 1048576) → ∃ S, mFun N b [.sq (ns.map IV.int)] [] = .ok (.bl true) S) :
    FnOk P w K mg base (L2.CX P w) (k + 1) f fd [p] (spLaw K) := by
  exact law_imp run (def_fn TO F S rfl hd)
end
end IP
namespace IP
open PySem PySem.Spec PyProof.Rows L2
/-! ### constants of the module -/
section
variable {K : PySem.W.Frag} {mg : Str → Option Value}
def CV (K : PySem.W.Frag) (mg : Str → Option Value) (v : IV) (u : Value) : Prop := ∃ w', RelV w' u ∧ ∀ r H, VR K mg r H v w'
def CVs (K : PySem.W.Frag) (mg : Str → Option Value) (v : List IV) (u : List Value) : Prop := ∃ w', Vals w' u ∧ ∀ r H, VRs K mg r H v w'
theorem gv_mk {h : Heap} {x : Str} {v : IV} {u : Value} (X : K.In h) (G : h.Ns mainGlobals mg) (a : PySem.W.nsIn K mainGlobals x = some (some u)) (c : CV K mg v u) : GvK K mg x v := by
  obtain ⟨w', h1, h2⟩ := c
  exact ⟨u, w', PySem.W.mg_of X G a, h1, h2⟩
theorem cv_int {i : Int} {t : Tok} : CV K mg (.int i) (.int i t) := ⟨.int i, ⟨t, rfl⟩, fun _ _ => .int i⟩
theorem cv_str {x : Str} {t : Tok} : CV K mg (.str x) (.str x t) := ⟨.str x, ⟨t, rfl⟩, fun _ _ => .str x⟩
theorem cv_bl {b : Bool} : CV K mg (.bl b) (.bool b) := ⟨.bl b, rfl, fun _ _ => .bl b⟩
theorem cv_non : CV K mg .non .none := ⟨.non, rfl, fun _ _ => .non⟩
theorem cvs_nil : CVs K mg [] [] := ⟨[], .nil, fun _ _ => .nil⟩
theorem cvs_cons {v : IV} {u : Value} {vs : List IV} {us : List Value} (h : CV K mg v u) (q : CVs K mg vs us) : CVs K mg (v :: vs) (u :: us) := by
  obtain ⟨w', h1, h2⟩ := h
  obtain ⟨ws, h3, h4⟩ := q
  exact ⟨w' :: ws, .cons h1 h3, fun r H => .cons (h2 r H) (h4 r H)⟩
theorem cv_tup {vs : List IV} {us : List Value} {a : Addr} {d : Option Addr} {n : Nat} {sl : Array (Option Value)} (l : K.lookup a = some ⟨.type "tuple", d, .seq us.toArray n, sl⟩) (hl : us.length ≤ sizeLine) (q : CVs K mg vs us) : CV K mg (.tup vs) (.ref a) := by
  obtain ⟨ws, h3, h4⟩ := q
  exact ⟨.ref a, rfl, fun r H => .tup (.inr ⟨_, us.toArray, n, l, rfl, rfl, by simpa using hl, by simpa using h3⟩) (h4 r H)⟩
theorem cv_lst {vs : List IV} {us : List Value} {a : Addr} {n : Nat} {sl : Array (Option Value)} (l : K.lookup a = some ⟨.type "list", none, .seq us.toArray n, sl⟩) (hl : us.length ≤ sizeLine) (q : CVs K mg vs us) : CV K mg (.sq vs) (.ref a) := by
  obtain ⟨ws, h3, h4⟩ := q
  exact ⟨.ref a, rfl, fun r H => .sq (.inr (.inr ⟨_, us.toArray, n, l, rfl, rfl, rfl, by simpa using hl, by simpa using h3⟩)) (h4 r H)⟩
theorem gvs_cons {x : Str} {v : IV} {L : List (Str × IV)} (h : GvK K mg x v) (q : ∀ y v, L.lookup y = some v → GvK K mg y v) : ∀ y u, ((x, v) :: L).lookup y = some u → GvK K mg y u := fun y u e => by
  rw [List.lookup_cons] at e
  cases h' : y == x with
  | true => rw [h'] at e; cases e; rw [beq_iff_eq.mp h']; exact h
  | false => rw [h'] at e; exact q y u e
theorem gvs_nil : ∀ y v, ([] : List (Str × IV)).lookup y = some v → GvK K mg y v := fun _ _ e => by cases e
theorem nbs_cons {x : Str} {L : List Str} (h : mg x = none) (q : ∀ y, y ∈ L → mg y = none) : ∀ y, y ∈ x :: L → mg y = none := fun y e => by
  rcases List.mem_cons.mp e with e | e
  · rw [e]; exact h
  · exact q y e
theorem nbs_nil : ∀ y, y ∈ ([] : List Str) → mg y = none := fun _ e => by cases e
theorem tab0 {P : Program} {w : World} {base : Heap} {gv : List (Str × IV)} {nb : List Str} (h : ∀ y v, gv.lookup y = some v → GvK K mg y v) (q : ∀ y, y ∈ nb → mg y = none) : TabOk P w K mg base ⟨[], gv, nb⟩ 0 := ⟨fun _ _ _ e => (nomatch e), h, q⟩
end
end IP

/-! IPyL: calls by value: a def's work told over what its arguments hold, in a store of its own. -/
namespace IP
open PySem PySem.Spec PyProof.Rows L2
/-- what a value holds -/
def snapI (S : Sto) : Nat → IV → Option IV
  | 0, _ => none
  | n + 1, .ref i => match S[i]? with
    | some (.lst xs) => (mapO (snapI S n) xs).map .sq
    | _ => none
  | n + 1, .tup xs => (mapO (snapI S n) xs).map .tup
  | n + 1, .sq xs => (mapO (snapI S n) xs).map .sq
  | _ + 1, v => some v
/-- what a result holds, and which places of the store -/
def bothO {α : Type} (f : α → Option (IV × List Nat)) : List α → Option (List IV × List Nat)
  | [] => some ([], [])
  | x :: xs => match f x, bothO f xs with
    | some (t, L), some (ts, M) => some (t :: ts, L ++ M)
    | _, _ => none
def liftI (S : Sto) : Nat → IV → Option (IV × List Nat)
  | 0, _ => none
  | n + 1, .ref i => match S[i]? with
    | some (.lst xs) => (bothO (liftI S n) xs).map fun p => (.sq p.1, i :: p.2)
    | _ => none
  | n + 1, .tup xs => (bothO (liftI S n) xs).map fun p => (.tup p.1, p.2)
  | _ + 1, .sq _ => none
  | _ + 1, v => some (v, [])
-- what is held, laid anew
mutual
def plantI (o : Nat) : IV → IV × Sto
  | .sq ts => (.ref o, .lst (plantIs (o + 1) ts).1 :: (plantIs (o + 1) ts).2)
  | .tup ts => (.tup (plantIs o ts).1, (plantIs o ts).2)
  | v => (v, [])
def plantIs (o : Nat) : List IV → List IV × Sto
  | [] => ([], [])
  | t :: ts => ((plantI o t).1 :: (plantIs (o + (plantI o t).2.length) ts).1, (plantI o t).2 ++ (plantIs (o + (plantI o t).2.length) ts).2)
end
def isSc : IV → Bool
  | .non => true
  | .bl _ => true
  | .int _ => true
  | .str _ => true
  | _ => false
def dupF : List Nat → Bool
  | [] => true
  | x :: xs => !xs.contains x && dupF xs
theorem dupF_ok : ∀ {L : List Nat}, dupF L = true → L.Nodup
  | [], _ => .nil
  | x :: xs, h => by
    simp only [dupF, Bool.and_eq_true, Bool.not_eq_true', List.contains_eq_mem, decide_eq_false_iff_not] at h
    exact List.nodup_cons.mpr ⟨h.1, dupF_ok h.2⟩
/-- a def by value -/
def snF (F : FN) : FN := fun us S => match mapO (snapI S 9) us with
  | none => .no
  | some ts => match F ts [] with
    | .ok v S1 => (match liftI S1 9 v with
      | some (t, L) => if dupF L then .ok (plantI S.length t).1 (S ++ (plantI S.length t).2) else .no
      | none => .no)
    | .ex c fs _ => if fs.all fun p => isSc p.2 then .ex c fs S else .no
    | .no => .no
section
variable {K : PySem.W.Frag} {mg : Str → Option Value}
theorem mapO_snap {f : IV → Option IV} {r : List Addr} {H : Hp} (hf : ∀ {v t : IV} {w : V}, f v = some t → VR K mg r H v w → VR K mg [] H t w) : ∀ {xs ts : List IV} {ws : List V}, mapO f xs = some ts → VRs K mg r H xs ws → VRs K mg [] H ts ws
  | [], _, _, e, .nil => by cases e; exact .nil
  | x :: xs, _, _, e, .cons h q => by
    simp only [mapO] at e
    cases e1 : f x with
    | none => rw [e1] at e; cases e
    | some y =>
      rw [e1] at e
      cases e2 : mapO f xs with
      | none => rw [e2] at e; cases e
      | some ys => rw [e2] at e; cases e; exact .cons (hf e1 h) (mapO_snap hf e2 q)
theorem snap_ok {r : List Addr} {S : Sto} {H : Hp} (R : Rel K mg r S H) : ∀ {n : Nat} {v t : IV} {w : V}, snapI S n v = some t → VR K mg r H v w → VR K mg [] H t w
  | 0, v, t, w, e, h => by simp only [snapI] at e; cases e
  | n + 1, v, t, w, e, h => by
    cases h with
    | non => simp only [snapI] at e; cases e; exact .non
    | bl b => simp only [snapI] at e; cases e; exact .bl b
    | int b => simp only [snapI] at e; cases e; exact .int b
    | str b => simp only [snapI] at e; cases e; exact .str b
    | ty b => simp only [snapI] at e; cases e; exact .ty b
    | fn q => simp only [snapI] at e; cases e; exact .fn q
    | ref q =>
      simp only [snapI] at e
      split at e
      · rename_i xs hk
        obtain ⟨vs, h1, h2⟩ := R.obj _ _ _ hk q
        simp only [Option.map_eq_some_iff] at e
        obtain ⟨ts, e1, e2⟩ := e
        subst e2
        exact .sq (.inr (.inl ⟨h1, List.not_mem_nil⟩)) (mapO_snap (fun e h => snap_ok R e h) e1 h2)
      · cases e
    | tup q1 q2 =>
      simp only [snapI, Option.map_eq_some_iff] at e
      obtain ⟨ts, e1, e2⟩ := e
      subst e2
      exact .tup q1 (mapO_snap (fun e h => snap_ok R e h) e1 q2)
    | sq q1 q2 =>
      simp only [snapI, Option.map_eq_some_iff] at e
      obtain ⟨ts, e1, e2⟩ := e
      subst e2
      refine .sq ?_ (mapO_snap (fun e h => snap_ok R e h) e1 q2)
      rcases q1 with q | q | q
      · exact .inl q
      · exact .inr (.inl ⟨q.1, List.not_mem_nil⟩)
      · exact .inr (.inr q)

/-- what lift and plant give, seen from a heap -/
def PlOk (K : PySem.W.Frag) (mg : Str → Option Value) (H : Hp) (r1 : List Addr) (L : List Nat) (O : Sto) (o : Nat) (g : List Addr → Prop) : Prop :=
  O.length = L.length ∧ ∃ A : List Addr, L.map (r1[·]?) = A.map some ∧ ∀ p q : List Addr, p.length = o → g (p ++ (A ++ q)) ∧ ∀ (k : Nat) (ob : SO), O[k]? = some ob → ∃ a : Addr, A[k]? = some a ∧ OR K mg (p ++ (A ++ q)) H a ob
theorem bothO_ok {f : IV → Option (IV × List Nat)} {r1 : List Addr} {H : Hp} (hf : ∀ {v t : IV} {L : List Nat} {w : V}, f v = some (t, L) → VR K mg r1 H v w → ∀ o, PlOk K mg H r1 L (plantI o t).2 o (fun r => VR K mg r H (plantI o t).1 w)) :
    ∀ {xs ts : List IV} {L : List Nat} {ws : List V}, bothO f xs = some (ts, L) → VRs K mg r1 H xs ws → ∀ o, PlOk K mg H r1 L (plantIs o ts).2 o (fun r => VRs K mg r H (plantIs o ts).1 ws)
  | [], _, _, _, e, .nil, o => by
    simp only [bothO] at e
    cases e
    simp only [plantIs]
    exact ⟨rfl, [], rfl, fun p q _ => ⟨.nil, fun k ob e => by simp at e⟩⟩
  | x :: xs, _, _, _, e, .cons h q, o => by
    simp only [bothO] at e
    split at e
    · rename_i t L1 ts' M e1 e2
      cases e
      obtain ⟨l1, A1, a1, g1⟩ := hf e1 h o
      obtain ⟨l2, A2, a2, g2⟩ := bothO_ok hf e2 q (o + (plantI o t).2.length)
      have ll : A1.length = L1.length := by have := congrArg List.length a1; simpa using this.symm
      simp only [plantIs]
      refine ⟨by rw [List.length_append, List.length_append, l2, l1], A1 ++ A2, by rw [List.map_append, List.map_append, a1, a2], fun p q hp => ?_⟩
      have z1 := g1 p (A2 ++ q) hp
      have z2 := g2 (p ++ A1) q (by rw [List.length_append, hp, ll, l1])
      have e3 : p ++ (A1 ++ A2 ++ q) = p ++ (A1 ++ (A2 ++ q)) := by rw [List.append_assoc]
      have e4 : p ++ (A1 ++ A2 ++ q) = p ++ A1 ++ (A2 ++ q) := by rw [List.append_assoc, List.append_assoc]
      refine ⟨.cons (by rw [e3]; exact z1.1) (by rw [e4]; exact z2.1), fun k ob ek => ?_⟩
      rw [List.getElem?_append] at ek
      split at ek
      · rename_i hk
        obtain ⟨a, b1, b2⟩ := z1.2 k ob ek
        exact ⟨a, by rw [List.getElem?_append_left (List.getElem?_eq_some_iff.mp b1).1]; exact b1, by rw [e3]; exact b2⟩
      · rename_i hk
        obtain ⟨a, b1, b2⟩ := z2.2 _ ob ek
        refine ⟨a, ?_, by rw [e4]; exact b2⟩
        rw [List.getElem?_append_right (by omega)]
        rw [ll, ← l1]; exact b1
    · cases e
theorem lift_ok {r1 : List Addr} {S1 : Sto} {H : Hp} (R : Rel K mg r1 S1 H) : ∀ {n : Nat} {v t : IV} {L : List Nat} {w : V}, liftI S1 n v = some (t, L) → VR K mg r1 H v w → ∀ o, PlOk K mg H r1 L (plantI o t).2 o (fun r => VR K mg r H (plantI o t).1 w)
  | 0, v, t, L, w, e, h, o => by simp only [liftI] at e; cases e
  | n + 1, v, t, L, w, e, h, o => by
    cases h with
    | non => simp only [liftI] at e; cases e; simp only [plantI]; exact ⟨rfl, [], rfl, fun p q _ => ⟨.non, fun k ob e => by simp at e⟩⟩
    | bl b => simp only [liftI] at e; cases e; simp only [plantI]; exact ⟨rfl, [], rfl, fun p q _ => ⟨.bl b, fun k ob e => by simp at e⟩⟩
    | int b => simp only [liftI] at e; cases e; simp only [plantI]; exact ⟨rfl, [], rfl, fun p q _ => ⟨.int b, fun k ob e => by simp at e⟩⟩
    | str b => simp only [liftI] at e; cases e; simp only [plantI]; exact ⟨rfl, [], rfl, fun p q _ => ⟨.str b, fun k ob e => by simp at e⟩⟩
    | ty b => simp only [liftI] at e; cases e; simp only [plantI]; exact ⟨rfl, [], rfl, fun p q _ => ⟨.ty b, fun k ob e => by simp at e⟩⟩
    | fn hb => simp only [liftI] at e; cases e; simp only [plantI]; exact ⟨rfl, [], rfl, fun p q _ => ⟨.fn hb, fun k ob e => by simp at e⟩⟩
    | sq q1 q2 => simp only [liftI] at e; cases e
    | tup q1 q2 =>
      simp only [liftI, Option.map_eq_some_iff] at e
      obtain ⟨⟨ts, M⟩, e1, e2⟩ := e
      cases e2
      obtain ⟨l, A, a, g⟩ := bothO_ok (fun e h o => lift_ok R e h o) e1 q2 o
      simp only [plantI]
      exact ⟨l, A, a, fun p q hp => ⟨VR.tup q1 (g p q hp).1, (g p q hp).2⟩⟩
    | ref q1 =>
      simp only [liftI] at e
      split at e
      · rename_i xs hk
        obtain ⟨vs, h1, h2⟩ := R.obj _ _ _ hk q1
        simp only [Option.map_eq_some_iff] at e
        obtain ⟨⟨ts, M⟩, e1, e2⟩ := e
        cases e2
        obtain ⟨l, A, a, g⟩ := bothO_ok (fun e h o => lift_ok R e h o) e1 h2 (o + 1)
        simp only [plantI]
        rename_i ad _
        refine ⟨by rw [List.length_cons, List.length_cons, l], ad :: A, by rw [List.map_cons, List.map_cons, q1, a], fun p q hp => ?_⟩
        have z := g (p ++ [ad]) q (by rw [List.length_append, hp]; rfl)
        have e3 : p ++ [ad] ++ (A ++ q) = p ++ (ad :: A ++ q) := by simp
        rw [e3] at z
        refine ⟨.ref (by rw [List.getElem?_append_right (by omega), hp, Nat.sub_self]; rfl), fun k ob ek => ?_⟩
        cases k with
        | zero => cases ek; exact ⟨ad, rfl, vs, h1, z.1⟩
        | succ k =>
          obtain ⟨b, b1, b2⟩ := z.2 k ob (by simpa using ek)
          exact ⟨b, by simpa using b1, b2⟩
      · cases e
theorem fr_sc {r r' : List Addr} {H : Hp} : ∀ {fs : List (Str × IV)} {ws : List (Str × V)}, (fs.all fun p => isSc p.2) = true → FR K mg r H fs ws → FR K mg r' H fs ws
  | _, _, _, .nil => .nil
  | _, _, h, .cons q qs => by
    rw [List.all_cons, Bool.and_eq_true] at h
    refine FR.cons ?_ (fr_sc h.2 qs)
    have h1 := h.1
    cases q <;> first | (cases h1; done) | exact .non | exact .bl _ | exact .int _ | exact .str _
theorem sn_imp {F : FN} {n : Nat} {vs : List V} {H : Hp} {Q : VK} {E : XK} (h : spI K mg (snF F) n vs H Q E) : spI K mg F n vs H Q E := by
  obtain ⟨hl, r, S, us, R, hus, h⟩ := h
  refine ⟨hl, [], [], ?_⟩
  unfold snF at h
  split at h
  · exact h.elim
  · rename_i ts em
    refine ⟨ts, ⟨rfl, List.nodup_nil, fun i o a h => by cases h⟩, mapO_snap (fun e h => snap_ok R e h) em hus, ?_⟩
    cases ef : F ts [] with
    | no => rw [ef] at h; exact h.elim
    | ok v S1 =>
      rw [ef] at h
      intro r1 H1 x1 R1 w hw
      simp only at h
      split at h
      · rename_i t L el
        split at h
        · rename_i hd
          have nd := dupF_ok hd
          obtain ⟨l, A, a, g⟩ := lift_ok R1 el hw S.length
          have hmem : ∀ b ∈ A, b ∈ r1 := fun b hb => by
            have : some b ∈ A.map some := List.mem_map.mpr ⟨b, hb, rfl⟩
            rw [← a] at this
            obtain ⟨i, _, hi⟩ := List.mem_map.mp this
            exact List.mem_of_getElem? hi
          have hA : A.Nodup := by
            have : (A.map some).Nodup := by
              rw [← a]
              rw [List.Nodup, List.pairwise_map]
              refine List.Pairwise.imp_of_mem ?_ nd
              intro i j hi hj hij e
              have : r1[i]? ∈ A.map some := by rw [← a]; exact List.mem_map.mpr ⟨i, hi, rfl⟩
              obtain ⟨b, _, hb⟩ := List.mem_map.mp this
              have hi' := List.getElem?_eq_some_iff.mp hb.symm
              have hj' := List.getElem?_eq_some_iff.mp (e ▸ hb.symm)
              obtain ⟨p1, p2⟩ := hi'
              obtain ⟨p3, p4⟩ := hj'
              exact hij ((List.getElem_inj R1.nd).mp (p2.trans p4.symm))
            rw [List.Nodup, List.pairwise_map] at this
            exact this.imp fun h z => h (by rw [z])
          have dis : ∀ b ∈ r, b ∉ r1 := fun b hb => by
            obtain ⟨u, hu⟩ := R.hasObj hb
            exact (x1.fr b u hu List.not_mem_nil).2
          have same : ∀ b u, H b = some u → H1 b = some u := fun b u hu => (x1.fr b u hu List.not_mem_nil).1
          have x : Ex r H (r ++ A) H1 := ⟨⟨A, rfl⟩, fun b u hu nb => ⟨same b u hu, fun m => by
            rcases List.mem_append.mp m with m | m
            · exact nb m
            · exact (x1.fr b u hu List.not_mem_nil).2 (hmem b m)⟩⟩
          have gg := g r [] R.len
          rw [List.append_nil] at gg
          refine h (r ++ A) H1 x ⟨?_, ?_, fun j ob b e1 e2 => ?_⟩ w gg.1
          · have := congrArg List.length a
            simp only [List.length_map] at this
            rw [List.length_append, List.length_append, R.len, l, this]
          · rw [List.nodup_append]
            exact ⟨R.nd, hA, fun p hp q hq z => dis p hp (z ▸ hmem q hq)⟩
          · rw [List.getElem?_append] at e1
            split at e1
            · rename_i hj
              rw [List.getElem?_append_left (by rw [R.len]; exact hj)] at e2
              have ob1 := R.obj j ob b e1 e2
              obtain ⟨u, hu⟩ := ob1.hasObj
              exact ob1.mono R x (by rw [hu]; exact same b u hu)
            · rename_i hj
              rw [List.getElem?_append_right (by rw [R.len]; omega), R.len] at e2
              obtain ⟨b', c1, c2⟩ := gg.2 _ ob e1
              rw [c1] at e2
              cases e2
              exact c2
        · exact h.elim
      · exact h.elim
    | ex c fs S1 =>
      rw [ef] at h
      intro r1 H1 cls d x1 R1 z
      simp only at h
      split at h
      · rename_i hs
        have same : ∀ b u, H b = some u → H1 b = some u := fun b u hu => (x1.fr b u hu List.not_mem_nil).1
        have x : Ex r H r H1 := ⟨⟨[], (List.append_nil r).symm⟩, fun b u hu nb => ⟨same b u hu, nb⟩⟩
        refine h r H1 cls d x ⟨R.len, R.nd, fun j ob b e1 e2 => ?_⟩ ?_
        · have ob1 := R.obj j ob b e1 e2
          obtain ⟨u, hu⟩ := ob1.hasObj
          exact ob1.mono R x (by rw [hu]; exact same b u hu)
        · obtain ⟨C, c1, c2, c3⟩ := z
          refine ⟨C, c1, c2, c3.imp id ?_⟩
          rintro ⟨dd, ws, z1, z2, z3⟩
          exact ⟨dd, ws, z1, z2, fr_sc hs z3⟩
      · exact h.elim
theorem DefOk.sn {P : Program} {w : World} {base : Heap} {x : Str} {F : FN} {n k : Nat} (D : DefOk P w K mg base x F n k) : DefOk P w K mg base x (snF F) n k := by
  obtain ⟨f, fd, ps, h1, h2, h3, h4, h5⟩ := D.ex
  exact ⟨f, fd, ps, h1, h2, h3, h4, h5.imp fun vs H Q E h => sn_imp h⟩
/-- a def that calls itself, by value -/
def recS (N : List Str) (b : FN → SS) : Nat → FN
  | 0 => fun _ _ => .no
  | j + 1 => snF (mFun N (b (recS N b j)))
theorem recS_ok {P : Program} {w : World} {base : Heap} {T : Tb} {k : Nat} {x : Str} {st : Stmt} {N ps : List Str} {b : FN → SS} {n : Nat} (TO : TabOk P w K mg base T k) (F : DefK K mg x st) (S : FnScope N ps (defScope st)) (hb : BindA x st ps) (hn : ps.length = n)
    (hd : ∀ G, denDef ⟨(x, n, G) :: T.fn, T.gv, T.nb⟩ N st = some (b G)) : ∀ j, DefOk P w K mg base x (recS N b j) n (k + j)
  | 0 => rec_ok TO F S hb hn hd 0
  | j + 1 => by
    have D := recS_ok TO F S hb hn hd j
    refine (defK_ok (T := ⟨(x, n, recS N b j) :: T.fn, T.gv, T.nb⟩) (k := k + j) ⟨fun y m G e => ?_, TO.gvs, TO.nbs⟩ F S hb hn (hd _)).sn
    rw [List.lookup_cons] at e
    cases h : y == x with
    | true => rw [h] at e; cases e; rw [beq_iff_eq.mp h]; exact D
    | false => rw [h] at e; exact (TO.fns y m G e).mono (Nat.le_add_right _ _)
end
end IP

/-! IPyM: rules for the evaluator's runs, in plain Lean. -/
namespace IP
open PySem
/-! ### texts -/
theorem ofString_inj {a b : String} : (Str.ofString a = Str.ofString b) ↔ a = b := by
  constructor
  · intro h
    rw [Str.ofString_eq_toList, Str.ofString_eq_toList] at h
    have h1 : a.toList.map Char.toNat = b.toList.map Char.toNat := by
      have := congrArg (fun s : Str => s.cps.toList) h
      simpa using this
    have h2 : ∀ xs ys : List Char, xs.map Char.toNat = ys.map Char.toNat → xs = ys := by
      intro xs
      induction xs with
      | nil => intro ys h; cases ys with | nil => rfl | cons _ _ => simp at h
      | cons x xs ih =>
        intro ys h
        cases ys with
        | nil => simp at h
        | cons y ys =>
          simp only [List.map_cons, List.cons.injEq] at h
          rw [ih ys h.2]
          have : x = y := by
            apply Char.ext
            apply UInt32.toNat_inj.mp
            exact h.1
          rw [this]
    have h3 := h2 _ _ h1
    exact String.toList_inj.mp h3
  · intro h; rw [h]
/-! ### equations, by constructors -/
section
variable {α β : Type} {S S1 : Sto} {t t1 : Slo} {f : α → Sto → R β}
theorem bind_ok {a : α} : (R.ok a S).bind f = f a S := (rfl)
theorem bind_ex {c : Str} {fs : List (Str × IV)} : (R.ex c fs S : R α).bind f = .ex c fs S := (rfl)
theorem bind_no : (R.no : R α).bind f = .no := (rfl)
theorem ofO_some {a : α} : R.ofO (some (a, S)) = .ok a S := (rfl)
theorem ofO_none : (R.ofO none : R α) = .no := (rfl)
def RS.go (r : RS) (b : SS) : RS := match r with
  | .nx t1 S1 => b t1 S1
  | x => x
theorem go_nx {b : SS} : (RS.nx t S).go b = b t S := (rfl)
theorem go_ret {b : SS} {v : IV} : (RS.ret v S).go b = .ret v S := (rfl)
theorem go_brk {b : SS} : (RS.brk t S).go b = .brk t S := (rfl)
theorem go_cnt {b : SS} : (RS.cnt t S).go b = .cnt t S := (rfl)
theorem go_ex {b : SS} {c : Str} {fs : List (Str × IV)} : (RS.ex c fs t S).go b = .ex c fs t S := (rfl)
theorem go_no {b : SS} : (RS.no).go b = .no := (rfl)
/-- behind a value, in a statement -/
def R.st (r : R α) (t : Slo) (k : α → Sto → RS) : RS := match r with
  | .ok a S1 => k a S1
  | .ex c fs S1 => .ex c fs t S1
  | .no => .no
theorem st_ok {a : α} {k : α → Sto → RS} : (R.ok a S).st t k = k a S := (rfl)
theorem st_ex {c : Str} {fs : List (Str × IV)} {k : α → Sto → RS} : (R.ex c fs S : R α).st t k = .ex c fs t S := (rfl)
theorem st_no {k : α → Sto → RS} : (R.no : R α).st t k = .no := (rfl)
def oSome {γ : Type} (o : Option α) (k : α → R γ) : R γ := match o with
  | some a => k a
  | none => .no
theorem oSome_some {γ : Type} {a : α} {k : α → R γ} : oSome (some a) k = k a := (rfl)
def oSomeS (o : Option α) (k : α → RS) : RS := match o with
  | some a => k a
  | none => .no
theorem oSomeS_some {a : α} {k : α → RS} : oSomeS (some a) k = k a := (rfl)
def slotV (o : Option (Option IV)) (S : Sto) : R IV := match o with
  | some (some v) => .ok v S
  | _ => .no
theorem slotV_some {v : IV} : slotV (some (some v)) S = .ok v S := (rfl)
variable {a b c' : SE} {x y v : IV} {ca cb : SB} {sa sb : SS} {aa : SA} {g : Tg} {i : Nat} {fo : O2} {fu : O1} {fl : OL} {fm : OM} {T : String} {F : FN} {lo hi : SO'}
theorem ev_var : mVar i t S = slotV t[i]? S := by
  unfold mVar slotV; rfl
theorem ev_c : mC v t S = .ok v S := (rfl)
theorem ev_bin : mBin fo a b t S = (a t S).bind fun x S1 => (b t S1).bind fun y S2 => R.ofO (fo x y S2) := (rfl)
theorem ev_un : mUn fu a t S = (a t S).bind fun x S1 => R.ofO (fu x S1) := (rfl)
theorem asB_bl {k : Bool} : asB (.bl k) S = .ok k S := (rfl)
theorem ev_B : mB a t S = (a t S).bind asB := (rfl)
theorem ev_tru : mTru a t S = (a t S).bind fun v S1 => oSome (truI v S1) fun k => .ok k S1 := by
  show (a t S).bind _ = (a t S).bind _
  congr 1; funext v S1; unfold oSome; cases truI v S1 <;> rfl
theorem ev_andT : mAndT ca cb t S = (ca t S).bind fun c S1 => if c then cb t S1 else .ok false S1 := (rfl)
theorem ev_orT : mOrT ca cb t S = (ca t S).bind fun c S1 => if c then .ok true S1 else cb t S1 := (rfl)
theorem ev_notT : mNotT ca t S = (ca t S).bind fun c S1 => .ok (!c) S1 := (rfl)
def blV (v : IV) (k : Bool → R IV) : R IV := match v with
  | .bl c => k c
  | _ => .no
theorem blV_bl {c : Bool} {k : Bool → R IV} : blV (.bl c) k = k c := (rfl)
theorem ev_and : mAnd a b t S = (a t S).bind fun v S1 => blV v fun c => if c then b t S1 else .ok (.bl false) S1 := (rfl)
theorem ev_or : mOr a b t S = (a t S).bind fun v S1 => blV v fun c => if c then .ok (.bl true) S1 else b t S1 := (rfl)
theorem ev_not : mNot a t S = (a t S).bind fun v S1 => blV v fun c => .ok (.bl (!c)) S1 := (rfl)
theorem ev_mif : mIf ca a b t S = (ca t S).bind fun k S1 => if k then a t S1 else b t S1 := (rfl)
theorem ev_chain {fp : O2} : mChain fo fp a b c' t S = (a t S).bind fun x S1 => (b t S1).bind fun y S2 => (R.ofO (fo x y S2)).bind fun z S3 => blV z fun k => if k then (c' t S3).bind fun w S4 => R.ofO (fp y w S4) else .ok (.bl false) S3 := (rfl)
theorem ev_nil : mNil t S = .ok [] S := (rfl)
theorem ev_cons : mCons a aa t S = (a t S).bind fun x S1 => (aa t S1).bind fun xs S2 => .ok (x :: xs) S2 := (rfl)
theorem ev_tup : mTup aa t S = (aa t S).bind fun xs S1 => if xs.length ≤ 16777216 then .ok (.tup xs) S1 else .no := (rfl)
theorem ev_lst : mLst aa t S = (aa t S).bind fun xs S1 => if xs.length ≤ 16777216 then .ok (.ref S1.length) (S1 ++ [.lst xs]) else .no := (rfl)
theorem ev_fn : mFn fl aa t S = (aa t S).bind fun xs S1 => R.ofO (fl xs S1) := (rfl)
theorem ev_mt : mMt T fm a aa t S = (a t S).bind fun x S1 => if isTy T x S1 then (aa t S1).bind fun xs S2 => R.ofO (fm x xs S2) else .no := (rfl)
theorem ev_pNone : pNone t S = .ok none S := (rfl)
theorem ev_pSome : pSome a t S = (a t S).bind fun v S1 => oSome (asInt v) fun i => .ok (some i) S1 := by
  show (a t S).bind _ = (a t S).bind _
  congr 1; funext v S1; cases v <;> rfl
theorem ev_sl : mSl a lo hi t S = (a t S).bind fun x S1 => (lo t S1).bind fun l S2 => (hi t S2).bind fun h S3 => R.ofO (iSl x l h S3) := (rfl)
theorem ev_call : mCall F aa t S = (aa t S).bind fun xs S1 => F xs S1 := (rfl)
theorem ev_disp0 : mDisp0 t S = .ok (.ref S.length) (S ++ [.dct []]) := (rfl)
theorem ev_sNil : sNil t S = .nx t S := (rfl)
theorem ev_seq : sSeq sa sb t S = (sa t S).go sb := by unfold sSeq RS.go; rfl
theorem ev_expr : sExpr a t S = (a t S).st t fun _ S1 => .nx t S1 := by unfold sExpr R.st; cases a t S <;> rfl
theorem ev_ret : sRet a t S = (a t S).st t fun v S1 => .ret v S1 := by unfold sRet R.st; cases a t S <;> rfl
theorem ev_retN : sRetN t S = .ret .non S := (rfl)
theorem ev_brk : sBrk t S = .brk t S := (rfl)
theorem ev_cnt : sCnt t S = .cnt t S := (rfl)
theorem ev_if : sIf ca sa sb t S = (ca t S).st t fun k S1 => if k then sa t S1 else sb t S1 := by unfold sIf R.st; cases ca t S <;> rfl
theorem ev_asg : sAsg g a t S = (a t S).st t fun v S1 => oSomeS (tgSet S1 g v t) fun t1 => .nx t1 S1 := by
  unfold sAsg R.st oSomeS
  cases a t S with
  | ok v S1 => simp only; cases tgSet S1 g v t <;> rfl
  | ex c fs S1 => rfl
  | no => rfl
theorem ev_put {mo mi : SE} : sPut mo mi a t S = ((a t S).bind (fun v S1 => (mo t S1).bind fun x S2 => (mi t S2).bind fun y S3 => oSome (putO x y v S3) fun S4 => .ok () S4)).st t fun _ S1 => .nx t S1 := by
  unfold sPut R.st
  generalize a t S = r
  cases r with
  | ok v S1 =>
    simp only [bind_ok]
    generalize mo t S1 = r
    cases r with
    | ok x S2 =>
      simp only [bind_ok]
      generalize mi t S2 = r
      cases r with
      | ok y S3 => simp only [bind_ok]; cases putO x y v S3 <;> rfl
      | ex c fs S1 => rfl
      | no => rfl
    | ex c fs S1 => rfl
    | no => rfl
  | ex c fs S1 => rfl
  | no => rfl
theorem tgI_nm {j : Nat} : tgSet S (.nm j) v t = some (t.set j (some v)) := by simp only [tgSet]
theorem tgI_tup {gs : List Tg} {xs : List IV} : tgSet S (.tu gs) (.tup xs) t = tgSets S gs xs t := by simp only [tgSet]
theorem tgI_0 : tgSets S [] [] t = some t := by simp only [tgSets]
theorem tgI_1 {gs : List Tg} {xs : List IV} : tgSets S (g :: gs) (x :: xs) t = (tgSet S g x t).bind fun t1 => tgSets S gs xs t1 := by
  simp only [tgSets]; cases tgSet S g x t <;> rfl
/-! operations -/
theorem add_ii {p q : Int} : iAdd (.int p) (.int q) S = some (.int (p + q), S) := (rfl)
theorem sub_ii {p q : Int} : iSub (.int p) (.int q) S = some (.int (p - q), S) := (rfl)
theorem mul_ii {p q : Int} : iMul (.int p) (.int q) S = if okMul p q then some (.int (p * q), S) else none := (rfl)
theorem div_ii {p q : Int} : iFdiv (.int p) (.int q) S = if decide (0 < q ∧ q < 1073741824) then some (.int (p / q), S) else none := (rfl)
theorem mod_ii {p q : Int} : iMod (.int p) (.int q) S = if decide (0 < q) then some (.int (p % q), S) else none := (rfl)
theorem neg_i {p : Int} : iNeg (.int p) S = some (.int (-p), S) := (rfl)
theorem lt_ii {p q : Int} : iLt (.int p) (.int q) S = some (.bl (decide (p < q)), S) := (rfl)
theorem le_ii {p q : Int} : iLe (.int p) (.int q) S = some (.bl (decide (p ≤ q)), S) := (rfl)
theorem gt_ii {p q : Int} : iGt (.int p) (.int q) S = some (.bl (decide (q < p)), S) := (rfl)
theorem ge_ii {p q : Int} : iGe (.int p) (.int q) S = some (.bl (decide (q ≤ p)), S) := (rfl)
theorem eq_e : iEq x y S = (eqI x y S).map fun b => (.bl b, S) := (rfl)
theorem ne_e : iNe x y S = (eqI x y S).map fun b => (.bl (!b), S) := (rfl)
theorem eq_ii {p q : Int} : eqI (.int p) (.int q) S = some (decide (p = q)) := (rfl)
theorem eq_ss {p q : Str} : eqI (.str p) (.str q) S = some (decide (p = q)) := (rfl)
theorem is_e : iIs x y S = (isI x y).map fun b => (.bl b, S) := (rfl)
theorem isnot_e : iIsNot x y S = (isI x y).map fun b => (.bl (!b), S) := (rfl)
theorem is_bb {p q : Bool} : isI (.bl p) (.bl q) = some (decide (p = q)) := (rfl)
theorem is_nn : isI .non .non = some true := (rfl)
theorem is_in {p : Int} : isI (.int p) .non = some false := (rfl)
theorem is_sn {p : Str} : isI (.str p) .non = some false := (rfl)
theorem is_rn {p : Nat} : isI (.ref p) .non = some false := (rfl)
theorem is_tn {p : List IV} : isI (.tup p) .non = some false := (rfl)
theorem is_qn {p : List IV} : isI (.sq p) .non = some false := (rfl)
theorem ix_tup {xs : List IV} {p : Int} : iIx (.tup xs) (.int p) S = (L2.atI xs p).map fun z => (z, S) := (rfl)
theorem ix_sq {xs : List IV} {p : Int} : iIx (.sq xs) (.int p) S = (L2.atI xs p).map fun z => (z, S) := (rfl)
theorem ix_ref {xs : List IV} {p : Int} (h : S[i]? = some (.lst xs)) : iIx (.ref i) (.int p) S = (L2.atI xs p).map fun z => (z, S) := by
  unfold iIx ixI dctI seqI; simp only [h]
theorem seq_sq {xs : List IV} : seqI (.sq xs) S = some xs := (rfl)
theorem seq_ref {xs : List IV} (h : S[i]? = some (.lst xs)) : seqI (.ref i) S = some xs := by unfold seqI; simp only [h]
theorem len_tup {xs : List IV} : iLen [.tup xs] S = some (.int xs.length, S) := (rfl)
theorem len_sq {xs : List IV} : iLen [.sq xs] S = some (.int xs.length, S) := (rfl)
theorem len_ref {xs : List IV} (h : S[i]? = some (.lst xs)) : iLen [.ref i] S = some (.int xs.length, S) := by
  unfold iLen dctI seqI; simp only [h, Option.map_some]
theorem add_sq {xs ys : List IV} (h : xs.length + ys.length ≤ 16777216) : iAdd (.sq xs) (.sq ys) S = some (.ref S.length, S ++ [.lst (xs ++ ys)]) := by
  show (if _ then _ else _) = _
  rw [if_pos h]
theorem add_seq {u v : IV} {xs ys : List IV} (hu : ∀ p, u ≠ .tup p) (h1 : seqI u S = some xs) (h2 : seqI v S = some ys) (h : xs.length + ys.length ≤ 16777216) : iAdd u v S = some (.ref S.length, S ++ [.lst (xs ++ ys)]) := by
  unfold iAdd
  split <;> first | (simp [seqI] at h1; done) | (exact absurd rfl (hu _)) | skip
  rw [h1, h2]
  simp only [if_pos h]
theorem mul_seq {u : IV} {k : Int} {xs : List IV} (h1 : seqI u S = some xs) (h : -(2 ^ 63) ≤ k ∧ k < 2 ^ 63 ∧ xs.length * k.toNat ≤ 16777216) : iMul u (.int k) S = some (.ref S.length, S ++ [.lst (List.replicate k.toNat xs).flatten]) := by
  unfold iMul
  split
  · simp [seqI] at h1
  · simp [seqI] at h1
  · rename_i e; cases e; rw [h1]; simp only [decide_eq_true h, if_true]
  · rename_i e _ _; exact absurd rfl (e _)
theorem at_nat {β : Type} {xs : List β} {k : Nat} : L2.atI xs (k : Int) = xs[k]? := by
  unfold L2.atI L2.ixN
  rw [if_pos (by omega)]
  by_cases h : k < xs.length
  · rw [if_pos (by omega)]; simp
  · rw [if_neg (by omega)]; simp; omega
theorem at_last {β : Type} {xs : List β} (h : 0 < xs.length) : L2.atI xs (-1) = xs[xs.length - 1]? := by
  unfold L2.atI L2.ixN
  rw [if_neg (by omega), if_pos (by omega)]
  show xs[((-1 : Int) + xs.length).toNat]? = _
  congr 1; omega
theorem okMul_l {p q : Int} (h : -(2 ^ 64) < p ∧ p < 2 ^ 64) : okMul p q = true := by unfold okMul; rw [decide_eq_true h]; rfl
theorem okMul_r {p q : Int} (h : -(2 ^ 64) < q ∧ q < 2 ^ 64) : okMul p q = true := by unfold okMul; rw [decide_eq_true h]; simp
end

/-! ### what values hold -/
section
variable {S S' : Sto}
theorem mapO_all {α β : Type} {f : α → Option β} {g : α → β} : ∀ {xs : List α}, (∀ x ∈ xs, f x = some (g x)) → mapO f xs = some (xs.map g)
  | [], _ => rfl
  | x :: xs, h => by
    simp only [mapO, h x List.mem_cons_self, mapO_all (xs := xs) fun y hy => h y (List.mem_cons_of_mem _ hy)]
    rfl
theorem mapO_id {α : Type} {f : α → Option α} {xs : List α} (h : ∀ x ∈ xs, f x = some x) : mapO f xs = some xs := by
  rw [mapO_all (g := id) h, List.map_id]
theorem mapO_imp {α β : Type} {f g : α → Option β} : ∀ {xs : List α} {ys : List β}, (∀ x y, f x = some y → g x = some y) → mapO f xs = some ys → mapO g xs = some ys
  | [], _, _, e => e
  | x :: xs, _, h, e => by
    simp only [mapO] at e ⊢
    cases e1 : f x with
    | none => rw [e1] at e; cases e
    | some y =>
      rw [e1] at e
      cases e2 : mapO f xs with
      | none => rw [e2] at e; cases e
      | some zs => rw [e2] at e; rw [h x y e1, mapO_imp h e2]; exact e
theorem snapI_ext (h : ∀ (i : Nat) (xs : List IV), S[i]? = some (SO.lst xs) → S'[i]? = some (SO.lst xs)) : ∀ {n : Nat} {v t : IV}, snapI S n v = some t → snapI S' n v = some t
  | 0, _, _, e => by simp only [snapI] at e; cases e
  | n + 1, v, t, e => by
    cases v <;> simp only [snapI] at e ⊢ <;> try exact e
    case tup xs =>
      simp only [Option.map_eq_some_iff] at e ⊢
      obtain ⟨ts, e1, e2⟩ := e
      exact ⟨ts, mapO_imp (fun _ _ => snapI_ext h) e1, e2⟩
    case sq xs =>
      simp only [Option.map_eq_some_iff] at e ⊢
      obtain ⟨ts, e1, e2⟩ := e
      exact ⟨ts, mapO_imp (fun _ _ => snapI_ext h) e1, e2⟩
    case ref i =>
      split at e
      · rename_i xs hk
        rw [h i xs hk]
        simp only [Option.map_eq_some_iff] at e ⊢
        obtain ⟨ts, e1, e2⟩ := e
        exact ⟨ts, mapO_imp (fun _ _ => snapI_ext h) e1, e2⟩
      · cases e
theorem snapI_app {T : Sto} {n : Nat} {v t : IV} (h : snapI S n v = some t) : snapI (S ++ T) n v = some t :=
  snapI_ext (fun i xs e => by rw [List.getElem?_append_left (List.getElem?_eq_some_iff.mp e).1]; exact e) h
/-- a tree: what is carried by value, of so many storeys -/
def okT : Nat → IV → Bool
  | 0, _ => false
  | _ + 1, .non => true
  | _ + 1, .bl _ => true
  | _ + 1, .int _ => true
  | _ + 1, .str x => PyData.strOk x
  | n + 1, .tup xs => xs.all (okT n)
  | n + 1, .sq xs => xs.all (okT n)
  | _ + 1, _ => false
theorem okT_mono : ∀ {n m : Nat} {t : IV}, okT n t = true → n ≤ m → okT m t = true
  | 0, _, _, e, _ => by simp only [okT] at e; cases e
  | n + 1, 0, _, _, h => by omega
  | n + 1, m + 1, t, e, h => by
    cases t <;> simp only [okT] at e ⊢ <;> try exact e
    all_goals
      rw [List.all_eq_true] at e ⊢
      exact fun x hx => okT_mono (e x hx) (by omega)
theorem snap_tree : ∀ {n m : Nat} {t : IV}, okT n t = true → n ≤ m → snapI S m t = some t
  | 0, _, _, e, _ => by simp only [okT] at e; cases e
  | n + 1, 0, _, _, h => by omega
  | n + 1, m + 1, t, e, h => by
    cases t <;> simp only [okT] at e <;> simp only [snapI]
    case tup xs => rw [mapO_id fun x hx => snap_tree (List.all_eq_true.mp e x hx) (by omega)]; rfl
    case sq xs => rw [mapO_id fun x hx => snap_tree (List.all_eq_true.mp e x hx) (by omega)]; rfl
    all_goals cases e
theorem snap_plants {n : Nat} (hn : ∀ (P Q : Sto) (t : IV), okT n t = true → snapI (P ++ (plantI P.length t).2 ++ Q) n (plantI P.length t).1 = some t) : ∀ (ts : List IV) (P Q : Sto), (∀ t ∈ ts, okT n t = true) → mapO (snapI (P ++ (plantIs P.length ts).2 ++ Q) n) (plantIs P.length ts).1 = some ts
  | [], P, Q, _ => by simp only [plantIs, mapO]
  | t :: ts, P, Q, h => by
    simp only [plantIs, mapO]
    have h1 := hn P ((plantIs (P.length + (plantI P.length t).2.length) ts).2 ++ Q) t (h t List.mem_cons_self)
    have h2 := snap_plants hn ts (P ++ (plantI P.length t).2) Q fun x hx => h x (List.mem_cons_of_mem _ hx)
    rw [List.length_append] at h2
    have e1 : P ++ ((plantI P.length t).2 ++ (plantIs (P.length + (plantI P.length t).2.length) ts).2) ++ Q = P ++ (plantI P.length t).2 ++ ((plantIs (P.length + (plantI P.length t).2.length) ts).2 ++ Q) := by simp only [List.append_assoc]
    have e2 : P ++ ((plantI P.length t).2 ++ (plantIs (P.length + (plantI P.length t).2.length) ts).2) ++ Q = P ++ (plantI P.length t).2 ++ (plantIs (P.length + (plantI P.length t).2.length) ts).2 ++ Q := by simp only [List.append_assoc]
    rw [e1, h1, ← e1, e2, h2]
theorem snap_plant : ∀ (n : Nat) (P Q : Sto) (t : IV), okT n t = true → snapI (P ++ (plantI P.length t).2 ++ Q) n (plantI P.length t).1 = some t
  | 0, _, _, _, e => by simp only [okT] at e; cases e
  | n + 1, P, Q, t, e => by
    cases t <;> simp only [okT] at e <;> simp only [plantI, snapI]
    case tup xs => rw [snap_plants (snap_plant n) xs P Q (List.all_eq_true.mp e)]; rfl
    case sq xs =>
      have h := snap_plants (snap_plant n) xs (P ++ [.lst (plantIs (P.length + 1) xs).1]) Q (List.all_eq_true.mp e)
      rw [List.length_append] at h
      have e1 : P ++ (SO.lst (plantIs (P.length + 1) xs).1 :: (plantIs (P.length + 1) xs).2) ++ Q = P ++ [SO.lst (plantIs (P.length + 1) xs).1] ++ (plantIs (P.length + 1) xs).2 ++ Q := by simp only [List.append_assoc, List.singleton_append, List.cons_append, List.nil_append]
      have e2 : (P ++ [SO.lst (plantIs (P.length + 1) xs).1] ++ (plantIs (P.length + 1) xs).2 ++ Q)[P.length]? = some (SO.lst (plantIs (P.length + 1) xs).1) := by
        rw [List.append_assoc, List.append_assoc, List.getElem?_append_right (Nat.le_refl _), Nat.sub_self]; rfl
      rw [e1, e2]
      simp only
      have h : mapO (snapI (P ++ [SO.lst (plantIs (P.length + 1) xs).1] ++ (plantIs (P.length + 1) xs).2 ++ Q) n) (plantIs (P.length + 1) xs).1 = some xs := h
      rw [h]; rfl
    all_goals cases e
theorem mapO_toD {f : IV → Option IV} {g h : IV → Option PyData} (k : ∀ v t, f v = some t → g v = h t) : ∀ {xs ts : List IV}, mapO f xs = some ts → mapO g xs = mapO h ts
  | [], _, e => by cases e; rfl
  | x :: xs, _, e => by
    simp only [mapO] at e
    cases e1 : f x with
    | none => rw [e1] at e; cases e
    | some y =>
      rw [e1] at e
      cases e2 : mapO f xs with
      | none => rw [e2] at e; cases e
      | some zs => rw [e2] at e; cases e; simp only [mapO]; rw [k x y e1, mapO_toD k e2]
theorem toD_snap : ∀ {n m : Nat} {v t : IV}, snapI S n v = some t → n ≤ m → toD S m v = toD [] m t
  | 0, _, _, _, e, _ => by simp only [snapI] at e; cases e
  | n + 1, 0, _, _, _, h => by omega
  | n + 1, m + 1, v, t, e, h => by
    cases v <;> simp only [snapI] at e
    case ref i =>
      split at e
      · rename_i xs hk
        simp only [Option.map_eq_some_iff] at e
        obtain ⟨ts, e1, rfl⟩ := e
        simp only [toD, seqI, hk]
        rw [mapO_toD (fun v t e => toD_snap e (by omega)) e1]
      · cases e
    case tup xs =>
      simp only [Option.map_eq_some_iff] at e
      obtain ⟨ts, e1, rfl⟩ := e
      simp only [toD]
      rw [mapO_toD (fun v t e => toD_snap e (by omega)) e1]
    case sq xs =>
      simp only [Option.map_eq_some_iff] at e
      obtain ⟨ts, e1, rfl⟩ := e
      simp only [toD, seqI]
      rw [mapO_toD (fun v t e => toD_snap e (by omega)) e1]
    all_goals (cases e; simp only [toD, seqI])
theorem toD_oks {n m : Nat} (hk : ∀ t, okT n t = true → ∃ d, toD [] m t = some d ∧ d.canLay0 = true ∧ d.depth ≤ n) : ∀ {ts : List IV}, (∀ t ∈ ts, okT n t = true) → ∃ ds, mapO (toD [] m) ts = some ds ∧ PyData.canLayAll0 ds = true ∧ PyData.depthAll ds ≤ n
  | [], _ => ⟨[], rfl, rfl, Nat.zero_le _⟩
  | t :: ts, h => by
    obtain ⟨d, e1, e2, e3⟩ := hk t (h t List.mem_cons_self)
    obtain ⟨ds, f1, f2, f3⟩ := toD_oks hk fun x hx => h x (List.mem_cons_of_mem _ hx)
    refine ⟨d :: ds, by simp only [mapO, e1, f1], by simp only [PyData.canLayAll0, e2, f2, Bool.and_true], ?_⟩
    simp only [PyData.depthAll]
    omega
end
end IP

/-! IPyN: equality, calls by value, loops, comprehensions, in plain Lean. -/
namespace IP
open PySem
section
variable {S S' : Sto}
theorem toD_tree : ∀ {n m : Nat} {t : IV}, okT n t = true → n ≤ m → ∃ d, toD [] m t = some d ∧ d.canLay0 = true ∧ d.depth ≤ n
  | 0, _, _, e, _ => by simp only [okT] at e; cases e
  | n + 1, 0, _, _, h => by omega
  | n + 1, m + 1, t, e, h => by
    cases t <;> simp only [okT] at e <;> simp only [toD, seqI]
    case non => exact ⟨_, rfl, rfl, Nat.zero_le _⟩
    case bl => exact ⟨_, rfl, rfl, Nat.zero_le _⟩
    case int => exact ⟨_, rfl, rfl, Nat.zero_le _⟩
    case str => exact ⟨_, rfl, by simp only [PyData.canLay0]; exact e, Nat.zero_le _⟩
    case tup xs =>
      obtain ⟨ds, e1, e2, e3⟩ := toD_oks (fun t h => toD_tree h (by omega : n ≤ m)) (List.all_eq_true.mp e)
      rw [e1]
      exact ⟨_, rfl, by simp only [PyData.canLay0]; exact e2, by simp only [PyData.depth]; omega⟩
    case sq xs =>
      obtain ⟨ds, e1, e2, e3⟩ := toD_oks (fun t h => toD_tree h (by omega : n ≤ m)) (List.all_eq_true.mp e)
      rw [e1]
      exact ⟨_, rfl, by simp only [PyData.canLay0]; exact e2, by simp only [PyData.depth]; omega⟩
    all_goals cases e
theorem mapO_lenI {α β : Type} {f : α → Option β} : ∀ {xs : List α} {ys : List β}, mapO f xs = some ys → ys.length = xs.length
  | [], _, e => by cases e; rfl
  | x :: xs, _, e => by
    simp only [mapO] at e
    cases e1 : f x with
    | none => rw [e1] at e; cases e
    | some y =>
      rw [e1] at e
      cases e2 : mapO f xs with
      | none => rw [e2] at e; cases e
      | some zs => rw [e2] at e; cases e; simp only [List.length_cons, mapO_lenI e2]
def seqLen : IV → Nat
  | .sq xs => xs.length
  | _ => 0
theorem snap_len {v t : IV} {xs : List IV} (h : snapI S 9 v = some t) (e : seqI v S = some xs) : seqLen t = xs.length := by
  cases v <;> simp only [seqI] at e <;> try (cases e; done)
  · cases e
    simp only [snapI, Option.map_eq_some_iff] at h
    obtain ⟨ts, e1, rfl⟩ := h
    exact mapO_lenI e1
  · split at e
    · rename_i ys hk
      cases e
      simp only [snapI, hk, Option.map_eq_some_iff] at h
      obtain ⟨ts, e1, rfl⟩ := h
      exact mapO_lenI e1
    · cases e
/-- what holds the same is equal -/
theorem eqI_same {u v t : IV} (h1 : snapI S 9 u = some t) (h2 : snapI S 9 v = some t) (h : okT 9 t = true) : eqI u v S = some true := by
  obtain ⟨d, e1, e2, e3⟩ := toD_tree (m := 20) h (by omega)
  have f1 := (toD_snap h1 (by omega : 9 ≤ 20)).trans e1
  have f2 := (toD_snap h2 (by omega : 9 ≤ 20)).trans e1
  have sh : SeqAt.shaped d = true := by
    unfold SeqAt.shaped
    rw [e2, decide_eq_true (by omega)]; rfl
  have re := SeqAt.eqv_refl d e2
  unfold eqI
  split
  · simp only [snapI] at h1 h2; cases h1; cases h2; simp
  · simp only [snapI] at h1 h2; cases h1; cases h2; simp
  · simp only [snapI] at h1 h2; cases h1; cases h2; simp
  · rfl
  · have nn : lenNe u v S = false := by
      unfold lenNe
      split
      · rename_i xs ys k1 k2
        have c1 := snap_len h1 k1
        have c2 := snap_len h2 k2
        rw [c1] at c2
        simpa using c2
      · rfl
    simp only [f1, f2, sh, re, Bool.and_self, if_true, nn, if_neg Bool.false_ne_true]
/-- a call by value -/
theorem sn_ok {F : FN} {us ts : List IV} {v t : IV} {S1 : Sto} {L : List Nat} (hs : mapO (snapI S 9) us = some ts) (hF : F ts [] = .ok v S1) (hl : liftI S1 9 v = some (t, L)) (hd : dupF L = true) :
    snF F us S = .ok (plantI S.length t).1 (S ++ (plantI S.length t).2) := by
  unfold snF
  simp only [hs, hF, hl, hd, if_true]
/-- a call by value that tells a scalar -/
theorem sn_sc {F : FN} {us ts : List IV} {v : IV} {S1 : Sto} (hs : mapO (snapI S 9) us = some ts) (hF : F ts [] = .ok v S1) (h : isSc v = true) : snF F us S = .ok v S := by
  have e : liftI S1 9 v = some (v, []) := by
    cases v <;> first | (cases h; done) | simp only [liftI]
  rw [sn_ok hs hF e rfl]
  cases v <;> first | (cases h; done) | simp only [plantI, List.append_nil]
theorem plantIs_sc : ∀ {ts : List IV} (o : Nat), (∀ t ∈ ts, isSc t = true) → plantIs o ts = (ts, [])
  | [], o, _ => by simp only [plantIs]
  | t :: ts, o, h => by
    have h1 : plantI o t = (t, []) := by
      have := h t List.mem_cons_self
      cases t <;> first | (cases this; done) | simp only [plantI]
    simp only [plantIs, h1, List.length_nil, Nat.add_zero, plantIs_sc (ts := ts) o fun x hx => h x (List.mem_cons_of_mem _ hx), List.append_nil]
theorem plant_sq {ts : List IV} (o : Nat) (h : ∀ t ∈ ts, isSc t = true) : plantI o (.sq ts) = (.ref o, [.lst ts]) := by
  simp only [plantI, plantIs_sc _ h]
theorem bothO_sc : ∀ {ts : List IV} {n : Nat}, (∀ t ∈ ts, isSc t = true) → bothO (liftI S (n + 1)) ts = some (ts, [])
  | [], _, _ => rfl
  | t :: ts, n, h => by
    have h1 : liftI S (n + 1) t = some (t, []) := by
      have := h t List.mem_cons_self
      cases t <;> first | (cases this; done) | simp only [liftI]
    simp only [bothO, h1, bothO_sc (ts := ts) fun x hx => h x (List.mem_cons_of_mem _ hx), List.append_nil]
theorem lift_ref {i : Nat} {ts : List IV} (hk : S[i]? = some (.lst ts)) (h : ∀ t ∈ ts, isSc t = true) : liftI S 9 (.ref i) = some (.sq ts, [i]) := by
  simp only [liftI, hk, bothO_sc h, Option.map_some]
theorem okT_sc {n : Nat} {ts : List IV} (h : ∀ t ∈ ts, okT n t = true) : okT (n + 1) (.sq ts) = true := by
  simp only [okT, List.all_eq_true]; exact h
def iL (ns : List Int) : List IV := ns.map IV.int
theorem iL_sc {ns : List Int} : ∀ t ∈ iL ns, isSc t = true := fun t h => by
  obtain ⟨n, _, rfl⟩ := List.mem_map.mp h; rfl
theorem iL_ok {ns : List Int} {n : Nat} : ∀ t ∈ iL ns, okT (n + 1) t = true := fun t h => by
  obtain ⟨k, _, rfl⟩ := List.mem_map.mp h; simp only [okT]
theorem okT_iL {ns : List Int} {n : Nat} : okT (n + 2) (.sq (iL ns)) = true := okT_sc iL_ok
end

/-! ### loops -/
theorem loopI_inv {g : Tg} {b : SS} {it : ItS} {xs : List IV} (I : Nat → Slo → Sto → Prop) (P : RS → Prop) (hit : ∀ n t S, I n t S → nextAt it n S = some xs[n]?)
    (step : ∀ n x t S, xs[n]? = some x → I n t S → ∃ t1, tgSet S g x t = some t1 ∧ ((∃ t' S', b t1 S = .nx t' S' ∧ I (n + 1) t' S') ∨ (∃ t' S', b t1 S = .cnt t' S' ∧ I (n + 1) t' S') ∨ (∃ t' S', b t1 S = .brk t' S' ∧ P (.nx t' S')) ∨ (∃ v S', b t1 S = .ret v S' ∧ P (.ret v S')))) :
    ∀ (k n : Nat) (t : Slo) (S : Sto), I n t S → n ≤ xs.length → xs.length < n + k → (∃ t' S', loopI g b it k n t S = .nx t' S' ∧ I xs.length t' S') ∨ P (loopI g b it k n t S)
  | 0, n, t, S, h, h1, h2 => by omega
  | k + 1, n, t, S, h, h1, h2 => by
    simp only [loopI, hit n t S h]
    cases e : xs[n]? with
    | none =>
      have : n = xs.length := by
        have := List.getElem?_eq_none_iff.mp e
        omega
      subst this
      exact .inl ⟨t, S, rfl, h⟩
    | some x =>
      have hn := (List.getElem?_eq_some_iff.mp e).1
      obtain ⟨t1, e1, h'⟩ := step n x t S e h
      simp only [e1]
      rcases h' with ⟨t', S', e2, h'⟩ | ⟨t', S', e2, h'⟩ | ⟨t', S', e2, h'⟩ | ⟨v, S', e2, h'⟩
      · simp only [e2]; exact loopI_inv I P hit step k (n + 1) t' S' h' (by omega) (by omega)
      · simp only [e2]; exact loopI_inv I P hit step k (n + 1) t' S' h' (by omega) (by omega)
      · simp only [e2]; exact .inr h'
      · simp only [e2]; exact .inr h'
/-- a loop that goes on to its end -/
theorem for_nx {g : Tg} {m : SI} {b : SS} {it : ItS} {xs : List IV} {t0 : Slo} {S0 S1 : Sto} (hm : m t0 S0 = .ok it S1) (I : Nat → Slo → Sto → Prop) (hit : ∀ n t S, I n t S → nextAt it n S = some xs[n]?)
    (step : ∀ n x t S, xs[n]? = some x → I n t S → ∃ t1 t' S', tgSet S g x t = some t1 ∧ b t1 S = .nx t' S' ∧ I (n + 1) t' S') (h0 : I 0 t0 S1) (hl : xs.length < 1000000) : ∃ t' S', sFor g m b t0 S0 = .nx t' S' ∧ I xs.length t' S' := by
  unfold sFor
  rw [hm]
  rcases loopI_inv (g := g) (b := b) I (fun _ => False) hit (fun n x t S e h => by obtain ⟨t1, t', S', e1, e2, e3⟩ := step n x t S e h; exact ⟨t1, e1, .inl ⟨t', S', e2, e3⟩⟩) 1000000 0 t0 S1 h0 (Nat.zero_le _) (by omega) with h | h
  · exact h
  · exact h.elim
theorem lcI_inv {own : List Nat} {g : Tg} {c : SB} {e : SE} {it : ItS} {t0 : Slo} {d : Nat} {xs : List IV} (I : Nat → List IV → Sto → Prop) (hit : ∀ n acc S, I n acc S → nextAt it n S = some xs[n]?)
    (step : ∀ n x acc S, xs[n]? = some x → I n acc S → ∃ t1 k S1, tgSet S g x (wipeI t0 own) = some t1 ∧ c t1 S = .ok k S1 ∧ (k = false → I (n + 1) acc S1) ∧
      (k = true → ∃ y S2, e t1 S1 = .ok y S2 ∧ S2[d]? = some (.lst acc) ∧ acc.length < 16777216 ∧ I (n + 1) (acc ++ [y]) (S2.set d (.lst (acc ++ [y]))))) :
    ∀ (f n : Nat) (acc : List IV) (S : Sto), I n acc S → n ≤ xs.length → xs.length < n + f → ∃ acc' S', lcI own g c e it t0 d f n S = .ok (.ref d) S' ∧ I xs.length acc' S'
  | 0, n, acc, S, h, h1, h2 => by omega
  | f + 1, n, acc, S, h, h1, h2 => by
    simp only [lcI, hit n acc S h]
    cases ex : xs[n]? with
    | none =>
      have : n = xs.length := by
        have := List.getElem?_eq_none_iff.mp ex
        omega
      subst this
      exact ⟨acc, S, rfl, h⟩
    | some x =>
      have hn := (List.getElem?_eq_some_iff.mp ex).1
      obtain ⟨t1, k, S1, e1, e2, h3, h4⟩ := step n x acc S ex h
      simp only [e1, e2, bind_ok]
      cases k with
      | false => simp only [if_neg Bool.false_ne_true]; exact lcI_inv I hit step f (n + 1) acc S1 (h3 rfl) (by omega) (by omega)
      | true =>
        obtain ⟨y, S2, e3, e4, e5, e6⟩ := h4 rfl
        simp only [if_true, e3, bind_ok, e4, if_pos e5]
        exact lcI_inv I hit step f (n + 1) _ _ e6 (by omega) (by omega)
theorem lc_run {own : List Nat} {g : Tg} {m : SI} {c : SB} {e : SE} {it : ItS} {t0 : Slo} {S0 S1 : Sto} {xs : List IV} (hm : m t0 S0 = .ok it S1) (I : Nat → List IV → Sto → Prop) (hit : ∀ n acc S, I n acc S → nextAt it n S = some xs[n]?)
    (step : ∀ n x acc S, xs[n]? = some x → I n acc S → ∃ t1 k S2, tgSet S g x (wipeI t0 own) = some t1 ∧ c t1 S = .ok k S2 ∧ (k = false → I (n + 1) acc S2) ∧
      (k = true → ∃ y S3, e t1 S2 = .ok y S3 ∧ S3[S1.length]? = some (.lst acc) ∧ acc.length < 16777216 ∧ I (n + 1) (acc ++ [y]) (S3.set S1.length (.lst (acc ++ [y]))))) (h0 : I 0 [] (S1 ++ [.lst []])) (hl : xs.length < 1000000) :
    ∃ acc S', mLc own g m c e t0 S0 = .ok (.ref S1.length) S' ∧ I xs.length acc S' := by
  unfold mLc
  rw [hm]
  obtain ⟨acc, S', e1, e2⟩ := lcI_inv (d := S1.length) I hit step 1000000 0 [] (S1 ++ [.lst []]) h0 (Nat.zero_le _) (by omega)
  refine ⟨acc, S', ?_, e2⟩
  simp only [bind_ok]
  rw [e1]; rfl
theorem take_step {α : Type} {xs : List α} {n : Nat} {x : α} (h : xs[n]? = some x) : xs.take (n + 1) = xs.take n ++ [x] := by
  rw [List.take_add_one, h]; rfl
/-- a comprehension whose pieces leave the store -/
theorem lc_pure {own : List Nat} {g : Tg} {m : SI} {c : SB} {e : SE} {it : ItS} {t0 : Slo} {S0 S1 : Sto} {xs : List IV} {p : IV → Bool} {f : IV → IV} (hm : m t0 S0 = .ok it S1) (hit : ∀ n acc, nextAt it n (S1 ++ [.lst acc]) = some xs[n]?)
    (step : ∀ (n : Nat) (x : IV) (acc : List IV), xs[n]? = some x → ∃ t1, tgSet (S1 ++ [.lst acc]) g x (wipeI t0 own) = some t1 ∧ c t1 (S1 ++ [.lst acc]) = .ok (p x) (S1 ++ [.lst acc]) ∧ (p x = true → e t1 (S1 ++ [.lst acc]) = .ok (f x) (S1 ++ [.lst acc]))) (hl : xs.length < 1000000) :
    mLc own g m c e t0 S0 = .ok (.ref S1.length) (S1 ++ [.lst ((xs.filter p).map f)]) := by
  obtain ⟨acc, S', e1, e2, e3⟩ := lc_run (xs := xs) (c := c) (e := e) (own := own) (g := g) hm (fun n acc S => acc = ((xs.take n).filter p).map f ∧ S = S1 ++ [.lst acc]) (fun n acc S h => by rw [h.2]; exact hit n acc) (fun n x acc S ex h => by
    obtain ⟨h1, h2⟩ := h
    obtain ⟨t1, f1, f2, f3⟩ := step n x acc ex
    refine ⟨t1, p x, S, by rw [h2]; exact f1, by rw [h2]; exact f2, fun hp => ⟨?_, h2⟩, fun hp => ⟨f x, S, by rw [h2]; exact f3 hp, ?_, ?_, ?_, ?_⟩⟩
    · rw [take_step ex, List.filter_append, List.map_append, ← h1]; simp [hp]
    · rw [h2]; simp
    · rw [h1, List.length_map]
      have := List.length_filter_le p (xs.take n)
      have := List.length_take_le' n xs
      omega
    · rw [take_step ex, List.filter_append, List.map_append, ← h1]; simp [hp]
    · rw [h2]; simp) ⟨by simp, rfl⟩ hl
  rw [e1, e3, e2, List.take_length]
end IP
namespace IP
open PySem
def RS.fin (r : RS) : R IV := match r with
  | .nx _ S1 => .ok .non S1
  | .ret v S1 => .ok v S1
  | .ex c fs _ S1 => .ex c fs S1
  | _ => .no
theorem ev_fun {N : List Str} {b : SS} {us : List IV} {S : Sto} : mFun N b us S = (b (startI N us) S).fin := (rfl)
theorem fin_nx {t : Slo} {S : Sto} : (RS.nx t S).fin = .ok .non S := (rfl)
theorem fin_ret {v : IV} {S : Sto} : (RS.ret v S).fin = .ok v S := (rfl)
theorem len_eqI {a b : Nat} : eqI (.int a) (.int b) [] = some (decide ((a : Int) = b)) := (rfl)
end IP

/-! IPyO: more equations, by constructors. -/
namespace IP
open PySem PyProof.Rows L2
section
variable {S : Sto} {i j : Nat} {xs ys : List IV} {p q : Int} {x y v : IV} {T : String}
def lstO (o : Option SO) : Option (List IV) := match o with
  | some (.lst xs) => some xs
  | _ => none
theorem lstO_l : lstO (some (.lst xs)) = some xs := (rfl)
theorem lstO_d {kvs : List (L2.Key × IV)} : lstO (some (.dct kvs)) = none := (rfl)
def lstP (i : Nat) (o : Option SO) : Option (Nat × List IV) := match o with
  | some (.lst xs) => some (i, xs)
  | _ => none
theorem lstP_l : lstP i (some (.lst xs)) = some (i, xs) := (rfl)
def dctO (i : Nat) (o : Option SO) : Option (Nat × List (L2.Key × IV)) := match o with
  | some (.dct kvs) => some (i, kvs)
  | _ => none
theorem dctO_l : dctO i (some (.lst xs)) = none := (rfl)
theorem dctO_d {kvs : List (L2.Key × IV)} : dctO i (some (.dct kvs)) = some (i, kvs) := (rfl)
def tyO (o : Option SO) : Option String := match o with
  | some (.lst _) => some "list"
  | some (.dct _) => some "dict"
  | _ => none
theorem tyO_l : tyO (some (.lst xs)) = some "list" := (rfl)
theorem tyO_d {kvs : List (L2.Key × IV)} : tyO (some (.dct kvs)) = some "dict" := (rfl)
theorem seq_r : seqI (.ref i) S = lstO S[i]? := by unfold seqI lstO; rfl
theorem dct_r : dctI (.ref i) S = dctO i S[i]? := by unfold dctI dctO; rfl
theorem dct_q : dctI (.sq xs) S = none := (rfl)
theorem lst_r : lstI (.ref i) S = lstP i S[i]? := by unfold lstI lstP; rfl
theorem ty_non : tyI .non S = some "NoneType" := (rfl)
theorem ty_bl {b : Bool} : tyI (.bl b) S = some "bool" := (rfl)
theorem ty_int : tyI (.int p) S = some "int" := (rfl)
theorem ty_str {z : Str} : tyI (.str z) S = some "str" := (rfl)
theorem ty_tup : tyI (.tup xs) S = some "tuple" := (rfl)
theorem ty_sq : tyI (.sq xs) S = some "list" := (rfl)
theorem ty_ty {n : String} : tyI (.ty n) S = none := (rfl)
theorem ty_fn {z : Str} : tyI (.fn z) S = none := (rfl)
theorem ty_r : tyI (.ref i) S = tyO S[i]? := by
  unfold tyI tyO
  dsimp only
  all_goals (
    cases S[i]? with
    | none => rfl
    | some o => cases o <;> rfl)
def tyB (T : String) (o : Option SO) : Bool := match o with
  | some (.lst _) => T == "list"
  | some (.dct _) => T == "dict"
  | _ => false
theorem tyB_l : tyB T (some (.lst xs)) = (T == "list") := (rfl)
theorem tyB_d {kvs : List (L2.Key × IV)} : tyB T (some (.dct kvs)) = (T == "dict") := (rfl)
theorem isTy_str {z : Str} : isTy T (.str z) S = (T == "str") := (rfl)
theorem isTy_sq : isTy T (.sq xs) S = (T == "list") := (rfl)
theorem isTy_r : isTy T (.ref i) S = tyB T S[i]? := by unfold isTy tyB; rfl
theorem ix_r : iIx (.ref i) (.int p) S = ((match dctO i S[i]? with
    | some (_, kvs) => (keyI (.int p)).bind fun key => valI kvs key
    | none => (lstO S[i]?).bind fun xs => L2.atI xs p).map fun z => (z, S)) := by
  unfold iIx ixI
  dsimp only
  rw [dct_r, seq_r]
  cases S[i]? with
  | none => rfl
  | some o => cases o <;> rfl
theorem len_r : iLen [.ref i] S = (match dctO i S[i]? with
    | some (_, kvs) => some (.int kvs.length, S)
    | none => (lstO S[i]?).map fun xs => (.int xs.length, S)) := by
  unfold iLen
  dsimp only
  rw [dct_r, seq_r]
  all_goals rfl
theorem add_qq : iAdd (.sq xs) (.sq ys) S = if xs.length + ys.length ≤ 16777216 then some (.ref S.length, S ++ [.lst (xs ++ ys)]) else none := (rfl)
theorem add_qr : iAdd (.sq xs) (.ref j) S = (lstO S[j]?).bind fun ys => if xs.length + ys.length ≤ 16777216 then some (.ref S.length, S ++ [.lst (xs ++ ys)]) else none := by
  rw [← seq_r]
  show (match some xs, seqI (.ref j) S with
    | some xs, some ys => if xs.length + ys.length ≤ 16777216 then some (IV.ref S.length, S ++ [SO.lst (xs ++ ys)]) else none
    | _, _ => none) = _
  cases seqI (.ref j) S <;> rfl
theorem add_rq : iAdd (.ref i) (.sq ys) S = (lstO S[i]?).bind fun xs => if xs.length + ys.length ≤ 16777216 then some (.ref S.length, S ++ [.lst (xs ++ ys)]) else none := by
  rw [← seq_r]
  show (match seqI (.ref i) S, some ys with
    | some xs, some ys => if xs.length + ys.length ≤ 16777216 then some (IV.ref S.length, S ++ [SO.lst (xs ++ ys)]) else none
    | _, _ => none) = _
  cases seqI (.ref i) S <;> rfl
theorem add_rr : iAdd (.ref i) (.ref j) S = (lstO S[i]?).bind fun xs => (lstO S[j]?).bind fun ys => if xs.length + ys.length ≤ 16777216 then some (.ref S.length, S ++ [.lst (xs ++ ys)]) else none := by
  rw [← seq_r, ← seq_r]
  show (match seqI (.ref i) S, seqI (.ref j) S with
    | some xs, some ys => if xs.length + ys.length ≤ 16777216 then some (IV.ref S.length, S ++ [SO.lst (xs ++ ys)]) else none
    | _, _ => none) = _
  cases seqI (.ref i) S <;> cases seqI (.ref j) S <;> rfl
theorem mul_q : iMul (.sq xs) (.int p) S = if decide (-(2 ^ 63) ≤ p ∧ p < 2 ^ 63 ∧ xs.length * p.toNat ≤ 16777216) then some (.ref S.length, S ++ [.lst (List.replicate p.toNat xs).flatten]) else none := (rfl)
theorem mul_r : iMul (.ref i) (.int p) S = (lstO S[i]?).bind fun xs => if decide (-(2 ^ 63) ≤ p ∧ p < 2 ^ 63 ∧ xs.length * p.toNat ≤ 16777216) then some (.ref S.length, S ++ [.lst (List.replicate p.toNat xs).flatten]) else none := by
  rw [← seq_r]
  show (match seqI (.ref i) S with
    | some xs => if decide (-(2 ^ 63) ≤ p ∧ p < 2 ^ 63 ∧ xs.length * p.toNat ≤ 16777216) then some (IV.ref S.length, S ++ [SO.lst (List.replicate p.toNat xs).flatten]) else none
    | none => none) = _
  cases seqI (.ref i) S <;> rfl
theorem sl_q {lo hi : Option Int} : iSl (.sq xs) lo hi S = some (.ref S.length, S ++ [.lst (cutI xs lo hi)]) := (rfl)
theorem sl_r {lo hi : Option Int} : iSl (.ref i) lo hi S = (lstO S[i]?).map fun xs => (.ref S.length, S ++ [.lst (cutI xs lo hi)]) := by
  rw [← seq_r]; rfl
theorem append_r : mAppend (.ref i) [y] S = (lstO S[i]?).bind fun xs => if xs.length < 16777216 then some (.non, S.set i (.lst (xs ++ [y]))) else none := by
  unfold mAppend
  rw [lst_r]
  cases S[i]? with
  | none => rfl
  | some o => cases o <;> rfl
theorem extend_r : mExtend (.ref i) [.ref j] S = (lstO S[i]?).bind fun xs => (lstO S[j]?).bind fun zs => if xs.length + zs.length ≤ 16777216 then some (.non, S.set i (.lst (xs ++ zs))) else none := by
  unfold mExtend
  rw [lst_r]
  cases S[i]? with
  | none => rfl
  | some o =>
    cases o with
    | lst xs => dsimp only [lstP, lstO, Option.bind_some]; rw [lst_r]; cases S[j]? with
      | none => rfl
      | some o => cases o <;> rfl
    | dct _ => rfl
    | ins _ _ => rfl
theorem clear_r : mClear (.ref i) [] S = (lstO S[i]?).map fun xs => (.non, S.set i (.lst [])) := by
  unfold mClear
  rw [lst_r]
  cases S[i]? with
  | none => rfl
  | some o => cases o <;> rfl
theorem list_q : iList [.sq xs] S = some (.ref S.length, S ++ [.lst xs]) := (rfl)
theorem list_r : iList [.ref i] S = (lstO S[i]?).map fun xs => (.ref S.length, S ++ [.lst xs]) := by
  rw [← seq_r]; rfl
theorem list_t : iList [.tup xs] S = some (.ref S.length, S ++ [.lst xs]) := (rfl)
theorem tuple_q : iTuple [.sq xs] S = some (.tup xs, S) := (rfl)
theorem tuple_r : iTuple [.ref i] S = (lstO S[i]?).map fun xs => (.tup xs, S) := by
  rw [← seq_r]; rfl
theorem isinst_1 {n : String} : iIsinst [v, .ty n] S = if tyNames.contains n then (tyI v S).map fun t => (.bl (isSub t n), S) else none := (rfl)
theorem min_ii : iMin [.int p, .int q] S = some (.int (if q < p then q else p), S) := (rfl)
theorem max_ii : iMax [.int p, .int q] S = some (.int (if q > p then q else p), S) := (rfl)
theorem abs_i : iAbs [.int p] S = some (.int (if p < 0 then -p else p), S) := (rfl)
theorem int_i : iInt [.int p] S = some (.int p, S) := (rfl)
theorem int_b {b : Bool} : iInt [.bl b] S = some (.int (if b then 1 else 0), S) := (rfl)
theorem sum_v : iSum [v] S = ((seqI v S).bind (mapO asInt)).map fun ns => (.int ns.sum, S) := (rfl)
theorem all_v : iAll [v] S = ((seqI v S).bind (mapO asBl)).map fun ns => (.bl (ns.all id), S) := (rfl)
theorem any_v : iAny [v] S = ((seqI v S).bind (mapO asBl)).map fun ns => (.bl (ns.any id), S) := (rfl)
theorem asI_iL {ns : List Int} : mapO asInt (iL ns) = some ns := by
  unfold iL
  rw [mapO_all (g := fun v => match v with | .int i => i | _ => 0) (fun x hx => by obtain ⟨n, _, rfl⟩ := List.mem_map.mp hx; rfl)]
  rw [List.map_map]; congr 1; exact (List.map_congr_left (fun _ _ => rfl)).trans (List.map_id _)
def bL (bs : List Bool) : List IV := bs.map IV.bl
theorem asB_bL {ns : List Bool} : mapO asBl (bL ns) = some ns := by
  unfold bL
  rw [mapO_all (g := fun v => match v with | .bl i => i | _ => false) (fun x hx => by obtain ⟨n, _, rfl⟩ := List.mem_map.mp hx; rfl)]
  rw [List.map_map]; congr 1; exact (List.map_congr_left (fun _ _ => rfl)).trans (List.map_id _)
theorem tru_bl {b : Bool} : truI (.bl b) S = some b := (rfl)
theorem tru_q : truI (.sq xs) S = some (!xs.isEmpty) := (rfl)
theorem tru_non : truI .non S = some false := (rfl)
theorem tru_int : truI (.int p) S = some (p != 0) := (rfl)
theorem tru_tup : truI (.tup xs) S = some (!xs.isEmpty) := (rfl)
theorem cut_hi {k : Nat} : cutI xs none (some (k : Int)) = xs.take k := by
  unfold cutI
  rw [show HT.sIx xs.length 0 none = 0 from HT.sIx_none _ _, show HT.sIx xs.length xs.length (some (k : Int)) = min k xs.length from HT.sIx_nat _ _ _]
  simp [List.take_eq_take_iff]
theorem cut_lo {k : Nat} : cutI xs (some (k : Int)) none = xs.drop k := by
  unfold cutI
  rw [show HT.sIx xs.length 0 (some (k : Int)) = min k xs.length from HT.sIx_nat _ _ _, show HT.sIx xs.length xs.length none = xs.length from HT.sIx_none _ _]
  by_cases h : k ≤ xs.length
  · rw [Nat.min_eq_left h]; exact List.take_of_length_le (by simp)
  · rw [Nat.min_eq_right (by omega), List.drop_of_length_le (Nat.le_refl _), List.drop_of_length_le (by omega)]; simp
theorem get_app {S1 : Sto} : (S ++ S1)[S.length]? = S1[0]? := by
  rw [List.getElem?_append_right (Nat.le_refl _), Nat.sub_self]
theorem get_app1 {S1 : Sto} {k : Nat} : (S ++ S1)[S.length + k]? = S1[k]? := by
  rw [List.getElem?_append_right (by omega), Nat.add_sub_cancel_left]
theorem set_app {S1 : Sto} {o : SO} : (S ++ S1).set S.length o = S ++ S1.set 0 o := by
  rw [List.set_append_right _ _ (Nat.le_refl _), Nat.sub_self]
theorem set_app1 {S1 : Sto} {k : Nat} {o : SO} : (S ++ S1).set (S.length + k) o = S ++ S1.set k o := by
  rw [List.set_append_right _ _ (Nat.le_add_right _ _), Nat.add_sub_cancel_left]
end
section
variable {S : Sto} {t : Slo} {a : SE} {aa : SA} {v w : IV} {xs : List IV} {p q : Int}
def itV (v : IV) (S1 : Sto) : R ItS := match v with
  | .tup xs => .ok (.tup xs) S1
  | .str z => .ok (.str z) S1
  | v => match seqI v S1 with
    | some _ => .ok (.lst v) S1
    | none => .no
theorem ev_iVal : iVal a t S = (a t S).bind itV := (rfl)
theorem itV_q : itV (.sq xs) S = .ok (.lst (.sq xs)) S := (rfl)
theorem itV_t : itV (.tup xs) S = .ok (.tup xs) S := (rfl)
theorem itV_s {z : Str} : itV (.str z) S = .ok (.str z) S := (rfl)
theorem itV_r {i : Nat} (h : S[i]? = some (.lst xs)) : itV (.ref i) S = .ok (.lst (.ref i)) S := by
  show (match seqI (.ref i) S with
    | some _ => R.ok (ItS.lst (.ref i)) S
    | none => .no) = _
  rw [seq_ref h]
theorem next_q {n : Nat} : nextAt (.lst (.sq xs)) n S = some xs[n]? := (rfl)
theorem next_t {n : Nat} : nextAt (.tup xs) n S = some xs[n]? := (rfl)
theorem next_r {n i : Nat} (h : S[i]? = some (.lst xs)) : nextAt (.lst (.ref i)) n S = some xs[n]? := by
  show (seqI (.ref i) S).map _ = _
  rw [seq_ref h]; rfl
def rg1 (vs : List IV) (S1 : Sto) : R ItS := match vs with
  | [.int j] => if small62 j then .ok (.rng 0 1 j.toNat) S1 else .no
  | _ => .no
theorem ev_rg1 : iRange1 aa t S = (aa t S).bind rg1 := (rfl)
theorem rg1_i : rg1 [.int p] S = if small62 p then .ok (.rng 0 1 p.toNat) S else .no := (rfl)
def rg2 (vs : List IV) (S1 : Sto) : R ItS := match vs with
  | [.int i, .int j] => if small62 i && small62 j then .ok (.rng i 1 (j - i).toNat) S1 else .no
  | _ => .no
theorem ev_rg2 : iRange2 aa t S = (aa t S).bind rg2 := (rfl)
theorem rg2_i : rg2 [.int p, .int q] S = if small62 p && small62 q then .ok (.rng p 1 (q - p).toNat) S else .no := (rfl)
/-- the numbers of a range -/
def rgL (p : Int) (k : Nat) : List IV := (List.range k).map fun n : Nat => IV.int (p + (n : Int))
theorem next_rg {n k : Nat} : nextAt (.rng p 1 k) n S = some (rgL p k)[n]? := by
  unfold nextAt rgL
  dsimp only
  rw [List.getElem?_map]
  by_cases h : n < k
  · rw [if_pos h, List.getElem?_range h]; simp
  · rw [if_neg h, List.getElem?_eq_none (by simp; omega)]; rfl
theorem rgL_len {k : Nat} : (rgL p k).length = k := by unfold rgL; simp
theorem rgL_get {n k : Nat} {x : IV} (h : (rgL p k)[n]? = some x) : n < k ∧ x = .int (p + n) := by
  have hn := (List.getElem?_eq_some_iff.mp h).1
  rw [rgL_len] at hn
  unfold rgL at h
  rw [List.getElem?_map, List.getElem?_range hn] at h
  cases h; exact ⟨hn, rfl⟩
theorem small_nat {k : Nat} (h : k ≤ 1000000000) : small62 (k : Int) = true := by unfold small62; rw [decide_eq_true_eq]; omega
end
end IP
namespace IP
open PySem
/-- a call by value that tells a list of numbers -/
theorem sn_iL {F : FN} {us ts : List IV} {S S1 : Sto} {i : Nat} {ns : List Int} (hs : mapO (snapI S 9) us = some ts) (hF : F ts [] = .ok (.ref i) S1) (hk : S1[i]? = some (.lst (iL ns))) : snF F us S = .ok (.ref S.length) (S ++ [.lst (iL ns)]) := by
  rw [sn_ok hs hF (lift_ref hk iL_sc) rfl, plant_sq _ iL_sc]
theorem snap1 {S : Sto} {v t : IV} (h : snapI S 9 v = some t) : mapO (snapI S 9) [v] = some [t] := by simp only [mapO, h]
theorem snap2 {S : Sto} {v t v' t' : IV} (h : snapI S 9 v = some t) (h' : snapI S 9 v' = some t') : mapO (snapI S 9) [v, v'] = some [t, t'] := by simp only [mapO, h, h']
theorem snap3 {S : Sto} {v t v' t' v2 t2 : IV} (h : snapI S 9 v = some t) (h' : snapI S 9 v' = some t') (h2 : snapI S 9 v2 = some t2) : mapO (snapI S 9) [v, v', v2] = some [t, t', t2] := by simp only [mapO, h, h', h2]
theorem snap_int {S : Sto} {n : Int} : snapI S 9 (.int n) = some (.int n) := (rfl)
theorem iL_len {l : List Int} : (iL l).length = l.length := by unfold iL; simp
theorem iL_app {l m : List Int} : iL l ++ iL m = iL (l ++ m) := by unfold iL; simp
end IP
namespace IP
theorem ite_le {α : Type} {n k : Nat} {a b : α} (h : n ≤ k) : (if n ≤ k then a else b) = a := if_pos h
theorem ite_lt {α : Type} {n k : Nat} {a b : α} (h : n < k) : (if n < k then a else b) = a := if_pos h
end IP

/-! IPyP: results that are new trees. -/
namespace IP
open PySem
theorem bothO_imp {f g : IV → Option (IV × List Nat)} : ∀ {xs ts : List IV} {L : List Nat}, (∀ x p, f x = some p → g x = some p) → bothO f xs = some (ts, L) → bothO g xs = some (ts, L)
  | [], _, _, _, e => e
  | x :: xs, _, _, h, e => by
    simp only [bothO] at e ⊢
    cases e1 : f x with
    | none => rw [e1] at e; simp at e
    | some p =>
      rw [e1] at e
      cases e2 : bothO f xs with
      | none => rw [e2] at e; simp at e
      | some q => rw [e2] at e; rw [h x p e1, bothO_imp h (ts := q.1) (L := q.2) e2]; exact e
theorem liftI_ext {S S' : Sto} (h : ∀ (i : Nat) (xs : List IV), S[i]? = some (SO.lst xs) → S'[i]? = some (SO.lst xs)) : ∀ {n : Nat} {v : IV} {p : IV × List Nat}, liftI S n v = some p → liftI S' n v = some p
  | 0, _, _, e => by simp only [liftI] at e; cases e
  | n + 1, v, p, e => by
    cases v <;> simp only [liftI] at e ⊢ <;> try exact e
    case tup xs =>
      simp only [Option.map_eq_some_iff] at e ⊢
      obtain ⟨ts, e1, e2⟩ := e
      exact ⟨ts, bothO_imp (fun _ _ => liftI_ext h) (ts := ts.1) (L := ts.2) e1, e2⟩
    case ref i =>
      split at e
      · rename_i xs hk
        rw [h i xs hk]
        simp only [Option.map_eq_some_iff] at e ⊢
        obtain ⟨ts, e1, e2⟩ := e
        exact ⟨ts, bothO_imp (fun _ _ => liftI_ext h) (ts := ts.1) (L := ts.2) e1, e2⟩
      · cases e
theorem bothO_app {f : IV → Option (IV × List Nat)} : ∀ {xs ts : List IV} {L M : List Nat} {y t : IV}, bothO f xs = some (ts, L) → f y = some (t, M) → bothO f (xs ++ [y]) = some (ts ++ [t], L ++ M)
  | [], _, _, _, _, _, e, k => by cases e; simp only [List.nil_append, bothO, k, List.append_nil]
  | x :: xs, _, _, _, _, _, e, k => by
    simp only [bothO] at e
    cases e1 : f x with
    | none => rw [e1] at e; simp at e
    | some p =>
      rw [e1] at e
      cases e2 : bothO f xs with
      | none => rw [e2] at e; simp at e
      | some q =>
        rw [e2] at e
        cases e
        have := bothO_app (ts := q.1) (L := q.2) e2 k
        simp only [List.cons_append, bothO, e1, this, List.append_assoc]
/-- what is laid anew holds what was laid, and nothing twice -/
theorem lift_plants {n : Nat} (hn : ∀ (P Q : Sto) (t : IV), okT n t = true → liftI (P ++ (plantI P.length t).2 ++ Q) n (plantI P.length t).1 = some (t, List.range' P.length (plantI P.length t).2.length)) : ∀ (ts : List IV) (P Q : Sto), (∀ t ∈ ts, okT n t = true) →
    bothO (liftI (P ++ (plantIs P.length ts).2 ++ Q) n) (plantIs P.length ts).1 = some (ts, List.range' P.length (plantIs P.length ts).2.length)
  | [], P, Q, _ => by simp [plantIs, bothO]
  | t :: ts, P, Q, h => by
    simp only [plantIs, bothO]
    have h1 := hn P ((plantIs (P.length + (plantI P.length t).2.length) ts).2 ++ Q) t (h t List.mem_cons_self)
    have h2 := lift_plants hn ts (P ++ (plantI P.length t).2) Q fun x hx => h x (List.mem_cons_of_mem _ hx)
    rw [List.length_append] at h2
    have e1 : P ++ ((plantI P.length t).2 ++ (plantIs (P.length + (plantI P.length t).2.length) ts).2) ++ Q = P ++ (plantI P.length t).2 ++ ((plantIs (P.length + (plantI P.length t).2.length) ts).2 ++ Q) := by simp only [List.append_assoc]
    have e2 : P ++ ((plantI P.length t).2 ++ (plantIs (P.length + (plantI P.length t).2.length) ts).2) ++ Q = P ++ (plantI P.length t).2 ++ (plantIs (P.length + (plantI P.length t).2.length) ts).2 ++ Q := by simp only [List.append_assoc]
    rw [e1, h1, ← e1, e2, h2]
    simp only [List.length_append]
    rw [List.range'_append_1]
theorem lift_plant : ∀ (n : Nat) (P Q : Sto) (t : IV), okT n t = true → liftI (P ++ (plantI P.length t).2 ++ Q) n (plantI P.length t).1 = some (t, List.range' P.length (plantI P.length t).2.length)
  | 0, _, _, _, e => by simp only [okT] at e; cases e
  | n + 1, P, Q, t, e => by
    cases t <;> simp only [okT] at e <;> simp only [plantI, liftI]
    case tup xs => rw [lift_plants (lift_plant n) xs P Q (List.all_eq_true.mp e)]; rfl
    case sq xs =>
      have h := lift_plants (lift_plant n) xs (P ++ [.lst (plantIs (P.length + 1) xs).1]) Q (List.all_eq_true.mp e)
      rw [List.length_append] at h
      have e1 : P ++ (SO.lst (plantIs (P.length + 1) xs).1 :: (plantIs (P.length + 1) xs).2) ++ Q = P ++ [SO.lst (plantIs (P.length + 1) xs).1] ++ (plantIs (P.length + 1) xs).2 ++ Q := by simp only [List.append_assoc, List.singleton_append, List.cons_append, List.nil_append]
      have e2 : (P ++ [SO.lst (plantIs (P.length + 1) xs).1] ++ (plantIs (P.length + 1) xs).2 ++ Q)[P.length]? = some (SO.lst (plantIs (P.length + 1) xs).1) := by
        rw [List.append_assoc, List.append_assoc, List.getElem?_append_right (Nat.le_refl _), Nat.sub_self]; rfl
      rw [e1, e2]
      simp only
      have h : bothO (liftI (P ++ [SO.lst (plantIs (P.length + 1) xs).1] ++ (plantIs (P.length + 1) xs).2 ++ Q) n) (plantIs (P.length + 1) xs).1 = some (xs, List.range' (P.length + 1) (plantIs (P.length + 1) xs).2.length) := h
      rw [h]
      simp [List.range'_succ]
    all_goals first | (cases e; done) | simp
theorem dupF_of : ∀ {L : List Nat}, L.Nodup → dupF L = true
  | [], _ => rfl
  | x :: xs, h => by
    rw [List.nodup_cons] at h
    simp only [dupF, Bool.and_eq_true, Bool.not_eq_true', List.contains_eq_mem, decide_eq_false_iff_not]
    exact ⟨h.1, dupF_of h.2⟩
theorem bothO_loc {f g : IV → Option (IV × List Nat)} {P : List Nat → Prop} (hP : ∀ L M, P (L ++ M) → P L ∧ P M) (h : ∀ x t L, f x = some (t, L) → P L → g x = some (t, L)) : ∀ {xs ts : List IV} {L : List Nat}, bothO f xs = some (ts, L) → P L → bothO g xs = some (ts, L)
  | [], _, _, e, _ => e
  | x :: xs, _, _, e, k => by
    simp only [bothO] at e ⊢
    cases e1 : f x with
    | none => rw [e1] at e; simp at e
    | some p =>
      rw [e1] at e
      cases e2 : bothO f xs with
      | none => rw [e2] at e; simp at e
      | some q =>
        rw [e2] at e
        cases e
        obtain ⟨k1, k2⟩ := hP _ _ k
        rw [h x p.1 p.2 e1 k1, bothO_loc hP h (ts := q.1) (L := q.2) e2 k2]
/-- what is held depends on the places seen alone -/
theorem liftI_loc {S S' : Sto} : ∀ {n : Nat} {v t : IV} {L : List Nat}, liftI S n v = some (t, L) → (∀ i ∈ L, S'[i]? = S[i]?) → liftI S' n v = some (t, L)
  | 0, _, _, _, e, _ => by simp only [liftI] at e; cases e
  | n + 1, v, t, L, e, h => by
    have hP : ∀ L M : List Nat, (∀ i ∈ L ++ M, S'[i]? = S[i]?) → (∀ i ∈ L, S'[i]? = S[i]?) ∧ ∀ i ∈ M, S'[i]? = S[i]? := fun L M k => ⟨fun i hi => k i (List.mem_append_left _ hi), fun i hi => k i (List.mem_append_right _ hi)⟩
    cases v <;> simp only [liftI] at e ⊢ <;> try exact e
    case tup xs =>
      simp only [Option.map_eq_some_iff] at e ⊢
      obtain ⟨⟨ts, M⟩, e1, e2⟩ := e
      cases e2
      exact ⟨(ts, M), bothO_loc hP (fun x t L e k => liftI_loc e k) e1 h, rfl⟩
    case ref i =>
      split at e
      · rename_i xs hk
        simp only [Option.map_eq_some_iff] at e
        obtain ⟨⟨ts, M⟩, e1, e2⟩ := e
        cases e2
        rw [h i List.mem_cons_self, hk]
        simp only [Option.map_eq_some_iff]
        exact ⟨(ts, M), bothO_loc hP (fun x t L e k => liftI_loc e k) e1 fun j hj => h j (List.mem_cons_of_mem _ hj), rfl⟩
      · cases e
theorem lift_up {S : Sto} : ∀ {n : Nat} {v : IV} {p : IV × List Nat}, liftI S n v = some p → liftI S (n + 1) v = some p
  | 0, _, _, e => by simp only [liftI] at e; cases e
  | n + 1, v, p, e => by
    cases v <;> simp only [liftI] at e ⊢ <;> try exact e
    case tup xs =>
      simp only [Option.map_eq_some_iff] at e ⊢
      obtain ⟨ts, e1, e2⟩ := e
      exact ⟨ts, bothO_imp (fun _ _ => lift_up) (ts := ts.1) (L := ts.2) e1, e2⟩
    case ref i =>
      split at e
      · rename_i xs hk
        simp only [Option.map_eq_some_iff] at e ⊢
        obtain ⟨ts, e1, e2⟩ := e
        exact ⟨ts, bothO_imp (fun _ _ => lift_up) (ts := ts.1) (L := ts.2) e1, e2⟩
      · cases e
/-- a comprehension that makes new trees -/
theorem lc_trees {d : Nat} {own : List Nat} {g : Tg} {m : SI} {e : SE} {it : ItS} {t0 : Slo} {S0 S1 : Sto} {xs ts : List IV} (hm : m t0 S0 = .ok it S1) (hit : ∀ n T, nextAt it n (S1 ++ T) = some xs[n]?) (hlen : ts.length = xs.length)
    (step : ∀ (n : Nat) (x t : IV) (acc : List IV) (J : Sto), xs[n]? = some x → ts[n]? = some t → ∃ t1 y T M, tgSet (S1 ++ (.lst acc :: J)) g x (wipeI t0 own) = some t1 ∧ e t1 (S1 ++ (.lst acc :: J)) = .ok y (S1 ++ (.lst acc :: (J ++ T))) ∧
      liftI (S1 ++ (.lst acc :: (J ++ T))) d y = some (t, M) ∧ M.Nodup ∧ ∀ i ∈ M, S1.length + 1 + J.length ≤ i ∧ i < S1.length + 1 + J.length + T.length) (hl : xs.length < 1000000) :
    ∃ acc J L, mLc own g m bYes e t0 S0 = .ok (.ref S1.length) (S1 ++ (.lst acc :: J)) ∧ bothO (liftI (S1 ++ (.lst acc :: J)) d) acc = some (ts, L) ∧ L.Nodup ∧ (∀ i ∈ L, S1.length < i ∧ i < S1.length + 1 + J.length) ∧ acc.length = xs.length := by
  have hP : ∀ {S S' : Sto} (L M : List Nat), (∀ i ∈ L ++ M, S'[i]? = S[i]?) → (∀ i ∈ L, S'[i]? = S[i]?) ∧ ∀ i ∈ M, S'[i]? = S[i]? := fun L M k => ⟨fun i hi => k i (List.mem_append_left _ hi), fun i hi => k i (List.mem_append_right _ hi)⟩
  have loc : ∀ {acc acc' : List IV} {J T : Sto} {i : Nat}, S1.length < i → i < S1.length + 1 + J.length → (S1 ++ (SO.lst acc' :: (J ++ T)))[i]? = (S1 ++ (SO.lst acc :: J))[i]? := fun {acc acc' J T i} h1 h2 => by
    rw [List.getElem?_append_right (by omega), List.getElem?_append_right (by omega)]
    cases e : i - S1.length with
    | zero => omega
    | succ k => simp only [List.getElem?_cons_succ]; rw [List.getElem?_append_left (by omega)]
  obtain ⟨acc, S', e1, J, L, e2, e3, e4, e5, e6⟩ := lc_run (xs := xs) (own := own) (g := g) (e := e) (c := bYes) hm
    (fun n acc S => ∃ J L, S = S1 ++ (.lst acc :: J) ∧ bothO (liftI (S1 ++ (.lst acc :: J)) d) acc = some (ts.take n, L) ∧ L.Nodup ∧ (∀ i ∈ L, S1.length < i ∧ i < S1.length + 1 + J.length) ∧ acc.length ≤ n ∧ n ≤ acc.length) (fun n acc S ⟨J, L, h, _⟩ => by rw [h]; exact hit n _)
    (fun n x acc S ex ⟨J, L, h1, h2, h3, h4, h5, h6⟩ => by
      have hn := (List.getElem?_eq_some_iff.mp ex).1
      obtain ⟨t, et⟩ : ∃ t, ts[n]? = some t := ⟨ts[n]'(by omega), List.getElem?_eq_getElem (by omega)⟩
      obtain ⟨t1, y, T, M, f1, f2, f3, f4, f5⟩ := step n x t acc J ex et
      subst h1
      refine ⟨t1, true, _, f1, rfl, nofun, fun _ => ⟨y, S1 ++ (.lst acc :: (J ++ T)), f2, by rw [List.getElem?_append_right (Nat.le_refl _), Nat.sub_self]; rfl, by omega, J ++ T, L ++ M, by rw [set_app]; rfl, ?_, ?_, ?_, by simp; omega, by simp; omega⟩⟩
      · rw [take_step et]
        refine bothO_app (bothO_loc hP (fun x t L e k => liftI_loc e k) h2 fun i hi => loc (h4 i hi).1 (h4 i hi).2) (liftI_loc f3 fun i hi => ?_)
        have := f5 i hi
        have := loc (acc := acc) (acc' := acc ++ [y]) (J := J ++ T) (T := []) (i := i) (by omega) (by rw [List.length_append]; omega)
        rw [List.append_nil] at this
        exact this
      · rw [List.nodup_append]
        refine ⟨h3, f4, fun a ha b hb z => ?_⟩
        have := (h4 a ha).2
        have := (f5 b hb).1
        omega
      · intro i hi
        rw [List.length_append]
        rcases List.mem_append.mp hi with hi | hi
        · have := h4 i hi; omega
        · have := f5 i hi; omega)
    ⟨[], [], rfl, rfl, List.nodup_nil, (fun i h => by cases h), Nat.le_refl _, Nat.le_refl _⟩ hl
  refine ⟨acc, J, L, by rw [e1, e2], ?_, e4, e5, by omega⟩
  rw [e3, ← hlen, List.take_length]
/-- what such a list holds -/
theorem lc_lift {d : Nat} {S1 J : Sto} {acc ts : List IV} {L : List Nat} (h : bothO (liftI (S1 ++ (.lst acc :: J)) d) acc = some (ts, L)) (h2 : L.Nodup) (h3 : ∀ i ∈ L, S1.length < i ∧ i < S1.length + 1 + J.length) : liftI (S1 ++ (.lst acc :: J)) (d + 1) (.ref S1.length) = some (.sq ts, S1.length :: L) ∧ (S1.length :: L).Nodup := by
  refine ⟨?_, List.nodup_cons.mpr ⟨fun m => Nat.lt_irrefl _ (h3 _ m).1, h2⟩⟩
  simp only [liftI]
  rw [get_app]
  simp only [List.getElem?_cons_zero, h, Option.map_some]
theorem loopI_step {g : Tg} {b : SS} {it : ItS} {f n : Nat} {t t1 t2 : Slo} {S S2 : Sto} {v : IV} (h : nextAt it n S = some (some v)) (h1 : tgSet S g v t = some t1) (h2 : b t1 S = .nx t2 S2) : loopI g b it (f + 1) n t S = loopI g b it f (n + 1) t2 S2 := by
  simp only [loopI, h, h1, h2]
theorem loopI_end {g : Tg} {b : SS} {it : ItS} {f n : Nat} {t : Slo} {S : Sto} (h : nextAt it n S = some none) : loopI g b it (f + 1) n t S = .nx t S := by
  simp only [loopI, h]
theorem for_2 {g : Tg} {m : SI} {b : SS} {it : ItS} {v w : IV} {t0 t1 t1' t2 t2' : Slo} {S0 S1 S2 S3 : Sto} (hm : m t0 S0 = .ok it S1) (h0 : nextAt it 0 S1 = some (some v)) (e0 : tgSet S1 g v t0 = some t1) (b0 : b t1 S1 = .nx t1' S2)
    (h1 : nextAt it 1 S2 = some (some w)) (e1 : tgSet S2 g w t1' = some t2) (b1 : b t2 S2 = .nx t2' S3) (h2 : nextAt it 2 S3 = some none) : sFor g m b t0 S0 = .nx t2' S3 := by
  unfold sFor
  rw [hm]
  show loopI g b it (999997 + 1 + 1 + 1) 0 t0 S1 = _
  rw [loopI_step h0 e0 b0, loopI_step h1 e1 b1, loopI_end h2]
theorem for_3 {g : Tg} {m : SI} {b : SS} {it : ItS} {v w x : IV} {t0 t1 t1' t2 t2' t3 t3' : Slo} {S0 S1 S2 S3 S4 : Sto} (hm : m t0 S0 = .ok it S1) (h0 : nextAt it 0 S1 = some (some v)) (e0 : tgSet S1 g v t0 = some t1) (b0 : b t1 S1 = .nx t1' S2)
    (h1 : nextAt it 1 S2 = some (some w)) (e1 : tgSet S2 g w t1' = some t2) (b1 : b t2 S2 = .nx t2' S3) (h2 : nextAt it 2 S3 = some (some x)) (e2 : tgSet S3 g x t2' = some t3) (b2 : b t3 S3 = .nx t3' S4) (h3 : nextAt it 3 S4 = some none) : sFor g m b t0 S0 = .nx t3' S4 := by
  unfold sFor
  rw [hm]
  show loopI g b it (999996 + 1 + 1 + 1 + 1) 0 t0 S1 = _
  rw [loopI_step h0 e0 b0, loopI_step h1 e1 b1, loopI_step h2 e2 b2, loopI_end h3]
end IP

namespace BW
open PySem PySem.Spec PyProof.Rows L2 IP
def N_is_whole : List Str := ["thing"]
def b_is_whole : SS := (sRet (mAnd (mFn iIsinst (mCons (mVar 0) (mCons (mC (.ty "int")) mNil))) (mNot (mFn iIsinst (mCons (mVar 0) (mCons (mC (.ty "bool")) mNil))))))
def F_is_whole : FN := mFun N_is_whole b_is_whole
def N_is_among : List Str := ["thing", "least", "most"]
def b_is_among : SS := (sRet (mAnd (mCall F_is_whole (mCons (mVar 0) mNil)) (mChain iLe iLe (mVar 1) (mVar 0) (mVar 2))))
def F_is_among : FN := mFun N_is_among b_is_among
def N_is_bar : List Str := ["thing"]
def b_is_bar : SS := (sRet (mAnd (mCall F_is_whole (mCons (mVar 0) mNil)) (mBin iGe (mVar 0) (mC (.int 0)))))
def F_is_bar : FN := mFun N_is_bar b_is_bar
def N_is_list : List Str := ["thing", ".0", "one"]
def b_is_list : SS := (sSeq (sIf (mOrT (mNotT (mTru (mFn iIsinst (mCons (mVar 0) (mCons (mC (.ty "list")) mNil))))) (mNotT (mB (mChain iLe iLe (mC (.int 1)) (mFn iLen (mCons (mVar 0) mNil)) (mC (.int 4)))))) (sRet (mC (.bl false))) sNil)
  (sRet (mFn iAll (mCons (mLc [1, 2] (.nm 2) (iVal (mVar 0)) bYes (mCall F_is_bar (mCons (mVar 2) mNil))) mNil))))
def F_is_list : FN := mFun N_is_list b_is_list
def N_is_part : List Str := ["thing"]
def b_is_part : SS := (sSeq (sIf (mOrT (mNotT (mTru (mFn iIsinst (mCons (mVar 0) (mCons (mC (.ty "tuple")) mNil))))) (mB (mBin iLt (mFn iLen (mCons (mVar 0) mNil)) (mC (.int 2))))) (sRet (mC (.bl false))) sNil)
  (sSeq (sIf (mB (mBin iEq (mBin iIx (mVar 0) (mC (.int 0))) (mC (.str "bar")))) (sRet (mAnd (mBin iEq (mFn iLen (mCons (mVar 0) mNil)) (mC (.int 2))) (mCall F_is_bar (mCons (mBin iIx (mVar 0) (mC (.int 1))) mNil)))) sNil)
  (sSeq (sIf (mB (mBin iEq (mBin iIx (mVar 0) (mC (.int 0))) (mC (.str "twice")))) (sRet (mAnd (mBin iEq (mFn iLen (mCons (mVar 0) mNil)) (mC (.int 2))) (mCall F_is_list (mCons (mBin iIx (mVar 0) (mC (.int 1))) mNil)))) sNil)
  (sRet (mAnd (mBin iEq (mBin iIx (mVar 0) (mC (.int 0))) (mC (.str "ends"))) (mAnd (mBin iEq (mFn iLen (mCons (mVar 0) mNil)) (mC (.int 4))) (mAnd (mCall F_is_list (mCons (mBin iIx (mVar 0) (mC (.int 1))) mNil)) (mAnd (mCall F_is_bar (mCons (mBin iIx (mVar 0) (mC (.int 2))) mNil)) (mCall F_is_bar (mCons (mBin iIx (mVar 0) (mC (.int 3))) mNil))))))))))
def F_is_part : FN := mFun N_is_part b_is_part
def N_is_roll : List Str := ["thing", ".0", "part"]
def b_is_roll : SS := (sSeq (sIf (mOrT (mNotT (mTru (mFn iIsinst (mCons (mVar 0) (mCons (mC (.ty "tuple")) mNil))))) (mOrT (mB (mBin iNe (mFn iLen (mCons (mVar 0) mNil)) (mC (.int 2)))) (mOrT (mNotT (mTru (mFn iIsinst (mCons (mBin iIx (mVar 0) (mC (.int 0))) (mCons (mC (.ty "list")) mNil))))) (mB (mBin iEq (mBin iIx (mVar 0) (mC (.int 0))) (mLst mNil)))))) (sRet (mC (.bl false))) sNil)
  (sSeq (sIf (mNotT (mTru (mFn iAll (mCons (mLc [1, 2] (.nm 2) (iVal (mBin iIx (mVar 0) (mC (.int 0)))) bYes (mCall F_is_part (mCons (mVar 2) mNil))) mNil)))) (sRet (mC (.bl false))) sNil)
  (sRet (mCall F_is_among (mCons (mBin iIx (mVar 0) (mC (.int 1))) (mCons (mC (.int 0)) (mCons (mFn iMin (mCons (mC (.int 3)) (mCons (mFn iLen (mCons (mBin iIx (mVar 0) (mC (.int 0))) mNil)) mNil))) mNil)))))))
def F_is_roll : FN := mFun N_is_roll b_is_roll
def N_l_cell_at : List Str := ["_law_script", "_law_k"]
def b_l_cell_at : SS := (sSeq (sIf (mB (mBin iLt (mVar 1) (mFn iLen (mCons (mVar 0) mNil)))) (sRet (mBin iIx (mVar 0) (mVar 1))) sNil)
  (sRet (mC (.int 0))))
def F_l_cell_at : FN := mFun N_l_cell_at b_l_cell_at
def C_l_cell_at : FN := snF F_l_cell_at
def N_l_mixed : List Str := ["_law_cell", "_law_k", "_law_number"]
def b_l_mixed : SS := (sSeq (sAsg (.nm 2) (mBin iMod (mBin iMul (mBin iAdd (mBin iMod (mVar 0) (mC (.int 1000000007))) (mC (.int 1))) (mC (.int 48271))) (mC (.int 2147483647))))
  (sRet (mBin iFdiv (mBin iMod (mBin iMul (mVar 2) (mBin iAdd (mBin iAdd (mC (.int 16807)) (mBin iMul (mBin iMul (mC (.int 7919)) (mVar 1)) (mVar 1))) (mBin iMul (mC (.int 31)) (mVar 1)))) (mC (.int 2147483629))) (mC (.int 7)))))
def F_l_mixed : FN := mFun N_l_mixed b_l_mixed
def C_l_mixed : FN := snF F_l_mixed
def N_l_part : List Str := ["_law_cell", "_law_wide", "_law_bars", ".0", "_law_k"]
def b_l_part : SS := (sSeq (sAsg (.nm 2) (mLc [3, 4] (.nm 4) (iRange1 (mCons (mBin iAdd (mC (.int 1)) (mBin iMod (mBin iFdiv (mVar 0) (mC (.int 3))) (mC (.int 4)))) mNil)) bYes (mBin iMod (mCall C_l_mixed (mCons (mVar 0) (mCons (mVar 4) mNil))) (mVar 1))))
  (sSeq (sIf (mB (mBin iEq (mBin iMod (mVar 0) (mC (.int 3))) (mC (.int 0)))) (sRet (mTup (mCons (mC (.str "bar")) (mCons (mBin iIx (mVar 2) (mC (.int 0))) mNil)))) sNil)
  (sSeq (sIf (mB (mBin iEq (mBin iMod (mVar 0) (mC (.int 3))) (mC (.int 1)))) (sRet (mTup (mCons (mC (.str "twice")) (mCons (mVar 2) mNil)))) sNil)
  (sRet (mTup (mCons (mC (.str "ends")) (mCons (mVar 2) (mCons (mBin iMod (mCall C_l_mixed (mCons (mVar 0) (mCons (mC (.int 7)) mNil))) (mVar 1)) (mCons (mBin iMod (mCall C_l_mixed (mCons (mVar 0) (mCons (mC (.int 8)) mNil))) (mVar 1)) mNil)))))))))
def F_l_part : FN := mFun N_l_part b_l_part
def C_l_part : FN := snF F_l_part
def N_l_roll : List Str := ["_law_cell", "_law_more", "_law_wide", "_law_parts", ".0", "_law_k"]
def b_l_roll : SS := (sSeq (sAsg (.nm 2) (mBin iIx (mLst (mCons (mC (.int 2)) (mCons (mC (.int 3)) (mCons (mC (.int 5)) (mCons (mBin iPow (mC (.int 10)) (mC (.int 9))) mNil))))) (mBin iMod (mVar 1) (mC (.int 4)))))
  (sSeq (sAsg (.nm 3) (mLc [4, 5] (.nm 5) (iRange1 (mCons (mBin iAdd (mC (.int 1)) (mBin iMod (mVar 0) (mC (.int 6)))) mNil)) bYes (mCall C_l_part (mCons (mCall C_l_mixed (mCons (mVar 0) (mCons (mBin iAdd (mC (.int 20)) (mVar 5)) mNil))) (mCons (mVar 2) mNil)))))
  (sRet (mTup (mCons (mVar 3) (mCons (mBin iMod (mBin iFdiv (mVar 1) (mC (.int 4))) (mBin iAdd (mC (.int 1)) (mFn iMin (mCons (mC (.int 3)) (mCons (mFn iLen (mCons (mVar 3) mNil)) mNil))))) mNil))))))
def F_l_roll : FN := mFun N_l_roll b_l_roll
def C_l_roll : FN := snF F_l_roll
def N_l_otherwise : List Str := ["_law_roll_here", "_law_cell", "_law_parts", "_law_back", "_law_at", "_law_odd", "_law_some", "_law_others"]
def b_l_otherwise : SS := (sSeq (sAsg (.tu [(.nm 2), (.nm 3)]) (mVar 0))
  (sSeq (sAsg (.nm 4) (mBin iMod (mBin iFdiv (mVar 1) (mC (.int 30))) (mFn iLen (mCons (mVar 2) mNil))))
  (sSeq (sAsg (.nm 5) (mBin iIx (mLst (mCons (mUn iNeg (mC (.int 1))) (mCons (mC (.bl true)) (mCons (mC .non) (mCons (mC (.str "1")) (mCons (mLst (mCons (mC (.int 0)) mNil)) (mCons (mTup (mCons (mC (.int 0)) mNil)) (mCons (mC (.bl false)) (mCons mDisp0 mNil))))))))) (mBin iMod (mBin iFdiv (mVar 1) (mC (.int 300))) (mC (.int 8)))))
  (sSeq (sAsg (.nm 6) (mLst (mCons (mLst (mCons (mVar 2) (mCons (mVar 3) mNil))) (mCons (mTup (mCons (mVar 2) mNil)) (mCons (mTup (mCons (mVar 2) (mCons (mVar 3) (mCons (mC (.int 0)) mNil)))) (mCons (mTup (mCons (mFn iTuple (mCons (mVar 2) mNil)) (mCons (mVar 3) mNil))) (mCons (mTup (mCons (mLst mNil) (mCons (mC (.int 0)) mNil))) (mCons (mTup (mCons (mVar 2) (mCons (mC (.int 4)) mNil))) (mCons (mTup (mCons (mVar 2) (mCons (mUn iNeg (mC (.int 1))) mNil))) mNil)))))))))
  (sSeq (sAsg (.nm 6) (mBin iAdd (mVar 6) (mLst (mCons (mTup (mCons (mVar 2) (mCons (mC (.bl true)) mNil))) (mCons (mTup (mCons (mVar 2) (mCons (mC .non) mNil))) (mCons (mTup (mCons (mVar 2) (mCons (mBin iAdd (mFn iLen (mCons (mVar 2) mNil)) (mC (.int 1))) mNil))) (mCons (mC .non) (mCons (mC (.int 5)) (mCons (mC (.str "roll")) (mCons (mLst mNil) (mCons (mTup mNil) (mCons mDisp0 (mCons (mTup (mCons (mC .non) (mCons (mC (.int 0)) mNil))) mNil)))))))))))))
  (sSeq (sIf (mB (mBin iLt (mBin iMod (mVar 1) (mC (.int 30))) (mC (.int 17)))) (sRet (mBin iIx (mVar 6) (mBin iMod (mVar 1) (mC (.int 30))))) sNil)
  (sSeq (sAsg (.nm 7) (mLst (mCons (mTup (mCons (mC (.str "bar")) (mCons (mVar 5) mNil))) (mCons (mTup (mCons (mC (.str "bar")) mNil)) (mCons (mTup (mCons (mC (.str "bar")) (mCons (mC (.int 0)) (mCons (mC (.int 0)) mNil)))) (mCons (mTup (mCons (mC (.str "twice")) (mCons (mLst mNil) mNil))) (mCons (mTup (mCons (mC (.str "twice")) (mCons (mBin iMul (mLst (mCons (mC (.int 0)) mNil)) (mC (.int 5))) mNil))) (mCons (mTup (mCons (mC (.str "twice")) (mCons (mLst (mCons (mC (.int 0)) (mCons (mVar 5) mNil))) mNil))) mNil))))))))
  (sSeq (sAsg (.nm 7) (mBin iAdd (mVar 7) (mLst (mCons (mTup (mCons (mC (.str "twice")) (mCons (mC (.int 3)) mNil))) (mCons (mTup (mCons (mC (.str "ends")) (mCons (mLst (mCons (mC (.int 0)) mNil)) (mCons (mC (.int 1)) mNil)))) (mCons (mTup (mCons (mC (.str "ends")) (mCons (mLst (mCons (mC (.int 0)) mNil)) (mCons (mLst (mCons (mC (.int 1)) mNil)) (mCons (mLst (mCons (mC (.int 2)) mNil)) mNil))))) mNil))))))
  (sSeq (sAsg (.nm 7) (mBin iAdd (mVar 7) (mLst (mCons (mTup (mCons (mC (.str "ends")) (mCons (mLst mNil) (mCons (mC (.int 1)) (mCons (mC (.int 2)) mNil))))) (mCons (mTup (mCons (mC (.str "ends")) (mCons (mLst (mCons (mC (.int 0)) mNil)) (mCons (mVar 5) (mCons (mC (.int 1)) mNil))))) (mCons (mLst (mCons (mC (.str "bar")) (mCons (mC (.int 0)) mNil))) mNil))))))
  (sSeq (sExpr (mMt "list" mAppend (mVar 7) (mCons (mTup (mCons (mC (.str "once")) (mCons (mC (.int 3)) mNil))) mNil)))
  (sRet (mTup (mCons (mBin iAdd (mBin iAdd (mSl (mVar 2) pNone (pSome (mVar 4))) (mLst (mCons (mBin iIx (mVar 7) (mBin iSub (mBin iMod (mVar 1) (mC (.int 30))) (mC (.int 17)))) mNil))) (mSl (mVar 2) (pSome (mBin iAdd (mVar 4) (mC (.int 1)))) pNone)) (mCons (mVar 3) mNil))))))))))))))
def F_l_otherwise : FN := mFun N_l_otherwise b_l_otherwise
def N_first_time : List Str := ["part"]
def b_first_time : SS := (sSeq (sIf (mB (mBin iEq (mBin iIx (mVar 0) (mC (.int 0))) (mC (.str "bar")))) (sRet (mLst (mCons (mBin iIx (mVar 0) (mC (.int 1))) mNil))) sNil)
  (sSeq (sIf (mB (mBin iEq (mBin iIx (mVar 0) (mC (.int 0))) (mC (.str "twice")))) (sRet (mBin iAdd (mBin iIx (mVar 0) (mC (.int 1))) (mBin iIx (mVar 0) (mC (.int 1))))) sNil)
  (sRet (mBin iAdd (mBin iAdd (mBin iAdd (mBin iIx (mVar 0) (mC (.int 1))) (mLst (mCons (mBin iIx (mVar 0) (mC (.int 2))) mNil))) (mBin iIx (mVar 0) (mC (.int 1)))) (mLst (mCons (mBin iIx (mVar 0) (mC (.int 3))) mNil))))))
def F_first_time : FN := mFun N_first_time b_first_time
def C_first_time : FN := snF F_first_time
def N_once_more : List Str := ["part"]
def b_once_more : SS := (sSeq (sIf (mB (mBin iEq (mBin iIx (mVar 0) (mC (.int 0))) (mC (.str "bar")))) (sRet (mLst (mCons (mBin iIx (mVar 0) (mC (.int 1))) mNil))) sNil)
  (sSeq (sIf (mB (mBin iEq (mBin iIx (mVar 0) (mC (.int 0))) (mC (.str "twice")))) (sRet (mFn iList (mCons (mBin iIx (mVar 0) (mC (.int 1))) mNil))) sNil)
  (sRet (mBin iAdd (mBin iIx (mVar 0) (mC (.int 1))) (mLst (mCons (mBin iIx (mVar 0) (mC (.int 3))) mNil))))))
def F_once_more : FN := mFun N_once_more b_once_more
def C_once_more : FN := snF F_once_more
def N_unrolled : List Str := ["roll", "parts", "back", "found", "part"]
def b_unrolled : SS := (sSeq (sAsg (.tu [(.nm 1), (.nm 2)]) (mVar 0))
  (sSeq (sAsg (.nm 3) (mLst mNil))
  (sSeq (sFor (.nm 4) (iVal (mVar 1)) (sExpr (mMt "list" mExtend (mVar 3) (mCons (mCall C_first_time (mCons (mVar 4) mNil)) mNil))))
  (sSeq (sFor (.nm 4) (iVal (mSl (mVar 1) pNone (pSome (mVar 2)))) (sExpr (mMt "list" mExtend (mVar 3) (mCons (mCall C_once_more (mCons (mVar 4) mNil)) mNil))))
  (sRet (mVar 3))))))
def F_unrolled : FN := mFun N_unrolled b_unrolled
def C_unrolled : FN := snF F_unrolled
def N_bars_of : List Str := ["part"]
def b_bars_of : SS := (sSeq (sIf (mB (mBin iEq (mBin iIx (mVar 0) (mC (.int 0))) (mC (.str "ends")))) (sRet (mBin iAdd (mBin iIx (mVar 0) (mC (.int 1))) (mLst (mCons (mBin iIx (mVar 0) (mC (.int 2))) (mCons (mBin iIx (mVar 0) (mC (.int 3))) mNil))))) sNil)
  (sRet (mCall C_once_more (mCons (mVar 0) mNil))))
def F_bars_of : FN := mFun N_bars_of b_bars_of
def C_bars_of : FN := snF F_bars_of
def N_many : List Str := ["roll", ".0", "part"]
def b_many : SS := (sRet (mFn iSum (mCons (mLc [1, 2] (.nm 2) (iVal (mBin iIx (mVar 0) (mC (.int 0)))) bYes (mFn iLen (mCons (mCall C_bars_of (mCons (mVar 2) mNil)) mNil))) mNil)))
def F_many : FN := mFun N_many b_many
def C_many : FN := snF F_many
def N_l_whole : List Str := ["_law_found"]
def b_l_whole : SS := (sRet (mAnd (mFn iIsinst (mCons (mVar 0) (mCons (mC (.ty "int")) mNil))) (mNot (mFn iIsinst (mCons (mVar 0) (mCons (mC (.ty "bool")) mNil))))))
def F_l_whole : FN := mFun N_l_whole b_l_whole
def C_l_whole : FN := snF F_l_whole
def N_l_first : List Str := ["_law_part_here"]
def b_l_first : SS := (sSeq (sIf (mB (mBin iEq (mBin iIx (mVar 0) (mC (.int 0))) (mC (.str "bar")))) (sRet (mLst (mCons (mBin iIx (mVar 0) (mC (.int 1))) mNil))) sNil)
  (sSeq (sIf (mB (mBin iEq (mBin iIx (mVar 0) (mC (.int 0))) (mC (.str "twice")))) (sRet (mBin iMul (mBin iIx (mVar 0) (mC (.int 1))) (mC (.int 2)))) sNil)
  (sRet (mBin iAdd (mBin iAdd (mBin iAdd (mBin iIx (mVar 0) (mC (.int 1))) (mLst (mCons (mBin iIx (mVar 0) (mC (.int 2))) mNil))) (mBin iIx (mVar 0) (mC (.int 1)))) (mLst (mCons (mBin iIx (mVar 0) (mC (.int 3))) mNil))))))
def F_l_first : FN := mFun N_l_first b_l_first
def C_l_first : FN := snF F_l_first
def N_l_again : List Str := ["_law_part_here"]
def b_l_again : SS := (sSeq (sIf (mB (mBin iEq (mBin iIx (mVar 0) (mC (.int 0))) (mC (.str "bar")))) (sRet (mLst (mCons (mBin iIx (mVar 0) (mC (.int 1))) mNil))) sNil)
  (sSeq (sIf (mB (mBin iEq (mBin iIx (mVar 0) (mC (.int 0))) (mC (.str "twice")))) (sRet (mBin iIx (mVar 0) (mC (.int 1)))) sNil)
  (sRet (mBin iAdd (mBin iIx (mVar 0) (mC (.int 1))) (mLst (mCons (mBin iIx (mVar 0) (mC (.int 3))) mNil))))))
def F_l_again : FN := mFun N_l_again b_l_again
def N_l_played : List Str := ["_law_parts", "_law_back", "_law_found", "_law_part_here"]
def b_l_played : SS := (sSeq (sAsg (.nm 2) (mLst mNil))
  (sSeq (sFor (.nm 3) (iVal (mVar 0)) (sAsg (.nm 2) (mBin iAdd (mVar 2) (mCall C_l_first (mCons (mVar 3) mNil)))))
  (sSeq (sFor (.nm 3) (iVal (mSl (mVar 0) pNone (pSome (mVar 1)))) (sAsg (.nm 2) (mBin iAdd (mVar 2) (mCall F_l_again (mCons (mVar 3) mNil)))))
  (sRet (mVar 2)))))
def F_l_played : FN := mFun N_l_played b_l_played
def C_l_played : FN := snF F_l_played
def N_l_size : List Str := ["_law_part_here"]
def b_l_size : SS := (sSeq (sIf (mB (mBin iEq (mBin iIx (mVar 0) (mC (.int 0))) (mC (.str "bar")))) (sRet (mC (.int 1))) sNil)
  (sRet (mBin iAdd (mFn iLen (mCons (mBin iIx (mVar 0) (mC (.int 1))) mNil)) (mBin iMul (mC (.int 2)) (mFn iInt (mCons (mBin iEq (mBin iIx (mVar 0) (mC (.int 0))) (mC (.str "ends"))) mNil))))))
def F_l_size : FN := mFun N_l_size b_l_size
def C_l_size : FN := snF F_l_size
def N_l_copied : List Str := ["_law_roll_here", ".0", "_law_part_here", "_law_one"]
def b_l_copied : SS := (sRet (mTup (mCons (mLc [1, 2] (.nm 2) (iVal (mBin iIx (mVar 0) (mC (.int 0)))) bYes (mFn iTuple (mCons (mLc [1, 3] (.nm 3) (iVal (mVar 2)) bYes (mIf (mTru (mFn iIsinst (mCons (mVar 3) (mCons (mC (.ty "list")) mNil)))) (mFn iList (mCons (mVar 3) mNil)) (mVar 3))) mNil))) (mCons (mBin iIx (mVar 0) (mC (.int 1))) mNil))))
def F_l_copied : FN := mFun N_l_copied b_l_copied
def C_l_copied : FN := snF F_l_copied
def N_l_right : List Str := ["_law_roll_here", "_law_kept", "_law_handed", "_law_due", "_law_turn", "_law_found", "_law_size_here", ".0", "_law_bar", "_law_part_here"]
def b_l_right : SS := (sSeq (sAsg (.nm 2) (mCall C_l_copied (mCons (mVar 0) mNil)))
  (sSeq (sAsg (.nm 3) (mCall C_l_played (mCons (mBin iIx (mVar 0) (mC (.int 0))) (mCons (mBin iIx (mVar 0) (mC (.int 1))) mNil))))
  (sSeq (sFor (.nm 4) (iRange1 (mCons (mC (.int 2)) mNil)) (sSeq (sAsg (.nm 5) (mCall C_unrolled (mCons (mVar 2) mNil)))
  (sSeq (sIf (mOrT (mNotT (mTru (mFn iIsinst (mCons (mVar 5) (mCons (mC (.ty "list")) mNil))))) (mOrT (mB (mBin iNe (mVar 5) (mVar 3))) (mNotT (mTru (mFn iAll (mCons (mLc [7, 8] (.nm 8) (iVal (mVar 5)) bYes (mCall C_l_whole (mCons (mVar 8) mNil))) mNil)))))) (sRet (mC (.bl false))) sNil)
  (sSeq (sExpr (mMt "list" mAppend (mVar 1) (mCons (mTup (mCons (mVar 5) (mCons (mBin iAdd (mVar 3) (mLst (mCons (mC (.int 0)) mNil))) mNil))) mNil)))
  (sSeq (sExpr (mMt "list" mAppend (mVar 5) (mCons (mC (.int 0)) mNil)))
  (sSeq (sAsg (.nm 6) (mCall C_many (mCons (mVar 2) mNil)))
  (sIf (mOrT (mNotT (mTru (mCall C_l_whole (mCons (mVar 6) mNil)))) (mB (mBin iNe (mVar 6) (mFn iSum (mCons (mLc [7, 9] (.nm 9) (iVal (mBin iIx (mVar 0) (mC (.int 0)))) bYes (mCall C_l_size (mCons (mVar 9) mNil))) mNil))))) (sRet (mC (.bl false))) sNil)))))))
  (sRet (mAnd (mBin iIs (mCall F_is_roll (mCons (mVar 2) mNil)) (mC (.bl true))) (mBin iEq (mVar 2) (mVar 0)))))))
def F_l_right : FN := mFun N_l_right b_l_right
def N_law : List Str := ["_law_script", "_law_rolls", "_law_k", "_law_kept", ".0", "_law_pair"]
def b_law : SS := (sSeq (sAsg (.nm 1) (mLst mNil))
  (sSeq (sFor (.nm 2) (iRange1 (mCons (mC (.int 2)) mNil)) (sExpr (mMt "list" mAppend (mVar 1) (mCons (mCall C_l_roll (mCons (mCall C_l_cell_at (mCons (mVar 0) (mCons (mBin iMul (mC (.int 2)) (mVar 2)) mNil))) (mCons (mCall C_l_mixed (mCons (mCall C_l_cell_at (mCons (mVar 0) (mCons (mBin iAdd (mBin iMul (mC (.int 2)) (mVar 2)) (mC (.int 1))) mNil))) (mCons (mC (.int 2)) mNil))) mNil))) mNil))))
  (sSeq (sAsg (.nm 3) (mLst mNil))
  (sSeq (sFor (.nm 2) (iVal (mTup (mCons (mC (.int 0)) (mCons (mC (.int 1)) (mCons (mC (.int 0)) mNil))))) (sIf (mNotT (mTru (mCall F_l_right (mCons (mBin iIx (mVar 1) (mVar 2)) (mCons (mVar 3) mNil))))) (sRet (mC (.bl false))) sNil))
  (sSeq (sIf (mB (mBin iIsNot (mCall F_is_roll (mCons (mCall F_l_otherwise (mCons (mBin iIx (mVar 1) (mC (.int 0))) (mCons (mCall C_l_mixed (mCons (mCall C_l_cell_at (mCons (mVar 0) (mCons (mC (.int 4)) mNil))) (mCons (mC (.int 3)) mNil))) mNil))) mNil)) (mC (.bl false)))) (sRet (mC (.bl false))) sNil)
  (sRet (mBin iEq (mLc [4, 5] (.nm 5) (iVal (mVar 3)) (mB (mBin iNe (mBin iIx (mVar 5) (mC (.int 0))) (mBin iIx (mVar 5) (mC (.int 1))))) (mVar 5)) (mLst mNil))))))))
def F_law : FN := mFun N_law b_law
end BW

/-! The law k20 in plain Lean: what its defs tell. -/
namespace BW
open PySem IP
inductive Part where
  | bar (n : Int)
  | twice (l : List Int)
  | ends (l : List Int) (a b : Int)
def Part.tree : Part → IV
  | .bar n => .tup [.str "bar", .int n]
  | .twice l => .tup [.str "twice", .sq (iL l)]
  | .ends l a b => .tup [.str "ends", .sq (iL l), .int a, .int b]
def Part.first : Part → List Int
  | .bar n => [n]
  | .twice l => l ++ l
  | .ends l a b => l ++ [a] ++ l ++ [b]
def Part.again : Part → List Int
  | .bar n => [n]
  | .twice l => l
  | .ends l _ b => l ++ [b]
def Part.small : Part → Prop
  | .bar _ => True
  | .twice l => l.length ≤ 1000
  | .ends l _ _ => l.length ≤ 1000
theorem iL_one {n : Int} : [IV.int n] = iL [n] := rfl
theorem ok_tree (p : Part) : okT 3 p.tree = true := by
  cases p <;> simp only [Part.tree, okT, List.all_cons, List.all_nil, Bool.and_true, okT_iL]
  · decide +kernel
  · rw [show PyData.strOk (Str.ofString "twice") = true by decide +kernel]
    simp [iL, okT]
  · rw [show PyData.strOk (Str.ofString "ends") = true by decide +kernel]
    simp [iL, okT]
/-- first_time -/
theorem first_run (p : Part) (h : p.small) : ∃ S1 i, F_first_time [p.tree] [] = .ok (.ref i) S1 ∧ S1[i]? = some (.lst (iL p.first)) := by
  cases p with
  | bar n =>
    refine ⟨[.lst [.int n]], 0, ?_, rfl⟩
    simp (disch := omega) [ev_var, ev_c, ev_bin, ev_un, ev_B, ev_tru, ev_andT, ev_orT, ev_notT, ev_and, ev_or, ev_not, ev_mif, ev_chain, ev_nil, ev_cons, ev_tup, ev_lst, ev_fn, ev_mt, ev_pNone, ev_pSome, ev_sl, ev_call, ev_disp0, ev_sNil, ev_seq, ev_expr, ev_ret, ev_retN, ev_brk, ev_cnt, ev_if, ev_asg, ev_put, ev_fun, fin_nx, fin_ret, bind_ok, ofO_some, go_nx, go_ret, st_ok, oSome_some, oSomeS_some, slotV_some, asB_bl, blV_bl, tgI_nm, tgI_tup, tgI_0, tgI_1, add_ii, sub_ii, mul_ii, div_ii, mod_ii, neg_i, lt_ii, le_ii, gt_ii, ge_ii, eq_e, ne_e, eq_ii, eq_ss, is_e, isnot_e, is_bb, is_nn, is_in, is_sn, is_rn, is_tn, is_qn, IP.ix_tup, ix_sq, seq_sq, len_tup, len_sq, ofString_inj, startI, L2.atI, L2.ixN, asInt, seq_r, lstO_l, lstO_d, lstP_l, dctO_l, dctO_d, tyO_l, tyO_d, dct_r, dct_q, lst_r, ty_non, ty_bl, ty_int, ty_str, ty_tup, ty_sq, ty_ty, ty_fn, ty_r, tyB_l, tyB_d, isTy_str, isTy_sq, isTy_r, ix_r, len_r, add_qq, add_qr, add_rq, add_rr, mul_q, mul_r, sl_q, sl_r, append_r, extend_r, clear_r, list_q, list_r, list_t, tuple_q, tuple_r, isinst_1, isSub, tyNames, min_ii, max_ii, abs_i, int_i, int_b, tru_bl, tru_q, tru_non, tru_int, tru_tup, ev_iVal, itV_q, itV_t, itV_s, ev_rg1, rg1_i, ev_rg2, rg2_i, List.getElem?_cons_zero, List.getElem?_cons_succ, ite_le, ite_lt, get_app, get_app1, set_app, set_app1, List.set_cons_zero, List.set_cons_succ, all_v, any_v, sum_v, asB_bL, asI_iL, F_first_time, b_first_time, N_first_time, Part.tree]
  | twice l =>
    have h : l.length ≤ 1000 := h
    refine ⟨[.lst (iL l ++ iL l)], 0, ?_, by rw [iL_app]; rfl⟩
    have h1 : l.length + l.length ≤ 16777216 := by omega
    simp (disch := omega) [ev_var, ev_c, ev_bin, ev_un, ev_B, ev_tru, ev_andT, ev_orT, ev_notT, ev_and, ev_or, ev_not, ev_mif, ev_chain, ev_nil, ev_cons, ev_tup, ev_lst, ev_fn, ev_mt, ev_pNone, ev_pSome, ev_sl, ev_call, ev_disp0, ev_sNil, ev_seq, ev_expr, ev_ret, ev_retN, ev_brk, ev_cnt, ev_if, ev_asg, ev_put, ev_fun, fin_nx, fin_ret, bind_ok, ofO_some, go_nx, go_ret, st_ok, oSome_some, oSomeS_some, slotV_some, asB_bl, blV_bl, tgI_nm, tgI_tup, tgI_0, tgI_1, add_ii, sub_ii, mul_ii, div_ii, mod_ii, neg_i, lt_ii, le_ii, gt_ii, ge_ii, eq_e, ne_e, eq_ii, eq_ss, is_e, isnot_e, is_bb, is_nn, is_in, is_sn, is_rn, is_tn, is_qn, IP.ix_tup, ix_sq, seq_sq, len_tup, len_sq, ofString_inj, startI, L2.atI, L2.ixN, asInt, seq_r, lstO_l, lstO_d, lstP_l, dctO_l, dctO_d, tyO_l, tyO_d, dct_r, dct_q, lst_r, ty_non, ty_bl, ty_int, ty_str, ty_tup, ty_sq, ty_ty, ty_fn, ty_r, tyB_l, tyB_d, isTy_str, isTy_sq, isTy_r, ix_r, len_r, add_qq, add_qr, add_rq, add_rr, mul_q, mul_r, sl_q, sl_r, append_r, extend_r, clear_r, list_q, list_r, list_t, tuple_q, tuple_r, isinst_1, isSub, tyNames, min_ii, max_ii, abs_i, int_i, int_b, tru_bl, tru_q, tru_non, tru_int, tru_tup, ev_iVal, itV_q, itV_t, itV_s, ev_rg1, rg1_i, ev_rg2, rg2_i, List.getElem?_cons_zero, List.getElem?_cons_succ, ite_le, ite_lt, get_app, get_app1, set_app, set_app1, List.set_cons_zero, List.set_cons_succ, all_v, any_v, sum_v, asB_bL, asI_iL, F_first_time, b_first_time, N_first_time, Part.tree, iL_len, h1]
  | ends l a b =>
    have h : l.length ≤ 1000 := h
    refine ⟨[.lst [.int a], .lst (iL l ++ [.int a]), .lst (iL l ++ [.int a] ++ iL l), .lst [.int b], .lst (iL l ++ [.int a] ++ iL l ++ [.int b])], 4, ?_, ?_⟩
    · have h1 : l.length + 1 ≤ 16777216 := by omega
      have h2 : l.length + 1 + l.length ≤ 16777216 := by omega
      have h2' : l.length + (l.length + 1) ≤ 16777216 := by omega
      have h3 : l.length + 1 + l.length + 1 ≤ 16777216 := by omega
      have h3' : l.length + (l.length + 1 + 1) ≤ 16777216 := by omega
      simp (disch := omega) [ev_var, ev_c, ev_bin, ev_un, ev_B, ev_tru, ev_andT, ev_orT, ev_notT, ev_and, ev_or, ev_not, ev_mif, ev_chain, ev_nil, ev_cons, ev_tup, ev_lst, ev_fn, ev_mt, ev_pNone, ev_pSome, ev_sl, ev_call, ev_disp0, ev_sNil, ev_seq, ev_expr, ev_ret, ev_retN, ev_brk, ev_cnt, ev_if, ev_asg, ev_put, ev_fun, fin_nx, fin_ret, bind_ok, ofO_some, go_nx, go_ret, st_ok, oSome_some, oSomeS_some, slotV_some, asB_bl, blV_bl, tgI_nm, tgI_tup, tgI_0, tgI_1, add_ii, sub_ii, mul_ii, div_ii, mod_ii, neg_i, lt_ii, le_ii, gt_ii, ge_ii, eq_e, ne_e, eq_ii, eq_ss, is_e, isnot_e, is_bb, is_nn, is_in, is_sn, is_rn, is_tn, is_qn, IP.ix_tup, ix_sq, seq_sq, len_tup, len_sq, ofString_inj, startI, L2.atI, L2.ixN, asInt, seq_r, lstO_l, lstO_d, lstP_l, dctO_l, dctO_d, tyO_l, tyO_d, dct_r, dct_q, lst_r, ty_non, ty_bl, ty_int, ty_str, ty_tup, ty_sq, ty_ty, ty_fn, ty_r, tyB_l, tyB_d, isTy_str, isTy_sq, isTy_r, ix_r, len_r, add_qq, add_qr, add_rq, add_rr, mul_q, mul_r, sl_q, sl_r, append_r, extend_r, clear_r, list_q, list_r, list_t, tuple_q, tuple_r, isinst_1, isSub, tyNames, min_ii, max_ii, abs_i, int_i, int_b, tru_bl, tru_q, tru_non, tru_int, tru_tup, ev_iVal, itV_q, itV_t, itV_s, ev_rg1, rg1_i, ev_rg2, rg2_i, List.getElem?_cons_zero, List.getElem?_cons_succ, ite_le, ite_lt, get_app, get_app1, set_app, set_app1, List.set_cons_zero, List.set_cons_succ, all_v, any_v, sum_v, asB_bL, asI_iL, F_first_time, b_first_time, N_first_time, Part.tree, iL_len, h1, h2, h3, h2', h3']
    · simp [iL, Part.first]
theorem tree_snap {S : Sto} (p : Part) : snapI S 9 p.tree = some p.tree := snap_tree (ok_tree p) (by omega)
theorem first_call {S : Sto} (p : Part) (h : p.small) : C_first_time [p.tree] S = .ok (.ref S.length) (S ++ [.lst (iL p.first)]) := by
  obtain ⟨S1, i, e1, e2⟩ := first_run p h
  exact sn_iL (snap1 (tree_snap p)) e1 e2
theorem once_run (p : Part) (h : p.small) : ∃ S1 i, F_once_more [p.tree] [] = .ok (.ref i) S1 ∧ S1[i]? = some (.lst (iL p.again)) := by
  cases p with
  | bar n =>
    refine ⟨[.lst [.int n]], 0, ?_, rfl⟩
    simp (disch := omega) [ev_var, ev_c, ev_bin, ev_un, ev_B, ev_tru, ev_andT, ev_orT, ev_notT, ev_and, ev_or, ev_not, ev_mif, ev_chain, ev_nil, ev_cons, ev_tup, ev_lst, ev_fn, ev_mt, ev_pNone, ev_pSome, ev_sl, ev_call, ev_disp0, ev_sNil, ev_seq, ev_expr, ev_ret, ev_retN, ev_brk, ev_cnt, ev_if, ev_asg, ev_put, ev_fun, fin_nx, fin_ret, bind_ok, ofO_some, go_nx, go_ret, st_ok, oSome_some, oSomeS_some, slotV_some, asB_bl, blV_bl, tgI_nm, tgI_tup, tgI_0, tgI_1, add_ii, sub_ii, mul_ii, div_ii, mod_ii, neg_i, lt_ii, le_ii, gt_ii, ge_ii, eq_e, ne_e, eq_ii, eq_ss, is_e, isnot_e, is_bb, is_nn, is_in, is_sn, is_rn, is_tn, is_qn, IP.ix_tup, ix_sq, seq_sq, len_tup, len_sq, ofString_inj, startI, L2.atI, L2.ixN, asInt, seq_r, lstO_l, lstO_d, lstP_l, dctO_l, dctO_d, tyO_l, tyO_d, dct_r, dct_q, lst_r, ty_non, ty_bl, ty_int, ty_str, ty_tup, ty_sq, ty_ty, ty_fn, ty_r, tyB_l, tyB_d, isTy_str, isTy_sq, isTy_r, ix_r, len_r, add_qq, add_qr, add_rq, add_rr, mul_q, mul_r, sl_q, sl_r, append_r, extend_r, clear_r, list_q, list_r, list_t, tuple_q, tuple_r, isinst_1, isSub, tyNames, min_ii, max_ii, abs_i, int_i, int_b, tru_bl, tru_q, tru_non, tru_int, tru_tup, ev_iVal, itV_q, itV_t, itV_s, ev_rg1, rg1_i, ev_rg2, rg2_i, List.getElem?_cons_zero, List.getElem?_cons_succ, ite_le, ite_lt, get_app, get_app1, set_app, set_app1, List.set_cons_zero, List.set_cons_succ, all_v, any_v, sum_v, asB_bL, asI_iL, F_once_more, b_once_more, N_once_more, Part.tree]
  | twice l =>
    refine ⟨[.lst (iL l)], 0, ?_, rfl⟩
    simp (disch := omega) [ev_var, ev_c, ev_bin, ev_un, ev_B, ev_tru, ev_andT, ev_orT, ev_notT, ev_and, ev_or, ev_not, ev_mif, ev_chain, ev_nil, ev_cons, ev_tup, ev_lst, ev_fn, ev_mt, ev_pNone, ev_pSome, ev_sl, ev_call, ev_disp0, ev_sNil, ev_seq, ev_expr, ev_ret, ev_retN, ev_brk, ev_cnt, ev_if, ev_asg, ev_put, ev_fun, fin_nx, fin_ret, bind_ok, ofO_some, go_nx, go_ret, st_ok, oSome_some, oSomeS_some, slotV_some, asB_bl, blV_bl, tgI_nm, tgI_tup, tgI_0, tgI_1, add_ii, sub_ii, mul_ii, div_ii, mod_ii, neg_i, lt_ii, le_ii, gt_ii, ge_ii, eq_e, ne_e, eq_ii, eq_ss, is_e, isnot_e, is_bb, is_nn, is_in, is_sn, is_rn, is_tn, is_qn, IP.ix_tup, ix_sq, seq_sq, len_tup, len_sq, ofString_inj, startI, L2.atI, L2.ixN, asInt, seq_r, lstO_l, lstO_d, lstP_l, dctO_l, dctO_d, tyO_l, tyO_d, dct_r, dct_q, lst_r, ty_non, ty_bl, ty_int, ty_str, ty_tup, ty_sq, ty_ty, ty_fn, ty_r, tyB_l, tyB_d, isTy_str, isTy_sq, isTy_r, ix_r, len_r, add_qq, add_qr, add_rq, add_rr, mul_q, mul_r, sl_q, sl_r, append_r, extend_r, clear_r, list_q, list_r, list_t, tuple_q, tuple_r, isinst_1, isSub, tyNames, min_ii, max_ii, abs_i, int_i, int_b, tru_bl, tru_q, tru_non, tru_int, tru_tup, ev_iVal, itV_q, itV_t, itV_s, ev_rg1, rg1_i, ev_rg2, rg2_i, List.getElem?_cons_zero, List.getElem?_cons_succ, ite_le, ite_lt, get_app, get_app1, set_app, set_app1, List.set_cons_zero, List.set_cons_succ, all_v, any_v, sum_v, asB_bL, asI_iL, F_once_more, b_once_more, N_once_more, Part.tree]
  | ends l a b =>
    have h : l.length ≤ 1000 := h
    have h1 : l.length + 1 ≤ 16777216 := by omega
    refine ⟨[.lst [.int b], .lst (iL l ++ [.int b])], 1, ?_, by simp [Part.again, iL]⟩
    simp (disch := omega) [ev_var, ev_c, ev_bin, ev_un, ev_B, ev_tru, ev_andT, ev_orT, ev_notT, ev_and, ev_or, ev_not, ev_mif, ev_chain, ev_nil, ev_cons, ev_tup, ev_lst, ev_fn, ev_mt, ev_pNone, ev_pSome, ev_sl, ev_call, ev_disp0, ev_sNil, ev_seq, ev_expr, ev_ret, ev_retN, ev_brk, ev_cnt, ev_if, ev_asg, ev_put, ev_fun, fin_nx, fin_ret, bind_ok, ofO_some, go_nx, go_ret, st_ok, oSome_some, oSomeS_some, slotV_some, asB_bl, blV_bl, tgI_nm, tgI_tup, tgI_0, tgI_1, add_ii, sub_ii, mul_ii, div_ii, mod_ii, neg_i, lt_ii, le_ii, gt_ii, ge_ii, eq_e, ne_e, eq_ii, eq_ss, is_e, isnot_e, is_bb, is_nn, is_in, is_sn, is_rn, is_tn, is_qn, IP.ix_tup, ix_sq, seq_sq, len_tup, len_sq, ofString_inj, startI, L2.atI, L2.ixN, asInt, seq_r, lstO_l, lstO_d, lstP_l, dctO_l, dctO_d, tyO_l, tyO_d, dct_r, dct_q, lst_r, ty_non, ty_bl, ty_int, ty_str, ty_tup, ty_sq, ty_ty, ty_fn, ty_r, tyB_l, tyB_d, isTy_str, isTy_sq, isTy_r, ix_r, len_r, add_qq, add_qr, add_rq, add_rr, mul_q, mul_r, sl_q, sl_r, append_r, extend_r, clear_r, list_q, list_r, list_t, tuple_q, tuple_r, isinst_1, isSub, tyNames, min_ii, max_ii, abs_i, int_i, int_b, tru_bl, tru_q, tru_non, tru_int, tru_tup, ev_iVal, itV_q, itV_t, itV_s, ev_rg1, rg1_i, ev_rg2, rg2_i, List.getElem?_cons_zero, List.getElem?_cons_succ, ite_le, ite_lt, get_app, get_app1, set_app, set_app1, List.set_cons_zero, List.set_cons_succ, all_v, any_v, sum_v, asB_bL, asI_iL, F_once_more, b_once_more, N_once_more, Part.tree, iL_len, h1]
theorem once_call {S : Sto} (p : Part) (h : p.small) : C_once_more [p.tree] S = .ok (.ref S.length) (S ++ [.lst (iL p.again)]) := by
  obtain ⟨S1, i, e1, e2⟩ := once_run p h
  exact sn_iL (snap1 (tree_snap p)) e1 e2
theorem lfirst_run (p : Part) (h : p.small) : ∃ S1 i, F_l_first [p.tree] [] = .ok (.ref i) S1 ∧ S1[i]? = some (.lst (iL p.first)) := by
  cases p with
  | bar n =>
    refine ⟨[.lst [.int n]], 0, ?_, rfl⟩
    simp (disch := omega) [ev_var, ev_c, ev_bin, ev_un, ev_B, ev_tru, ev_andT, ev_orT, ev_notT, ev_and, ev_or, ev_not, ev_mif, ev_chain, ev_nil, ev_cons, ev_tup, ev_lst, ev_fn, ev_mt, ev_pNone, ev_pSome, ev_sl, ev_call, ev_disp0, ev_sNil, ev_seq, ev_expr, ev_ret, ev_retN, ev_brk, ev_cnt, ev_if, ev_asg, ev_put, ev_fun, fin_nx, fin_ret, bind_ok, ofO_some, go_nx, go_ret, st_ok, oSome_some, oSomeS_some, slotV_some, asB_bl, blV_bl, tgI_nm, tgI_tup, tgI_0, tgI_1, add_ii, sub_ii, mul_ii, div_ii, mod_ii, neg_i, lt_ii, le_ii, gt_ii, ge_ii, eq_e, ne_e, eq_ii, eq_ss, is_e, isnot_e, is_bb, is_nn, is_in, is_sn, is_rn, is_tn, is_qn, IP.ix_tup, ix_sq, seq_sq, len_tup, len_sq, ofString_inj, startI, L2.atI, L2.ixN, asInt, seq_r, lstO_l, lstO_d, lstP_l, dctO_l, dctO_d, tyO_l, tyO_d, dct_r, dct_q, lst_r, ty_non, ty_bl, ty_int, ty_str, ty_tup, ty_sq, ty_ty, ty_fn, ty_r, tyB_l, tyB_d, isTy_str, isTy_sq, isTy_r, ix_r, len_r, add_qq, add_qr, add_rq, add_rr, mul_q, mul_r, sl_q, sl_r, append_r, extend_r, clear_r, list_q, list_r, list_t, tuple_q, tuple_r, isinst_1, isSub, tyNames, min_ii, max_ii, abs_i, int_i, int_b, tru_bl, tru_q, tru_non, tru_int, tru_tup, ev_iVal, itV_q, itV_t, itV_s, ev_rg1, rg1_i, ev_rg2, rg2_i, List.getElem?_cons_zero, List.getElem?_cons_succ, ite_le, ite_lt, get_app, get_app1, set_app, set_app1, List.set_cons_zero, List.set_cons_succ, all_v, any_v, sum_v, asB_bL, asI_iL, F_l_first, b_l_first, N_l_first, Part.tree]
  | twice l =>
    have h : l.length ≤ 1000 := h
    have h1 : l.length * 2 ≤ 16777216 := by omega
    refine ⟨[.lst (iL l ++ iL l)], 0, ?_, by rw [iL_app]; rfl⟩
    simp (disch := omega) [ev_var, ev_c, ev_bin, ev_un, ev_B, ev_tru, ev_andT, ev_orT, ev_notT, ev_and, ev_or, ev_not, ev_mif, ev_chain, ev_nil, ev_cons, ev_tup, ev_lst, ev_fn, ev_mt, ev_pNone, ev_pSome, ev_sl, ev_call, ev_disp0, ev_sNil, ev_seq, ev_expr, ev_ret, ev_retN, ev_brk, ev_cnt, ev_if, ev_asg, ev_put, ev_fun, fin_nx, fin_ret, bind_ok, ofO_some, go_nx, go_ret, st_ok, oSome_some, oSomeS_some, slotV_some, asB_bl, blV_bl, tgI_nm, tgI_tup, tgI_0, tgI_1, add_ii, sub_ii, mul_ii, div_ii, mod_ii, neg_i, lt_ii, le_ii, gt_ii, ge_ii, eq_e, ne_e, eq_ii, eq_ss, is_e, isnot_e, is_bb, is_nn, is_in, is_sn, is_rn, is_tn, is_qn, IP.ix_tup, ix_sq, seq_sq, len_tup, len_sq, ofString_inj, startI, L2.atI, L2.ixN, asInt, seq_r, lstO_l, lstO_d, lstP_l, dctO_l, dctO_d, tyO_l, tyO_d, dct_r, dct_q, lst_r, ty_non, ty_bl, ty_int, ty_str, ty_tup, ty_sq, ty_ty, ty_fn, ty_r, tyB_l, tyB_d, isTy_str, isTy_sq, isTy_r, ix_r, len_r, add_qq, add_qr, add_rq, add_rr, mul_q, mul_r, sl_q, sl_r, append_r, extend_r, clear_r, list_q, list_r, list_t, tuple_q, tuple_r, isinst_1, isSub, tyNames, min_ii, max_ii, abs_i, int_i, int_b, tru_bl, tru_q, tru_non, tru_int, tru_tup, ev_iVal, itV_q, itV_t, itV_s, ev_rg1, rg1_i, ev_rg2, rg2_i, List.getElem?_cons_zero, List.getElem?_cons_succ, ite_le, ite_lt, get_app, get_app1, set_app, set_app1, List.set_cons_zero, List.set_cons_succ, all_v, any_v, sum_v, asB_bL, asI_iL, F_l_first, b_l_first, N_l_first, Part.tree, iL_len, h1, List.replicate]
  | ends l a b =>
    have h : l.length ≤ 1000 := h
    refine ⟨[.lst [.int a], .lst (iL l ++ [.int a]), .lst (iL l ++ [.int a] ++ iL l), .lst [.int b], .lst (iL l ++ [.int a] ++ iL l ++ [.int b])], 4, ?_, ?_⟩
    · have h1 : l.length + 1 ≤ 16777216 := by omega
      have h2' : l.length + (l.length + 1) ≤ 16777216 := by omega
      have h3' : l.length + (l.length + 1 + 1) ≤ 16777216 := by omega
      simp (disch := omega) [ev_var, ev_c, ev_bin, ev_un, ev_B, ev_tru, ev_andT, ev_orT, ev_notT, ev_and, ev_or, ev_not, ev_mif, ev_chain, ev_nil, ev_cons, ev_tup, ev_lst, ev_fn, ev_mt, ev_pNone, ev_pSome, ev_sl, ev_call, ev_disp0, ev_sNil, ev_seq, ev_expr, ev_ret, ev_retN, ev_brk, ev_cnt, ev_if, ev_asg, ev_put, ev_fun, fin_nx, fin_ret, bind_ok, ofO_some, go_nx, go_ret, st_ok, oSome_some, oSomeS_some, slotV_some, asB_bl, blV_bl, tgI_nm, tgI_tup, tgI_0, tgI_1, add_ii, sub_ii, mul_ii, div_ii, mod_ii, neg_i, lt_ii, le_ii, gt_ii, ge_ii, eq_e, ne_e, eq_ii, eq_ss, is_e, isnot_e, is_bb, is_nn, is_in, is_sn, is_rn, is_tn, is_qn, IP.ix_tup, ix_sq, seq_sq, len_tup, len_sq, ofString_inj, startI, L2.atI, L2.ixN, asInt, seq_r, lstO_l, lstO_d, lstP_l, dctO_l, dctO_d, tyO_l, tyO_d, dct_r, dct_q, lst_r, ty_non, ty_bl, ty_int, ty_str, ty_tup, ty_sq, ty_ty, ty_fn, ty_r, tyB_l, tyB_d, isTy_str, isTy_sq, isTy_r, ix_r, len_r, add_qq, add_qr, add_rq, add_rr, mul_q, mul_r, sl_q, sl_r, append_r, extend_r, clear_r, list_q, list_r, list_t, tuple_q, tuple_r, isinst_1, isSub, tyNames, min_ii, max_ii, abs_i, int_i, int_b, tru_bl, tru_q, tru_non, tru_int, tru_tup, ev_iVal, itV_q, itV_t, itV_s, ev_rg1, rg1_i, ev_rg2, rg2_i, List.getElem?_cons_zero, List.getElem?_cons_succ, ite_le, ite_lt, get_app, get_app1, set_app, set_app1, List.set_cons_zero, List.set_cons_succ, all_v, any_v, sum_v, asB_bL, asI_iL, F_l_first, b_l_first, N_l_first, Part.tree, iL_len, h1, h2', h3']
    · simp [iL, Part.first]
theorem lfirst_call {S : Sto} (p : Part) (h : p.small) : C_l_first [p.tree] S = .ok (.ref S.length) (S ++ [.lst (iL p.first)]) := by
  obtain ⟨S1, i, e1, e2⟩ := lfirst_run p h
  exact sn_iL (snap1 (tree_snap p)) e1 e2
/-- the law's own again: a list of the part itself, or a new one -/
theorem lagain_run {S : Sto} (p : Part) (h : p.small) : ∃ v T, F_l_again [p.tree] S = .ok v (S ++ T) ∧ seqI v (S ++ T) = some (iL p.again) ∧ (∀ x, v ≠ .tup x) := by
  cases p with
  | bar n =>
    refine ⟨.ref S.length, [.lst [.int n]], ?_, ?_, nofun⟩
    · simp (disch := omega) [ev_var, ev_c, ev_bin, ev_un, ev_B, ev_tru, ev_andT, ev_orT, ev_notT, ev_and, ev_or, ev_not, ev_mif, ev_chain, ev_nil, ev_cons, ev_tup, ev_lst, ev_fn, ev_mt, ev_pNone, ev_pSome, ev_sl, ev_call, ev_disp0, ev_sNil, ev_seq, ev_expr, ev_ret, ev_retN, ev_brk, ev_cnt, ev_if, ev_asg, ev_put, ev_fun, fin_nx, fin_ret, bind_ok, ofO_some, go_nx, go_ret, st_ok, oSome_some, oSomeS_some, slotV_some, asB_bl, blV_bl, tgI_nm, tgI_tup, tgI_0, tgI_1, add_ii, sub_ii, mul_ii, div_ii, mod_ii, neg_i, lt_ii, le_ii, gt_ii, ge_ii, eq_e, ne_e, eq_ii, eq_ss, is_e, isnot_e, is_bb, is_nn, is_in, is_sn, is_rn, is_tn, is_qn, IP.ix_tup, ix_sq, seq_sq, len_tup, len_sq, ofString_inj, startI, L2.atI, L2.ixN, asInt, seq_r, lstO_l, lstO_d, lstP_l, dctO_l, dctO_d, tyO_l, tyO_d, dct_r, dct_q, lst_r, ty_non, ty_bl, ty_int, ty_str, ty_tup, ty_sq, ty_ty, ty_fn, ty_r, tyB_l, tyB_d, isTy_str, isTy_sq, isTy_r, ix_r, len_r, add_qq, add_qr, add_rq, add_rr, mul_q, mul_r, sl_q, sl_r, append_r, extend_r, clear_r, list_q, list_r, list_t, tuple_q, tuple_r, isinst_1, isSub, tyNames, min_ii, max_ii, abs_i, int_i, int_b, tru_bl, tru_q, tru_non, tru_int, tru_tup, ev_iVal, itV_q, itV_t, itV_s, ev_rg1, rg1_i, ev_rg2, rg2_i, List.getElem?_cons_zero, List.getElem?_cons_succ, ite_le, ite_lt, get_app, get_app1, set_app, set_app1, List.set_cons_zero, List.set_cons_succ, all_v, any_v, sum_v, asB_bL, asI_iL, F_l_again, b_l_again, N_l_again, Part.tree]
    · rw [seq_r, get_app]; rfl
  | twice l =>
    refine ⟨.sq (iL l), [], ?_, rfl, nofun⟩
    simp (disch := omega) [ev_var, ev_c, ev_bin, ev_un, ev_B, ev_tru, ev_andT, ev_orT, ev_notT, ev_and, ev_or, ev_not, ev_mif, ev_chain, ev_nil, ev_cons, ev_tup, ev_lst, ev_fn, ev_mt, ev_pNone, ev_pSome, ev_sl, ev_call, ev_disp0, ev_sNil, ev_seq, ev_expr, ev_ret, ev_retN, ev_brk, ev_cnt, ev_if, ev_asg, ev_put, ev_fun, fin_nx, fin_ret, bind_ok, ofO_some, go_nx, go_ret, st_ok, oSome_some, oSomeS_some, slotV_some, asB_bl, blV_bl, tgI_nm, tgI_tup, tgI_0, tgI_1, add_ii, sub_ii, mul_ii, div_ii, mod_ii, neg_i, lt_ii, le_ii, gt_ii, ge_ii, eq_e, ne_e, eq_ii, eq_ss, is_e, isnot_e, is_bb, is_nn, is_in, is_sn, is_rn, is_tn, is_qn, IP.ix_tup, ix_sq, seq_sq, len_tup, len_sq, ofString_inj, startI, L2.atI, L2.ixN, asInt, seq_r, lstO_l, lstO_d, lstP_l, dctO_l, dctO_d, tyO_l, tyO_d, dct_r, dct_q, lst_r, ty_non, ty_bl, ty_int, ty_str, ty_tup, ty_sq, ty_ty, ty_fn, ty_r, tyB_l, tyB_d, isTy_str, isTy_sq, isTy_r, ix_r, len_r, add_qq, add_qr, add_rq, add_rr, mul_q, mul_r, sl_q, sl_r, append_r, extend_r, clear_r, list_q, list_r, list_t, tuple_q, tuple_r, isinst_1, isSub, tyNames, min_ii, max_ii, abs_i, int_i, int_b, tru_bl, tru_q, tru_non, tru_int, tru_tup, ev_iVal, itV_q, itV_t, itV_s, ev_rg1, rg1_i, ev_rg2, rg2_i, List.getElem?_cons_zero, List.getElem?_cons_succ, ite_le, ite_lt, get_app, get_app1, set_app, set_app1, List.set_cons_zero, List.set_cons_succ, all_v, any_v, sum_v, asB_bL, asI_iL, F_l_again, b_l_again, N_l_again, Part.tree]
  | ends l a b =>
    have h : l.length ≤ 1000 := h
    have h1 : l.length + 1 ≤ 16777216 := by omega
    refine ⟨.ref (S.length + 1), [.lst [.int b], .lst (iL l ++ [.int b])], ?_, ?_, nofun⟩
    · simp (disch := omega) [ev_var, ev_c, ev_bin, ev_un, ev_B, ev_tru, ev_andT, ev_orT, ev_notT, ev_and, ev_or, ev_not, ev_mif, ev_chain, ev_nil, ev_cons, ev_tup, ev_lst, ev_fn, ev_mt, ev_pNone, ev_pSome, ev_sl, ev_call, ev_disp0, ev_sNil, ev_seq, ev_expr, ev_ret, ev_retN, ev_brk, ev_cnt, ev_if, ev_asg, ev_put, ev_fun, fin_nx, fin_ret, bind_ok, ofO_some, go_nx, go_ret, st_ok, oSome_some, oSomeS_some, slotV_some, asB_bl, blV_bl, tgI_nm, tgI_tup, tgI_0, tgI_1, add_ii, sub_ii, mul_ii, div_ii, mod_ii, neg_i, lt_ii, le_ii, gt_ii, ge_ii, eq_e, ne_e, eq_ii, eq_ss, is_e, isnot_e, is_bb, is_nn, is_in, is_sn, is_rn, is_tn, is_qn, IP.ix_tup, ix_sq, seq_sq, len_tup, len_sq, ofString_inj, startI, L2.atI, L2.ixN, asInt, seq_r, lstO_l, lstO_d, lstP_l, dctO_l, dctO_d, tyO_l, tyO_d, dct_r, dct_q, lst_r, ty_non, ty_bl, ty_int, ty_str, ty_tup, ty_sq, ty_ty, ty_fn, ty_r, tyB_l, tyB_d, isTy_str, isTy_sq, isTy_r, ix_r, len_r, add_qq, add_qr, add_rq, add_rr, mul_q, mul_r, sl_q, sl_r, append_r, extend_r, clear_r, list_q, list_r, list_t, tuple_q, tuple_r, isinst_1, isSub, tyNames, min_ii, max_ii, abs_i, int_i, int_b, tru_bl, tru_q, tru_non, tru_int, tru_tup, ev_iVal, itV_q, itV_t, itV_s, ev_rg1, rg1_i, ev_rg2, rg2_i, List.getElem?_cons_zero, List.getElem?_cons_succ, ite_le, ite_lt, get_app, get_app1, set_app, set_app1, List.set_cons_zero, List.set_cons_succ, all_v, any_v, sum_v, asB_bL, asI_iL, F_l_again, b_l_again, N_l_again, Part.tree, iL_len, h1]
    · rw [seq_r, get_app1]; simp [lstO, Part.again, iL]
/-! ### what is played -/
def play (ps : List Part) (k : Nat) : List Int := (ps.map Part.first).flatten ++ ((ps.take k).map Part.again).flatten
def rollT (ps : List Part) (k : Nat) : IV := .tup [.sq (ps.map Part.tree), .int k]
theorem first_len (p : Part) (h : p.small) : p.first.length ≤ 3000 := by
  cases p with
  | bar n => simp [Part.first]
  | twice l => have h : l.length ≤ 1000 := h; simp [Part.first]; omega
  | ends l a b => have h : l.length ≤ 1000 := h; simp [Part.first]; omega
theorem again_len (p : Part) (h : p.small) : p.again.length ≤ 3000 := by
  cases p with
  | bar n => simp [Part.again]
  | twice l => have h : l.length ≤ 1000 := h; simp [Part.again]; omega
  | ends l a b => have h : l.length ≤ 1000 := h; simp [Part.again]; omega
theorem flat_len {f : Part → List Int} : ∀ {qs : List Part}, (∀ p ∈ qs, (f p).length ≤ 3000) → ((qs.map f).flatten).length ≤ 3000 * qs.length
  | [], _ => by simp
  | q :: qs, h => by
    have h1 := h q List.mem_cons_self
    have h2 := flat_len (f := f) (qs := qs) fun x hx => h x (List.mem_cons_of_mem _ hx)
    simp only [List.map_cons, List.flatten_cons, List.length_append, List.length_cons]
    omega
theorem mem_get {qs : List Part} {n : Nat} {x : IV} (h : (qs.map Part.tree)[n]? = some x) : ∃ p, qs[n]? = some p ∧ p ∈ qs ∧ x = p.tree := by
  rw [List.getElem?_map, Option.map_eq_some_iff] at h
  obtain ⟨p, e1, e2⟩ := h
  exact ⟨p, e1, List.mem_of_getElem? e1, e2.symm⟩
/-- for part in parts: found.extend(C(part)) -/
theorem ext_loop {C : FN} {f : Part → List Int} {m : SI} {it : ItS} {a b c y0 : Option IV} {S0 J0 : Sto} {acc0 : List Int} {qs : List Part}
    (hC : ∀ (S : Sto) (p : Part), p ∈ qs → C [p.tree] S = .ok (.ref S.length) (S ++ [.lst (iL (f p))])) (hf : ∀ p ∈ qs, (f p).length ≤ 3000) (hl : qs.length ≤ 1000) (ha : acc0.length ≤ 4000000)
    (hm : m [a, b, c, some (.ref 0), y0] S0 = .ok it (.lst (iL acc0) :: J0)) (hit : ∀ n u J, nextAt it n (.lst u :: (J0 ++ J)) = some (qs.map Part.tree)[n]?) :
    ∃ y J, sFor (.nm 4) m (sExpr (mMt "list" mExtend (mVar 3) (mCons (mCall C (mCons (mVar 4) mNil)) mNil))) [a, b, c, some (.ref 0), y0] S0 = .nx [a, b, c, some (.ref 0), y] (.lst (iL (acc0 ++ (qs.map f).flatten)) :: (J0 ++ J)) := by
  obtain ⟨t', S', e1, y, J, e2, e3⟩ := for_nx (g := .nm 4) (b := sExpr (mMt "list" mExtend (mVar 3) (mCons (mCall C (mCons (mVar 4) mNil)) mNil))) (xs := qs.map Part.tree) hm
    (fun n t S => ∃ y J, t = [a, b, c, some (.ref 0), y] ∧ S = .lst (iL (acc0 ++ ((qs.take n).map f).flatten)) :: (J0 ++ J)) (fun n t S ⟨y, J, h1, h2⟩ => by rw [h2]; exact hit n _ J)
    (fun n x t S ex ⟨y, J, h1, h2⟩ => by
      obtain ⟨p, ep, mp, rfl⟩ := mem_get ex
      subst h1 h2
      have l1 : ((qs.take n).map f).flatten.length ≤ 3000 * (qs.take n).length := flat_len fun q hq => hf q (List.mem_of_mem_take hq)
      have l2 := hf p mp
      have l3 : (qs.take n).length ≤ 1000 := Nat.le_trans (List.length_take_le' _ _) hl
      have st : ((qs.take (n + 1)).map f).flatten = ((qs.take n).map f).flatten ++ f p := by rw [List.take_add_one, ep]; simp
      refine ⟨_, [a, b, c, some (.ref 0), some p.tree], .lst (iL (acc0 ++ ((qs.take (n + 1)).map f).flatten)) :: (J0 ++ (J ++ [.lst (iL (f p))])), tgI_nm, ?_, _, _, rfl, rfl⟩
      rw [st]
      generalize ((qs.take n).map f).flatten = A at l1 ⊢
      simp (disch := omega) [ev_var, ev_c, ev_bin, ev_un, ev_B, ev_tru, ev_andT, ev_orT, ev_notT, ev_and, ev_or, ev_not, ev_mif, ev_chain, ev_nil, ev_cons, ev_tup, ev_lst, ev_fn, ev_mt, ev_pNone, ev_pSome, ev_sl, ev_call, ev_disp0, ev_sNil, ev_seq, ev_expr, ev_ret, ev_retN, ev_brk, ev_cnt, ev_if, ev_asg, ev_put, ev_fun, fin_nx, fin_ret, bind_ok, ofO_some, go_nx, go_ret, st_ok, oSome_some, oSomeS_some, slotV_some, asB_bl, blV_bl, tgI_nm, tgI_tup, tgI_0, tgI_1, add_ii, sub_ii, mul_ii, div_ii, mod_ii, neg_i, lt_ii, le_ii, gt_ii, ge_ii, eq_e, ne_e, eq_ii, eq_ss, is_e, isnot_e, is_bb, is_nn, is_in, is_sn, is_rn, is_tn, is_qn, IP.ix_tup, ix_sq, seq_sq, len_tup, len_sq, ofString_inj, startI, L2.atI, L2.ixN, asInt, seq_r, lstO_l, lstO_d, lstP_l, dctO_l, dctO_d, tyO_l, tyO_d, dct_r, dct_q, lst_r, ty_non, ty_bl, ty_int, ty_str, ty_tup, ty_sq, ty_ty, ty_fn, ty_r, tyB_l, tyB_d, isTy_str, isTy_sq, isTy_r, ix_r, len_r, add_qq, add_qr, add_rq, add_rr, mul_q, mul_r, sl_q, sl_r, append_r, extend_r, clear_r, list_q, list_r, list_t, tuple_q, tuple_r, isinst_1, isSub, tyNames, min_ii, max_ii, abs_i, int_i, int_b, tru_bl, tru_q, tru_non, tru_int, tru_tup, ev_iVal, itV_q, itV_t, itV_s, ev_rg1, rg1_i, ev_rg2, rg2_i, List.getElem?_cons_zero, List.getElem?_cons_succ, ite_le, ite_lt, get_app, get_app1, set_app, set_app1, List.set_cons_zero, List.set_cons_succ, all_v, any_v, sum_v, asB_bL, asI_iL, hC _ p mp, iL_len]
      simp [iL])
    ⟨y0, [], rfl, by simp⟩ (by simp; omega)
  refine ⟨y, J, ?_⟩
  rw [e1, e2, e3]
  simp
theorem unrolled_run (ps : List Part) (k : Nat) (hs : ∀ p ∈ ps, p.small) (hl : ps.length ≤ 1000) (hk : k ≤ ps.length) : ∃ S1, F_unrolled [rollT ps k] [] = .ok (.ref 0) S1 ∧ S1[0]? = some (.lst (iL (play ps k))) := by
  obtain ⟨y1, J1, e1⟩ := ext_loop (C := C_first_time) (f := Part.first) (m := iVal (mVar 1)) (it := .lst (.sq (ps.map Part.tree))) (a := some (rollT ps k)) (b := some (.sq (ps.map Part.tree))) (c := some (.int k)) (y0 := none) (S0 := [.lst []]) (J0 := []) (acc0 := []) (qs := ps)
    (fun S p hp => first_call p (hs p hp)) (fun p hp => first_len p (hs p hp)) hl (by simp) (by simp [ev_var, ev_c, ev_bin, ev_un, ev_B, ev_tru, ev_andT, ev_orT, ev_notT, ev_and, ev_or, ev_not, ev_mif, ev_chain, ev_nil, ev_cons, ev_tup, ev_lst, ev_fn, ev_mt, ev_pNone, ev_pSome, ev_sl, ev_call, ev_disp0, ev_sNil, ev_seq, ev_expr, ev_ret, ev_retN, ev_brk, ev_cnt, ev_if, ev_asg, ev_put, ev_fun, fin_nx, fin_ret, bind_ok, ofO_some, go_nx, go_ret, st_ok, oSome_some, oSomeS_some, slotV_some, asB_bl, blV_bl, tgI_nm, tgI_tup, tgI_0, tgI_1, add_ii, sub_ii, mul_ii, div_ii, mod_ii, neg_i, lt_ii, le_ii, gt_ii, ge_ii, eq_e, ne_e, eq_ii, eq_ss, is_e, isnot_e, is_bb, is_nn, is_in, is_sn, is_rn, is_tn, is_qn, IP.ix_tup, ix_sq, seq_sq, len_tup, len_sq, ofString_inj, startI, L2.atI, L2.ixN, asInt, seq_r, lstO_l, lstO_d, lstP_l, dctO_l, dctO_d, tyO_l, tyO_d, dct_r, dct_q, lst_r, ty_non, ty_bl, ty_int, ty_str, ty_tup, ty_sq, ty_ty, ty_fn, ty_r, tyB_l, tyB_d, isTy_str, isTy_sq, isTy_r, ix_r, len_r, add_qq, add_qr, add_rq, add_rr, mul_q, mul_r, sl_q, sl_r, append_r, extend_r, clear_r, list_q, list_r, list_t, tuple_q, tuple_r, isinst_1, isSub, tyNames, min_ii, max_ii, abs_i, int_i, int_b, tru_bl, tru_q, tru_non, tru_int, tru_tup, ev_iVal, itV_q, itV_t, itV_s, ev_rg1, rg1_i, ev_rg2, rg2_i, List.getElem?_cons_zero, List.getElem?_cons_succ, ite_le, ite_lt, get_app, get_app1, set_app, set_app1, List.set_cons_zero, List.set_cons_succ, all_v, any_v, sum_v, asB_bL, asI_iL]; rfl) (fun n u J => next_q)
  simp only [List.nil_append] at e1
  have l1 : (ps.map Part.first).flatten.length ≤ 3000 * ps.length := flat_len fun p hp => first_len p (hs p hp)
  obtain ⟨y2, J2, e2⟩ := ext_loop (C := C_once_more) (f := Part.again) (m := iVal (mSl (mVar 1) pNone (pSome (mVar 2)))) (it := .lst (.ref (J1.length + 1))) (a := some (rollT ps k)) (b := some (.sq (ps.map Part.tree))) (c := some (.int k)) (y0 := y1) (S0 := .lst (iL (ps.map Part.first).flatten) :: J1)
    (J0 := J1 ++ [.lst ((ps.take k).map Part.tree)]) (acc0 := (ps.map Part.first).flatten) (qs := ps.take k)
    (fun S p hp => once_call p (hs p (List.mem_of_mem_take hp))) (fun p hp => again_len p (hs p (List.mem_of_mem_take hp))) (by simp; omega) (by omega)
    (by simp [ev_var, ev_c, ev_bin, ev_un, ev_B, ev_tru, ev_andT, ev_orT, ev_notT, ev_and, ev_or, ev_not, ev_mif, ev_chain, ev_nil, ev_cons, ev_tup, ev_lst, ev_fn, ev_mt, ev_pNone, ev_pSome, ev_sl, ev_call, ev_disp0, ev_sNil, ev_seq, ev_expr, ev_ret, ev_retN, ev_brk, ev_cnt, ev_if, ev_asg, ev_put, ev_fun, fin_nx, fin_ret, bind_ok, ofO_some, go_nx, go_ret, st_ok, oSome_some, oSomeS_some, slotV_some, asB_bl, blV_bl, tgI_nm, tgI_tup, tgI_0, tgI_1, add_ii, sub_ii, mul_ii, div_ii, mod_ii, neg_i, lt_ii, le_ii, gt_ii, ge_ii, eq_e, ne_e, eq_ii, eq_ss, is_e, isnot_e, is_bb, is_nn, is_in, is_sn, is_rn, is_tn, is_qn, IP.ix_tup, ix_sq, seq_sq, len_tup, len_sq, ofString_inj, startI, L2.atI, L2.ixN, asInt, seq_r, lstO_l, lstO_d, lstP_l, dctO_l, dctO_d, tyO_l, tyO_d, dct_r, dct_q, lst_r, ty_non, ty_bl, ty_int, ty_str, ty_tup, ty_sq, ty_ty, ty_fn, ty_r, tyB_l, tyB_d, isTy_str, isTy_sq, isTy_r, ix_r, len_r, add_qq, add_qr, add_rq, add_rr, mul_q, mul_r, sl_q, sl_r, append_r, extend_r, clear_r, list_q, list_r, list_t, tuple_q, tuple_r, isinst_1, isSub, tyNames, min_ii, max_ii, abs_i, int_i, int_b, tru_bl, tru_q, tru_non, tru_int, tru_tup, ev_iVal, itV_q, itV_t, itV_s, ev_rg1, rg1_i, ev_rg2, rg2_i, List.getElem?_cons_zero, List.getElem?_cons_succ, ite_le, ite_lt, get_app, get_app1, set_app, set_app1, List.set_cons_zero, List.set_cons_succ, all_v, any_v, sum_v, asB_bL, asI_iL, cut_hi]; rw [itV_r (xs := (ps.take k).map Part.tree)]; simp)
    (fun n u J => next_r (by simp))
  simp only [rollT] at e1 e2 ⊢
  refine ⟨.lst (iL (play ps k)) :: (J1 ++ [.lst ((ps.take k).map Part.tree)] ++ J2), ?_, rfl⟩
  simp [ev_var, ev_c, ev_bin, ev_un, ev_B, ev_tru, ev_andT, ev_orT, ev_notT, ev_and, ev_or, ev_not, ev_mif, ev_chain, ev_nil, ev_cons, ev_tup, ev_lst, ev_fn, ev_mt, ev_pNone, ev_pSome, ev_sl, ev_call, ev_disp0, ev_sNil, ev_seq, ev_expr, ev_ret, ev_retN, ev_brk, ev_cnt, ev_if, ev_asg, ev_put, ev_fun, fin_nx, fin_ret, bind_ok, ofO_some, go_nx, go_ret, st_ok, oSome_some, oSomeS_some, slotV_some, asB_bl, blV_bl, tgI_nm, tgI_tup, tgI_0, tgI_1, add_ii, sub_ii, mul_ii, div_ii, mod_ii, neg_i, lt_ii, le_ii, gt_ii, ge_ii, eq_e, ne_e, eq_ii, eq_ss, is_e, isnot_e, is_bb, is_nn, is_in, is_sn, is_rn, is_tn, is_qn, IP.ix_tup, ix_sq, seq_sq, len_tup, len_sq, ofString_inj, startI, L2.atI, L2.ixN, asInt, seq_r, lstO_l, lstO_d, lstP_l, dctO_l, dctO_d, tyO_l, tyO_d, dct_r, dct_q, lst_r, ty_non, ty_bl, ty_int, ty_str, ty_tup, ty_sq, ty_ty, ty_fn, ty_r, tyB_l, tyB_d, isTy_str, isTy_sq, isTy_r, ix_r, len_r, add_qq, add_qr, add_rq, add_rr, mul_q, mul_r, sl_q, sl_r, append_r, extend_r, clear_r, list_q, list_r, list_t, tuple_q, tuple_r, isinst_1, isSub, tyNames, min_ii, max_ii, abs_i, int_i, int_b, tru_bl, tru_q, tru_non, tru_int, tru_tup, ev_iVal, itV_q, itV_t, itV_s, ev_rg1, rg1_i, ev_rg2, rg2_i, List.getElem?_cons_zero, List.getElem?_cons_succ, ite_le, ite_lt, get_app, get_app1, set_app, set_app1, List.set_cons_zero, List.set_cons_succ, all_v, any_v, sum_v, asB_bL, asI_iL, F_unrolled, b_unrolled, N_unrolled, e1, e2, play]
theorem get_old {S T : Sto} {i : Nat} {o : SO} (h : S[i]? = some o) : (S ++ T)[i]? = some o := by
  rw [List.getElem?_append_left (List.getElem?_eq_some_iff.mp h).1]; exact h
/-- for part in parts: found = found + C(part) -/
theorem cat_loop {C : FN} {f : Part → List Int} {m : SI} {it : ItS} {a b y0 : Option IV} {S0 S1 : Sto} {i0 : Nat} {acc0 : List Int} {qs : List Part}
    (hC : ∀ (S : Sto) (p : Part), p ∈ qs → ∃ v T, C [p.tree] S = .ok v (S ++ T) ∧ seqI v (S ++ T) = some (iL (f p))) (hf : ∀ p ∈ qs, (f p).length ≤ 3000) (hl : qs.length ≤ 1000) (ha : acc0.length ≤ 4000000)
    (hm : m [a, b, some (.ref i0), y0] S0 = .ok it S1) (h0 : S1[i0]? = some (.lst (iL acc0))) (hit : ∀ n J, nextAt it n (S1 ++ J) = some (qs.map Part.tree)[n]?) :
    ∃ y i J, sFor (.nm 3) m (sAsg (.nm 2) (mBin iAdd (mVar 2) (mCall C (mCons (mVar 3) mNil)))) [a, b, some (.ref i0), y0] S0 = .nx [a, b, some (.ref i), y] (S1 ++ J) ∧ (S1 ++ J)[i]? = some (.lst (iL (acc0 ++ (qs.map f).flatten))) := by
  obtain ⟨t', S', e1, y, i, J, e2, e3, e4⟩ := for_nx (g := .nm 3) (b := sAsg (.nm 2) (mBin iAdd (mVar 2) (mCall C (mCons (mVar 3) mNil)))) (xs := qs.map Part.tree) hm
    (fun n t S => ∃ y i J, t = [a, b, some (.ref i), y] ∧ S = S1 ++ J ∧ S[i]? = some (.lst (iL (acc0 ++ ((qs.take n).map f).flatten)))) (fun n t S ⟨y, i, J, h1, h2, h3⟩ => by rw [h2]; exact hit n J)
    (fun n x t S ex ⟨y, i, J, h1, h2, h3⟩ => by
      obtain ⟨p, ep, mp, rfl⟩ := mem_get ex
      subst h1
      have l1 : ((qs.take n).map f).flatten.length ≤ 3000 * (qs.take n).length := flat_len fun q hq => hf q (List.mem_of_mem_take hq)
      have l2 := hf p mp
      have l3 : (qs.take n).length ≤ 1000 := Nat.le_trans (List.length_take_le' _ _) hl
      have st : ((qs.take (n + 1)).map f).flatten = ((qs.take n).map f).flatten ++ f p := by rw [List.take_add_one, ep]; simp
      obtain ⟨v, T, c1, c2⟩ := hC S p mp
      refine ⟨_, [a, b, some (.ref (S ++ T).length), some p.tree], S ++ T ++ [.lst (iL (acc0 ++ ((qs.take (n + 1)).map f).flatten))], tgI_nm, ?_, _, _, J ++ T ++ [.lst (iL (acc0 ++ ((qs.take (n + 1)).map f).flatten))], rfl, ?_, ?_⟩
      · rw [st]
        generalize ((qs.take n).map f).flatten = A at l1 h3 ⊢
        have ad : iAdd (.ref i) v (S ++ T) = some (.ref (S ++ T).length, S ++ T ++ [.lst (iL (acc0 ++ A) ++ iL (f p))]) := add_seq nofun (by rw [seq_r, get_old h3]; rfl) c2 (by rw [iL_len, iL_len, List.length_append]; omega)
        simp only [ev_var, ev_c, ev_bin, ev_un, ev_B, ev_tru, ev_andT, ev_orT, ev_notT, ev_and, ev_or, ev_not, ev_mif, ev_chain, ev_nil, ev_cons, ev_tup, ev_lst, ev_fn, ev_mt, ev_pNone, ev_pSome, ev_sl, ev_call, ev_disp0, ev_sNil, ev_seq, ev_expr, ev_ret, ev_retN, ev_brk, ev_cnt, ev_if, ev_asg, ev_put, ev_fun, fin_nx, fin_ret, bind_ok, ofO_some, go_nx, go_ret, st_ok, oSome_some, oSomeS_some, slotV_some, asB_bl, blV_bl, tgI_nm, tgI_tup, tgI_0, tgI_1, add_ii, sub_ii, mul_ii, div_ii, mod_ii, neg_i, lt_ii, le_ii, gt_ii, ge_ii, eq_e, ne_e, eq_ii, eq_ss, is_e, isnot_e, is_bb, is_nn, is_in, is_sn, is_rn, is_tn, is_qn, IP.ix_tup, ix_sq, seq_sq, len_tup, len_sq, ofString_inj, startI, L2.atI, L2.ixN, asInt, seq_r, lstO_l, lstO_d, lstP_l, dctO_l, dctO_d, tyO_l, tyO_d, dct_r, dct_q, lst_r, ty_non, ty_bl, ty_int, ty_str, ty_tup, ty_sq, ty_ty, ty_fn, ty_r, tyB_l, tyB_d, isTy_str, isTy_sq, isTy_r, ix_r, len_r, add_qq, add_qr, add_rq, add_rr, mul_q, mul_r, sl_q, sl_r, append_r, extend_r, clear_r, list_q, list_r, list_t, tuple_q, tuple_r, isinst_1, isSub, tyNames, min_ii, max_ii, abs_i, int_i, int_b, tru_bl, tru_q, tru_non, tru_int, tru_tup, ev_iVal, itV_q, itV_t, itV_s, ev_rg1, rg1_i, ev_rg2, rg2_i, List.getElem?_cons_zero, List.getElem?_cons_succ, ite_le, ite_lt, get_app, get_app1, set_app, set_app1, List.set_cons_zero, List.set_cons_succ, all_v, any_v, sum_v, asB_bL, asI_iL, List.set_cons_zero, List.set_cons_succ, c1, ad]
        rw [iL_app, List.append_assoc acc0, List.append_assoc S]
      · rw [h2]; simp
      · rw [get_app]; rfl)
    ⟨y0, i0, [], rfl, by simp, by simpa using h0⟩ (by simp; omega)
  refine ⟨y, i, J, ?_, ?_⟩
  · rw [e1, e2, e3]
  · rw [← e3, e4]; simp
theorem played_run (ps : List Part) (k : Nat) (hs : ∀ p ∈ ps, p.small) (hl : ps.length ≤ 1000) (hk : k ≤ ps.length) : ∃ S1 i, F_l_played [.sq (ps.map Part.tree), .int k] [] = .ok (.ref i) S1 ∧ S1[i]? = some (.lst (iL (play ps k))) := by
  obtain ⟨y1, i1, J1, e1, f1⟩ := cat_loop (C := C_l_first) (f := Part.first) (m := iVal (mVar 0)) (it := .lst (.sq (ps.map Part.tree))) (a := some (.sq (ps.map Part.tree))) (b := some (.int k)) (y0 := none) (S0 := [.lst []]) (S1 := [.lst []]) (i0 := 0) (acc0 := []) (qs := ps)
    (fun S p hp => ⟨_, _, lfirst_call p (hs p hp), by rw [seq_r, get_app]; rfl⟩) (fun p hp => first_len p (hs p hp)) hl (by simp) (by simp [ev_var, ev_c, ev_bin, ev_un, ev_B, ev_tru, ev_andT, ev_orT, ev_notT, ev_and, ev_or, ev_not, ev_mif, ev_chain, ev_nil, ev_cons, ev_tup, ev_lst, ev_fn, ev_mt, ev_pNone, ev_pSome, ev_sl, ev_call, ev_disp0, ev_sNil, ev_seq, ev_expr, ev_ret, ev_retN, ev_brk, ev_cnt, ev_if, ev_asg, ev_put, ev_fun, fin_nx, fin_ret, bind_ok, ofO_some, go_nx, go_ret, st_ok, oSome_some, oSomeS_some, slotV_some, asB_bl, blV_bl, tgI_nm, tgI_tup, tgI_0, tgI_1, add_ii, sub_ii, mul_ii, div_ii, mod_ii, neg_i, lt_ii, le_ii, gt_ii, ge_ii, eq_e, ne_e, eq_ii, eq_ss, is_e, isnot_e, is_bb, is_nn, is_in, is_sn, is_rn, is_tn, is_qn, IP.ix_tup, ix_sq, seq_sq, len_tup, len_sq, ofString_inj, startI, L2.atI, L2.ixN, asInt, seq_r, lstO_l, lstO_d, lstP_l, dctO_l, dctO_d, tyO_l, tyO_d, dct_r, dct_q, lst_r, ty_non, ty_bl, ty_int, ty_str, ty_tup, ty_sq, ty_ty, ty_fn, ty_r, tyB_l, tyB_d, isTy_str, isTy_sq, isTy_r, ix_r, len_r, add_qq, add_qr, add_rq, add_rr, mul_q, mul_r, sl_q, sl_r, append_r, extend_r, clear_r, list_q, list_r, list_t, tuple_q, tuple_r, isinst_1, isSub, tyNames, min_ii, max_ii, abs_i, int_i, int_b, tru_bl, tru_q, tru_non, tru_int, tru_tup, ev_iVal, itV_q, itV_t, itV_s, ev_rg1, rg1_i, ev_rg2, rg2_i, List.getElem?_cons_zero, List.getElem?_cons_succ, ite_le, ite_lt, get_app, get_app1, set_app, set_app1, List.set_cons_zero, List.set_cons_succ, all_v, any_v, sum_v, asB_bL, asI_iL]) rfl (fun n J => next_q)
  have l1 : (ps.map Part.first).flatten.length ≤ 3000 * ps.length := flat_len fun p hp => first_len p (hs p hp)
  obtain ⟨y2, i2, J2, e2, f2⟩ := cat_loop (C := F_l_again) (f := Part.again) (m := iVal (mSl (mVar 0) pNone (pSome (mVar 1)))) (it := .lst (.ref ([SO.lst []] ++ J1).length)) (a := some (.sq (ps.map Part.tree))) (b := some (.int k)) (y0 := y1) (S0 := [.lst []] ++ J1)
    (S1 := [.lst []] ++ J1 ++ [.lst ((ps.take k).map Part.tree)]) (i0 := i1) (acc0 := (ps.map Part.first).flatten) (qs := ps.take k)
    (fun S p hp => by obtain ⟨v, T, c1, c2, _⟩ := lagain_run (S := S) p (hs p (List.mem_of_mem_take hp)); exact ⟨v, T, c1, c2⟩) (fun p hp => again_len p (hs p (List.mem_of_mem_take hp))) (by simp; omega) (by omega)
    (by simp only [ev_var, ev_c, ev_bin, ev_un, ev_B, ev_tru, ev_andT, ev_orT, ev_notT, ev_and, ev_or, ev_not, ev_mif, ev_chain, ev_nil, ev_cons, ev_tup, ev_lst, ev_fn, ev_mt, ev_pNone, ev_pSome, ev_sl, ev_call, ev_disp0, ev_sNil, ev_seq, ev_expr, ev_ret, ev_retN, ev_brk, ev_cnt, ev_if, ev_asg, ev_put, ev_fun, fin_nx, fin_ret, bind_ok, ofO_some, go_nx, go_ret, st_ok, oSome_some, oSomeS_some, slotV_some, asB_bl, blV_bl, tgI_nm, tgI_tup, tgI_0, tgI_1, add_ii, sub_ii, mul_ii, div_ii, mod_ii, neg_i, lt_ii, le_ii, gt_ii, ge_ii, eq_e, ne_e, eq_ii, eq_ss, is_e, isnot_e, is_bb, is_nn, is_in, is_sn, is_rn, is_tn, is_qn, IP.ix_tup, ix_sq, seq_sq, len_tup, len_sq, ofString_inj, startI, L2.atI, L2.ixN, asInt, seq_r, lstO_l, lstO_d, lstP_l, dctO_l, dctO_d, tyO_l, tyO_d, dct_r, dct_q, lst_r, ty_non, ty_bl, ty_int, ty_str, ty_tup, ty_sq, ty_ty, ty_fn, ty_r, tyB_l, tyB_d, isTy_str, isTy_sq, isTy_r, ix_r, len_r, add_qq, add_qr, add_rq, add_rr, mul_q, mul_r, sl_q, sl_r, append_r, extend_r, clear_r, list_q, list_r, list_t, tuple_q, tuple_r, isinst_1, isSub, tyNames, min_ii, max_ii, abs_i, int_i, int_b, tru_bl, tru_q, tru_non, tru_int, tru_tup, ev_iVal, itV_q, itV_t, itV_s, ev_rg1, rg1_i, ev_rg2, rg2_i, List.getElem?_cons_zero, List.getElem?_cons_succ, ite_le, ite_lt, get_app, get_app1, set_app, set_app1, List.set_cons_zero, List.set_cons_succ, all_v, any_v, sum_v, asB_bL, asI_iL, cut_hi, ← List.map_take]; exact itV_r (xs := (ps.take k).map Part.tree) get_app) (get_old f1)
    (fun n J => next_r (xs := (ps.take k).map Part.tree) (get_old get_app))
  refine ⟨[.lst []] ++ J1 ++ [.lst ((ps.take k).map Part.tree)] ++ J2, i2, ?_, f2⟩
  have ss : startI N_l_played [.sq (ps.map Part.tree), .int k] = [some (.sq (ps.map Part.tree)), some (.int k), none, none] := rfl
  rw [F_l_played, ev_fun, ss, b_l_played]
  have e0 : sAsg (.nm 2) (mLst mNil) [some (.sq (ps.map Part.tree)), some (.int k), none, none] [] = .nx [some (.sq (ps.map Part.tree)), some (.int k), some (.ref 0), none] [.lst []] := rfl
  simp only [ev_seq, e0, go_nx, e1, e2]
  simp only [ev_ret, ev_var, List.getElem?_cons_zero, List.getElem?_cons_succ, slotV_some, st_ok, fin_ret]
/-! ### many, sizes -/
def Part.bars : Part → List Int
  | .bar n => [n]
  | .twice l => l
  | .ends l a b => l ++ [a, b]
theorem bars_run (p : Part) (h : p.small) : ∃ S1 i, F_bars_of [p.tree] [] = .ok (.ref i) S1 ∧ S1[i]? = some (.lst (iL p.bars)) := by
  cases p with
  | bar n =>
    refine ⟨[.lst [.int n]], 0, ?_, rfl⟩
    have e := once_call (S := []) (.bar n) trivial
    simp only [Part.tree] at e ⊢
    simp (disch := omega) [ev_var, ev_c, ev_bin, ev_un, ev_B, ev_tru, ev_andT, ev_orT, ev_notT, ev_and, ev_or, ev_not, ev_mif, ev_chain, ev_nil, ev_cons, ev_tup, ev_lst, ev_fn, ev_mt, ev_pNone, ev_pSome, ev_sl, ev_call, ev_disp0, ev_sNil, ev_seq, ev_expr, ev_ret, ev_retN, ev_brk, ev_cnt, ev_if, ev_asg, ev_put, ev_fun, fin_nx, fin_ret, bind_ok, ofO_some, go_nx, go_ret, st_ok, oSome_some, oSomeS_some, slotV_some, asB_bl, blV_bl, tgI_nm, tgI_tup, tgI_0, tgI_1, add_ii, sub_ii, mul_ii, div_ii, mod_ii, neg_i, lt_ii, le_ii, gt_ii, ge_ii, eq_e, ne_e, eq_ii, eq_ss, is_e, isnot_e, is_bb, is_nn, is_in, is_sn, is_rn, is_tn, is_qn, IP.ix_tup, ix_sq, seq_sq, len_tup, len_sq, ofString_inj, startI, L2.atI, L2.ixN, asInt, seq_r, lstO_l, lstO_d, lstP_l, dctO_l, dctO_d, tyO_l, tyO_d, dct_r, dct_q, lst_r, ty_non, ty_bl, ty_int, ty_str, ty_tup, ty_sq, ty_ty, ty_fn, ty_r, tyB_l, tyB_d, isTy_str, isTy_sq, isTy_r, ix_r, len_r, add_qq, add_qr, add_rq, add_rr, mul_q, mul_r, sl_q, sl_r, append_r, extend_r, clear_r, list_q, list_r, list_t, tuple_q, tuple_r, isinst_1, isSub, tyNames, min_ii, max_ii, abs_i, int_i, int_b, tru_bl, tru_q, tru_non, tru_int, tru_tup, ev_iVal, itV_q, itV_t, itV_s, ev_rg1, rg1_i, ev_rg2, rg2_i, List.getElem?_cons_zero, List.getElem?_cons_succ, ite_le, ite_lt, get_app, get_app1, set_app, set_app1, List.set_cons_zero, List.set_cons_succ, all_v, any_v, sum_v, asB_bL, asI_iL, F_bars_of, b_bars_of, N_bars_of, e]
    rfl
  | twice l =>
    refine ⟨[.lst (iL l)], 0, ?_, rfl⟩
    have e := once_call (S := []) (.twice l) h
    simp only [Part.tree] at e ⊢
    simp (disch := omega) [ev_var, ev_c, ev_bin, ev_un, ev_B, ev_tru, ev_andT, ev_orT, ev_notT, ev_and, ev_or, ev_not, ev_mif, ev_chain, ev_nil, ev_cons, ev_tup, ev_lst, ev_fn, ev_mt, ev_pNone, ev_pSome, ev_sl, ev_call, ev_disp0, ev_sNil, ev_seq, ev_expr, ev_ret, ev_retN, ev_brk, ev_cnt, ev_if, ev_asg, ev_put, ev_fun, fin_nx, fin_ret, bind_ok, ofO_some, go_nx, go_ret, st_ok, oSome_some, oSomeS_some, slotV_some, asB_bl, blV_bl, tgI_nm, tgI_tup, tgI_0, tgI_1, add_ii, sub_ii, mul_ii, div_ii, mod_ii, neg_i, lt_ii, le_ii, gt_ii, ge_ii, eq_e, ne_e, eq_ii, eq_ss, is_e, isnot_e, is_bb, is_nn, is_in, is_sn, is_rn, is_tn, is_qn, IP.ix_tup, ix_sq, seq_sq, len_tup, len_sq, ofString_inj, startI, L2.atI, L2.ixN, asInt, seq_r, lstO_l, lstO_d, lstP_l, dctO_l, dctO_d, tyO_l, tyO_d, dct_r, dct_q, lst_r, ty_non, ty_bl, ty_int, ty_str, ty_tup, ty_sq, ty_ty, ty_fn, ty_r, tyB_l, tyB_d, isTy_str, isTy_sq, isTy_r, ix_r, len_r, add_qq, add_qr, add_rq, add_rr, mul_q, mul_r, sl_q, sl_r, append_r, extend_r, clear_r, list_q, list_r, list_t, tuple_q, tuple_r, isinst_1, isSub, tyNames, min_ii, max_ii, abs_i, int_i, int_b, tru_bl, tru_q, tru_non, tru_int, tru_tup, ev_iVal, itV_q, itV_t, itV_s, ev_rg1, rg1_i, ev_rg2, rg2_i, List.getElem?_cons_zero, List.getElem?_cons_succ, ite_le, ite_lt, get_app, get_app1, set_app, set_app1, List.set_cons_zero, List.set_cons_succ, all_v, any_v, sum_v, asB_bL, asI_iL, F_bars_of, b_bars_of, N_bars_of, e]
    rfl
  | ends l a b =>
    have h : l.length ≤ 1000 := h
    refine ⟨[.lst [.int a, .int b], .lst (iL l ++ [.int a, .int b])], 1, ?_, by simp [Part.bars, iL]⟩
    simp (disch := omega) [ev_var, ev_c, ev_bin, ev_un, ev_B, ev_tru, ev_andT, ev_orT, ev_notT, ev_and, ev_or, ev_not, ev_mif, ev_chain, ev_nil, ev_cons, ev_tup, ev_lst, ev_fn, ev_mt, ev_pNone, ev_pSome, ev_sl, ev_call, ev_disp0, ev_sNil, ev_seq, ev_expr, ev_ret, ev_retN, ev_brk, ev_cnt, ev_if, ev_asg, ev_put, ev_fun, fin_nx, fin_ret, bind_ok, ofO_some, go_nx, go_ret, st_ok, oSome_some, oSomeS_some, slotV_some, asB_bl, blV_bl, tgI_nm, tgI_tup, tgI_0, tgI_1, add_ii, sub_ii, mul_ii, div_ii, mod_ii, neg_i, lt_ii, le_ii, gt_ii, ge_ii, eq_e, ne_e, eq_ii, eq_ss, is_e, isnot_e, is_bb, is_nn, is_in, is_sn, is_rn, is_tn, is_qn, IP.ix_tup, ix_sq, seq_sq, len_tup, len_sq, ofString_inj, startI, L2.atI, L2.ixN, asInt, seq_r, lstO_l, lstO_d, lstP_l, dctO_l, dctO_d, tyO_l, tyO_d, dct_r, dct_q, lst_r, ty_non, ty_bl, ty_int, ty_str, ty_tup, ty_sq, ty_ty, ty_fn, ty_r, tyB_l, tyB_d, isTy_str, isTy_sq, isTy_r, ix_r, len_r, add_qq, add_qr, add_rq, add_rr, mul_q, mul_r, sl_q, sl_r, append_r, extend_r, clear_r, list_q, list_r, list_t, tuple_q, tuple_r, isinst_1, isSub, tyNames, min_ii, max_ii, abs_i, int_i, int_b, tru_bl, tru_q, tru_non, tru_int, tru_tup, ev_iVal, itV_q, itV_t, itV_s, ev_rg1, rg1_i, ev_rg2, rg2_i, List.getElem?_cons_zero, List.getElem?_cons_succ, ite_le, ite_lt, get_app, get_app1, set_app, set_app1, List.set_cons_zero, List.set_cons_succ, all_v, any_v, sum_v, asB_bL, asI_iL, F_bars_of, b_bars_of, N_bars_of, Part.tree, iL_len]
theorem bars_call {S : Sto} (p : Part) (h : p.small) : C_bars_of [p.tree] S = .ok (.ref S.length) (S ++ [.lst (iL p.bars)]) := by
  obtain ⟨S1, i, e1, e2⟩ := bars_run p h
  exact sn_iL (snap1 (tree_snap p)) e1 e2
def total (ps : List Part) : Int := (ps.map fun p => (p.bars.length : Int)).sum
theorem many_run (ps : List Part) (k : Nat) (hs : ∀ p ∈ ps, p.small) (hl : ps.length ≤ 1000) : ∃ S1, F_many [rollT ps k] [] = .ok (.int (total ps)) S1 := by
  obtain ⟨acc, S', e1, e2, J, e3⟩ := lc_run (own := [1, 2]) (g := .nm 2) (m := iVal (mBin iIx (mVar 0) (mC (.int 0)))) (c := bYes) (e := mFn iLen (mCons (mCall C_bars_of (mCons (mVar 2) mNil)) mNil)) (it := .lst (.sq (ps.map Part.tree))) (t0 := [some (rollT ps k), none, none]) (S0 := []) (S1 := []) (xs := ps.map Part.tree) (by simp [ev_var, ev_c, ev_bin, ev_un, ev_B, ev_tru, ev_andT, ev_orT, ev_notT, ev_and, ev_or, ev_not, ev_mif, ev_chain, ev_nil, ev_cons, ev_tup, ev_lst, ev_fn, ev_mt, ev_pNone, ev_pSome, ev_sl, ev_call, ev_disp0, ev_sNil, ev_seq, ev_expr, ev_ret, ev_retN, ev_brk, ev_cnt, ev_if, ev_asg, ev_put, ev_fun, fin_nx, fin_ret, bind_ok, ofO_some, go_nx, go_ret, st_ok, oSome_some, oSomeS_some, slotV_some, asB_bl, blV_bl, tgI_nm, tgI_tup, tgI_0, tgI_1, add_ii, sub_ii, mul_ii, div_ii, mod_ii, neg_i, lt_ii, le_ii, gt_ii, ge_ii, eq_e, ne_e, eq_ii, eq_ss, is_e, isnot_e, is_bb, is_nn, is_in, is_sn, is_rn, is_tn, is_qn, IP.ix_tup, ix_sq, seq_sq, len_tup, len_sq, ofString_inj, startI, L2.atI, L2.ixN, asInt, seq_r, lstO_l, lstO_d, lstP_l, dctO_l, dctO_d, tyO_l, tyO_d, dct_r, dct_q, lst_r, ty_non, ty_bl, ty_int, ty_str, ty_tup, ty_sq, ty_ty, ty_fn, ty_r, tyB_l, tyB_d, isTy_str, isTy_sq, isTy_r, ix_r, len_r, add_qq, add_qr, add_rq, add_rr, mul_q, mul_r, sl_q, sl_r, append_r, extend_r, clear_r, list_q, list_r, list_t, tuple_q, tuple_r, isinst_1, isSub, tyNames, min_ii, max_ii, abs_i, int_i, int_b, tru_bl, tru_q, tru_non, tru_int, tru_tup, ev_iVal, itV_q, itV_t, itV_s, ev_rg1, rg1_i, ev_rg2, rg2_i, List.getElem?_cons_zero, List.getElem?_cons_succ, ite_le, ite_lt, get_app, get_app1, set_app, set_app1, List.set_cons_zero, List.set_cons_succ, all_v, any_v, sum_v, asB_bL, asI_iL, rollT])
    (fun n acc S => acc = iL ((ps.take n).map fun p => (p.bars.length : Int)) ∧ ∃ J, S = .lst acc :: J) (fun _ _ _ _ => next_q)
    (fun n x acc S ex ⟨h1, J, h2⟩ => by
      obtain ⟨p, ep, mp, rfl⟩ := mem_get ex
      subst h2
      have c := bars_call (S := .lst acc :: J) p (hs p mp)
      have l3 : (ps.take n).length ≤ 1000 := Nat.le_trans (List.length_take_le' _ _) hl
      refine ⟨[some (rollT ps k), none, some p.tree], true, .lst acc :: J, by simp [ev_var, ev_c, ev_bin, ev_un, ev_B, ev_tru, ev_andT, ev_orT, ev_notT, ev_and, ev_or, ev_not, ev_mif, ev_chain, ev_nil, ev_cons, ev_tup, ev_lst, ev_fn, ev_mt, ev_pNone, ev_pSome, ev_sl, ev_call, ev_disp0, ev_sNil, ev_seq, ev_expr, ev_ret, ev_retN, ev_brk, ev_cnt, ev_if, ev_asg, ev_put, ev_fun, fin_nx, fin_ret, bind_ok, ofO_some, go_nx, go_ret, st_ok, oSome_some, oSomeS_some, slotV_some, asB_bl, blV_bl, tgI_nm, tgI_tup, tgI_0, tgI_1, add_ii, sub_ii, mul_ii, div_ii, mod_ii, neg_i, lt_ii, le_ii, gt_ii, ge_ii, eq_e, ne_e, eq_ii, eq_ss, is_e, isnot_e, is_bb, is_nn, is_in, is_sn, is_rn, is_tn, is_qn, IP.ix_tup, ix_sq, seq_sq, len_tup, len_sq, ofString_inj, startI, L2.atI, L2.ixN, asInt, seq_r, lstO_l, lstO_d, lstP_l, dctO_l, dctO_d, tyO_l, tyO_d, dct_r, dct_q, lst_r, ty_non, ty_bl, ty_int, ty_str, ty_tup, ty_sq, ty_ty, ty_fn, ty_r, tyB_l, tyB_d, isTy_str, isTy_sq, isTy_r, ix_r, len_r, add_qq, add_qr, add_rq, add_rr, mul_q, mul_r, sl_q, sl_r, append_r, extend_r, clear_r, list_q, list_r, list_t, tuple_q, tuple_r, isinst_1, isSub, tyNames, min_ii, max_ii, abs_i, int_i, int_b, tru_bl, tru_q, tru_non, tru_int, tru_tup, ev_iVal, itV_q, itV_t, itV_s, ev_rg1, rg1_i, ev_rg2, rg2_i, List.getElem?_cons_zero, List.getElem?_cons_succ, ite_le, ite_lt, get_app, get_app1, set_app, set_app1, List.set_cons_zero, List.set_cons_succ, all_v, any_v, sum_v, asB_bL, asI_iL, wipeI], rfl, nofun, fun _ => ⟨.int p.bars.length, .lst acc :: J ++ [.lst (iL p.bars)], ?_, by simp, ?_, ?_, J ++ [.lst (iL p.bars)], by simp⟩⟩
      · simp [ev_var, ev_c, ev_bin, ev_un, ev_B, ev_tru, ev_andT, ev_orT, ev_notT, ev_and, ev_or, ev_not, ev_mif, ev_chain, ev_nil, ev_cons, ev_tup, ev_lst, ev_fn, ev_mt, ev_pNone, ev_pSome, ev_sl, ev_call, ev_disp0, ev_sNil, ev_seq, ev_expr, ev_ret, ev_retN, ev_brk, ev_cnt, ev_if, ev_asg, ev_put, ev_fun, fin_nx, fin_ret, bind_ok, ofO_some, go_nx, go_ret, st_ok, oSome_some, oSomeS_some, slotV_some, asB_bl, blV_bl, tgI_nm, tgI_tup, tgI_0, tgI_1, add_ii, sub_ii, mul_ii, div_ii, mod_ii, neg_i, lt_ii, le_ii, gt_ii, ge_ii, eq_e, ne_e, eq_ii, eq_ss, is_e, isnot_e, is_bb, is_nn, is_in, is_sn, is_rn, is_tn, is_qn, IP.ix_tup, ix_sq, seq_sq, len_tup, len_sq, ofString_inj, startI, L2.atI, L2.ixN, asInt, seq_r, lstO_l, lstO_d, lstP_l, dctO_l, dctO_d, tyO_l, tyO_d, dct_r, dct_q, lst_r, ty_non, ty_bl, ty_int, ty_str, ty_tup, ty_sq, ty_ty, ty_fn, ty_r, tyB_l, tyB_d, isTy_str, isTy_sq, isTy_r, ix_r, len_r, add_qq, add_qr, add_rq, add_rr, mul_q, mul_r, sl_q, sl_r, append_r, extend_r, clear_r, list_q, list_r, list_t, tuple_q, tuple_r, isinst_1, isSub, tyNames, min_ii, max_ii, abs_i, int_i, int_b, tru_bl, tru_q, tru_non, tru_int, tru_tup, ev_iVal, itV_q, itV_t, itV_s, ev_rg1, rg1_i, ev_rg2, rg2_i, List.getElem?_cons_zero, List.getElem?_cons_succ, ite_le, ite_lt, get_app, get_app1, set_app, set_app1, List.set_cons_zero, List.set_cons_succ, all_v, any_v, sum_v, asB_bL, asI_iL, c, iL_len]
      · rw [h1, iL_len, List.length_map]; omega
      · rw [h1, List.take_add_one, ep]; simp [iL])
    ⟨rfl, [], rfl⟩ (by simp; omega)
  refine ⟨S', ?_⟩
  have ss : startI N_many [rollT ps k] = [some (rollT ps k), none, none] := rfl
  rw [F_many, ev_fun, ss, b_many]
  have sm : iSum [.ref ([] : Sto).length] S' = some (.int (total ps), S') := by
    rw [sum_v, seq_ref (xs := acc) (by rw [e3]; rfl), e2]
    simp only [List.length_map, List.take_length, Option.bind_some, asI_iL, Option.map_some]
    rfl
  simp only [ev_ret, ev_fn, ev_cons, ev_nil, e1, bind_ok, sm, ofO_some, st_ok, fin_ret]
theorem size_run {S : Sto} (p : Part) (h : p.small) : ∃ S1, F_l_size [p.tree] S = .ok (.int p.bars.length) S1 := by
  cases p with
  | bar n => exact ⟨S, by simp (disch := omega) [ev_var, ev_c, ev_bin, ev_un, ev_B, ev_tru, ev_andT, ev_orT, ev_notT, ev_and, ev_or, ev_not, ev_mif, ev_chain, ev_nil, ev_cons, ev_tup, ev_lst, ev_fn, ev_mt, ev_pNone, ev_pSome, ev_sl, ev_call, ev_disp0, ev_sNil, ev_seq, ev_expr, ev_ret, ev_retN, ev_brk, ev_cnt, ev_if, ev_asg, ev_put, ev_fun, fin_nx, fin_ret, bind_ok, ofO_some, go_nx, go_ret, st_ok, oSome_some, oSomeS_some, slotV_some, asB_bl, blV_bl, tgI_nm, tgI_tup, tgI_0, tgI_1, add_ii, sub_ii, mul_ii, div_ii, mod_ii, neg_i, lt_ii, le_ii, gt_ii, ge_ii, eq_e, ne_e, eq_ii, eq_ss, is_e, isnot_e, is_bb, is_nn, is_in, is_sn, is_rn, is_tn, is_qn, IP.ix_tup, ix_sq, seq_sq, len_tup, len_sq, ofString_inj, startI, L2.atI, L2.ixN, asInt, seq_r, lstO_l, lstO_d, lstP_l, dctO_l, dctO_d, tyO_l, tyO_d, dct_r, dct_q, lst_r, ty_non, ty_bl, ty_int, ty_str, ty_tup, ty_sq, ty_ty, ty_fn, ty_r, tyB_l, tyB_d, isTy_str, isTy_sq, isTy_r, ix_r, len_r, add_qq, add_qr, add_rq, add_rr, mul_q, mul_r, sl_q, sl_r, append_r, extend_r, clear_r, list_q, list_r, list_t, tuple_q, tuple_r, isinst_1, isSub, tyNames, min_ii, max_ii, abs_i, int_i, int_b, tru_bl, tru_q, tru_non, tru_int, tru_tup, ev_iVal, itV_q, itV_t, itV_s, ev_rg1, rg1_i, ev_rg2, rg2_i, List.getElem?_cons_zero, List.getElem?_cons_succ, ite_le, ite_lt, get_app, get_app1, set_app, set_app1, List.set_cons_zero, List.set_cons_succ, all_v, any_v, sum_v, asB_bL, asI_iL, F_l_size, b_l_size, N_l_size, Part.tree, Part.bars]⟩
  | twice l => exact ⟨S, by simp (disch := omega) [ev_var, ev_c, ev_bin, ev_un, ev_B, ev_tru, ev_andT, ev_orT, ev_notT, ev_and, ev_or, ev_not, ev_mif, ev_chain, ev_nil, ev_cons, ev_tup, ev_lst, ev_fn, ev_mt, ev_pNone, ev_pSome, ev_sl, ev_call, ev_disp0, ev_sNil, ev_seq, ev_expr, ev_ret, ev_retN, ev_brk, ev_cnt, ev_if, ev_asg, ev_put, ev_fun, fin_nx, fin_ret, bind_ok, ofO_some, go_nx, go_ret, st_ok, oSome_some, oSomeS_some, slotV_some, asB_bl, blV_bl, tgI_nm, tgI_tup, tgI_0, tgI_1, add_ii, sub_ii, mul_ii, div_ii, mod_ii, neg_i, lt_ii, le_ii, gt_ii, ge_ii, eq_e, ne_e, eq_ii, eq_ss, is_e, isnot_e, is_bb, is_nn, is_in, is_sn, is_rn, is_tn, is_qn, IP.ix_tup, ix_sq, seq_sq, len_tup, len_sq, ofString_inj, startI, L2.atI, L2.ixN, asInt, seq_r, lstO_l, lstO_d, lstP_l, dctO_l, dctO_d, tyO_l, tyO_d, dct_r, dct_q, lst_r, ty_non, ty_bl, ty_int, ty_str, ty_tup, ty_sq, ty_ty, ty_fn, ty_r, tyB_l, tyB_d, isTy_str, isTy_sq, isTy_r, ix_r, len_r, add_qq, add_qr, add_rq, add_rr, mul_q, mul_r, sl_q, sl_r, append_r, extend_r, clear_r, list_q, list_r, list_t, tuple_q, tuple_r, isinst_1, isSub, tyNames, min_ii, max_ii, abs_i, int_i, int_b, tru_bl, tru_q, tru_non, tru_int, tru_tup, ev_iVal, itV_q, itV_t, itV_s, ev_rg1, rg1_i, ev_rg2, rg2_i, List.getElem?_cons_zero, List.getElem?_cons_succ, ite_le, ite_lt, get_app, get_app1, set_app, set_app1, List.set_cons_zero, List.set_cons_succ, all_v, any_v, sum_v, asB_bL, asI_iL, F_l_size, b_l_size, N_l_size, Part.tree, Part.bars, iL_len, okMul_l]⟩
  | ends l a b => exact ⟨S, by simp (disch := omega) [ev_var, ev_c, ev_bin, ev_un, ev_B, ev_tru, ev_andT, ev_orT, ev_notT, ev_and, ev_or, ev_not, ev_mif, ev_chain, ev_nil, ev_cons, ev_tup, ev_lst, ev_fn, ev_mt, ev_pNone, ev_pSome, ev_sl, ev_call, ev_disp0, ev_sNil, ev_seq, ev_expr, ev_ret, ev_retN, ev_brk, ev_cnt, ev_if, ev_asg, ev_put, ev_fun, fin_nx, fin_ret, bind_ok, ofO_some, go_nx, go_ret, st_ok, oSome_some, oSomeS_some, slotV_some, asB_bl, blV_bl, tgI_nm, tgI_tup, tgI_0, tgI_1, add_ii, sub_ii, mul_ii, div_ii, mod_ii, neg_i, lt_ii, le_ii, gt_ii, ge_ii, eq_e, ne_e, eq_ii, eq_ss, is_e, isnot_e, is_bb, is_nn, is_in, is_sn, is_rn, is_tn, is_qn, IP.ix_tup, ix_sq, seq_sq, len_tup, len_sq, ofString_inj, startI, L2.atI, L2.ixN, asInt, seq_r, lstO_l, lstO_d, lstP_l, dctO_l, dctO_d, tyO_l, tyO_d, dct_r, dct_q, lst_r, ty_non, ty_bl, ty_int, ty_str, ty_tup, ty_sq, ty_ty, ty_fn, ty_r, tyB_l, tyB_d, isTy_str, isTy_sq, isTy_r, ix_r, len_r, add_qq, add_qr, add_rq, add_rr, mul_q, mul_r, sl_q, sl_r, append_r, extend_r, clear_r, list_q, list_r, list_t, tuple_q, tuple_r, isinst_1, isSub, tyNames, min_ii, max_ii, abs_i, int_i, int_b, tru_bl, tru_q, tru_non, tru_int, tru_tup, ev_iVal, itV_q, itV_t, itV_s, ev_rg1, rg1_i, ev_rg2, rg2_i, List.getElem?_cons_zero, List.getElem?_cons_succ, ite_le, ite_lt, get_app, get_app1, set_app, set_app1, List.set_cons_zero, List.set_cons_succ, all_v, any_v, sum_v, asB_bL, asI_iL, F_l_size, b_l_size, N_l_size, Part.tree, Part.bars, iL_len, okMul_l]⟩
theorem size_call {S : Sto} {v : IV} (p : Part) (h : p.small) (hv : snapI S 9 v = some p.tree) : C_l_size [v] S = .ok (.int p.bars.length) S := by
  obtain ⟨S1, e1⟩ := size_run (S := []) p h
  exact sn_sc (snap1 hv) e1 rfl
theorem whole_call {S : Sto} {n : Int} : C_l_whole [.int n] S = .ok (.bl true) S := by
  refine sn_sc (S1 := []) (snap1 snap_int) ?_ rfl
  simp [ev_var, ev_c, ev_bin, ev_un, ev_B, ev_tru, ev_andT, ev_orT, ev_notT, ev_and, ev_or, ev_not, ev_mif, ev_chain, ev_nil, ev_cons, ev_tup, ev_lst, ev_fn, ev_mt, ev_pNone, ev_pSome, ev_sl, ev_call, ev_disp0, ev_sNil, ev_seq, ev_expr, ev_ret, ev_retN, ev_brk, ev_cnt, ev_if, ev_asg, ev_put, ev_fun, fin_nx, fin_ret, bind_ok, ofO_some, go_nx, go_ret, st_ok, oSome_some, oSomeS_some, slotV_some, asB_bl, blV_bl, tgI_nm, tgI_tup, tgI_0, tgI_1, add_ii, sub_ii, mul_ii, div_ii, mod_ii, neg_i, lt_ii, le_ii, gt_ii, ge_ii, eq_e, ne_e, eq_ii, eq_ss, is_e, isnot_e, is_bb, is_nn, is_in, is_sn, is_rn, is_tn, is_qn, IP.ix_tup, ix_sq, seq_sq, len_tup, len_sq, ofString_inj, startI, L2.atI, L2.ixN, asInt, seq_r, lstO_l, lstO_d, lstP_l, dctO_l, dctO_d, tyO_l, tyO_d, dct_r, dct_q, lst_r, ty_non, ty_bl, ty_int, ty_str, ty_tup, ty_sq, ty_ty, ty_fn, ty_r, tyB_l, tyB_d, isTy_str, isTy_sq, isTy_r, ix_r, len_r, add_qq, add_qr, add_rq, add_rr, mul_q, mul_r, sl_q, sl_r, append_r, extend_r, clear_r, list_q, list_r, list_t, tuple_q, tuple_r, isinst_1, isSub, tyNames, min_ii, max_ii, abs_i, int_i, int_b, tru_bl, tru_q, tru_non, tru_int, tru_tup, ev_iVal, itV_q, itV_t, itV_s, ev_rg1, rg1_i, ev_rg2, rg2_i, List.getElem?_cons_zero, List.getElem?_cons_succ, ite_le, ite_lt, get_app, get_app1, set_app, set_app1, List.set_cons_zero, List.set_cons_succ, all_v, any_v, sum_v, asB_bL, asI_iL, F_l_whole, b_l_whole, N_l_whole]
/-! ### what is a roll -/
theorem isWhole_run {S : Sto} {x : IV} {t : String} (h : tyI x S = some t) : F_is_whole [x] S = .ok (.bl (t == "int")) S := by
  simp [ev_var, ev_c, ev_bin, ev_un, ev_B, ev_tru, ev_andT, ev_orT, ev_notT, ev_and, ev_or, ev_not, ev_mif, ev_chain, ev_nil, ev_cons, ev_tup, ev_lst, ev_fn, ev_mt, ev_pNone, ev_pSome, ev_sl, ev_call, ev_disp0, ev_sNil, ev_seq, ev_expr, ev_ret, ev_retN, ev_brk, ev_cnt, ev_if, ev_asg, ev_put, ev_fun, fin_nx, fin_ret, bind_ok, ofO_some, go_nx, go_ret, st_ok, oSome_some, oSomeS_some, slotV_some, asB_bl, blV_bl, tgI_nm, tgI_tup, tgI_0, tgI_1, add_ii, sub_ii, mul_ii, div_ii, mod_ii, neg_i, lt_ii, le_ii, gt_ii, ge_ii, eq_e, ne_e, eq_ii, eq_ss, is_e, isnot_e, is_bb, is_nn, is_in, is_sn, is_rn, is_tn, is_qn, IP.ix_tup, ix_sq, seq_sq, len_tup, len_sq, ofString_inj, startI, L2.atI, L2.ixN, asInt, seq_r, lstO_l, lstO_d, lstP_l, dctO_l, dctO_d, tyO_l, tyO_d, dct_r, dct_q, lst_r, ty_non, ty_bl, ty_int, ty_str, ty_tup, ty_sq, ty_ty, ty_fn, ty_r, tyB_l, tyB_d, isTy_str, isTy_sq, isTy_r, ix_r, len_r, add_qq, add_qr, add_rq, add_rr, mul_q, mul_r, sl_q, sl_r, append_r, extend_r, clear_r, list_q, list_r, list_t, tuple_q, tuple_r, isinst_1, isSub, tyNames, min_ii, max_ii, abs_i, int_i, int_b, tru_bl, tru_q, tru_non, tru_int, tru_tup, ev_iVal, itV_q, itV_t, itV_s, ev_rg1, rg1_i, ev_rg2, rg2_i, List.getElem?_cons_zero, List.getElem?_cons_succ, ite_le, ite_lt, get_app, get_app1, set_app, set_app1, List.set_cons_zero, List.set_cons_succ, all_v, any_v, sum_v, asB_bL, asI_iL, F_is_whole, b_is_whole, N_is_whole, h]
  by_cases h1 : t = "int"
  · subst h1; simp [ev_var, ev_c, ev_bin, ev_un, ev_B, ev_tru, ev_andT, ev_orT, ev_notT, ev_and, ev_or, ev_not, ev_mif, ev_chain, ev_nil, ev_cons, ev_tup, ev_lst, ev_fn, ev_mt, ev_pNone, ev_pSome, ev_sl, ev_call, ev_disp0, ev_sNil, ev_seq, ev_expr, ev_ret, ev_retN, ev_brk, ev_cnt, ev_if, ev_asg, ev_put, ev_fun, fin_nx, fin_ret, bind_ok, ofO_some, go_nx, go_ret, st_ok, oSome_some, oSomeS_some, slotV_some, asB_bl, blV_bl, tgI_nm, tgI_tup, tgI_0, tgI_1, add_ii, sub_ii, mul_ii, div_ii, mod_ii, neg_i, lt_ii, le_ii, gt_ii, ge_ii, eq_e, ne_e, eq_ii, eq_ss, is_e, isnot_e, is_bb, is_nn, is_in, is_sn, is_rn, is_tn, is_qn, IP.ix_tup, ix_sq, seq_sq, len_tup, len_sq, ofString_inj, startI, L2.atI, L2.ixN, asInt, seq_r, lstO_l, lstO_d, lstP_l, dctO_l, dctO_d, tyO_l, tyO_d, dct_r, dct_q, lst_r, ty_non, ty_bl, ty_int, ty_str, ty_tup, ty_sq, ty_ty, ty_fn, ty_r, tyB_l, tyB_d, isTy_str, isTy_sq, isTy_r, ix_r, len_r, add_qq, add_qr, add_rq, add_rr, mul_q, mul_r, sl_q, sl_r, append_r, extend_r, clear_r, list_q, list_r, list_t, tuple_q, tuple_r, isinst_1, isSub, tyNames, min_ii, max_ii, abs_i, int_i, int_b, tru_bl, tru_q, tru_non, tru_int, tru_tup, ev_iVal, itV_q, itV_t, itV_s, ev_rg1, rg1_i, ev_rg2, rg2_i, List.getElem?_cons_zero, List.getElem?_cons_succ, ite_le, ite_lt, get_app, get_app1, set_app, set_app1, List.set_cons_zero, List.set_cons_succ, all_v, any_v, sum_v, asB_bL, asI_iL, h]
  · by_cases h2 : t = "bool"
    · subst h2; simp [ev_var, ev_c, ev_bin, ev_un, ev_B, ev_tru, ev_andT, ev_orT, ev_notT, ev_and, ev_or, ev_not, ev_mif, ev_chain, ev_nil, ev_cons, ev_tup, ev_lst, ev_fn, ev_mt, ev_pNone, ev_pSome, ev_sl, ev_call, ev_disp0, ev_sNil, ev_seq, ev_expr, ev_ret, ev_retN, ev_brk, ev_cnt, ev_if, ev_asg, ev_put, ev_fun, fin_nx, fin_ret, bind_ok, ofO_some, go_nx, go_ret, st_ok, oSome_some, oSomeS_some, slotV_some, asB_bl, blV_bl, tgI_nm, tgI_tup, tgI_0, tgI_1, add_ii, sub_ii, mul_ii, div_ii, mod_ii, neg_i, lt_ii, le_ii, gt_ii, ge_ii, eq_e, ne_e, eq_ii, eq_ss, is_e, isnot_e, is_bb, is_nn, is_in, is_sn, is_rn, is_tn, is_qn, IP.ix_tup, ix_sq, seq_sq, len_tup, len_sq, ofString_inj, startI, L2.atI, L2.ixN, asInt, seq_r, lstO_l, lstO_d, lstP_l, dctO_l, dctO_d, tyO_l, tyO_d, dct_r, dct_q, lst_r, ty_non, ty_bl, ty_int, ty_str, ty_tup, ty_sq, ty_ty, ty_fn, ty_r, tyB_l, tyB_d, isTy_str, isTy_sq, isTy_r, ix_r, len_r, add_qq, add_qr, add_rq, add_rr, mul_q, mul_r, sl_q, sl_r, append_r, extend_r, clear_r, list_q, list_r, list_t, tuple_q, tuple_r, isinst_1, isSub, tyNames, min_ii, max_ii, abs_i, int_i, int_b, tru_bl, tru_q, tru_non, tru_int, tru_tup, ev_iVal, itV_q, itV_t, itV_s, ev_rg1, rg1_i, ev_rg2, rg2_i, List.getElem?_cons_zero, List.getElem?_cons_succ, ite_le, ite_lt, get_app, get_app1, set_app, set_app1, List.set_cons_zero, List.set_cons_succ, all_v, any_v, sum_v, asB_bL, asI_iL, h]
    · simp [h1, h2, ev_var, ev_c, ev_bin, ev_un, ev_B, ev_tru, ev_andT, ev_orT, ev_notT, ev_and, ev_or, ev_not, ev_mif, ev_chain, ev_nil, ev_cons, ev_tup, ev_lst, ev_fn, ev_mt, ev_pNone, ev_pSome, ev_sl, ev_call, ev_disp0, ev_sNil, ev_seq, ev_expr, ev_ret, ev_retN, ev_brk, ev_cnt, ev_if, ev_asg, ev_put, ev_fun, fin_nx, fin_ret, bind_ok, ofO_some, go_nx, go_ret, st_ok, oSome_some, oSomeS_some, slotV_some, asB_bl, blV_bl, tgI_nm, tgI_tup, tgI_0, tgI_1, add_ii, sub_ii, mul_ii, div_ii, mod_ii, neg_i, lt_ii, le_ii, gt_ii, ge_ii, eq_e, ne_e, eq_ii, eq_ss, is_e, isnot_e, is_bb, is_nn, is_in, is_sn, is_rn, is_tn, is_qn, IP.ix_tup, ix_sq, seq_sq, len_tup, len_sq, ofString_inj, startI, L2.atI, L2.ixN, asInt, seq_r, lstO_l, lstO_d, lstP_l, dctO_l, dctO_d, tyO_l, tyO_d, dct_r, dct_q, lst_r, ty_non, ty_bl, ty_int, ty_str, ty_tup, ty_sq, ty_ty, ty_fn, ty_r, tyB_l, tyB_d, isTy_str, isTy_sq, isTy_r, ix_r, len_r, add_qq, add_qr, add_rq, add_rr, mul_q, mul_r, sl_q, sl_r, append_r, extend_r, clear_r, list_q, list_r, list_t, tuple_q, tuple_r, isinst_1, isSub, tyNames, min_ii, max_ii, abs_i, int_i, int_b, tru_bl, tru_q, tru_non, tru_int, tru_tup, ev_iVal, itV_q, itV_t, itV_s, ev_rg1, rg1_i, ev_rg2, rg2_i, List.getElem?_cons_zero, List.getElem?_cons_succ, ite_le, ite_lt, get_app, get_app1, set_app, set_app1, List.set_cons_zero, List.set_cons_succ, all_v, any_v, sum_v, asB_bL, asI_iL]
def barB : IV → Bool
  | .int n => decide (0 ≤ n)
  | _ => false
theorem isBar_run {S : Sto} {x : IV} {t : String} (h : tyI x S = some t) : F_is_bar [x] S = .ok (.bl (barB x)) S := by
  have w := isWhole_run h
  by_cases h1 : t = "int"
  · subst h1
    have : ∃ n, x = .int n := by
      cases x <;> simp [ev_var, ev_c, ev_bin, ev_un, ev_B, ev_tru, ev_andT, ev_orT, ev_notT, ev_and, ev_or, ev_not, ev_mif, ev_chain, ev_nil, ev_cons, ev_tup, ev_lst, ev_fn, ev_mt, ev_pNone, ev_pSome, ev_sl, ev_call, ev_disp0, ev_sNil, ev_seq, ev_expr, ev_ret, ev_retN, ev_brk, ev_cnt, ev_if, ev_asg, ev_put, ev_fun, fin_nx, fin_ret, bind_ok, ofO_some, go_nx, go_ret, st_ok, oSome_some, oSomeS_some, slotV_some, asB_bl, blV_bl, tgI_nm, tgI_tup, tgI_0, tgI_1, add_ii, sub_ii, mul_ii, div_ii, mod_ii, neg_i, lt_ii, le_ii, gt_ii, ge_ii, eq_e, ne_e, eq_ii, eq_ss, is_e, isnot_e, is_bb, is_nn, is_in, is_sn, is_rn, is_tn, is_qn, IP.ix_tup, ix_sq, seq_sq, len_tup, len_sq, ofString_inj, startI, L2.atI, L2.ixN, asInt, seq_r, lstO_l, lstO_d, lstP_l, dctO_l, dctO_d, tyO_l, tyO_d, dct_r, dct_q, lst_r, ty_non, ty_bl, ty_int, ty_str, ty_tup, ty_sq, ty_ty, ty_fn, ty_r, tyB_l, tyB_d, isTy_str, isTy_sq, isTy_r, ix_r, len_r, add_qq, add_qr, add_rq, add_rr, mul_q, mul_r, sl_q, sl_r, append_r, extend_r, clear_r, list_q, list_r, list_t, tuple_q, tuple_r, isinst_1, isSub, tyNames, min_ii, max_ii, abs_i, int_i, int_b, tru_bl, tru_q, tru_non, tru_int, tru_tup, ev_iVal, itV_q, itV_t, itV_s, ev_rg1, rg1_i, ev_rg2, rg2_i, List.getElem?_cons_zero, List.getElem?_cons_succ, ite_le, ite_lt, get_app, get_app1, set_app, set_app1, List.set_cons_zero, List.set_cons_succ, all_v, any_v, sum_v, asB_bL, asI_iL] at h
      · exact ⟨_, rfl⟩
      · exfalso; unfold tyO at h; split at h <;> simp at h
    obtain ⟨n, rfl⟩ := this
    simp [ev_var, ev_c, ev_bin, ev_un, ev_B, ev_tru, ev_andT, ev_orT, ev_notT, ev_and, ev_or, ev_not, ev_mif, ev_chain, ev_nil, ev_cons, ev_tup, ev_lst, ev_fn, ev_mt, ev_pNone, ev_pSome, ev_sl, ev_call, ev_disp0, ev_sNil, ev_seq, ev_expr, ev_ret, ev_retN, ev_brk, ev_cnt, ev_if, ev_asg, ev_put, ev_fun, fin_nx, fin_ret, bind_ok, ofO_some, go_nx, go_ret, st_ok, oSome_some, oSomeS_some, slotV_some, asB_bl, blV_bl, tgI_nm, tgI_tup, tgI_0, tgI_1, add_ii, sub_ii, mul_ii, div_ii, mod_ii, neg_i, lt_ii, le_ii, gt_ii, ge_ii, eq_e, ne_e, eq_ii, eq_ss, is_e, isnot_e, is_bb, is_nn, is_in, is_sn, is_rn, is_tn, is_qn, IP.ix_tup, ix_sq, seq_sq, len_tup, len_sq, ofString_inj, startI, L2.atI, L2.ixN, asInt, seq_r, lstO_l, lstO_d, lstP_l, dctO_l, dctO_d, tyO_l, tyO_d, dct_r, dct_q, lst_r, ty_non, ty_bl, ty_int, ty_str, ty_tup, ty_sq, ty_ty, ty_fn, ty_r, tyB_l, tyB_d, isTy_str, isTy_sq, isTy_r, ix_r, len_r, add_qq, add_qr, add_rq, add_rr, mul_q, mul_r, sl_q, sl_r, append_r, extend_r, clear_r, list_q, list_r, list_t, tuple_q, tuple_r, isinst_1, isSub, tyNames, min_ii, max_ii, abs_i, int_i, int_b, tru_bl, tru_q, tru_non, tru_int, tru_tup, ev_iVal, itV_q, itV_t, itV_s, ev_rg1, rg1_i, ev_rg2, rg2_i, List.getElem?_cons_zero, List.getElem?_cons_succ, ite_le, ite_lt, get_app, get_app1, set_app, set_app1, List.set_cons_zero, List.set_cons_succ, all_v, any_v, sum_v, asB_bL, asI_iL, F_is_bar, b_is_bar, N_is_bar, w, barB]
  · have e : barB x = false := by
      cases x <;> first | rfl | skip
      simp [ev_var, ev_c, ev_bin, ev_un, ev_B, ev_tru, ev_andT, ev_orT, ev_notT, ev_and, ev_or, ev_not, ev_mif, ev_chain, ev_nil, ev_cons, ev_tup, ev_lst, ev_fn, ev_mt, ev_pNone, ev_pSome, ev_sl, ev_call, ev_disp0, ev_sNil, ev_seq, ev_expr, ev_ret, ev_retN, ev_brk, ev_cnt, ev_if, ev_asg, ev_put, ev_fun, fin_nx, fin_ret, bind_ok, ofO_some, go_nx, go_ret, st_ok, oSome_some, oSomeS_some, slotV_some, asB_bl, blV_bl, tgI_nm, tgI_tup, tgI_0, tgI_1, add_ii, sub_ii, mul_ii, div_ii, mod_ii, neg_i, lt_ii, le_ii, gt_ii, ge_ii, eq_e, ne_e, eq_ii, eq_ss, is_e, isnot_e, is_bb, is_nn, is_in, is_sn, is_rn, is_tn, is_qn, IP.ix_tup, ix_sq, seq_sq, len_tup, len_sq, ofString_inj, startI, L2.atI, L2.ixN, asInt, seq_r, lstO_l, lstO_d, lstP_l, dctO_l, dctO_d, tyO_l, tyO_d, dct_r, dct_q, lst_r, ty_non, ty_bl, ty_int, ty_str, ty_tup, ty_sq, ty_ty, ty_fn, ty_r, tyB_l, tyB_d, isTy_str, isTy_sq, isTy_r, ix_r, len_r, add_qq, add_qr, add_rq, add_rr, mul_q, mul_r, sl_q, sl_r, append_r, extend_r, clear_r, list_q, list_r, list_t, tuple_q, tuple_r, isinst_1, isSub, tyNames, min_ii, max_ii, abs_i, int_i, int_b, tru_bl, tru_q, tru_non, tru_int, tru_tup, ev_iVal, itV_q, itV_t, itV_s, ev_rg1, rg1_i, ev_rg2, rg2_i, List.getElem?_cons_zero, List.getElem?_cons_succ, ite_le, ite_lt, get_app, get_app1, set_app, set_app1, List.set_cons_zero, List.set_cons_succ, all_v, any_v, sum_v, asB_bL, asI_iL] at h; exact absurd h.symm h1
    simp [ev_var, ev_c, ev_bin, ev_un, ev_B, ev_tru, ev_andT, ev_orT, ev_notT, ev_and, ev_or, ev_not, ev_mif, ev_chain, ev_nil, ev_cons, ev_tup, ev_lst, ev_fn, ev_mt, ev_pNone, ev_pSome, ev_sl, ev_call, ev_disp0, ev_sNil, ev_seq, ev_expr, ev_ret, ev_retN, ev_brk, ev_cnt, ev_if, ev_asg, ev_put, ev_fun, fin_nx, fin_ret, bind_ok, ofO_some, go_nx, go_ret, st_ok, oSome_some, oSomeS_some, slotV_some, asB_bl, blV_bl, tgI_nm, tgI_tup, tgI_0, tgI_1, add_ii, sub_ii, mul_ii, div_ii, mod_ii, neg_i, lt_ii, le_ii, gt_ii, ge_ii, eq_e, ne_e, eq_ii, eq_ss, is_e, isnot_e, is_bb, is_nn, is_in, is_sn, is_rn, is_tn, is_qn, IP.ix_tup, ix_sq, seq_sq, len_tup, len_sq, ofString_inj, startI, L2.atI, L2.ixN, asInt, seq_r, lstO_l, lstO_d, lstP_l, dctO_l, dctO_d, tyO_l, tyO_d, dct_r, dct_q, lst_r, ty_non, ty_bl, ty_int, ty_str, ty_tup, ty_sq, ty_ty, ty_fn, ty_r, tyB_l, tyB_d, isTy_str, isTy_sq, isTy_r, ix_r, len_r, add_qq, add_qr, add_rq, add_rr, mul_q, mul_r, sl_q, sl_r, append_r, extend_r, clear_r, list_q, list_r, list_t, tuple_q, tuple_r, isinst_1, isSub, tyNames, min_ii, max_ii, abs_i, int_i, int_b, tru_bl, tru_q, tru_non, tru_int, tru_tup, ev_iVal, itV_q, itV_t, itV_s, ev_rg1, rg1_i, ev_rg2, rg2_i, List.getElem?_cons_zero, List.getElem?_cons_succ, ite_le, ite_lt, get_app, get_app1, set_app, set_app1, List.set_cons_zero, List.set_cons_succ, all_v, any_v, sum_v, asB_bL, asI_iL, F_is_bar, b_is_bar, N_is_bar, w, h1, e]
theorem wipe2 {a : Option IV} {b c : Option IV} : wipeI [a, b, c] [1, 2] = [a, none, none] := rfl
/-- all([C(one) for one in thing]), C telling truths -/
theorem all_run {C : FN} {f : IV → Bool} {m : SE} {it : ItS} {a y1 y2 : Option IV} {S0 S1 : Sto} {xs : List IV} (hm : m [a, y1, y2] S0 = .ok it' S1) (hv : itV it' S1 = .ok it S1) (hit : ∀ n acc, nextAt it n (S1 ++ [.lst acc]) = some xs[n]?)
    (hC : ∀ x ∈ xs, ∀ acc, C [x] (S1 ++ [.lst acc]) = .ok (.bl (f x)) (S1 ++ [.lst acc])) (hl : xs.length ≤ 1000) :
    mLc [1, 2] (.nm 2) (iVal m) bYes (mCall C (mCons (mVar 2) mNil)) [a, y1, y2] S0 = .ok (.ref S1.length) (S1 ++ [.lst (bL (xs.map f))]) := by
  have e := lc_pure (own := [1, 2]) (g := .nm 2) (m := iVal m) (c := bYes) (e := mCall C (mCons (mVar 2) mNil)) (t0 := [a, y1, y2]) (S0 := S0) (S1 := S1) (xs := xs) (p := fun _ => true) (f := fun x => .bl (f x)) (it := it)
    (by rw [ev_iVal, hm]; exact hv) hit (fun n x acc ex => ⟨[a, none, some x], by simp [ev_var, ev_c, ev_bin, ev_un, ev_B, ev_tru, ev_andT, ev_orT, ev_notT, ev_and, ev_or, ev_not, ev_mif, ev_chain, ev_nil, ev_cons, ev_tup, ev_lst, ev_fn, ev_mt, ev_pNone, ev_pSome, ev_sl, ev_call, ev_disp0, ev_sNil, ev_seq, ev_expr, ev_ret, ev_retN, ev_brk, ev_cnt, ev_if, ev_asg, ev_put, ev_fun, fin_nx, fin_ret, bind_ok, ofO_some, go_nx, go_ret, st_ok, oSome_some, oSomeS_some, slotV_some, asB_bl, blV_bl, tgI_nm, tgI_tup, tgI_0, tgI_1, add_ii, sub_ii, mul_ii, div_ii, mod_ii, neg_i, lt_ii, le_ii, gt_ii, ge_ii, eq_e, ne_e, eq_ii, eq_ss, is_e, isnot_e, is_bb, is_nn, is_in, is_sn, is_rn, is_tn, is_qn, IP.ix_tup, ix_sq, seq_sq, len_tup, len_sq, ofString_inj, startI, L2.atI, L2.ixN, asInt, seq_r, lstO_l, lstO_d, lstP_l, dctO_l, dctO_d, tyO_l, tyO_d, dct_r, dct_q, lst_r, ty_non, ty_bl, ty_int, ty_str, ty_tup, ty_sq, ty_ty, ty_fn, ty_r, tyB_l, tyB_d, isTy_str, isTy_sq, isTy_r, ix_r, len_r, add_qq, add_qr, add_rq, add_rr, mul_q, mul_r, sl_q, sl_r, append_r, extend_r, clear_r, list_q, list_r, list_t, tuple_q, tuple_r, isinst_1, isSub, tyNames, min_ii, max_ii, abs_i, int_i, int_b, tru_bl, tru_q, tru_non, tru_int, tru_tup, ev_iVal, itV_q, itV_t, itV_s, ev_rg1, rg1_i, ev_rg2, rg2_i, List.getElem?_cons_zero, List.getElem?_cons_succ, ite_le, ite_lt, get_app, get_app1, set_app, set_app1, List.set_cons_zero, List.set_cons_succ, all_v, any_v, sum_v, asB_bL, asI_iL, wipe2], rfl, fun _ => by simp [ev_var, ev_c, ev_bin, ev_un, ev_B, ev_tru, ev_andT, ev_orT, ev_notT, ev_and, ev_or, ev_not, ev_mif, ev_chain, ev_nil, ev_cons, ev_tup, ev_lst, ev_fn, ev_mt, ev_pNone, ev_pSome, ev_sl, ev_call, ev_disp0, ev_sNil, ev_seq, ev_expr, ev_ret, ev_retN, ev_brk, ev_cnt, ev_if, ev_asg, ev_put, ev_fun, fin_nx, fin_ret, bind_ok, ofO_some, go_nx, go_ret, st_ok, oSome_some, oSomeS_some, slotV_some, asB_bl, blV_bl, tgI_nm, tgI_tup, tgI_0, tgI_1, add_ii, sub_ii, mul_ii, div_ii, mod_ii, neg_i, lt_ii, le_ii, gt_ii, ge_ii, eq_e, ne_e, eq_ii, eq_ss, is_e, isnot_e, is_bb, is_nn, is_in, is_sn, is_rn, is_tn, is_qn, IP.ix_tup, ix_sq, seq_sq, len_tup, len_sq, ofString_inj, startI, L2.atI, L2.ixN, asInt, seq_r, lstO_l, lstO_d, lstP_l, dctO_l, dctO_d, tyO_l, tyO_d, dct_r, dct_q, lst_r, ty_non, ty_bl, ty_int, ty_str, ty_tup, ty_sq, ty_ty, ty_fn, ty_r, tyB_l, tyB_d, isTy_str, isTy_sq, isTy_r, ix_r, len_r, add_qq, add_qr, add_rq, add_rr, mul_q, mul_r, sl_q, sl_r, append_r, extend_r, clear_r, list_q, list_r, list_t, tuple_q, tuple_r, isinst_1, isSub, tyNames, min_ii, max_ii, abs_i, int_i, int_b, tru_bl, tru_q, tru_non, tru_int, tru_tup, ev_iVal, itV_q, itV_t, itV_s, ev_rg1, rg1_i, ev_rg2, rg2_i, List.getElem?_cons_zero, List.getElem?_cons_succ, ite_le, ite_lt, get_app, get_app1, set_app, set_app1, List.set_cons_zero, List.set_cons_succ, all_v, any_v, sum_v, asB_bL, asI_iL, hC x (List.mem_of_getElem? ex)]⟩) (by omega)
  have eb : (xs.filter fun _ => true).map (fun x => IV.bl (f x)) = bL (xs.map f) := by
    rw [List.filter_eq_self.mpr (fun _ _ => rfl)]; simp [bL]
  rw [eb] at e
  exact e
def isTyped (S : Sto) (x : IV) : Prop := ∃ t, tyI x S = some t
theorem typed_app {S T : Sto} {x : IV} (h : isTyped S x) : isTyped (S ++ T) x := by
  obtain ⟨t, h⟩ := h
  cases x <;> simp only [ev_var, ev_c, ev_bin, ev_un, ev_B, ev_tru, ev_andT, ev_orT, ev_notT, ev_and, ev_or, ev_not, ev_mif, ev_chain, ev_nil, ev_cons, ev_tup, ev_lst, ev_fn, ev_mt, ev_pNone, ev_pSome, ev_sl, ev_call, ev_disp0, ev_sNil, ev_seq, ev_expr, ev_ret, ev_retN, ev_brk, ev_cnt, ev_if, ev_asg, ev_put, ev_fun, fin_nx, fin_ret, bind_ok, ofO_some, go_nx, go_ret, st_ok, oSome_some, oSomeS_some, slotV_some, asB_bl, blV_bl, tgI_nm, tgI_tup, tgI_0, tgI_1, add_ii, sub_ii, mul_ii, div_ii, mod_ii, neg_i, lt_ii, le_ii, gt_ii, ge_ii, eq_e, ne_e, eq_ii, eq_ss, is_e, isnot_e, is_bb, is_nn, is_in, is_sn, is_rn, is_tn, is_qn, IP.ix_tup, ix_sq, seq_sq, len_tup, len_sq, ofString_inj, startI, L2.atI, L2.ixN, asInt, seq_r, lstO_l, lstO_d, lstP_l, dctO_l, dctO_d, tyO_l, tyO_d, dct_r, dct_q, lst_r, ty_non, ty_bl, ty_int, ty_str, ty_tup, ty_sq, ty_ty, ty_fn, ty_r, tyB_l, tyB_d, isTy_str, isTy_sq, isTy_r, ix_r, len_r, add_qq, add_qr, add_rq, add_rr, mul_q, mul_r, sl_q, sl_r, append_r, extend_r, clear_r, list_q, list_r, list_t, tuple_q, tuple_r, isinst_1, isSub, tyNames, min_ii, max_ii, abs_i, int_i, int_b, tru_bl, tru_q, tru_non, tru_int, tru_tup, ev_iVal, itV_q, itV_t, itV_s, ev_rg1, rg1_i, ev_rg2, rg2_i, List.getElem?_cons_zero, List.getElem?_cons_succ, ite_le, ite_lt, get_app, get_app1, set_app, set_app1, List.set_cons_zero, List.set_cons_succ, all_v, any_v, sum_v, asB_bL, asI_iL] at h <;> try (cases h; done)
  case ref i =>
    refine ⟨t, ?_⟩
    rw [ty_r]
    unfold tyO at h
    split at h
    · rename_i xs hk; rw [get_old hk]; exact h
    · rename_i xs hk; rw [get_old hk]; exact h
    · cases h
  all_goals exact ⟨_, rfl⟩
theorem tyO_list {S : Sto} {i : Nat} {t : String} (h : tyI (.ref i) S = some t) : (∃ xs, S[i]? = some (.lst xs) ∧ t = "list") ∨ (∃ kvs, S[i]? = some (.dct kvs) ∧ t = "dict") := by
  rw [ty_r] at h
  unfold tyO at h
  split at h
  · rename_i xs hk; exact .inl ⟨xs, hk, (Option.some.inj h).symm⟩
  · rename_i xs hk; exact .inr ⟨xs, hk, (Option.some.inj h).symm⟩
  · cases h
/-- is_list: of a list whose items have types -/
theorem isList_run {S : Sto} {i : Nat} {xs : List IV} (hk : S[i]? = some (.lst xs)) (ht : ∀ x ∈ xs, isTyped S x) : ∃ T, F_is_list [.ref i] S = .ok (.bl (decide (1 ≤ xs.length ∧ xs.length ≤ 4) && xs.all barB)) (S ++ T) := by
  by_cases h : 1 ≤ xs.length ∧ xs.length ≤ 4
  · refine ⟨[.lst (bL (xs.map barB))], ?_⟩
    have e := all_run (C := F_is_bar) (f := barB) (m := mVar 0) (it := .lst (.ref i)) (a := some (.ref i)) (y1 := none) (y2 := none) (S0 := S) (S1 := S) (it' := .ref i) (xs := xs) (by simp [ev_var, ev_c, ev_bin, ev_un, ev_B, ev_tru, ev_andT, ev_orT, ev_notT, ev_and, ev_or, ev_not, ev_mif, ev_chain, ev_nil, ev_cons, ev_tup, ev_lst, ev_fn, ev_mt, ev_pNone, ev_pSome, ev_sl, ev_call, ev_disp0, ev_sNil, ev_seq, ev_expr, ev_ret, ev_retN, ev_brk, ev_cnt, ev_if, ev_asg, ev_put, ev_fun, fin_nx, fin_ret, bind_ok, ofO_some, go_nx, go_ret, st_ok, oSome_some, oSomeS_some, slotV_some, asB_bl, blV_bl, tgI_nm, tgI_tup, tgI_0, tgI_1, add_ii, sub_ii, mul_ii, div_ii, mod_ii, neg_i, lt_ii, le_ii, gt_ii, ge_ii, eq_e, ne_e, eq_ii, eq_ss, is_e, isnot_e, is_bb, is_nn, is_in, is_sn, is_rn, is_tn, is_qn, IP.ix_tup, ix_sq, seq_sq, len_tup, len_sq, ofString_inj, startI, L2.atI, L2.ixN, asInt, seq_r, lstO_l, lstO_d, lstP_l, dctO_l, dctO_d, tyO_l, tyO_d, dct_r, dct_q, lst_r, ty_non, ty_bl, ty_int, ty_str, ty_tup, ty_sq, ty_ty, ty_fn, ty_r, tyB_l, tyB_d, isTy_str, isTy_sq, isTy_r, ix_r, len_r, add_qq, add_qr, add_rq, add_rr, mul_q, mul_r, sl_q, sl_r, append_r, extend_r, clear_r, list_q, list_r, list_t, tuple_q, tuple_r, isinst_1, isSub, tyNames, min_ii, max_ii, abs_i, int_i, int_b, tru_bl, tru_q, tru_non, tru_int, tru_tup, ev_iVal, itV_q, itV_t, itV_s, ev_rg1, rg1_i, ev_rg2, rg2_i, List.getElem?_cons_zero, List.getElem?_cons_succ, ite_le, ite_lt, get_app, get_app1, set_app, set_app1, List.set_cons_zero, List.set_cons_succ, all_v, any_v, sum_v, asB_bL, asI_iL]) (itV_r hk) (fun n acc => next_r (get_old hk))
      (fun x hx acc => by obtain ⟨t, h⟩ := typed_app (T := [.lst acc]) (ht x hx); exact isBar_run h) (by omega)
    have h1 : (1 : Int) ≤ xs.length := by omega
    have h2 : (xs.length : Int) ≤ 4 := by omega
    simp [ev_var, ev_c, ev_bin, ev_un, ev_B, ev_tru, ev_andT, ev_orT, ev_notT, ev_and, ev_or, ev_not, ev_mif, ev_chain, ev_nil, ev_cons, ev_tup, ev_lst, ev_fn, ev_mt, ev_pNone, ev_pSome, ev_sl, ev_call, ev_disp0, ev_sNil, ev_seq, ev_expr, ev_ret, ev_retN, ev_brk, ev_cnt, ev_if, ev_asg, ev_put, ev_fun, fin_nx, fin_ret, bind_ok, ofO_some, go_nx, go_ret, st_ok, oSome_some, oSomeS_some, slotV_some, asB_bl, blV_bl, tgI_nm, tgI_tup, tgI_0, tgI_1, add_ii, sub_ii, mul_ii, div_ii, mod_ii, neg_i, lt_ii, le_ii, gt_ii, ge_ii, eq_e, ne_e, eq_ii, eq_ss, is_e, isnot_e, is_bb, is_nn, is_in, is_sn, is_rn, is_tn, is_qn, IP.ix_tup, ix_sq, seq_sq, len_tup, len_sq, ofString_inj, startI, L2.atI, L2.ixN, asInt, seq_r, lstO_l, lstO_d, lstP_l, dctO_l, dctO_d, tyO_l, tyO_d, dct_r, dct_q, lst_r, ty_non, ty_bl, ty_int, ty_str, ty_tup, ty_sq, ty_ty, ty_fn, ty_r, tyB_l, tyB_d, isTy_str, isTy_sq, isTy_r, ix_r, len_r, add_qq, add_qr, add_rq, add_rr, mul_q, mul_r, sl_q, sl_r, append_r, extend_r, clear_r, list_q, list_r, list_t, tuple_q, tuple_r, isinst_1, isSub, tyNames, min_ii, max_ii, abs_i, int_i, int_b, tru_bl, tru_q, tru_non, tru_int, tru_tup, ev_iVal, itV_q, itV_t, itV_s, ev_rg1, rg1_i, ev_rg2, rg2_i, List.getElem?_cons_zero, List.getElem?_cons_succ, ite_le, ite_lt, get_app, get_app1, set_app, set_app1, List.set_cons_zero, List.set_cons_succ, all_v, any_v, sum_v, asB_bL, asI_iL, F_is_list, b_is_list, N_is_list, hk, h, h1, h2, e, List.all_map, Function.comp_def]
  · refine ⟨[], ?_⟩
    by_cases h1 : (1 : Int) ≤ xs.length
    · have h2 : ¬ (xs.length : Int) ≤ 4 := fun z => h (by omega)
      have h3 : ¬ xs.length ≤ 4 := fun z => h (by omega)
      simp [ev_var, ev_c, ev_bin, ev_un, ev_B, ev_tru, ev_andT, ev_orT, ev_notT, ev_and, ev_or, ev_not, ev_mif, ev_chain, ev_nil, ev_cons, ev_tup, ev_lst, ev_fn, ev_mt, ev_pNone, ev_pSome, ev_sl, ev_call, ev_disp0, ev_sNil, ev_seq, ev_expr, ev_ret, ev_retN, ev_brk, ev_cnt, ev_if, ev_asg, ev_put, ev_fun, fin_nx, fin_ret, bind_ok, ofO_some, go_nx, go_ret, st_ok, oSome_some, oSomeS_some, slotV_some, asB_bl, blV_bl, tgI_nm, tgI_tup, tgI_0, tgI_1, add_ii, sub_ii, mul_ii, div_ii, mod_ii, neg_i, lt_ii, le_ii, gt_ii, ge_ii, eq_e, ne_e, eq_ii, eq_ss, is_e, isnot_e, is_bb, is_nn, is_in, is_sn, is_rn, is_tn, is_qn, IP.ix_tup, ix_sq, seq_sq, len_tup, len_sq, ofString_inj, startI, L2.atI, L2.ixN, asInt, seq_r, lstO_l, lstO_d, lstP_l, dctO_l, dctO_d, tyO_l, tyO_d, dct_r, dct_q, lst_r, ty_non, ty_bl, ty_int, ty_str, ty_tup, ty_sq, ty_ty, ty_fn, ty_r, tyB_l, tyB_d, isTy_str, isTy_sq, isTy_r, ix_r, len_r, add_qq, add_qr, add_rq, add_rr, mul_q, mul_r, sl_q, sl_r, append_r, extend_r, clear_r, list_q, list_r, list_t, tuple_q, tuple_r, isinst_1, isSub, tyNames, min_ii, max_ii, abs_i, int_i, int_b, tru_bl, tru_q, tru_non, tru_int, tru_tup, ev_iVal, itV_q, itV_t, itV_s, ev_rg1, rg1_i, ev_rg2, rg2_i, List.getElem?_cons_zero, List.getElem?_cons_succ, ite_le, ite_lt, get_app, get_app1, set_app, set_app1, List.set_cons_zero, List.set_cons_succ, all_v, any_v, sum_v, asB_bL, asI_iL, F_is_list, b_is_list, N_is_list, hk, h1, h2, h3]
    · have h3 : ¬ 1 ≤ xs.length := by omega
      simp [ev_var, ev_c, ev_bin, ev_un, ev_B, ev_tru, ev_andT, ev_orT, ev_notT, ev_and, ev_or, ev_not, ev_mif, ev_chain, ev_nil, ev_cons, ev_tup, ev_lst, ev_fn, ev_mt, ev_pNone, ev_pSome, ev_sl, ev_call, ev_disp0, ev_sNil, ev_seq, ev_expr, ev_ret, ev_retN, ev_brk, ev_cnt, ev_if, ev_asg, ev_put, ev_fun, fin_nx, fin_ret, bind_ok, ofO_some, go_nx, go_ret, st_ok, oSome_some, oSomeS_some, slotV_some, asB_bl, blV_bl, tgI_nm, tgI_tup, tgI_0, tgI_1, add_ii, sub_ii, mul_ii, div_ii, mod_ii, neg_i, lt_ii, le_ii, gt_ii, ge_ii, eq_e, ne_e, eq_ii, eq_ss, is_e, isnot_e, is_bb, is_nn, is_in, is_sn, is_rn, is_tn, is_qn, IP.ix_tup, ix_sq, seq_sq, len_tup, len_sq, ofString_inj, startI, L2.atI, L2.ixN, asInt, seq_r, lstO_l, lstO_d, lstP_l, dctO_l, dctO_d, tyO_l, tyO_d, dct_r, dct_q, lst_r, ty_non, ty_bl, ty_int, ty_str, ty_tup, ty_sq, ty_ty, ty_fn, ty_r, tyB_l, tyB_d, isTy_str, isTy_sq, isTy_r, ix_r, len_r, add_qq, add_qr, add_rq, add_rr, mul_q, mul_r, sl_q, sl_r, append_r, extend_r, clear_r, list_q, list_r, list_t, tuple_q, tuple_r, isinst_1, isSub, tyNames, min_ii, max_ii, abs_i, int_i, int_b, tru_bl, tru_q, tru_non, tru_int, tru_tup, ev_iVal, itV_q, itV_t, itV_s, ev_rg1, rg1_i, ev_rg2, rg2_i, List.getElem?_cons_zero, List.getElem?_cons_succ, ite_le, ite_lt, get_app, get_app1, set_app, set_app1, List.set_cons_zero, List.set_cons_succ, all_v, any_v, sum_v, asB_bL, asI_iL, F_is_list, b_is_list, N_is_list, hk, h1, h3]
theorem isList_no {S : Sto} {x : IV} {t : String} (h : tyI x S = some t) (hn : t ≠ "list") : F_is_list [x] S = .ok (.bl false) S := by
  simp [ev_var, ev_c, ev_bin, ev_un, ev_B, ev_tru, ev_andT, ev_orT, ev_notT, ev_and, ev_or, ev_not, ev_mif, ev_chain, ev_nil, ev_cons, ev_tup, ev_lst, ev_fn, ev_mt, ev_pNone, ev_pSome, ev_sl, ev_call, ev_disp0, ev_sNil, ev_seq, ev_expr, ev_ret, ev_retN, ev_brk, ev_cnt, ev_if, ev_asg, ev_put, ev_fun, fin_nx, fin_ret, bind_ok, ofO_some, go_nx, go_ret, st_ok, oSome_some, oSomeS_some, slotV_some, asB_bl, blV_bl, tgI_nm, tgI_tup, tgI_0, tgI_1, add_ii, sub_ii, mul_ii, div_ii, mod_ii, neg_i, lt_ii, le_ii, gt_ii, ge_ii, eq_e, ne_e, eq_ii, eq_ss, is_e, isnot_e, is_bb, is_nn, is_in, is_sn, is_rn, is_tn, is_qn, IP.ix_tup, ix_sq, seq_sq, len_tup, len_sq, ofString_inj, startI, L2.atI, L2.ixN, asInt, seq_r, lstO_l, lstO_d, lstP_l, dctO_l, dctO_d, tyO_l, tyO_d, dct_r, dct_q, lst_r, ty_non, ty_bl, ty_int, ty_str, ty_tup, ty_sq, ty_ty, ty_fn, ty_r, tyB_l, tyB_d, isTy_str, isTy_sq, isTy_r, ix_r, len_r, add_qq, add_qr, add_rq, add_rr, mul_q, mul_r, sl_q, sl_r, append_r, extend_r, clear_r, list_q, list_r, list_t, tuple_q, tuple_r, isinst_1, isSub, tyNames, min_ii, max_ii, abs_i, int_i, int_b, tru_bl, tru_q, tru_non, tru_int, tru_tup, ev_iVal, itV_q, itV_t, itV_s, ev_rg1, rg1_i, ev_rg2, rg2_i, List.getElem?_cons_zero, List.getElem?_cons_succ, ite_le, ite_lt, get_app, get_app1, set_app, set_app1, List.set_cons_zero, List.set_cons_succ, all_v, any_v, sum_v, asB_bL, asI_iL, F_is_list, b_is_list, N_is_list, h, hn]
/-- the same, of a def that leaves lists behind -/
theorem all_runA {C : FN} {f : IV → Bool} {m : SE} {it : ItS} {a y1 y2 : Option IV} {S0 S1 : Sto} {xs : List IV} {it' : IV} (hm : m [a, y1, y2] S0 = .ok it' S1) (hv : itV it' S1 = .ok it S1) (hit : ∀ n T, nextAt it n (S1 ++ T) = some xs[n]?)
    (hC : ∀ x ∈ xs, ∀ T, ∃ T', C [x] (S1 ++ T) = .ok (.bl (f x)) (S1 ++ T ++ T')) (hl : xs.length ≤ 1000) :
    ∃ T, mLc [1, 2] (.nm 2) (iVal m) bYes (mCall C (mCons (mVar 2) mNil)) [a, y1, y2] S0 = .ok (.ref S1.length) (S1 ++ (.lst (bL (xs.map f)) :: T)) := by
  obtain ⟨acc, S', e1, e2, J, e3⟩ := lc_run (own := [1, 2]) (g := .nm 2) (m := iVal m) (c := bYes) (e := mCall C (mCons (mVar 2) mNil)) (it := it) (t0 := [a, y1, y2]) (S0 := S0) (S1 := S1) (xs := xs) (by rw [ev_iVal, hm]; exact hv)
    (fun n acc S => acc = bL ((xs.take n).map f) ∧ ∃ J, S = S1 ++ (.lst acc :: J)) (fun n acc S ⟨_, J, h⟩ => by rw [h]; exact hit n _)
    (fun n x acc S ex ⟨h1, J, h2⟩ => by
      obtain ⟨T', c⟩ := hC x (List.mem_of_getElem? ex) (.lst acc :: J)
      subst h2
      refine ⟨[a, none, some x], true, S1 ++ (.lst acc :: J), by simp [tgI_nm, wipe2], rfl, nofun, fun _ => ⟨.bl (f x), S1 ++ (.lst acc :: J) ++ T', by simp only [ev_var, ev_c, ev_bin, ev_un, ev_B, ev_tru, ev_andT, ev_orT, ev_notT, ev_and, ev_or, ev_not, ev_mif, ev_chain, ev_nil, ev_cons, ev_tup, ev_lst, ev_fn, ev_mt, ev_pNone, ev_pSome, ev_sl, ev_call, ev_disp0, ev_sNil, ev_seq, ev_expr, ev_ret, ev_retN, ev_brk, ev_cnt, ev_if, ev_asg, ev_put, ev_fun, fin_nx, fin_ret, bind_ok, ofO_some, go_nx, go_ret, st_ok, oSome_some, oSomeS_some, slotV_some, asB_bl, blV_bl, tgI_nm, tgI_tup, tgI_0, tgI_1, add_ii, sub_ii, mul_ii, div_ii, mod_ii, neg_i, lt_ii, le_ii, gt_ii, ge_ii, eq_e, ne_e, eq_ii, eq_ss, is_e, isnot_e, is_bb, is_nn, is_in, is_sn, is_rn, is_tn, is_qn, IP.ix_tup, ix_sq, seq_sq, len_tup, len_sq, ofString_inj, startI, L2.atI, L2.ixN, asInt, seq_r, lstO_l, lstO_d, lstP_l, dctO_l, dctO_d, tyO_l, tyO_d, dct_r, dct_q, lst_r, ty_non, ty_bl, ty_int, ty_str, ty_tup, ty_sq, ty_ty, ty_fn, ty_r, tyB_l, tyB_d, isTy_str, isTy_sq, isTy_r, ix_r, len_r, add_qq, add_qr, add_rq, add_rr, mul_q, mul_r, sl_q, sl_r, append_r, extend_r, clear_r, list_q, list_r, list_t, tuple_q, tuple_r, isinst_1, isSub, tyNames, min_ii, max_ii, abs_i, int_i, int_b, tru_bl, tru_q, tru_non, tru_int, tru_tup, ev_iVal, itV_q, itV_t, itV_s, ev_rg1, rg1_i, ev_rg2, rg2_i, List.getElem?_cons_zero, List.getElem?_cons_succ, ite_le, ite_lt, get_app, get_app1, set_app, set_app1, List.set_cons_zero, List.set_cons_succ, all_v, any_v, sum_v, asB_bL, asI_iL, c], by simp, ?_, ?_, J ++ T', ?_⟩⟩
      · have := List.length_take_le' n xs
        rw [h1]; simp only [bL, List.length_map]; omega
      · rw [h1, List.take_add_one, ex]; simp [bL]
      · rw [List.append_assoc, set_app]; simp)
    ⟨rfl, [], rfl⟩ (by omega)
  refine ⟨J, ?_⟩
  rw [e1, e3, e2, List.take_length]
/-! what is_part tells -/
theorem part_bar {S : Sto} {x : IV} (h : isTyped S x) : F_is_part [.tup [.str "bar", x]] S = .ok (.bl (barB x)) S := by
  obtain ⟨t, h⟩ := h
  simp [ev_var, ev_c, ev_bin, ev_un, ev_B, ev_tru, ev_andT, ev_orT, ev_notT, ev_and, ev_or, ev_not, ev_mif, ev_chain, ev_nil, ev_cons, ev_tup, ev_lst, ev_fn, ev_mt, ev_pNone, ev_pSome, ev_sl, ev_call, ev_disp0, ev_sNil, ev_seq, ev_expr, ev_ret, ev_retN, ev_brk, ev_cnt, ev_if, ev_asg, ev_put, ev_fun, fin_nx, fin_ret, bind_ok, ofO_some, go_nx, go_ret, st_ok, oSome_some, oSomeS_some, slotV_some, asB_bl, blV_bl, tgI_nm, tgI_tup, tgI_0, tgI_1, add_ii, sub_ii, mul_ii, div_ii, mod_ii, neg_i, lt_ii, le_ii, gt_ii, ge_ii, eq_e, ne_e, eq_ii, eq_ss, is_e, isnot_e, is_bb, is_nn, is_in, is_sn, is_rn, is_tn, is_qn, IP.ix_tup, ix_sq, seq_sq, len_tup, len_sq, ofString_inj, startI, L2.atI, L2.ixN, asInt, seq_r, lstO_l, lstO_d, lstP_l, dctO_l, dctO_d, tyO_l, tyO_d, dct_r, dct_q, lst_r, ty_non, ty_bl, ty_int, ty_str, ty_tup, ty_sq, ty_ty, ty_fn, ty_r, tyB_l, tyB_d, isTy_str, isTy_sq, isTy_r, ix_r, len_r, add_qq, add_qr, add_rq, add_rr, mul_q, mul_r, sl_q, sl_r, append_r, extend_r, clear_r, list_q, list_r, list_t, tuple_q, tuple_r, isinst_1, isSub, tyNames, min_ii, max_ii, abs_i, int_i, int_b, tru_bl, tru_q, tru_non, tru_int, tru_tup, ev_iVal, itV_q, itV_t, itV_s, ev_rg1, rg1_i, ev_rg2, rg2_i, List.getElem?_cons_zero, List.getElem?_cons_succ, ite_le, ite_lt, get_app, get_app1, set_app, set_app1, List.set_cons_zero, List.set_cons_succ, all_v, any_v, sum_v, asB_bL, asI_iL, F_is_part, b_is_part, N_is_part, isBar_run h]
theorem part_twice {S T : Sto} {x : IV} {b : Bool} (h : F_is_list [x] S = .ok (.bl b) (S ++ T)) : F_is_part [.tup [.str "twice", x]] S = .ok (.bl b) (S ++ T) := by
  simp [ev_var, ev_c, ev_bin, ev_un, ev_B, ev_tru, ev_andT, ev_orT, ev_notT, ev_and, ev_or, ev_not, ev_mif, ev_chain, ev_nil, ev_cons, ev_tup, ev_lst, ev_fn, ev_mt, ev_pNone, ev_pSome, ev_sl, ev_call, ev_disp0, ev_sNil, ev_seq, ev_expr, ev_ret, ev_retN, ev_brk, ev_cnt, ev_if, ev_asg, ev_put, ev_fun, fin_nx, fin_ret, bind_ok, ofO_some, go_nx, go_ret, st_ok, oSome_some, oSomeS_some, slotV_some, asB_bl, blV_bl, tgI_nm, tgI_tup, tgI_0, tgI_1, add_ii, sub_ii, mul_ii, div_ii, mod_ii, neg_i, lt_ii, le_ii, gt_ii, ge_ii, eq_e, ne_e, eq_ii, eq_ss, is_e, isnot_e, is_bb, is_nn, is_in, is_sn, is_rn, is_tn, is_qn, IP.ix_tup, ix_sq, seq_sq, len_tup, len_sq, ofString_inj, startI, L2.atI, L2.ixN, asInt, seq_r, lstO_l, lstO_d, lstP_l, dctO_l, dctO_d, tyO_l, tyO_d, dct_r, dct_q, lst_r, ty_non, ty_bl, ty_int, ty_str, ty_tup, ty_sq, ty_ty, ty_fn, ty_r, tyB_l, tyB_d, isTy_str, isTy_sq, isTy_r, ix_r, len_r, add_qq, add_qr, add_rq, add_rr, mul_q, mul_r, sl_q, sl_r, append_r, extend_r, clear_r, list_q, list_r, list_t, tuple_q, tuple_r, isinst_1, isSub, tyNames, min_ii, max_ii, abs_i, int_i, int_b, tru_bl, tru_q, tru_non, tru_int, tru_tup, ev_iVal, itV_q, itV_t, itV_s, ev_rg1, rg1_i, ev_rg2, rg2_i, List.getElem?_cons_zero, List.getElem?_cons_succ, ite_le, ite_lt, get_app, get_app1, set_app, set_app1, List.set_cons_zero, List.set_cons_succ, all_v, any_v, sum_v, asB_bL, asI_iL, F_is_part, b_is_part, N_is_part, h]
theorem part_ends {S T : Sto} {x y z : IV} {b : Bool} (h : F_is_list [x] S = .ok (.bl b) (S ++ T)) (hy : isTyped S y) (hz : isTyped S z) : F_is_part [.tup [.str "ends", x, y, z]] S = .ok (.bl (b && (barB y && barB z))) (S ++ T) := by
  obtain ⟨ty, hy⟩ := typed_app (T := T) hy
  obtain ⟨tz, hz⟩ := typed_app (T := T) hz
  cases b with
  | false => simp [ev_var, ev_c, ev_bin, ev_un, ev_B, ev_tru, ev_andT, ev_orT, ev_notT, ev_and, ev_or, ev_not, ev_mif, ev_chain, ev_nil, ev_cons, ev_tup, ev_lst, ev_fn, ev_mt, ev_pNone, ev_pSome, ev_sl, ev_call, ev_disp0, ev_sNil, ev_seq, ev_expr, ev_ret, ev_retN, ev_brk, ev_cnt, ev_if, ev_asg, ev_put, ev_fun, fin_nx, fin_ret, bind_ok, ofO_some, go_nx, go_ret, st_ok, oSome_some, oSomeS_some, slotV_some, asB_bl, blV_bl, tgI_nm, tgI_tup, tgI_0, tgI_1, add_ii, sub_ii, mul_ii, div_ii, mod_ii, neg_i, lt_ii, le_ii, gt_ii, ge_ii, eq_e, ne_e, eq_ii, eq_ss, is_e, isnot_e, is_bb, is_nn, is_in, is_sn, is_rn, is_tn, is_qn, IP.ix_tup, ix_sq, seq_sq, len_tup, len_sq, ofString_inj, startI, L2.atI, L2.ixN, asInt, seq_r, lstO_l, lstO_d, lstP_l, dctO_l, dctO_d, tyO_l, tyO_d, dct_r, dct_q, lst_r, ty_non, ty_bl, ty_int, ty_str, ty_tup, ty_sq, ty_ty, ty_fn, ty_r, tyB_l, tyB_d, isTy_str, isTy_sq, isTy_r, ix_r, len_r, add_qq, add_qr, add_rq, add_rr, mul_q, mul_r, sl_q, sl_r, append_r, extend_r, clear_r, list_q, list_r, list_t, tuple_q, tuple_r, isinst_1, isSub, tyNames, min_ii, max_ii, abs_i, int_i, int_b, tru_bl, tru_q, tru_non, tru_int, tru_tup, ev_iVal, itV_q, itV_t, itV_s, ev_rg1, rg1_i, ev_rg2, rg2_i, List.getElem?_cons_zero, List.getElem?_cons_succ, ite_le, ite_lt, get_app, get_app1, set_app, set_app1, List.set_cons_zero, List.set_cons_succ, all_v, any_v, sum_v, asB_bL, asI_iL, F_is_part, b_is_part, N_is_part, h]
  | true => cases e : barB y <;> simp [ev_var, ev_c, ev_bin, ev_un, ev_B, ev_tru, ev_andT, ev_orT, ev_notT, ev_and, ev_or, ev_not, ev_mif, ev_chain, ev_nil, ev_cons, ev_tup, ev_lst, ev_fn, ev_mt, ev_pNone, ev_pSome, ev_sl, ev_call, ev_disp0, ev_sNil, ev_seq, ev_expr, ev_ret, ev_retN, ev_brk, ev_cnt, ev_if, ev_asg, ev_put, ev_fun, fin_nx, fin_ret, bind_ok, ofO_some, go_nx, go_ret, st_ok, oSome_some, oSomeS_some, slotV_some, asB_bl, blV_bl, tgI_nm, tgI_tup, tgI_0, tgI_1, add_ii, sub_ii, mul_ii, div_ii, mod_ii, neg_i, lt_ii, le_ii, gt_ii, ge_ii, eq_e, ne_e, eq_ii, eq_ss, is_e, isnot_e, is_bb, is_nn, is_in, is_sn, is_rn, is_tn, is_qn, IP.ix_tup, ix_sq, seq_sq, len_tup, len_sq, ofString_inj, startI, L2.atI, L2.ixN, asInt, seq_r, lstO_l, lstO_d, lstP_l, dctO_l, dctO_d, tyO_l, tyO_d, dct_r, dct_q, lst_r, ty_non, ty_bl, ty_int, ty_str, ty_tup, ty_sq, ty_ty, ty_fn, ty_r, tyB_l, tyB_d, isTy_str, isTy_sq, isTy_r, ix_r, len_r, add_qq, add_qr, add_rq, add_rr, mul_q, mul_r, sl_q, sl_r, append_r, extend_r, clear_r, list_q, list_r, list_t, tuple_q, tuple_r, isinst_1, isSub, tyNames, min_ii, max_ii, abs_i, int_i, int_b, tru_bl, tru_q, tru_non, tru_int, tru_tup, ev_iVal, itV_q, itV_t, itV_s, ev_rg1, rg1_i, ev_rg2, rg2_i, List.getElem?_cons_zero, List.getElem?_cons_succ, ite_le, ite_lt, get_app, get_app1, set_app, set_app1, List.set_cons_zero, List.set_cons_succ, all_v, any_v, sum_v, asB_bL, asI_iL, F_is_part, b_is_part, N_is_part, h, isBar_run hy, isBar_run hz, e]
/-! a value that holds a tree -/
theorem snap_tupV {S : Sto} {n : Nat} {v : IV} {ts : List IV} (h : snapI S (n + 1) v = some (.tup ts)) : ∃ xs, v = .tup xs ∧ mapO (snapI S n) xs = some ts := by
  cases v <;> simp only [snapI] at h <;> try (cases h; done)
  case tup xs =>
    rw [Option.map_eq_some_iff] at h
    obtain ⟨us, e1, e2⟩ := h
    cases e2
    exact ⟨xs, rfl, e1⟩
  case sq xs => rw [Option.map_eq_some_iff] at h; obtain ⟨_, _, h⟩ := h; cases h
  case ref i =>
    split at h
    · rw [Option.map_eq_some_iff] at h; obtain ⟨_, _, h⟩ := h; cases h
    · cases h
theorem snap_scV {S : Sto} {n : Nat} {v t : IV} (h : snapI S (n + 1) v = some t) (ht : isSc t = true) : v = t := by
  cases v <;> simp only [snapI] at h <;> try (exact Option.some.inj h)
  case tup xs => rw [Option.map_eq_some_iff] at h; obtain ⟨_, _, rfl⟩ := h; cases ht
  case sq xs => rw [Option.map_eq_some_iff] at h; obtain ⟨_, _, rfl⟩ := h; cases ht
  case ref i =>
    split at h
    · rw [Option.map_eq_some_iff] at h; obtain ⟨_, _, rfl⟩ := h; cases ht
    · cases h
theorem mapO_cons {α β : Type} {f : α → Option β} {xs : List α} {y : β} {ys : List β} (h : mapO f xs = some (y :: ys)) : ∃ a as, xs = a :: as ∧ f a = some y ∧ mapO f as = some ys := by
  cases xs with
  | nil => cases h
  | cons a as =>
    simp only [mapO] at h
    cases e1 : f a with
    | none => rw [e1] at h; cases h
    | some b =>
      rw [e1] at h
      cases e2 : mapO f as with
      | none => rw [e2] at h; cases h
      | some bs => rw [e2] at h; cases h; exact ⟨a, as, rfl, e1, e2⟩
theorem mapO_nil {α β : Type} {f : α → Option β} {xs : List α} (h : mapO f xs = some []) : xs = [] := by
  cases xs with
  | nil => rfl
  | cons a as =>
    simp only [mapO] at h
    cases e1 : f a with
    | none => rw [e1] at h; cases h
    | some b =>
      rw [e1] at h
      cases e2 : mapO f as with
      | none => rw [e2] at h; cases h
      | some bs => rw [e2] at h; cases h
theorem mapO_scs {S : Sto} {n : Nat} : ∀ {xs ts : List IV}, mapO (snapI S (n + 1)) xs = some ts → (∀ t ∈ ts, isSc t = true) → xs = ts
  | [], _, h, _ => by cases h; rfl
  | x :: xs, ts, h, k => by
    cases ts with
    | nil => cases mapO_nil h
    | cons t ts =>
      obtain ⟨a, as, e1, e2, e3⟩ := mapO_cons h
      cases e1
      rw [snap_scV e2 (k t List.mem_cons_self), mapO_scs e3 fun x hx => k x (List.mem_cons_of_mem _ hx)]
/-! ### rolls in a store -/
def PartAt (S : Sto) (v : IV) : Part → Prop
  | .bar n => v = .tup [.str "bar", .int n]
  | .twice l => ∃ i, v = .tup [.str "twice", .ref i] ∧ S[i]? = some (.lst (iL l))
  | .ends l a b => ∃ i, v = .tup [.str "ends", .ref i, .int a, .int b] ∧ S[i]? = some (.lst (iL l))
inductive PartsAt (S : Sto) : List IV → List Part → Prop
  | nil : PartsAt S [] []
  | cons {v : IV} {p : Part} {vs : List IV} {ps : List Part} : PartAt S v p → PartsAt S vs ps → PartsAt S (v :: vs) (p :: ps)
def RollAt (S : Sto) (v : IV) (ps : List Part) (k : Nat) : Prop := ∃ r vs, v = .tup [.ref r, .int k] ∧ S[r]? = some (.lst vs) ∧ PartsAt S vs ps
theorem PartAt.app {S T : Sto} {v : IV} {p : Part} (h : PartAt S v p) : PartAt (S ++ T) v p := by
  cases p with
  | bar n => exact h
  | twice l => obtain ⟨i, e, h⟩ := h; exact ⟨i, e, get_old h⟩
  | ends l a b => obtain ⟨i, e, h⟩ := h; exact ⟨i, e, get_old h⟩
theorem PartsAt.app {S T : Sto} {vs : List IV} {ps : List Part} (h : PartsAt S vs ps) : PartsAt (S ++ T) vs ps := by
  induction h with
  | nil => exact .nil
  | cons h _ k => exact .cons h.app k
theorem RollAt.app {S T : Sto} {v : IV} {ps : List Part} {k : Nat} (h : RollAt S v ps k) : RollAt (S ++ T) v ps k := by
  obtain ⟨r, vs, e, h, q⟩ := h
  exact ⟨r, vs, e, get_old h, q.app⟩
theorem PartsAt.len {S : Sto} {vs : List IV} {ps : List Part} (h : PartsAt S vs ps) : vs.length = ps.length := by
  induction h with
  | nil => rfl
  | cons _ _ k => simp [k]
theorem PartsAt.mem {S : Sto} {vs : List IV} {ps : List Part} (h : PartsAt S vs ps) : ∀ v ∈ vs, ∃ p ∈ ps, PartAt S v p := by
  induction h with
  | nil => intro v h; cases h
  | cons h _ k =>
    intro v hv
    rcases List.mem_cons.mp hv with rfl | hv
    · exact ⟨_, List.mem_cons_self, h⟩
    · obtain ⟨p, h1, h2⟩ := k v hv
      exact ⟨p, List.mem_cons_of_mem _ h1, h2⟩
theorem iL_snap {S : Sto} {n : Nat} {l : List Int} : mapO (snapI S (n + 1)) (iL l) = some (iL l) := mapO_id fun x h => by
  obtain ⟨k, _, rfl⟩ := List.mem_map.mp h; simp only [snapI]
theorem PartAt.snap {S : Sto} {v : IV} {p : Part} {n : Nat} (h : PartAt S v p) : snapI S (n + 3) v = some p.tree := by
  cases p with
  | bar n => cases h; simp only [snapI, mapO, Part.tree, Option.map_some]
  | twice l => obtain ⟨i, e, h⟩ := h; subst e; simp only [snapI, mapO, h, iL_snap, Part.tree, Option.map_some]
  | ends l a b => obtain ⟨i, e, h⟩ := h; subst e; simp only [snapI, mapO, h, iL_snap, Part.tree, Option.map_some]
theorem PartsAt.snap {S : Sto} {vs : List IV} {ps : List Part} {n : Nat} (h : PartsAt S vs ps) : mapO (snapI S (n + 3)) vs = some (ps.map Part.tree) := by
  induction h with
  | nil => rfl
  | cons h _ k => simp only [mapO, h.snap, k, List.map_cons]
theorem RollAt.snap {S : Sto} {v : IV} {ps : List Part} {k : Nat} (h : RollAt S v ps k) : snapI S 9 v = some (rollT ps k) := by
  obtain ⟨r, vs, e, h, q⟩ := h
  subst e
  simp only [snapI, mapO, h, q.snap, rollT, Option.map_some]
theorem parts_ok {ps : List Part} : ∀ t ∈ ps.map Part.tree, okT 3 t = true := fun t h => by
  obtain ⟨p, _, rfl⟩ := List.mem_map.mp h; exact ok_tree p
theorem roll_ok {ps : List Part} {k : Nat} : okT 9 (rollT ps k) = true := by
  refine okT_mono (n := 5) ?_ (by omega)
  simp only [rollT, okT, List.all_cons, List.all_nil, Bool.and_true]
  exact List.all_eq_true.mpr parts_ok
theorem plant_part (P Q : Sto) (p : Part) : PartAt (P ++ (plantI P.length p.tree).2 ++ Q) (plantI P.length p.tree).1 p := by
  cases p with
  | bar n => simp [Part.tree, plantI, plantIs, PartAt]
  | twice l =>
    have e := plant_sq (ts := iL l) P.length iL_sc
    simp [Part.tree, plantI, plantIs, PartAt, plantIs_sc _ iL_sc]
  | ends l a b =>
    simp [Part.tree, plantI, plantIs, PartAt, plantIs_sc _ iL_sc]
theorem plant_parts : ∀ (ps : List Part) (P Q : Sto), PartsAt (P ++ (plantIs P.length (ps.map Part.tree)).2 ++ Q) (plantIs P.length (ps.map Part.tree)).1 ps
  | [], P, Q => by simp only [List.map_nil, plantIs]; exact .nil
  | p :: ps, P, Q => by
    simp only [List.map_cons, plantIs]
    have h1 := plant_part P ((plantIs (P.length + (plantI P.length p.tree).2.length) (ps.map Part.tree)).2 ++ Q) p
    have h2 := plant_parts ps (P ++ (plantI P.length p.tree).2) Q
    rw [List.length_append] at h2
    refine .cons ?_ ?_
    · simpa only [List.append_assoc] using h1
    · simpa only [List.append_assoc] using h2
theorem plant_roll (S : Sto) (ps : List Part) (k : Nat) : RollAt (S ++ (plantI S.length (rollT ps k)).2) (plantI S.length (rollT ps k)).1 ps k := by
  simp only [rollT, plantI, plantIs, List.append_nil]
  refine ⟨S.length, _, rfl, get_app, ?_⟩
  have h := plant_parts ps (S ++ [.lst (plantIs (S.length + 1) (ps.map Part.tree)).1]) []
  rw [List.length_append, List.append_nil, List.append_assoc] at h
  exact h
/-- a part that is good -/
def Part.good : Part → Prop
  | .bar n => 0 ≤ n
  | .twice l => 1 ≤ l.length ∧ l.length ≤ 4 ∧ ∀ x ∈ l, 0 ≤ x
  | .ends l a b => (1 ≤ l.length ∧ l.length ≤ 4 ∧ ∀ x ∈ l, 0 ≤ x) ∧ 0 ≤ a ∧ 0 ≤ b
theorem Part.good.small {p : Part} (h : p.good) : p.small := by
  cases p with
  | bar n => trivial
  | twice l => have h : 1 ≤ l.length ∧ l.length ≤ 4 ∧ ∀ x ∈ l, 0 ≤ x := h; show l.length ≤ 1000; omega
  | ends l a b => have h : (1 ≤ l.length ∧ l.length ≤ 4 ∧ ∀ x ∈ l, 0 ≤ x) ∧ 0 ≤ a ∧ 0 ≤ b := h; show l.length ≤ 1000; omega
theorem bars_all {l : List Int} (h : ∀ x ∈ l, 0 ≤ x) : (iL l).all barB = true := by
  rw [List.all_eq_true]
  intro x hx
  obtain ⟨n, hn, rfl⟩ := List.mem_map.mp hx
  exact decide_eq_true (h n hn)
theorem typed_int {S : Sto} {n : Int} : isTyped S (.int n) := ⟨_, rfl⟩
theorem typed_iL {S : Sto} {l : List Int} : ∀ x ∈ iL l, isTyped S x := fun x hx => by
  obtain ⟨n, hn, rfl⟩ := List.mem_map.mp hx
  exact typed_int
theorem isPart_good {S : Sto} {v : IV} {p : Part} (h : PartAt S v p) (g : p.good) : ∃ T, F_is_part [v] S = .ok (.bl true) (S ++ T) := by
  cases p with
  | bar n =>
    cases h
    refine ⟨[], ?_⟩
    rw [part_bar typed_int, List.append_nil]
    have g : 0 ≤ n := g
    simp [barB, g]
  | twice l =>
    obtain ⟨i, e, h⟩ := h
    subst e
    have g : 1 ≤ l.length ∧ l.length ≤ 4 ∧ ∀ x ∈ l, 0 ≤ x := g
    obtain ⟨T, e⟩ := isList_run h typed_iL
    rw [iL_len, decide_eq_true ⟨g.1, g.2.1⟩, bars_all g.2.2] at e
    exact ⟨T, part_twice e⟩
  | ends l a b =>
    obtain ⟨i, e, h⟩ := h
    subst e
    have g : (1 ≤ l.length ∧ l.length ≤ 4 ∧ ∀ x ∈ l, 0 ≤ x) ∧ 0 ≤ a ∧ 0 ≤ b := g
    obtain ⟨T, e⟩ := isList_run h typed_iL
    rw [iL_len, decide_eq_true ⟨g.1.1, g.1.2.1⟩, bars_all g.1.2.2] at e
    refine ⟨T, ?_⟩
    rw [part_ends e typed_int typed_int]
    simp [barB, g.2.1, g.2.2]
/-! ### drawing -/
def mixed (c : Int) (k : Nat) : Int := (c % 1000000007 + 1) * 48271 % 2147483647 * (16807 + 7919 * k * k + 31 * k) % 2147483629 / 7
theorem mixed_run (c : Int) (k : Nat) (h : k ≤ 100) : F_l_mixed [.int c, .int k] [] = .ok (.int (mixed c k)) [] := by
  have hk : (k : Int) * k ≤ 10000 := by
    have : k * k ≤ 100 * 100 := Nat.mul_le_mul h h
    exact_mod_cast this
  have hk0 : (0 : Int) ≤ (k : Int) * k := by exact_mod_cast Nat.zero_le _
  have e : (7919 : Int) * k * k = 7919 * (k * k) := by rw [Int.mul_assoc]
  have m1 : okMul (c % 1000000007 + 1) 48271 = true := okMul_l (by omega)
  have m2 : okMul 7919 (k : Int) = true := okMul_l (by omega)
  have m3 : okMul (7919 * (k : Int)) (k : Int) = true := okMul_r (by omega)
  have m4 : okMul 31 (k : Int) = true := okMul_l (by omega)
  have m5 : okMul ((c % 1000000007 + 1) * 48271 % 2147483647) (16807 + 7919 * k * k + 31 * k) = true := okMul_l (by omega)
  unfold mixed
  simp (disch := omega) [ev_var, ev_c, ev_bin, ev_un, ev_B, ev_tru, ev_andT, ev_orT, ev_notT, ev_and, ev_or, ev_not, ev_mif, ev_chain, ev_nil, ev_cons, ev_tup, ev_lst, ev_fn, ev_mt, ev_pNone, ev_pSome, ev_sl, ev_call, ev_disp0, ev_sNil, ev_seq, ev_expr, ev_ret, ev_retN, ev_brk, ev_cnt, ev_if, ev_asg, ev_put, ev_fun, fin_nx, fin_ret, bind_ok, ofO_some, go_nx, go_ret, st_ok, oSome_some, oSomeS_some, slotV_some, asB_bl, blV_bl, tgI_nm, tgI_tup, tgI_0, tgI_1, add_ii, sub_ii, mul_ii, div_ii, mod_ii, neg_i, lt_ii, le_ii, gt_ii, ge_ii, eq_e, ne_e, eq_ii, eq_ss, is_e, isnot_e, is_bb, is_nn, is_in, is_sn, is_rn, is_tn, is_qn, IP.ix_tup, ix_sq, seq_sq, len_tup, len_sq, ofString_inj, startI, L2.atI, L2.ixN, asInt, seq_r, lstO_l, lstO_d, lstP_l, dctO_l, dctO_d, tyO_l, tyO_d, dct_r, dct_q, lst_r, ty_non, ty_bl, ty_int, ty_str, ty_tup, ty_sq, ty_ty, ty_fn, ty_r, tyB_l, tyB_d, isTy_str, isTy_sq, isTy_r, ix_r, len_r, add_qq, add_qr, add_rq, add_rr, mul_q, mul_r, sl_q, sl_r, append_r, extend_r, clear_r, list_q, list_r, list_t, tuple_q, tuple_r, isinst_1, isSub, tyNames, min_ii, max_ii, abs_i, int_i, int_b, tru_bl, tru_q, tru_non, tru_int, tru_tup, ev_iVal, itV_q, itV_t, itV_s, ev_rg1, rg1_i, ev_rg2, rg2_i, List.getElem?_cons_zero, List.getElem?_cons_succ, ite_le, ite_lt, get_app, get_app1, set_app, set_app1, List.set_cons_zero, List.set_cons_succ, all_v, any_v, sum_v, asB_bL, asI_iL, F_l_mixed, b_l_mixed, N_l_mixed, m1, m2, m3, m4, m5]
theorem mixed_call {S : Sto} (c : Int) (k : Nat) (h : k ≤ 100) : C_l_mixed [.int c, .int k] S = .ok (.int (mixed c k)) S := sn_sc (snap2 snap_int snap_int) (mixed_run c k h) rfl
theorem mixed_nn (c : Int) (k : Nat) : 0 ≤ mixed c k := by
  unfold mixed
  exact Int.ediv_nonneg (Int.emod_nonneg _ (by decide)) (by decide)
theorem cell_run (ns : List Int) (k : Nat) : F_l_cell_at [.sq (iL ns), .int k] [] = .ok (.int (ns[k]?.getD 0)) [] := by
  by_cases h : k < ns.length
  · have h1 : (k : Int) < ns.length := by omega
    have h2 : (iL ns)[k]? = some (.int ns[k]) := by unfold iL; rw [List.getElem?_map, List.getElem?_eq_getElem h]; rfl
    simp (disch := omega) [ev_var, ev_c, ev_bin, ev_un, ev_B, ev_tru, ev_andT, ev_orT, ev_notT, ev_and, ev_or, ev_not, ev_mif, ev_chain, ev_nil, ev_cons, ev_tup, ev_lst, ev_fn, ev_mt, ev_pNone, ev_pSome, ev_sl, ev_call, ev_disp0, ev_sNil, ev_seq, ev_expr, ev_ret, ev_retN, ev_brk, ev_cnt, ev_if, ev_asg, ev_put, ev_fun, fin_nx, fin_ret, bind_ok, ofO_some, go_nx, go_ret, st_ok, oSome_some, oSomeS_some, slotV_some, asB_bl, blV_bl, tgI_nm, tgI_tup, tgI_0, tgI_1, add_ii, sub_ii, mul_ii, div_ii, mod_ii, neg_i, lt_ii, le_ii, gt_ii, ge_ii, eq_e, ne_e, eq_ii, eq_ss, is_e, isnot_e, is_bb, is_nn, is_in, is_sn, is_rn, is_tn, is_qn, IP.ix_tup, ix_sq, seq_sq, len_tup, len_sq, ofString_inj, startI, L2.atI, L2.ixN, asInt, seq_r, lstO_l, lstO_d, lstP_l, dctO_l, dctO_d, tyO_l, tyO_d, dct_r, dct_q, lst_r, ty_non, ty_bl, ty_int, ty_str, ty_tup, ty_sq, ty_ty, ty_fn, ty_r, tyB_l, tyB_d, isTy_str, isTy_sq, isTy_r, ix_r, len_r, add_qq, add_qr, add_rq, add_rr, mul_q, mul_r, sl_q, sl_r, append_r, extend_r, clear_r, list_q, list_r, list_t, tuple_q, tuple_r, isinst_1, isSub, tyNames, min_ii, max_ii, abs_i, int_i, int_b, tru_bl, tru_q, tru_non, tru_int, tru_tup, ev_iVal, itV_q, itV_t, itV_s, ev_rg1, rg1_i, ev_rg2, rg2_i, List.getElem?_cons_zero, List.getElem?_cons_succ, ite_le, ite_lt, get_app, get_app1, set_app, set_app1, List.set_cons_zero, List.set_cons_succ, all_v, any_v, sum_v, asB_bL, asI_iL, F_l_cell_at, b_l_cell_at, N_l_cell_at, iL_len, h, h1, h2]
  · have h1 : ¬ (k : Int) < ns.length := by omega
    simp (disch := omega) [ev_var, ev_c, ev_bin, ev_un, ev_B, ev_tru, ev_andT, ev_orT, ev_notT, ev_and, ev_or, ev_not, ev_mif, ev_chain, ev_nil, ev_cons, ev_tup, ev_lst, ev_fn, ev_mt, ev_pNone, ev_pSome, ev_sl, ev_call, ev_disp0, ev_sNil, ev_seq, ev_expr, ev_ret, ev_retN, ev_brk, ev_cnt, ev_if, ev_asg, ev_put, ev_fun, fin_nx, fin_ret, bind_ok, ofO_some, go_nx, go_ret, st_ok, oSome_some, oSomeS_some, slotV_some, asB_bl, blV_bl, tgI_nm, tgI_tup, tgI_0, tgI_1, add_ii, sub_ii, mul_ii, div_ii, mod_ii, neg_i, lt_ii, le_ii, gt_ii, ge_ii, eq_e, ne_e, eq_ii, eq_ss, is_e, isnot_e, is_bb, is_nn, is_in, is_sn, is_rn, is_tn, is_qn, IP.ix_tup, ix_sq, seq_sq, len_tup, len_sq, ofString_inj, startI, L2.atI, L2.ixN, asInt, seq_r, lstO_l, lstO_d, lstP_l, dctO_l, dctO_d, tyO_l, tyO_d, dct_r, dct_q, lst_r, ty_non, ty_bl, ty_int, ty_str, ty_tup, ty_sq, ty_ty, ty_fn, ty_r, tyB_l, tyB_d, isTy_str, isTy_sq, isTy_r, ix_r, len_r, add_qq, add_qr, add_rq, add_rr, mul_q, mul_r, sl_q, sl_r, append_r, extend_r, clear_r, list_q, list_r, list_t, tuple_q, tuple_r, isinst_1, isSub, tyNames, min_ii, max_ii, abs_i, int_i, int_b, tru_bl, tru_q, tru_non, tru_int, tru_tup, ev_iVal, itV_q, itV_t, itV_s, ev_rg1, rg1_i, ev_rg2, rg2_i, List.getElem?_cons_zero, List.getElem?_cons_succ, ite_le, ite_lt, get_app, get_app1, set_app, set_app1, List.set_cons_zero, List.set_cons_succ, all_v, any_v, sum_v, asB_bL, asI_iL, F_l_cell_at, b_l_cell_at, N_l_cell_at, iL_len, h, h1]
theorem iLs_snap {S : Sto} {ns : List Int} : snapI S 9 (.sq (iL ns)) = some (.sq (iL ns)) := by
  simp only [snapI, iL_snap, Option.map_some]
theorem cell_call {S : Sto} (ns : List Int) (k : Nat) : C_l_cell_at [.sq (iL ns), .int k] S = .ok (.int (ns[k]?.getD 0)) S := sn_sc (snap2 iLs_snap snap_int) (cell_run ns k) rfl
/-! the parts that the law makes -/
def barsN (c w : Int) : List Int := (List.range (1 + c / 3 % 4).toNat).map fun k => mixed c k % w
def mkPart (c w : Int) : Part := if c % 3 = 0 then .bar (mixed c 0 % w) else if c % 3 = 1 then .twice (barsN c w) else .ends (barsN c w) (mixed c 7 % w) (mixed c 8 % w)
theorem bars_len (c w : Int) : (barsN c w).length = (1 + c / 3 % 4).toNat := by unfold barsN; simp
theorem mkPart_good (c w : Int) (hw : 0 < w) : (mkPart c w).good := by
  have h1 : 1 ≤ (barsN c w).length ∧ (barsN c w).length ≤ 4 := by rw [bars_len]; omega
  have h2 : ∀ x ∈ barsN c w, 0 ≤ x := by
    intro x hx
    unfold barsN at hx
    obtain ⟨k, _, rfl⟩ := List.mem_map.mp hx
    exact Int.emod_nonneg _ (by omega)
  unfold mkPart
  split
  · exact Int.emod_nonneg _ (by omega)
  · split
    · exact ⟨h1.1, h1.2, h2⟩
    · exact ⟨⟨h1.1, h1.2, h2⟩, Int.emod_nonneg _ (by omega), Int.emod_nonneg _ (by omega)⟩
theorem bars_comp (c w : Int) (hw : 0 < w) : mLc [3, 4] (.nm 4) (iRange1 (mCons (mBin iAdd (mC (.int 1)) (mBin iMod (mBin iFdiv (mVar 0) (mC (.int 3))) (mC (.int 4)))) mNil)) bYes (mBin iMod (mCall C_l_mixed (mCons (mVar 0) (mCons (mVar 4) mNil))) (mVar 1)) [some (.int c), some (.int w), none, none, none] [] = .ok (.ref 0) [.lst (iL (barsN c w))] := by
  have sm : small62 (1 + c / 3 % 4) = true := by unfold small62; rw [decide_eq_true_eq]; omega
  have e := lc_pure (own := [3, 4]) (g := .nm 4) (m := iRange1 (mCons (mBin iAdd (mC (.int 1)) (mBin iMod (mBin iFdiv (mVar 0) (mC (.int 3))) (mC (.int 4)))) mNil)) (c := bYes) (e := mBin iMod (mCall C_l_mixed (mCons (mVar 0) (mCons (mVar 4) mNil))) (mVar 1))
    (it := .rng 0 1 (1 + c / 3 % 4).toNat) (t0 := [some (.int c), some (.int w), none, none, none]) (S0 := []) (S1 := []) (xs := rgL 0 (1 + c / 3 % 4).toNat) (p := fun _ => true) (f := fun x => match x with | .int k => .int (mixed c k.toNat % w) | _ => .non)
    (by simp [ev_var, ev_c, ev_bin, ev_un, ev_B, ev_tru, ev_andT, ev_orT, ev_notT, ev_and, ev_or, ev_not, ev_mif, ev_chain, ev_nil, ev_cons, ev_tup, ev_lst, ev_fn, ev_mt, ev_pNone, ev_pSome, ev_sl, ev_call, ev_disp0, ev_sNil, ev_seq, ev_expr, ev_ret, ev_retN, ev_brk, ev_cnt, ev_if, ev_asg, ev_put, ev_fun, fin_nx, fin_ret, bind_ok, ofO_some, go_nx, go_ret, st_ok, oSome_some, oSomeS_some, slotV_some, asB_bl, blV_bl, tgI_nm, tgI_tup, tgI_0, tgI_1, add_ii, sub_ii, mul_ii, div_ii, mod_ii, neg_i, lt_ii, le_ii, gt_ii, ge_ii, eq_e, ne_e, eq_ii, eq_ss, is_e, isnot_e, is_bb, is_nn, is_in, is_sn, is_rn, is_tn, is_qn, IP.ix_tup, ix_sq, seq_sq, len_tup, len_sq, ofString_inj, startI, L2.atI, L2.ixN, asInt, seq_r, lstO_l, lstO_d, lstP_l, dctO_l, dctO_d, tyO_l, tyO_d, dct_r, dct_q, lst_r, ty_non, ty_bl, ty_int, ty_str, ty_tup, ty_sq, ty_ty, ty_fn, ty_r, tyB_l, tyB_d, isTy_str, isTy_sq, isTy_r, ix_r, len_r, add_qq, add_qr, add_rq, add_rr, mul_q, mul_r, sl_q, sl_r, append_r, extend_r, clear_r, list_q, list_r, list_t, tuple_q, tuple_r, isinst_1, isSub, tyNames, min_ii, max_ii, abs_i, int_i, int_b, tru_bl, tru_q, tru_non, tru_int, tru_tup, ev_iVal, itV_q, itV_t, itV_s, ev_rg1, rg1_i, ev_rg2, rg2_i, List.getElem?_cons_zero, List.getElem?_cons_succ, ite_le, ite_lt, get_app, get_app1, set_app, set_app1, List.set_cons_zero, List.set_cons_succ, all_v, any_v, sum_v, asB_bL, asI_iL, sm]) (fun n acc => next_rg) (fun n x acc ex => by
      obtain ⟨hn, rfl⟩ := rgL_get ex
      refine ⟨[some (.int c), some (.int w), none, none, some (.int (0 + n))], by simp [ev_var, ev_c, ev_bin, ev_un, ev_B, ev_tru, ev_andT, ev_orT, ev_notT, ev_and, ev_or, ev_not, ev_mif, ev_chain, ev_nil, ev_cons, ev_tup, ev_lst, ev_fn, ev_mt, ev_pNone, ev_pSome, ev_sl, ev_call, ev_disp0, ev_sNil, ev_seq, ev_expr, ev_ret, ev_retN, ev_brk, ev_cnt, ev_if, ev_asg, ev_put, ev_fun, fin_nx, fin_ret, bind_ok, ofO_some, go_nx, go_ret, st_ok, oSome_some, oSomeS_some, slotV_some, asB_bl, blV_bl, tgI_nm, tgI_tup, tgI_0, tgI_1, add_ii, sub_ii, mul_ii, div_ii, mod_ii, neg_i, lt_ii, le_ii, gt_ii, ge_ii, eq_e, ne_e, eq_ii, eq_ss, is_e, isnot_e, is_bb, is_nn, is_in, is_sn, is_rn, is_tn, is_qn, IP.ix_tup, ix_sq, seq_sq, len_tup, len_sq, ofString_inj, startI, L2.atI, L2.ixN, asInt, seq_r, lstO_l, lstO_d, lstP_l, dctO_l, dctO_d, tyO_l, tyO_d, dct_r, dct_q, lst_r, ty_non, ty_bl, ty_int, ty_str, ty_tup, ty_sq, ty_ty, ty_fn, ty_r, tyB_l, tyB_d, isTy_str, isTy_sq, isTy_r, ix_r, len_r, add_qq, add_qr, add_rq, add_rr, mul_q, mul_r, sl_q, sl_r, append_r, extend_r, clear_r, list_q, list_r, list_t, tuple_q, tuple_r, isinst_1, isSub, tyNames, min_ii, max_ii, abs_i, int_i, int_b, tru_bl, tru_q, tru_non, tru_int, tru_tup, ev_iVal, itV_q, itV_t, itV_s, ev_rg1, rg1_i, ev_rg2, rg2_i, List.getElem?_cons_zero, List.getElem?_cons_succ, ite_le, ite_lt, get_app, get_app1, set_app, set_app1, List.set_cons_zero, List.set_cons_succ, all_v, any_v, sum_v, asB_bL, asI_iL, wipeI], rfl, fun _ => ?_⟩
      have mc := mixed_call (S := [.lst acc]) c n (by omega)
      simp [ev_var, ev_c, ev_bin, ev_un, ev_B, ev_tru, ev_andT, ev_orT, ev_notT, ev_and, ev_or, ev_not, ev_mif, ev_chain, ev_nil, ev_cons, ev_tup, ev_lst, ev_fn, ev_mt, ev_pNone, ev_pSome, ev_sl, ev_call, ev_disp0, ev_sNil, ev_seq, ev_expr, ev_ret, ev_retN, ev_brk, ev_cnt, ev_if, ev_asg, ev_put, ev_fun, fin_nx, fin_ret, bind_ok, ofO_some, go_nx, go_ret, st_ok, oSome_some, oSomeS_some, slotV_some, asB_bl, blV_bl, tgI_nm, tgI_tup, tgI_0, tgI_1, add_ii, sub_ii, mul_ii, div_ii, mod_ii, neg_i, lt_ii, le_ii, gt_ii, ge_ii, eq_e, ne_e, eq_ii, eq_ss, is_e, isnot_e, is_bb, is_nn, is_in, is_sn, is_rn, is_tn, is_qn, IP.ix_tup, ix_sq, seq_sq, len_tup, len_sq, ofString_inj, startI, L2.atI, L2.ixN, asInt, seq_r, lstO_l, lstO_d, lstP_l, dctO_l, dctO_d, tyO_l, tyO_d, dct_r, dct_q, lst_r, ty_non, ty_bl, ty_int, ty_str, ty_tup, ty_sq, ty_ty, ty_fn, ty_r, tyB_l, tyB_d, isTy_str, isTy_sq, isTy_r, ix_r, len_r, add_qq, add_qr, add_rq, add_rr, mul_q, mul_r, sl_q, sl_r, append_r, extend_r, clear_r, list_q, list_r, list_t, tuple_q, tuple_r, isinst_1, isSub, tyNames, min_ii, max_ii, abs_i, int_i, int_b, tru_bl, tru_q, tru_non, tru_int, tru_tup, ev_iVal, itV_q, itV_t, itV_s, ev_rg1, rg1_i, ev_rg2, rg2_i, List.getElem?_cons_zero, List.getElem?_cons_succ, ite_le, ite_lt, get_app, get_app1, set_app, set_app1, List.set_cons_zero, List.set_cons_succ, all_v, any_v, sum_v, asB_bL, asI_iL, mc, hw])
    (by rw [rgL_len]; omega)
  simp only [List.nil_append, List.length_nil] at e
  rw [e]
  congr 3
  rw [List.filter_eq_self.mpr (fun _ _ => rfl)]
  unfold rgL barsN iL
  rw [List.map_map, List.map_map]
  exact List.map_congr_left fun k _ => by simp
theorem part_run (c w : Int) (hw : 0 < w) : ∃ v S1 L, F_l_part [.int c, .int w] [] = .ok v S1 ∧ liftI S1 9 v = some ((mkPart c w).tree, L) ∧ dupF L = true := by
  have e := bars_comp c w hw
  have m7 := mixed_call (S := [.lst (iL (barsN c w))]) c 7 (by omega)
  have m8 := mixed_call (S := [.lst (iL (barsN c w))]) c 8 (by omega)
  have m7 : C_l_mixed [.int c, .int 7] [.lst (iL (barsN c w))] = .ok (.int (mixed c 7)) [.lst (iL (barsN c w))] := m7
  have m8 : C_l_mixed [.int c, .int 8] [.lst (iL (barsN c w))] = .ok (.int (mixed c 8)) [.lst (iL (barsN c w))] := m8
  have l0 : 1 ≤ (barsN c w).length := by rw [bars_len]; omega
  have g0 : (iL (barsN c w))[0]? = some (.int (mixed c 0 % w)) := by
    have hb : 0 < (1 + c / 3 % 4).toNat := by omega
    unfold iL barsN
    rw [List.getElem?_map, List.getElem?_map, List.getElem?_range hb]; rfl
  have l0' : (0 : Int) < (barsN c w).length := by omega
  have l1' : 0 < (barsN c w).length := by omega
  by_cases h0 : c % 3 = 0
  · refine ⟨.tup [.str "bar", .int (mixed c 0 % w)], [.lst (iL (barsN c w))], [], ?_, ?_, rfl⟩
    · simp (disch := omega) [ev_var, ev_c, ev_bin, ev_un, ev_B, ev_tru, ev_andT, ev_orT, ev_notT, ev_and, ev_or, ev_not, ev_mif, ev_chain, ev_nil, ev_cons, ev_tup, ev_lst, ev_fn, ev_mt, ev_pNone, ev_pSome, ev_sl, ev_call, ev_disp0, ev_sNil, ev_seq, ev_expr, ev_ret, ev_retN, ev_brk, ev_cnt, ev_if, ev_asg, ev_put, ev_fun, fin_nx, fin_ret, bind_ok, ofO_some, go_nx, go_ret, st_ok, oSome_some, oSomeS_some, slotV_some, asB_bl, blV_bl, tgI_nm, tgI_tup, tgI_0, tgI_1, add_ii, sub_ii, mul_ii, div_ii, mod_ii, neg_i, lt_ii, le_ii, gt_ii, ge_ii, eq_e, ne_e, eq_ii, eq_ss, is_e, isnot_e, is_bb, is_nn, is_in, is_sn, is_rn, is_tn, is_qn, IP.ix_tup, ix_sq, seq_sq, len_tup, len_sq, ofString_inj, startI, L2.atI, L2.ixN, asInt, seq_r, lstO_l, lstO_d, lstP_l, dctO_l, dctO_d, tyO_l, tyO_d, dct_r, dct_q, lst_r, ty_non, ty_bl, ty_int, ty_str, ty_tup, ty_sq, ty_ty, ty_fn, ty_r, tyB_l, tyB_d, isTy_str, isTy_sq, isTy_r, ix_r, len_r, add_qq, add_qr, add_rq, add_rr, mul_q, mul_r, sl_q, sl_r, append_r, extend_r, clear_r, list_q, list_r, list_t, tuple_q, tuple_r, isinst_1, isSub, tyNames, min_ii, max_ii, abs_i, int_i, int_b, tru_bl, tru_q, tru_non, tru_int, tru_tup, ev_iVal, itV_q, itV_t, itV_s, ev_rg1, rg1_i, ev_rg2, rg2_i, List.getElem?_cons_zero, List.getElem?_cons_succ, ite_le, ite_lt, get_app, get_app1, set_app, set_app1, List.set_cons_zero, List.set_cons_succ, all_v, any_v, sum_v, asB_bL, asI_iL, F_l_part, b_l_part, N_l_part, e, h0, iL_len, l0', l1', g0]
    · simp [mkPart, h0, Part.tree, liftI, bothO]
  · by_cases h1 : c % 3 = 1
    · refine ⟨.tup [.str "twice", .ref 0], [.lst (iL (barsN c w))], [0], ?_, ?_, rfl⟩
      · simp (disch := omega) [ev_var, ev_c, ev_bin, ev_un, ev_B, ev_tru, ev_andT, ev_orT, ev_notT, ev_and, ev_or, ev_not, ev_mif, ev_chain, ev_nil, ev_cons, ev_tup, ev_lst, ev_fn, ev_mt, ev_pNone, ev_pSome, ev_sl, ev_call, ev_disp0, ev_sNil, ev_seq, ev_expr, ev_ret, ev_retN, ev_brk, ev_cnt, ev_if, ev_asg, ev_put, ev_fun, fin_nx, fin_ret, bind_ok, ofO_some, go_nx, go_ret, st_ok, oSome_some, oSomeS_some, slotV_some, asB_bl, blV_bl, tgI_nm, tgI_tup, tgI_0, tgI_1, add_ii, sub_ii, mul_ii, div_ii, mod_ii, neg_i, lt_ii, le_ii, gt_ii, ge_ii, eq_e, ne_e, eq_ii, eq_ss, is_e, isnot_e, is_bb, is_nn, is_in, is_sn, is_rn, is_tn, is_qn, IP.ix_tup, ix_sq, seq_sq, len_tup, len_sq, ofString_inj, startI, L2.atI, L2.ixN, asInt, seq_r, lstO_l, lstO_d, lstP_l, dctO_l, dctO_d, tyO_l, tyO_d, dct_r, dct_q, lst_r, ty_non, ty_bl, ty_int, ty_str, ty_tup, ty_sq, ty_ty, ty_fn, ty_r, tyB_l, tyB_d, isTy_str, isTy_sq, isTy_r, ix_r, len_r, add_qq, add_qr, add_rq, add_rr, mul_q, mul_r, sl_q, sl_r, append_r, extend_r, clear_r, list_q, list_r, list_t, tuple_q, tuple_r, isinst_1, isSub, tyNames, min_ii, max_ii, abs_i, int_i, int_b, tru_bl, tru_q, tru_non, tru_int, tru_tup, ev_iVal, itV_q, itV_t, itV_s, ev_rg1, rg1_i, ev_rg2, rg2_i, List.getElem?_cons_zero, List.getElem?_cons_succ, ite_le, ite_lt, get_app, get_app1, set_app, set_app1, List.set_cons_zero, List.set_cons_succ, all_v, any_v, sum_v, asB_bL, asI_iL, F_l_part, b_l_part, N_l_part, e, h0, h1]
      · simp [mkPart, h0, h1, Part.tree, liftI, bothO, bothO_sc iL_sc]
    · refine ⟨.tup [.str "ends", .ref 0, .int (mixed c 7 % w), .int (mixed c 8 % w)], [.lst (iL (barsN c w))], [0], ?_, ?_, rfl⟩
      · simp (disch := omega) [ev_var, ev_c, ev_bin, ev_un, ev_B, ev_tru, ev_andT, ev_orT, ev_notT, ev_and, ev_or, ev_not, ev_mif, ev_chain, ev_nil, ev_cons, ev_tup, ev_lst, ev_fn, ev_mt, ev_pNone, ev_pSome, ev_sl, ev_call, ev_disp0, ev_sNil, ev_seq, ev_expr, ev_ret, ev_retN, ev_brk, ev_cnt, ev_if, ev_asg, ev_put, ev_fun, fin_nx, fin_ret, bind_ok, ofO_some, go_nx, go_ret, st_ok, oSome_some, oSomeS_some, slotV_some, asB_bl, blV_bl, tgI_nm, tgI_tup, tgI_0, tgI_1, add_ii, sub_ii, mul_ii, div_ii, mod_ii, neg_i, lt_ii, le_ii, gt_ii, ge_ii, eq_e, ne_e, eq_ii, eq_ss, is_e, isnot_e, is_bb, is_nn, is_in, is_sn, is_rn, is_tn, is_qn, IP.ix_tup, ix_sq, seq_sq, len_tup, len_sq, ofString_inj, startI, L2.atI, L2.ixN, asInt, seq_r, lstO_l, lstO_d, lstP_l, dctO_l, dctO_d, tyO_l, tyO_d, dct_r, dct_q, lst_r, ty_non, ty_bl, ty_int, ty_str, ty_tup, ty_sq, ty_ty, ty_fn, ty_r, tyB_l, tyB_d, isTy_str, isTy_sq, isTy_r, ix_r, len_r, add_qq, add_qr, add_rq, add_rr, mul_q, mul_r, sl_q, sl_r, append_r, extend_r, clear_r, list_q, list_r, list_t, tuple_q, tuple_r, isinst_1, isSub, tyNames, min_ii, max_ii, abs_i, int_i, int_b, tru_bl, tru_q, tru_non, tru_int, tru_tup, ev_iVal, itV_q, itV_t, itV_s, ev_rg1, rg1_i, ev_rg2, rg2_i, List.getElem?_cons_zero, List.getElem?_cons_succ, ite_le, ite_lt, get_app, get_app1, set_app, set_app1, List.set_cons_zero, List.set_cons_succ, all_v, any_v, sum_v, asB_bL, asI_iL, F_l_part, b_l_part, N_l_part, e, h0, h1, m7, m8, hw]
      · simp [mkPart, h0, h1, Part.tree, liftI, bothO, bothO_sc iL_sc]
theorem part_call {S : Sto} (c w : Int) (hw : 0 < w) : C_l_part [.int c, .int w] S = .ok (plantI S.length (mkPart c w).tree).1 (S ++ (plantI S.length (mkPart c w).tree).2) := by
  obtain ⟨v, S1, L, e1, e2, e3⟩ := part_run c w hw
  exact sn_ok (snap2 snap_int snap_int) e1 e2 e3
/-! rolls made -/
def wideN (m : Int) : Int := if m % 4 = 0 then 2 else if m % 4 = 1 then 3 else if m % 4 = 2 then 5 else 1000000000
theorem wideN_pos (m : Int) : 0 < wideN m := by unfold wideN; split; omega; split; omega; split <;> omega
def rollParts (c m : Int) : List Part := (List.range (1 + c % 6).toNat).map fun k => mkPart (mixed c (20 + k)) (wideN m)
theorem rollParts_len (c m : Int) : (rollParts c m).length = (1 + c % 6).toNat := by unfold rollParts; simp
theorem rollParts_good (c m : Int) : ∀ p ∈ rollParts c m, p.good := fun p hp => by
  obtain ⟨k, _, rfl⟩ := List.mem_map.mp hp
  exact mkPart_good _ _ (wideN_pos m)
def rollBack (c m : Int) : Nat := (m / 4 % (1 + (min 3 (rollParts c m).length : Nat))).toNat
theorem rollBack_le (c m : Int) : rollBack c m ≤ min 3 (rollParts c m).length := by
  unfold rollBack
  have := Int.emod_lt_of_pos (m / 4) (by omega : (0 : Int) < 1 + (min 3 (rollParts c m).length : Nat))
  omega
def wides : List IV := [.int 2, .int 3, .int 5, .int 1000000000]
theorem wide_at (m : Int) : L2.atI wides (m % 4) = some (.int (wideN m)) := by
  have h : m % 4 = 0 ∨ m % 4 = 1 ∨ m % 4 = 2 ∨ m % 4 = 3 := by omega
  rcases h with h | h | h | h <;> rw [h] <;> simp [wides, wideN, h, L2.atI, L2.ixN]
theorem roll_comp (c m : Int) : ∃ acc J L, mLc [4, 5] (.nm 5) (iRange1 (mCons (mBin iAdd (mC (.int 1)) (mBin iMod (mVar 0) (mC (.int 6)))) mNil)) bYes (mCall C_l_part (mCons (mCall C_l_mixed (mCons (mVar 0) (mCons (mBin iAdd (mC (.int 20)) (mVar 5)) mNil))) (mCons (mVar 2) mNil))) [some (.int c), some (.int m), some (.int (wideN m)), none, none, none] [.lst wides] = .ok (.ref 1) (.lst wides :: .lst acc :: J) ∧
    bothO (liftI (.lst wides :: .lst acc :: J) 7) acc = some ((rollParts c m).map Part.tree, L) ∧ L.Nodup ∧ (∀ i ∈ L, 1 < i) ∧ acc.length = (rollParts c m).length := by
  have sm : small62 (1 + c % 6) = true := by unfold small62; rw [decide_eq_true_eq]; omega
  obtain ⟨acc, J, L, e1, e2, e3, e4, e5⟩ := lc_trees (d := 7) (own := [4, 5]) (g := .nm 5) (m := iRange1 (mCons (mBin iAdd (mC (.int 1)) (mBin iMod (mVar 0) (mC (.int 6)))) mNil)) (e := mCall C_l_part (mCons (mCall C_l_mixed (mCons (mVar 0) (mCons (mBin iAdd (mC (.int 20)) (mVar 5)) mNil))) (mCons (mVar 2) mNil)))
    (it := .rng 0 1 (1 + c % 6).toNat) (t0 := [some (.int c), some (.int m), some (.int (wideN m)), none, none, none]) (S0 := [.lst wides]) (S1 := [.lst wides]) (xs := rgL 0 (1 + c % 6).toNat) (ts := (rollParts c m).map Part.tree)
    (by simp [ev_var, ev_c, ev_bin, ev_un, ev_B, ev_tru, ev_andT, ev_orT, ev_notT, ev_and, ev_or, ev_not, ev_mif, ev_chain, ev_nil, ev_cons, ev_tup, ev_lst, ev_fn, ev_mt, ev_pNone, ev_pSome, ev_sl, ev_call, ev_disp0, ev_sNil, ev_seq, ev_expr, ev_ret, ev_retN, ev_brk, ev_cnt, ev_if, ev_asg, ev_put, ev_fun, fin_nx, fin_ret, bind_ok, ofO_some, go_nx, go_ret, st_ok, oSome_some, oSomeS_some, slotV_some, asB_bl, blV_bl, tgI_nm, tgI_tup, tgI_0, tgI_1, add_ii, sub_ii, mul_ii, div_ii, mod_ii, neg_i, lt_ii, le_ii, gt_ii, ge_ii, eq_e, ne_e, eq_ii, eq_ss, is_e, isnot_e, is_bb, is_nn, is_in, is_sn, is_rn, is_tn, is_qn, IP.ix_tup, ix_sq, seq_sq, len_tup, len_sq, ofString_inj, startI, L2.atI, L2.ixN, asInt, seq_r, lstO_l, lstO_d, lstP_l, dctO_l, dctO_d, tyO_l, tyO_d, dct_r, dct_q, lst_r, ty_non, ty_bl, ty_int, ty_str, ty_tup, ty_sq, ty_ty, ty_fn, ty_r, tyB_l, tyB_d, isTy_str, isTy_sq, isTy_r, ix_r, len_r, add_qq, add_qr, add_rq, add_rr, mul_q, mul_r, sl_q, sl_r, append_r, extend_r, clear_r, list_q, list_r, list_t, tuple_q, tuple_r, isinst_1, isSub, tyNames, min_ii, max_ii, abs_i, int_i, int_b, tru_bl, tru_q, tru_non, tru_int, tru_tup, ev_iVal, itV_q, itV_t, itV_s, ev_rg1, rg1_i, ev_rg2, rg2_i, List.getElem?_cons_zero, List.getElem?_cons_succ, ite_le, ite_lt, get_app, get_app1, set_app, set_app1, List.set_cons_zero, List.set_cons_succ, all_v, any_v, sum_v, asB_bL, asI_iL, sm]) (fun n T => next_rg) (by rw [rgL_len, List.length_map, rollParts_len]) (fun n x t acc J ex et => by
      obtain ⟨hn, rfl⟩ := rgL_get ex
      have et' : t = (mkPart (mixed c (20 + n)) (wideN m)).tree := by
        unfold rollParts at et
        rw [List.getElem?_map, List.getElem?_map, List.getElem?_range hn] at et
        exact (Option.some.inj et).symm
      subst et'
      have mc := mixed_call (S := [.lst wides] ++ (.lst acc :: J)) c (20 + n) (by omega)
      have pc := part_call (S := [.lst wides] ++ (.lst acc :: J)) (mixed c (20 + n)) (wideN m) (wideN_pos m)
      have lp := lift_plant 7 ([.lst wides] ++ (.lst acc :: J)) [] (mkPart (mixed c (20 + n)) (wideN m)).tree (okT_mono (ok_tree _) (by omega))
      generalize hp : plantI ([SO.lst wides] ++ (SO.lst acc :: J)).length (mkPart (mixed c (20 + n)) (wideN m)).tree = pt at pc lp
      refine ⟨[some (.int c), some (.int m), some (.int (wideN m)), none, none, some (.int (0 + n))], pt.1, pt.2, _, by simp [tgI_nm, wipeI], ?_, by simpa using lp, List.nodup_range', fun i hi => ?_⟩
      · have e20 : (20 : Int) + (0 + n) = ((20 + n : Nat) : Int) := by omega
        simp only [ev_var, ev_c, ev_bin, ev_un, ev_B, ev_tru, ev_andT, ev_orT, ev_notT, ev_and, ev_or, ev_not, ev_mif, ev_chain, ev_nil, ev_cons, ev_tup, ev_lst, ev_fn, ev_mt, ev_pNone, ev_pSome, ev_sl, ev_call, ev_disp0, ev_sNil, ev_seq, ev_expr, ev_ret, ev_retN, ev_brk, ev_cnt, ev_if, ev_asg, ev_put, ev_fun, fin_nx, fin_ret, bind_ok, ofO_some, go_nx, go_ret, st_ok, oSome_some, oSomeS_some, slotV_some, asB_bl, blV_bl, tgI_nm, tgI_tup, tgI_0, tgI_1, add_ii, sub_ii, mul_ii, div_ii, mod_ii, neg_i, lt_ii, le_ii, gt_ii, ge_ii, eq_e, ne_e, eq_ii, eq_ss, is_e, isnot_e, is_bb, is_nn, is_in, is_sn, is_rn, is_tn, is_qn, IP.ix_tup, ix_sq, seq_sq, len_tup, len_sq, ofString_inj, startI, L2.atI, L2.ixN, asInt, seq_r, lstO_l, lstO_d, lstP_l, dctO_l, dctO_d, tyO_l, tyO_d, dct_r, dct_q, lst_r, ty_non, ty_bl, ty_int, ty_str, ty_tup, ty_sq, ty_ty, ty_fn, ty_r, tyB_l, tyB_d, isTy_str, isTy_sq, isTy_r, ix_r, len_r, add_qq, add_qr, add_rq, add_rr, mul_q, mul_r, sl_q, sl_r, append_r, extend_r, clear_r, list_q, list_r, list_t, tuple_q, tuple_r, isinst_1, isSub, tyNames, min_ii, max_ii, abs_i, int_i, int_b, tru_bl, tru_q, tru_non, tru_int, tru_tup, ev_iVal, itV_q, itV_t, itV_s, ev_rg1, rg1_i, ev_rg2, rg2_i, List.getElem?_cons_zero, List.getElem?_cons_succ, ite_le, ite_lt, get_app, get_app1, set_app, set_app1, List.set_cons_zero, List.set_cons_succ, all_v, any_v, sum_v, asB_bL, asI_iL, e20, mc, pc]
        simp
      · rw [List.mem_range'_1] at hi
        simp at hi ⊢
        omega)
    (by rw [rgL_len]; omega)
  refine ⟨acc, J, L, e1, e2, e3, fun i hi => ?_, by rw [e5, rgL_len, rollParts_len]⟩
  have := (e4 i hi).1
  simp at this
  omega
theorem roll_run (c m : Int) : ∃ v S1 L, F_l_roll [.int c, .int m] [] = .ok v S1 ∧ liftI S1 9 v = some (rollT (rollParts c m) (rollBack c m), L) ∧ dupF L = true := by
  obtain ⟨acc, J, L, e1, e2, e3, e4, e5⟩ := roll_comp c m
  refine ⟨.tup [.ref 1, .int (rollBack c m)], .lst wides :: .lst acc :: J, 1 :: L, ?_, ?_, dupF_of (List.nodup_cons.mpr ⟨fun z => Nat.lt_irrefl _ (e4 1 z), e3⟩)⟩
  · have ss : startI N_l_roll [.int c, .int m] = [some (.int c), some (.int m), none, none, none, none] := rfl
    have pw : iPow (.int 10) (.int 9) ([] : Sto) = some (.int 1000000000, []) := by kernel_rfl
    have ix : iIx (.ref 0) (.int (m % 4)) [.lst wides] = some (.int (wideN m), [.lst wides]) := by
      rw [ix_ref (xs := wides) rfl, wide_at]; rfl
    have hb : ((min 3 (rollParts c m).length : Nat) : Int) = (if ((rollParts c m).length : Int) < 3 then ((rollParts c m).length : Int) else 3) := by split <;> omega
    have bk : m / 4 % (1 + (if ((rollParts c m).length : Int) < 3 then ((rollParts c m).length : Int) else 3)) = (rollBack c m : Int) := by
      rw [← hb]
      unfold rollBack
      rw [Int.toNat_of_nonneg (Int.emod_nonneg _ (by omega))]
    have hp : (0 : Int) < 1 + (if ((rollParts c m).length : Int) < 3 then ((rollParts c m).length : Int) else 3) := by split <;> omega
    have s1 : sAsg (.nm 2) (mBin iIx (mLst (mCons (mC (.int 2)) (mCons (mC (.int 3)) (mCons (mC (.int 5)) (mCons (mBin iPow (mC (.int 10)) (mC (.int 9))) mNil))))) (mBin iMod (mVar 1) (mC (.int 4)))) [some (.int c), some (.int m), none, none, none, none] [] = .nx [some (.int c), some (.int m), some (.int (wideN m)), none, none, none] [.lst wides] := by
      have : ([] : Sto) ++ [SO.lst [IV.int 2, IV.int 3, IV.int 5, IV.int 1000000000]] = [.lst wides] := rfl
      have md : iMod (.int m) (.int 4) [.lst wides] = some (.int (m % 4), [.lst wides]) := by simp [mod_ii]
      simp only [ev_asg, ev_bin, ev_lst, ev_cons, ev_nil, ev_c, ev_var, bind_ok, pw, ofO_some, List.length_cons, List.length_nil, Nat.reduceAdd, Nat.reduceLeDiff, if_true, this, List.getElem?_cons_zero, List.getElem?_cons_succ, slotV_some, md, ix, st_ok, tgI_nm, oSomeS_some, List.set_cons_zero, List.set_cons_succ]
    rw [F_l_roll, ev_fun, ss, b_l_roll]
    simp only [ev_seq, s1, go_nx]
    simp only [ev_asg, e1, st_ok, tgI_nm, oSomeS_some, List.set_cons_zero, List.set_cons_succ, go_nx]
    have ln : iLen [.ref 1] (.lst wides :: .lst acc :: J) = some (.int (rollParts c m).length, .lst wides :: .lst acc :: J) := by rw [len_ref (xs := acc) rfl, e5]
    simp only [ev_var, ev_c, ev_bin, ev_un, ev_B, ev_tru, ev_andT, ev_orT, ev_notT, ev_and, ev_or, ev_not, ev_mif, ev_chain, ev_nil, ev_cons, ev_tup, ev_lst, ev_fn, ev_mt, ev_pNone, ev_pSome, ev_sl, ev_call, ev_disp0, ev_sNil, ev_seq, ev_expr, ev_ret, ev_retN, ev_brk, ev_cnt, ev_if, ev_asg, ev_put, ev_fun, fin_nx, fin_ret, bind_ok, ofO_some, go_nx, go_ret, st_ok, oSome_some, oSomeS_some, slotV_some, asB_bl, blV_bl, tgI_nm, tgI_tup, tgI_0, tgI_1, add_ii, sub_ii, mul_ii, div_ii, mod_ii, neg_i, lt_ii, le_ii, gt_ii, ge_ii, eq_e, ne_e, eq_ii, eq_ss, is_e, isnot_e, is_bb, is_nn, is_in, is_sn, is_rn, is_tn, is_qn, IP.ix_tup, ix_sq, seq_sq, len_tup, len_sq, ofString_inj, startI, L2.atI, L2.ixN, asInt, seq_r, lstO_l, lstO_d, lstP_l, dctO_l, dctO_d, tyO_l, tyO_d, dct_r, dct_q, lst_r, ty_non, ty_bl, ty_int, ty_str, ty_tup, ty_sq, ty_ty, ty_fn, ty_r, tyB_l, tyB_d, isTy_str, isTy_sq, isTy_r, ix_r, len_r, add_qq, add_qr, add_rq, add_rr, mul_q, mul_r, sl_q, sl_r, append_r, extend_r, clear_r, list_q, list_r, list_t, tuple_q, tuple_r, isinst_1, isSub, tyNames, min_ii, max_ii, abs_i, int_i, int_b, tru_bl, tru_q, tru_non, tru_int, tru_tup, ev_iVal, itV_q, itV_t, itV_s, ev_rg1, rg1_i, ev_rg2, rg2_i, List.getElem?_cons_zero, List.getElem?_cons_succ, ite_le, ite_lt, get_app, get_app1, set_app, set_app1, List.set_cons_zero, List.set_cons_succ, all_v, any_v, sum_v, asB_bL, asI_iL, Option.map_some, e5, List.length_cons, List.length_nil, Nat.reduceAdd, Nat.reduceLeDiff, if_true, Int.reduceLT, and_self, decide_true, decide_eq_true hp, bk]
  · simp only [liftI, bothO]
    simp only [List.getElem?_cons_zero, List.getElem?_cons_succ, e2, Option.map_some]
    simp [rollT]
theorem roll_call {S : Sto} (c m : Int) : C_l_roll [.int c, .int m] S = .ok (plantI S.length (rollT (rollParts c m) (rollBack c m))).1 (S ++ (plantI S.length (rollT (rollParts c m) (rollBack c m))).2) := by
  obtain ⟨v, S1, L, e1, e2, e3⟩ := roll_run c m
  exact sn_ok (snap2 snap_int snap_int) e1 e2 e3
/-! a roll copied -/
def itemT : IV → List IV
  | .tup xs => xs
  | _ => []
theorem copy_items {S : Sto} {a y1 y3 : Option IV} (q : IV) (xs : List IV) (hx : q = .tup xs) (hlen : xs.length ≤ 10) (hk : ∀ x ∈ xs, isSc x = true ∨ ∃ l, x = .sq (iL l)) : ∃ y T M, mFn iTuple (mCons (mLc [1, 3] (.nm 3) (iVal (mVar 2)) bYes (mIf (mTru (mFn iIsinst (mCons (mVar 3) (mCons (mC (.ty "list")) mNil)))) (mFn iList (mCons (mVar 3) mNil)) (mVar 3))) mNil) [a, y1, some q, y3] S = .ok y (S ++ T) ∧
    liftI (S ++ T) 6 y = some (q, M) ∧ M.Nodup ∧ ∀ i ∈ M, S.length ≤ i ∧ i < S.length + T.length := by
  obtain ⟨acc, J, L, e1, e2, e3, e4, e5⟩ := lc_trees (d := 5) (own := [1, 3]) (g := .nm 3) (m := iVal (mVar 2)) (e := mIf (mTru (mFn iIsinst (mCons (mVar 3) (mCons (mC (.ty "list")) mNil)))) (mFn iList (mCons (mVar 3) mNil)) (mVar 3))
    (it := .tup xs) (t0 := [a, y1, some q, y3]) (S0 := S) (S1 := S) (xs := xs) (ts := xs) (by simp [ev_var, ev_c, ev_bin, ev_un, ev_B, ev_tru, ev_andT, ev_orT, ev_notT, ev_and, ev_or, ev_not, ev_mif, ev_chain, ev_nil, ev_cons, ev_tup, ev_lst, ev_fn, ev_mt, ev_pNone, ev_pSome, ev_sl, ev_call, ev_disp0, ev_sNil, ev_seq, ev_expr, ev_ret, ev_retN, ev_brk, ev_cnt, ev_if, ev_asg, ev_put, ev_fun, fin_nx, fin_ret, bind_ok, ofO_some, go_nx, go_ret, st_ok, oSome_some, oSomeS_some, slotV_some, asB_bl, blV_bl, tgI_nm, tgI_tup, tgI_0, tgI_1, add_ii, sub_ii, mul_ii, div_ii, mod_ii, neg_i, lt_ii, le_ii, gt_ii, ge_ii, eq_e, ne_e, eq_ii, eq_ss, is_e, isnot_e, is_bb, is_nn, is_in, is_sn, is_rn, is_tn, is_qn, IP.ix_tup, ix_sq, seq_sq, len_tup, len_sq, ofString_inj, startI, L2.atI, L2.ixN, asInt, seq_r, lstO_l, lstO_d, lstP_l, dctO_l, dctO_d, tyO_l, tyO_d, dct_r, dct_q, lst_r, ty_non, ty_bl, ty_int, ty_str, ty_tup, ty_sq, ty_ty, ty_fn, ty_r, tyB_l, tyB_d, isTy_str, isTy_sq, isTy_r, ix_r, len_r, add_qq, add_qr, add_rq, add_rr, mul_q, mul_r, sl_q, sl_r, append_r, extend_r, clear_r, list_q, list_r, list_t, tuple_q, tuple_r, isinst_1, isSub, tyNames, min_ii, max_ii, abs_i, int_i, int_b, tru_bl, tru_q, tru_non, tru_int, tru_tup, ev_iVal, itV_q, itV_t, itV_s, ev_rg1, rg1_i, ev_rg2, rg2_i, List.getElem?_cons_zero, List.getElem?_cons_succ, ite_le, ite_lt, get_app, get_app1, set_app, set_app1, List.set_cons_zero, List.set_cons_succ, all_v, any_v, sum_v, asB_bL, asI_iL, hx]) (fun n T => next_t) rfl (fun n x t acc J ex et => by
      rw [ex] at et
      cases et
      rcases hk x (List.mem_of_getElem? ex) with h | ⟨l, rfl⟩
      · refine ⟨[a, none, some q, some x], x, [], [], by simp [tgI_nm, wipeI], ?_, ?_, List.nodup_nil, nofun⟩
        · cases x <;> first | (cases h; done) | simp [ev_var, ev_c, ev_bin, ev_un, ev_B, ev_tru, ev_andT, ev_orT, ev_notT, ev_and, ev_or, ev_not, ev_mif, ev_chain, ev_nil, ev_cons, ev_tup, ev_lst, ev_fn, ev_mt, ev_pNone, ev_pSome, ev_sl, ev_call, ev_disp0, ev_sNil, ev_seq, ev_expr, ev_ret, ev_retN, ev_brk, ev_cnt, ev_if, ev_asg, ev_put, ev_fun, fin_nx, fin_ret, bind_ok, ofO_some, go_nx, go_ret, st_ok, oSome_some, oSomeS_some, slotV_some, asB_bl, blV_bl, tgI_nm, tgI_tup, tgI_0, tgI_1, add_ii, sub_ii, mul_ii, div_ii, mod_ii, neg_i, lt_ii, le_ii, gt_ii, ge_ii, eq_e, ne_e, eq_ii, eq_ss, is_e, isnot_e, is_bb, is_nn, is_in, is_sn, is_rn, is_tn, is_qn, IP.ix_tup, ix_sq, seq_sq, len_tup, len_sq, ofString_inj, startI, L2.atI, L2.ixN, asInt, seq_r, lstO_l, lstO_d, lstP_l, dctO_l, dctO_d, tyO_l, tyO_d, dct_r, dct_q, lst_r, ty_non, ty_bl, ty_int, ty_str, ty_tup, ty_sq, ty_ty, ty_fn, ty_r, tyB_l, tyB_d, isTy_str, isTy_sq, isTy_r, ix_r, len_r, add_qq, add_qr, add_rq, add_rr, mul_q, mul_r, sl_q, sl_r, append_r, extend_r, clear_r, list_q, list_r, list_t, tuple_q, tuple_r, isinst_1, isSub, tyNames, min_ii, max_ii, abs_i, int_i, int_b, tru_bl, tru_q, tru_non, tru_int, tru_tup, ev_iVal, itV_q, itV_t, itV_s, ev_rg1, rg1_i, ev_rg2, rg2_i, List.getElem?_cons_zero, List.getElem?_cons_succ, ite_le, ite_lt, get_app, get_app1, set_app, set_app1, List.set_cons_zero, List.set_cons_succ, all_v, any_v, sum_v, asB_bL, asI_iL]
        · cases x <;> first | (cases h; done) | simp [liftI]
      · refine ⟨[a, none, some q, some (.sq (iL l))], .ref (S ++ (.lst acc :: J)).length, [.lst (iL l)], [(S ++ (.lst acc :: J)).length], by simp [tgI_nm, wipeI], ?_, ?_, by simp, ?_⟩
        · simp [ev_var, ev_c, ev_bin, ev_un, ev_B, ev_tru, ev_andT, ev_orT, ev_notT, ev_and, ev_or, ev_not, ev_mif, ev_chain, ev_nil, ev_cons, ev_tup, ev_lst, ev_fn, ev_mt, ev_pNone, ev_pSome, ev_sl, ev_call, ev_disp0, ev_sNil, ev_seq, ev_expr, ev_ret, ev_retN, ev_brk, ev_cnt, ev_if, ev_asg, ev_put, ev_fun, fin_nx, fin_ret, bind_ok, ofO_some, go_nx, go_ret, st_ok, oSome_some, oSomeS_some, slotV_some, asB_bl, blV_bl, tgI_nm, tgI_tup, tgI_0, tgI_1, add_ii, sub_ii, mul_ii, div_ii, mod_ii, neg_i, lt_ii, le_ii, gt_ii, ge_ii, eq_e, ne_e, eq_ii, eq_ss, is_e, isnot_e, is_bb, is_nn, is_in, is_sn, is_rn, is_tn, is_qn, IP.ix_tup, ix_sq, seq_sq, len_tup, len_sq, ofString_inj, startI, L2.atI, L2.ixN, asInt, seq_r, lstO_l, lstO_d, lstP_l, dctO_l, dctO_d, tyO_l, tyO_d, dct_r, dct_q, lst_r, ty_non, ty_bl, ty_int, ty_str, ty_tup, ty_sq, ty_ty, ty_fn, ty_r, tyB_l, tyB_d, isTy_str, isTy_sq, isTy_r, ix_r, len_r, add_qq, add_qr, add_rq, add_rr, mul_q, mul_r, sl_q, sl_r, append_r, extend_r, clear_r, list_q, list_r, list_t, tuple_q, tuple_r, isinst_1, isSub, tyNames, min_ii, max_ii, abs_i, int_i, int_b, tru_bl, tru_q, tru_non, tru_int, tru_tup, ev_iVal, itV_q, itV_t, itV_s, ev_rg1, rg1_i, ev_rg2, rg2_i, List.getElem?_cons_zero, List.getElem?_cons_succ, ite_le, ite_lt, get_app, get_app1, set_app, set_app1, List.set_cons_zero, List.set_cons_succ, all_v, any_v, sum_v, asB_bL, asI_iL]
        · have e : S ++ (.lst acc :: (J ++ [.lst (iL l)])) = S ++ (.lst acc :: J) ++ [.lst (iL l)] := by simp
          rw [e]
          simp only [liftI]
          rw [get_app]
          simp only [List.getElem?_cons_zero, bothO_sc iL_sc, Option.map_some]
        · intro i hi
          cases List.mem_singleton.mp hi
          simp
          omega)
    (by omega)
  refine ⟨.tup acc, .lst acc :: J, L, ?_, ?_, e3, fun i hi => ?_⟩
  · simp only [ev_var, ev_c, ev_bin, ev_un, ev_B, ev_tru, ev_andT, ev_orT, ev_notT, ev_and, ev_or, ev_not, ev_mif, ev_chain, ev_nil, ev_cons, ev_tup, ev_lst, ev_fn, ev_mt, ev_pNone, ev_pSome, ev_sl, ev_call, ev_disp0, ev_sNil, ev_seq, ev_expr, ev_ret, ev_retN, ev_brk, ev_cnt, ev_if, ev_asg, ev_put, ev_fun, fin_nx, fin_ret, bind_ok, ofO_some, go_nx, go_ret, st_ok, oSome_some, oSomeS_some, slotV_some, asB_bl, blV_bl, tgI_nm, tgI_tup, tgI_0, tgI_1, add_ii, sub_ii, mul_ii, div_ii, mod_ii, neg_i, lt_ii, le_ii, gt_ii, ge_ii, eq_e, ne_e, eq_ii, eq_ss, is_e, isnot_e, is_bb, is_nn, is_in, is_sn, is_rn, is_tn, is_qn, IP.ix_tup, ix_sq, seq_sq, len_tup, len_sq, ofString_inj, startI, L2.atI, L2.ixN, asInt, seq_r, lstO_l, lstO_d, lstP_l, dctO_l, dctO_d, tyO_l, tyO_d, dct_r, dct_q, lst_r, ty_non, ty_bl, ty_int, ty_str, ty_tup, ty_sq, ty_ty, ty_fn, ty_r, tyB_l, tyB_d, isTy_str, isTy_sq, isTy_r, ix_r, len_r, add_qq, add_qr, add_rq, add_rr, mul_q, mul_r, sl_q, sl_r, append_r, extend_r, clear_r, list_q, list_r, list_t, tuple_q, tuple_r, isinst_1, isSub, tyNames, min_ii, max_ii, abs_i, int_i, int_b, tru_bl, tru_q, tru_non, tru_int, tru_tup, ev_iVal, itV_q, itV_t, itV_s, ev_rg1, rg1_i, ev_rg2, rg2_i, List.getElem?_cons_zero, List.getElem?_cons_succ, ite_le, ite_lt, get_app, get_app1, set_app, set_app1, List.set_cons_zero, List.set_cons_succ, all_v, any_v, sum_v, asB_bL, asI_iL, e1]
    rfl
  · simp only [liftI, e2, Option.map_some, hx]
  · have := e4 i hi
    simp
    omega
theorem copy_part {S : Sto} {a y1 y3 : Option IV} (p : Part) (h : p.small) : ∃ y T M, mFn iTuple (mCons (mLc [1, 3] (.nm 3) (iVal (mVar 2)) bYes (mIf (mTru (mFn iIsinst (mCons (mVar 3) (mCons (mC (.ty "list")) mNil)))) (mFn iList (mCons (mVar 3) mNil)) (mVar 3))) mNil) [a, y1, some p.tree, y3] S = .ok y (S ++ T) ∧
    liftI (S ++ T) 6 y = some (p.tree, M) ∧ M.Nodup ∧ ∀ i ∈ M, S.length ≤ i ∧ i < S.length + T.length := by
  cases p with
  | bar n => exact copy_items _ _ rfl (by simp) (fun x hx => by rcases List.mem_cons.mp hx with rfl | hx; exact .inl rfl; rcases List.mem_cons.mp hx with rfl | hx; exact .inl rfl; cases hx)
  | twice l => exact copy_items _ _ rfl (by simp) (fun x hx => by rcases List.mem_cons.mp hx with rfl | hx; exact .inl rfl; rcases List.mem_cons.mp hx with rfl | hx; exact .inr ⟨l, rfl⟩; cases hx)
  | ends l a b => exact copy_items _ _ rfl (by simp) (fun x hx => by rcases List.mem_cons.mp hx with rfl | hx; exact .inl rfl; rcases List.mem_cons.mp hx with rfl | hx; exact .inr ⟨l, rfl⟩; rcases List.mem_cons.mp hx with rfl | hx; exact .inl rfl; rcases List.mem_cons.mp hx with rfl | hx; exact .inl rfl; cases hx)
theorem copied_run (ps : List Part) (k : Nat) (hs : ∀ p ∈ ps, p.small) (hl : ps.length ≤ 1000) : ∃ v S1 L, F_l_copied [rollT ps k] [] = .ok v S1 ∧ liftI S1 9 v = some (rollT ps k, L) ∧ dupF L = true := by
  obtain ⟨acc, J, L, e1, e2, e3, e4, e5⟩ := lc_trees (d := 6) (own := [1, 2]) (g := .nm 2) (m := iVal (mBin iIx (mVar 0) (mC (.int 0)))) (e := mFn iTuple (mCons (mLc [1, 3] (.nm 3) (iVal (mVar 2)) bYes (mIf (mTru (mFn iIsinst (mCons (mVar 3) (mCons (mC (.ty "list")) mNil)))) (mFn iList (mCons (mVar 3) mNil)) (mVar 3))) mNil))
    (it := .lst (.sq (ps.map Part.tree))) (t0 := [some (rollT ps k), none, none, none]) (S0 := []) (S1 := []) (xs := ps.map Part.tree) (ts := ps.map Part.tree) (by simp [ev_var, ev_c, ev_bin, ev_un, ev_B, ev_tru, ev_andT, ev_orT, ev_notT, ev_and, ev_or, ev_not, ev_mif, ev_chain, ev_nil, ev_cons, ev_tup, ev_lst, ev_fn, ev_mt, ev_pNone, ev_pSome, ev_sl, ev_call, ev_disp0, ev_sNil, ev_seq, ev_expr, ev_ret, ev_retN, ev_brk, ev_cnt, ev_if, ev_asg, ev_put, ev_fun, fin_nx, fin_ret, bind_ok, ofO_some, go_nx, go_ret, st_ok, oSome_some, oSomeS_some, slotV_some, asB_bl, blV_bl, tgI_nm, tgI_tup, tgI_0, tgI_1, add_ii, sub_ii, mul_ii, div_ii, mod_ii, neg_i, lt_ii, le_ii, gt_ii, ge_ii, eq_e, ne_e, eq_ii, eq_ss, is_e, isnot_e, is_bb, is_nn, is_in, is_sn, is_rn, is_tn, is_qn, IP.ix_tup, ix_sq, seq_sq, len_tup, len_sq, ofString_inj, startI, L2.atI, L2.ixN, asInt, seq_r, lstO_l, lstO_d, lstP_l, dctO_l, dctO_d, tyO_l, tyO_d, dct_r, dct_q, lst_r, ty_non, ty_bl, ty_int, ty_str, ty_tup, ty_sq, ty_ty, ty_fn, ty_r, tyB_l, tyB_d, isTy_str, isTy_sq, isTy_r, ix_r, len_r, add_qq, add_qr, add_rq, add_rr, mul_q, mul_r, sl_q, sl_r, append_r, extend_r, clear_r, list_q, list_r, list_t, tuple_q, tuple_r, isinst_1, isSub, tyNames, min_ii, max_ii, abs_i, int_i, int_b, tru_bl, tru_q, tru_non, tru_int, tru_tup, ev_iVal, itV_q, itV_t, itV_s, ev_rg1, rg1_i, ev_rg2, rg2_i, List.getElem?_cons_zero, List.getElem?_cons_succ, ite_le, ite_lt, get_app, get_app1, set_app, set_app1, List.set_cons_zero, List.set_cons_succ, all_v, any_v, sum_v, asB_bL, asI_iL, rollT]) (fun n T => next_q) rfl (fun n x t acc J ex et => by
      rw [ex] at et
      cases et
      obtain ⟨p, ep, mp, rfl⟩ := mem_get ex
      obtain ⟨y, T, M, f1, f2, f3, f4⟩ := copy_part (S := [] ++ (.lst acc :: J)) (a := some (rollT ps k)) (y1 := none) (y3 := none) p (hs p mp)
      exact ⟨[some (rollT ps k), none, some p.tree, none], y, T, M, by simp [tgI_nm, wipeI], f1, f2, f3, fun i hi => by have := f4 i hi; simp at this ⊢; omega⟩)
    (by simp; omega)
  obtain ⟨l1, l2⟩ := lc_lift e2 e3 e4
  refine ⟨.tup [.ref 0, .int k], [] ++ (.lst acc :: J), 0 :: L, ?_, ?_, dupF_of l2⟩
  · have ss : startI N_l_copied [rollT ps k] = [some (rollT ps k), none, none, none] := rfl
    rw [F_l_copied, ev_fun, ss, b_l_copied]
    simp only [ev_ret, ev_tup, ev_cons, ev_nil, e1, bind_ok]
    simp [ev_var, ev_c, ev_bin, ev_un, ev_B, ev_tru, ev_andT, ev_orT, ev_notT, ev_and, ev_or, ev_not, ev_mif, ev_chain, ev_nil, ev_cons, ev_tup, ev_lst, ev_fn, ev_mt, ev_pNone, ev_pSome, ev_sl, ev_call, ev_disp0, ev_sNil, ev_seq, ev_expr, ev_ret, ev_retN, ev_brk, ev_cnt, ev_if, ev_asg, ev_put, ev_fun, fin_nx, fin_ret, bind_ok, ofO_some, go_nx, go_ret, st_ok, oSome_some, oSomeS_some, slotV_some, asB_bl, blV_bl, tgI_nm, tgI_tup, tgI_0, tgI_1, add_ii, sub_ii, mul_ii, div_ii, mod_ii, neg_i, lt_ii, le_ii, gt_ii, ge_ii, eq_e, ne_e, eq_ii, eq_ss, is_e, isnot_e, is_bb, is_nn, is_in, is_sn, is_rn, is_tn, is_qn, IP.ix_tup, ix_sq, seq_sq, len_tup, len_sq, ofString_inj, startI, L2.atI, L2.ixN, asInt, seq_r, lstO_l, lstO_d, lstP_l, dctO_l, dctO_d, tyO_l, tyO_d, dct_r, dct_q, lst_r, ty_non, ty_bl, ty_int, ty_str, ty_tup, ty_sq, ty_ty, ty_fn, ty_r, tyB_l, tyB_d, isTy_str, isTy_sq, isTy_r, ix_r, len_r, add_qq, add_qr, add_rq, add_rr, mul_q, mul_r, sl_q, sl_r, append_r, extend_r, clear_r, list_q, list_r, list_t, tuple_q, tuple_r, isinst_1, isSub, tyNames, min_ii, max_ii, abs_i, int_i, int_b, tru_bl, tru_q, tru_non, tru_int, tru_tup, ev_iVal, itV_q, itV_t, itV_s, ev_rg1, rg1_i, ev_rg2, rg2_i, List.getElem?_cons_zero, List.getElem?_cons_succ, ite_le, ite_lt, get_app, get_app1, set_app, set_app1, List.set_cons_zero, List.set_cons_succ, all_v, any_v, sum_v, asB_bL, asI_iL, rollT]
  · have l3 : liftI ([] ++ (SO.lst acc :: J)) 8 (.ref 0) = some (.sq (ps.map Part.tree), 0 :: L) := by
      simp only [liftI] at l1 ⊢
      simp only [List.nil_append, List.length_nil, List.getElem?_cons_zero] at l1 ⊢
      have e2 : bothO (liftI (.lst acc :: J) 6) acc = some (ps.map Part.tree, L) := e2
      rw [bothO_imp (fun x q hq => ?_) e2]
      · rfl
      · exact lift_up hq
    rw [show liftI ([] ++ (SO.lst acc :: J)) 9 (.tup [.ref 0, .int k]) = (bothO (liftI ([] ++ (SO.lst acc :: J)) 8) [.ref 0, .int k]).map fun p => (.tup p.1, p.2) by simp only [liftI]]
    simp only [bothO, l3]
    simp [liftI, rollT]
theorem copied_call {S : Sto} {v : IV} (ps : List Part) (k : Nat) (hs : ∀ p ∈ ps, p.small) (hl : ps.length ≤ 1000) (hv : snapI S 9 v = some (rollT ps k)) : C_l_copied [v] S = .ok (plantI S.length (rollT ps k)).1 (S ++ (plantI S.length (rollT ps k)).2) := by
  obtain ⟨w, S1, L, e1, e2, e3⟩ := copied_run ps k hs hl
  exact sn_ok (snap1 hv) e1 e2 e3
/-! is_roll -/
def amongB (v : IV) (m : Int) : Bool := match v with
  | .int n => decide (0 ≤ n) && decide (n ≤ m)
  | _ => false
theorem isAmong_run {S : Sto} {x : IV} {m : Int} (h : isTyped S x) : F_is_among [x, .int 0, .int m] S = .ok (.bl (amongB x m)) S := by
  obtain ⟨t, h⟩ := h
  have w := isWhole_run h
  by_cases h1 : t = "int"
  · subst h1
    have : ∃ n, x = .int n := by
      cases x <;> simp [ev_var, ev_c, ev_bin, ev_un, ev_B, ev_tru, ev_andT, ev_orT, ev_notT, ev_and, ev_or, ev_not, ev_mif, ev_chain, ev_nil, ev_cons, ev_tup, ev_lst, ev_fn, ev_mt, ev_pNone, ev_pSome, ev_sl, ev_call, ev_disp0, ev_sNil, ev_seq, ev_expr, ev_ret, ev_retN, ev_brk, ev_cnt, ev_if, ev_asg, ev_put, ev_fun, fin_nx, fin_ret, bind_ok, ofO_some, go_nx, go_ret, st_ok, oSome_some, oSomeS_some, slotV_some, asB_bl, blV_bl, tgI_nm, tgI_tup, tgI_0, tgI_1, add_ii, sub_ii, mul_ii, div_ii, mod_ii, neg_i, lt_ii, le_ii, gt_ii, ge_ii, eq_e, ne_e, eq_ii, eq_ss, is_e, isnot_e, is_bb, is_nn, is_in, is_sn, is_rn, is_tn, is_qn, IP.ix_tup, ix_sq, seq_sq, len_tup, len_sq, ofString_inj, startI, L2.atI, L2.ixN, asInt, seq_r, lstO_l, lstO_d, lstP_l, dctO_l, dctO_d, tyO_l, tyO_d, dct_r, dct_q, lst_r, ty_non, ty_bl, ty_int, ty_str, ty_tup, ty_sq, ty_ty, ty_fn, ty_r, tyB_l, tyB_d, isTy_str, isTy_sq, isTy_r, ix_r, len_r, add_qq, add_qr, add_rq, add_rr, mul_q, mul_r, sl_q, sl_r, append_r, extend_r, clear_r, list_q, list_r, list_t, tuple_q, tuple_r, isinst_1, isSub, tyNames, min_ii, max_ii, abs_i, int_i, int_b, tru_bl, tru_q, tru_non, tru_int, tru_tup, ev_iVal, itV_q, itV_t, itV_s, ev_rg1, rg1_i, ev_rg2, rg2_i, List.getElem?_cons_zero, List.getElem?_cons_succ, ite_le, ite_lt, get_app, get_app1, set_app, set_app1, List.set_cons_zero, List.set_cons_succ, all_v, any_v, sum_v, asB_bL, asI_iL] at h
      · exact ⟨_, rfl⟩
      · exfalso; unfold tyO at h; split at h <;> simp at h
    obtain ⟨n, rfl⟩ := this
    by_cases h0 : 0 ≤ n
    · simp [ev_var, ev_c, ev_bin, ev_un, ev_B, ev_tru, ev_andT, ev_orT, ev_notT, ev_and, ev_or, ev_not, ev_mif, ev_chain, ev_nil, ev_cons, ev_tup, ev_lst, ev_fn, ev_mt, ev_pNone, ev_pSome, ev_sl, ev_call, ev_disp0, ev_sNil, ev_seq, ev_expr, ev_ret, ev_retN, ev_brk, ev_cnt, ev_if, ev_asg, ev_put, ev_fun, fin_nx, fin_ret, bind_ok, ofO_some, go_nx, go_ret, st_ok, oSome_some, oSomeS_some, slotV_some, asB_bl, blV_bl, tgI_nm, tgI_tup, tgI_0, tgI_1, add_ii, sub_ii, mul_ii, div_ii, mod_ii, neg_i, lt_ii, le_ii, gt_ii, ge_ii, eq_e, ne_e, eq_ii, eq_ss, is_e, isnot_e, is_bb, is_nn, is_in, is_sn, is_rn, is_tn, is_qn, IP.ix_tup, ix_sq, seq_sq, len_tup, len_sq, ofString_inj, startI, L2.atI, L2.ixN, asInt, seq_r, lstO_l, lstO_d, lstP_l, dctO_l, dctO_d, tyO_l, tyO_d, dct_r, dct_q, lst_r, ty_non, ty_bl, ty_int, ty_str, ty_tup, ty_sq, ty_ty, ty_fn, ty_r, tyB_l, tyB_d, isTy_str, isTy_sq, isTy_r, ix_r, len_r, add_qq, add_qr, add_rq, add_rr, mul_q, mul_r, sl_q, sl_r, append_r, extend_r, clear_r, list_q, list_r, list_t, tuple_q, tuple_r, isinst_1, isSub, tyNames, min_ii, max_ii, abs_i, int_i, int_b, tru_bl, tru_q, tru_non, tru_int, tru_tup, ev_iVal, itV_q, itV_t, itV_s, ev_rg1, rg1_i, ev_rg2, rg2_i, List.getElem?_cons_zero, List.getElem?_cons_succ, ite_le, ite_lt, get_app, get_app1, set_app, set_app1, List.set_cons_zero, List.set_cons_succ, all_v, any_v, sum_v, asB_bL, asI_iL, F_is_among, b_is_among, N_is_among, w, amongB, h0]
    · simp [ev_var, ev_c, ev_bin, ev_un, ev_B, ev_tru, ev_andT, ev_orT, ev_notT, ev_and, ev_or, ev_not, ev_mif, ev_chain, ev_nil, ev_cons, ev_tup, ev_lst, ev_fn, ev_mt, ev_pNone, ev_pSome, ev_sl, ev_call, ev_disp0, ev_sNil, ev_seq, ev_expr, ev_ret, ev_retN, ev_brk, ev_cnt, ev_if, ev_asg, ev_put, ev_fun, fin_nx, fin_ret, bind_ok, ofO_some, go_nx, go_ret, st_ok, oSome_some, oSomeS_some, slotV_some, asB_bl, blV_bl, tgI_nm, tgI_tup, tgI_0, tgI_1, add_ii, sub_ii, mul_ii, div_ii, mod_ii, neg_i, lt_ii, le_ii, gt_ii, ge_ii, eq_e, ne_e, eq_ii, eq_ss, is_e, isnot_e, is_bb, is_nn, is_in, is_sn, is_rn, is_tn, is_qn, IP.ix_tup, ix_sq, seq_sq, len_tup, len_sq, ofString_inj, startI, L2.atI, L2.ixN, asInt, seq_r, lstO_l, lstO_d, lstP_l, dctO_l, dctO_d, tyO_l, tyO_d, dct_r, dct_q, lst_r, ty_non, ty_bl, ty_int, ty_str, ty_tup, ty_sq, ty_ty, ty_fn, ty_r, tyB_l, tyB_d, isTy_str, isTy_sq, isTy_r, ix_r, len_r, add_qq, add_qr, add_rq, add_rr, mul_q, mul_r, sl_q, sl_r, append_r, extend_r, clear_r, list_q, list_r, list_t, tuple_q, tuple_r, isinst_1, isSub, tyNames, min_ii, max_ii, abs_i, int_i, int_b, tru_bl, tru_q, tru_non, tru_int, tru_tup, ev_iVal, itV_q, itV_t, itV_s, ev_rg1, rg1_i, ev_rg2, rg2_i, List.getElem?_cons_zero, List.getElem?_cons_succ, ite_le, ite_lt, get_app, get_app1, set_app, set_app1, List.set_cons_zero, List.set_cons_succ, all_v, any_v, sum_v, asB_bL, asI_iL, F_is_among, b_is_among, N_is_among, w, amongB, h0]
  · have e : amongB x m = false := by
      cases x <;> first | rfl | skip
      simp [ev_var, ev_c, ev_bin, ev_un, ev_B, ev_tru, ev_andT, ev_orT, ev_notT, ev_and, ev_or, ev_not, ev_mif, ev_chain, ev_nil, ev_cons, ev_tup, ev_lst, ev_fn, ev_mt, ev_pNone, ev_pSome, ev_sl, ev_call, ev_disp0, ev_sNil, ev_seq, ev_expr, ev_ret, ev_retN, ev_brk, ev_cnt, ev_if, ev_asg, ev_put, ev_fun, fin_nx, fin_ret, bind_ok, ofO_some, go_nx, go_ret, st_ok, oSome_some, oSomeS_some, slotV_some, asB_bl, blV_bl, tgI_nm, tgI_tup, tgI_0, tgI_1, add_ii, sub_ii, mul_ii, div_ii, mod_ii, neg_i, lt_ii, le_ii, gt_ii, ge_ii, eq_e, ne_e, eq_ii, eq_ss, is_e, isnot_e, is_bb, is_nn, is_in, is_sn, is_rn, is_tn, is_qn, IP.ix_tup, ix_sq, seq_sq, len_tup, len_sq, ofString_inj, startI, L2.atI, L2.ixN, asInt, seq_r, lstO_l, lstO_d, lstP_l, dctO_l, dctO_d, tyO_l, tyO_d, dct_r, dct_q, lst_r, ty_non, ty_bl, ty_int, ty_str, ty_tup, ty_sq, ty_ty, ty_fn, ty_r, tyB_l, tyB_d, isTy_str, isTy_sq, isTy_r, ix_r, len_r, add_qq, add_qr, add_rq, add_rr, mul_q, mul_r, sl_q, sl_r, append_r, extend_r, clear_r, list_q, list_r, list_t, tuple_q, tuple_r, isinst_1, isSub, tyNames, min_ii, max_ii, abs_i, int_i, int_b, tru_bl, tru_q, tru_non, tru_int, tru_tup, ev_iVal, itV_q, itV_t, itV_s, ev_rg1, rg1_i, ev_rg2, rg2_i, List.getElem?_cons_zero, List.getElem?_cons_succ, ite_le, ite_lt, get_app, get_app1, set_app, set_app1, List.set_cons_zero, List.set_cons_succ, all_v, any_v, sum_v, asB_bL, asI_iL] at h; exact absurd h.symm h1
    simp [ev_var, ev_c, ev_bin, ev_un, ev_B, ev_tru, ev_andT, ev_orT, ev_notT, ev_and, ev_or, ev_not, ev_mif, ev_chain, ev_nil, ev_cons, ev_tup, ev_lst, ev_fn, ev_mt, ev_pNone, ev_pSome, ev_sl, ev_call, ev_disp0, ev_sNil, ev_seq, ev_expr, ev_ret, ev_retN, ev_brk, ev_cnt, ev_if, ev_asg, ev_put, ev_fun, fin_nx, fin_ret, bind_ok, ofO_some, go_nx, go_ret, st_ok, oSome_some, oSomeS_some, slotV_some, asB_bl, blV_bl, tgI_nm, tgI_tup, tgI_0, tgI_1, add_ii, sub_ii, mul_ii, div_ii, mod_ii, neg_i, lt_ii, le_ii, gt_ii, ge_ii, eq_e, ne_e, eq_ii, eq_ss, is_e, isnot_e, is_bb, is_nn, is_in, is_sn, is_rn, is_tn, is_qn, IP.ix_tup, ix_sq, seq_sq, len_tup, len_sq, ofString_inj, startI, L2.atI, L2.ixN, asInt, seq_r, lstO_l, lstO_d, lstP_l, dctO_l, dctO_d, tyO_l, tyO_d, dct_r, dct_q, lst_r, ty_non, ty_bl, ty_int, ty_str, ty_tup, ty_sq, ty_ty, ty_fn, ty_r, tyB_l, tyB_d, isTy_str, isTy_sq, isTy_r, ix_r, len_r, add_qq, add_qr, add_rq, add_rr, mul_q, mul_r, sl_q, sl_r, append_r, extend_r, clear_r, list_q, list_r, list_t, tuple_q, tuple_r, isinst_1, isSub, tyNames, min_ii, max_ii, abs_i, int_i, int_b, tru_bl, tru_q, tru_non, tru_int, tru_tup, ev_iVal, itV_q, itV_t, itV_s, ev_rg1, rg1_i, ev_rg2, rg2_i, List.getElem?_cons_zero, List.getElem?_cons_succ, ite_le, ite_lt, get_app, get_app1, set_app, set_app1, List.set_cons_zero, List.set_cons_succ, all_v, any_v, sum_v, asB_bL, asI_iL, F_is_among, b_is_among, N_is_among, w, h1, e]
theorem isRoll_run {S : Sto} {r : Nat} {back : IV} {xs : List IV} {f : IV → Bool} (hr : S[r]? = some (.lst xs)) (hn : xs ≠ []) (hl : xs.length ≤ 1000) (hb : isTyped S back)
    (hC : ∀ x ∈ xs, ∀ T, ∃ T', F_is_part [x] (S ++ T) = .ok (.bl (f x)) (S ++ T ++ T')) : ∃ T, F_is_roll [.tup [.ref r, back]] S = .ok (.bl (xs.all f && amongB back (min 3 xs.length : Nat))) (S ++ T) := by
  have hr1 : (S ++ [SO.lst []])[r]? = some (.lst xs) := get_old hr
  obtain ⟨T, e⟩ := all_runA (C := F_is_part) (f := f) (m := mBin iIx (mVar 0) (mC (.int 0))) (it := .lst (.ref r)) (a := some (.tup [.ref r, back])) (y1 := none) (y2 := none) (S0 := S ++ [.lst []]) (S1 := S ++ [.lst []]) (it' := .ref r) (xs := xs) (by simp [ev_var, ev_c, ev_bin, ev_un, ev_B, ev_tru, ev_andT, ev_orT, ev_notT, ev_and, ev_or, ev_not, ev_mif, ev_chain, ev_nil, ev_cons, ev_tup, ev_lst, ev_fn, ev_mt, ev_pNone, ev_pSome, ev_sl, ev_call, ev_disp0, ev_sNil, ev_seq, ev_expr, ev_ret, ev_retN, ev_brk, ev_cnt, ev_if, ev_asg, ev_put, ev_fun, fin_nx, fin_ret, bind_ok, ofO_some, go_nx, go_ret, st_ok, oSome_some, oSomeS_some, slotV_some, asB_bl, blV_bl, tgI_nm, tgI_tup, tgI_0, tgI_1, add_ii, sub_ii, mul_ii, div_ii, mod_ii, neg_i, lt_ii, le_ii, gt_ii, ge_ii, eq_e, ne_e, eq_ii, eq_ss, is_e, isnot_e, is_bb, is_nn, is_in, is_sn, is_rn, is_tn, is_qn, IP.ix_tup, ix_sq, seq_sq, len_tup, len_sq, ofString_inj, startI, L2.atI, L2.ixN, asInt, seq_r, lstO_l, lstO_d, lstP_l, dctO_l, dctO_d, tyO_l, tyO_d, dct_r, dct_q, lst_r, ty_non, ty_bl, ty_int, ty_str, ty_tup, ty_sq, ty_ty, ty_fn, ty_r, tyB_l, tyB_d, isTy_str, isTy_sq, isTy_r, ix_r, len_r, add_qq, add_qr, add_rq, add_rr, mul_q, mul_r, sl_q, sl_r, append_r, extend_r, clear_r, list_q, list_r, list_t, tuple_q, tuple_r, isinst_1, isSub, tyNames, min_ii, max_ii, abs_i, int_i, int_b, tru_bl, tru_q, tru_non, tru_int, tru_tup, ev_iVal, itV_q, itV_t, itV_s, ev_rg1, rg1_i, ev_rg2, rg2_i, List.getElem?_cons_zero, List.getElem?_cons_succ, ite_le, ite_lt, get_app, get_app1, set_app, set_app1, List.set_cons_zero, List.set_cons_succ, all_v, any_v, sum_v, asB_bL, asI_iL]) (itV_r hr1)
    (fun n T => next_r (get_old hr1)) (fun x hx T => by
      obtain ⟨T', h⟩ := hC x hx ([.lst []] ++ T)
      exact ⟨T', by rw [List.append_assoc]; exact h⟩) hl
  refine ⟨[.lst []] ++ (.lst (bL (xs.map f)) :: T), ?_⟩
  have c1 : sIf (mOrT (mNotT (mTru (mFn iIsinst (mCons (mVar 0) (mCons (mC (.ty "tuple")) mNil))))) (mOrT (mB (mBin iNe (mFn iLen (mCons (mVar 0) mNil)) (mC (.int 2)))) (mOrT (mNotT (mTru (mFn iIsinst (mCons (mBin iIx (mVar 0) (mC (.int 0))) (mCons (mC (.ty "list")) mNil))))) (mB (mBin iEq (mBin iIx (mVar 0) (mC (.int 0))) (mLst mNil)))))) (sRet (mC (.bl false))) sNil [some (.tup [.ref r, back]), none, none] S = .nx [some (.tup [.ref r, back]), none, none] (S ++ [.lst []]) := by
    have le : lenNe (.ref r) (.ref S.length) (S ++ [.lst []]) = true := by
      unfold lenNe
      rw [seq_ref hr1, seq_ref (xs := []) (by rw [get_app]; rfl)]
      cases xs with
      | nil => exact absurd rfl hn
      | cons _ _ => rfl
    have eq : eqI (.ref r) (.ref S.length) (S ++ [.lst []]) = some false := by
      unfold eqI
      simp only [le, if_true]
    simp [ev_var, ev_c, ev_bin, ev_un, ev_B, ev_tru, ev_andT, ev_orT, ev_notT, ev_and, ev_or, ev_not, ev_mif, ev_chain, ev_nil, ev_cons, ev_tup, ev_lst, ev_fn, ev_mt, ev_pNone, ev_pSome, ev_sl, ev_call, ev_disp0, ev_sNil, ev_seq, ev_expr, ev_ret, ev_retN, ev_brk, ev_cnt, ev_if, ev_asg, ev_put, ev_fun, fin_nx, fin_ret, bind_ok, ofO_some, go_nx, go_ret, st_ok, oSome_some, oSomeS_some, slotV_some, asB_bl, blV_bl, tgI_nm, tgI_tup, tgI_0, tgI_1, add_ii, sub_ii, mul_ii, div_ii, mod_ii, neg_i, lt_ii, le_ii, gt_ii, ge_ii, eq_e, ne_e, eq_ii, eq_ss, is_e, isnot_e, is_bb, is_nn, is_in, is_sn, is_rn, is_tn, is_qn, IP.ix_tup, ix_sq, seq_sq, len_tup, len_sq, ofString_inj, startI, L2.atI, L2.ixN, asInt, seq_r, lstO_l, lstO_d, lstP_l, dctO_l, dctO_d, tyO_l, tyO_d, dct_r, dct_q, lst_r, ty_non, ty_bl, ty_int, ty_str, ty_tup, ty_sq, ty_ty, ty_fn, ty_r, tyB_l, tyB_d, isTy_str, isTy_sq, isTy_r, ix_r, len_r, add_qq, add_qr, add_rq, add_rr, mul_q, mul_r, sl_q, sl_r, append_r, extend_r, clear_r, list_q, list_r, list_t, tuple_q, tuple_r, isinst_1, isSub, tyNames, min_ii, max_ii, abs_i, int_i, int_b, tru_bl, tru_q, tru_non, tru_int, tru_tup, ev_iVal, itV_q, itV_t, itV_s, ev_rg1, rg1_i, ev_rg2, rg2_i, List.getElem?_cons_zero, List.getElem?_cons_succ, ite_le, ite_lt, get_app, get_app1, set_app, set_app1, List.set_cons_zero, List.set_cons_succ, all_v, any_v, sum_v, asB_bL, asI_iL, hr, eq]
  have ss : startI N_is_roll [.tup [.ref r, back]] = [some (.tup [.ref r, back]), none, none] := rfl
  rw [F_is_roll, ev_fun, ss, b_is_roll]
  simp only [ev_seq, c1, go_nx]
  have tl : S ++ [SO.lst []] ++ (SO.lst (bL (xs.map f)) :: T) = S ++ ([SO.lst []] ++ (.lst (bL (xs.map f)) :: T)) := by rw [List.append_assoc]
  rw [← tl]
  cases hf : xs.all f with
  | false =>
    have al : iAll [.ref (S ++ [SO.lst []]).length] (S ++ [SO.lst []] ++ (SO.lst (bL (xs.map f)) :: T)) = some (.bl false, S ++ [SO.lst []] ++ (SO.lst (bL (xs.map f)) :: T)) := by
      rw [all_v, seq_r, get_app]
      simp [lstO, asB_bL, List.all_map, Function.comp_def, hf]
    simp only [ev_if, ev_notT, ev_tru, ev_fn, ev_cons, ev_nil, e, bind_ok, al, ofO_some, tru_bl, oSome_some, st_ok, Bool.not_false, if_true, ev_ret, ev_c, go_ret, fin_ret, Bool.false_and]
  | true =>
    have al : iAll [.ref (S ++ [SO.lst []]).length] (S ++ [SO.lst []] ++ (SO.lst (bL (xs.map f)) :: T)) = some (.bl true, S ++ [SO.lst []] ++ (SO.lst (bL (xs.map f)) :: T)) := by
      rw [all_v, seq_r, get_app]
      simp [lstO, asB_bL, List.all_map, Function.comp_def, hf]
    have am := isAmong_run (S := S ++ [SO.lst []] ++ (SO.lst (bL (xs.map f)) :: T)) (x := back) (m := (min 3 xs.length : Nat)) (by rw [List.append_assoc]; exact typed_app hb)
    have hm : (if ((xs.length : Nat) : Int) < 3 then ((xs.length : Nat) : Int) else 3) = ((min 3 xs.length : Nat) : Int) := by split <;> omega
    have ln : iLen [.ref r] (S ++ [SO.lst []] ++ (SO.lst (bL (xs.map f)) :: T)) = some (.int xs.length, S ++ [SO.lst []] ++ (SO.lst (bL (xs.map f)) :: T)) := len_ref (get_old hr1)
    simp only [ev_if, ev_notT, ev_tru, ev_fn, ev_cons, ev_nil, e, bind_ok, al, ofO_some, tru_bl, oSome_some, st_ok, Bool.not_true, if_neg Bool.false_ne_true, ev_sNil, go_nx]
    have i0 : iIx (.tup [.ref r, back]) (.int 0) (S ++ [SO.lst []] ++ (SO.lst (bL (xs.map f)) :: T)) = some (.ref r, S ++ [SO.lst []] ++ (SO.lst (bL (xs.map f)) :: T)) := rfl
    have i1 : iIx (.tup [.ref r, back]) (.int 1) (S ++ [SO.lst []] ++ (SO.lst (bL (xs.map f)) :: T)) = some (back, S ++ [SO.lst []] ++ (SO.lst (bL (xs.map f)) :: T)) := rfl
    simp only [ev_ret, ev_call, ev_cons, ev_nil, ev_bin, ev_var, ev_c, ev_fn, List.getElem?_cons_zero, slotV_some, bind_ok, i0, i1, ofO_some, ln, min_ii, hm, am, st_ok, fin_ret, Bool.true_and]
theorem isRoll_good {S : Sto} {v : IV} {ps : List Part} {k : Nat} (h : RollAt S v ps k) (g : ∀ p ∈ ps, p.good) (hn : ps ≠ []) (hl : ps.length ≤ 1000) (hk : k ≤ min 3 ps.length) : ∃ T, F_is_roll [v] S = .ok (.bl true) (S ++ T) := by
  obtain ⟨r, vs, e, hr, q⟩ := h
  subst e
  have len := q.len
  obtain ⟨T, e⟩ := isRoll_run (back := .int k) (f := fun _ => true) hr (fun z => hn (by subst z; cases q; rfl)) (by omega) typed_int (fun x hx T => by
    obtain ⟨p, hp, h⟩ := q.mem x hx
    exact isPart_good h.app (g p hp))
  refine ⟨T, ?_⟩
  rw [e, len]
  have e1 : (vs.all fun _ => true) = true := by rw [List.all_eq_true]; intro _ _; rfl
  have e2 : amongB (.int k) (min 3 ps.length : Nat) = true := by
    unfold amongB
    simp only [Bool.and_eq_true, decide_eq_true_eq]
    omega
  rw [e1, e2]; rfl
/-! what is otherwise -/
theorem at_mod {xs : List IV} {z m : Int} {n : Nat} (h : xs.length = n) (hn : 0 < n) (hm : m = n) : ∃ x, L2.atI xs (z % m) = some x ∧ x ∈ xs := by
  subst hm
  have h0 := Int.emod_nonneg z (by omega : (n : Int) ≠ 0)
  have h1 := Int.emod_lt_of_pos z (by omega : (0 : Int) < n)
  have e : z % n = ((z % n).toNat : Int) := by omega
  have hk : (z % n).toNat < xs.length := by omega
  rw [e, at_nat]
  exact ⟨xs[(z % n).toNat], List.getElem?_eq_getElem hk, List.getElem_mem hk⟩
theorem at_in {xs : List IV} {z : Int} (h0 : 0 ≤ z) (h1 : z < xs.length) : ∃ x, L2.atI xs z = some x ∧ x ∈ xs := by
  have e : z = (z.toNat : Int) := by omega
  have hk : z.toNat < xs.length := by omega
  rw [e, at_nat]
  exact ⟨xs[z.toNat], List.getElem?_eq_getElem hk, List.getElem_mem hk⟩
def odds (n : Nat) : List IV := [.int (-1), .bl true, .non, .str "1", .ref n, .tup [.int 0], .bl false, .ref (n + 1)]
def O1 (n : Nat) : Sto := [.lst [.int 0], .dct [], .lst (odds n)]
section
variable {S : Sto} {r k : Nat} {vs : List IV} {c at' : Int} {x y6 y7 : Option IV} {w : IV}
abbrev sl3 (r k : Nat) (c : Int) (x y6 y7 : Option IV) (at' : Int) : Slo := [some (.tup [.ref r, .int k]), some (.int c), some (.ref r), some (.int k), some (.int at'), x, y6, y7]
theorem ow_3 : ∃ w, sAsg (.nm 5) (mBin iIx (mLst (mCons (mUn iNeg (mC (.int 1))) (mCons (mC (.bl true)) (mCons (mC .non) (mCons (mC (.str "1")) (mCons (mLst (mCons (mC (.int 0)) mNil)) (mCons (mTup (mCons (mC (.int 0)) mNil)) (mCons (mC (.bl false)) (mCons mDisp0 mNil))))))))) (mBin iMod (mBin iFdiv (mVar 1) (mC (.int 300))) (mC (.int 8)))) (sl3 r k c none none none at') S = .nx (sl3 r k c (some w) none none at') (S ++ O1 S.length) ∧ w ∈ odds S.length := by
  obtain ⟨w, hx, hm⟩ := at_mod (xs := odds S.length) (z := c / 300) (m := 8) (n := 8) rfl (by decide) rfl
  refine ⟨w, ?_, hm⟩
  have ix : iIx (.ref (S.length + 2)) (.int (c / 300 % 8)) (S ++ O1 S.length) = some (w, S ++ O1 S.length) := by
    rw [ix_ref (xs := odds S.length) (by rw [get_app1]; rfl), hx]; rfl
  have e : mLst (mCons (mUn iNeg (mC (.int 1))) (mCons (mC (.bl true)) (mCons (mC .non) (mCons (mC (.str "1")) (mCons (mLst (mCons (mC (.int 0)) mNil)) (mCons (mTup (mCons (mC (.int 0)) mNil)) (mCons (mC (.bl false)) (mCons mDisp0 mNil)))))))) (sl3 r k c none none none at') S = .ok (.ref (S.length + 2)) (S ++ O1 S.length) := by
    simp [ev_var, ev_c, ev_bin, ev_un, ev_B, ev_tru, ev_andT, ev_orT, ev_notT, ev_and, ev_or, ev_not, ev_mif, ev_chain, ev_nil, ev_cons, ev_tup, ev_lst, ev_fn, ev_mt, ev_pNone, ev_pSome, ev_sl, ev_call, ev_disp0, ev_sNil, ev_seq, ev_expr, ev_ret, ev_retN, ev_brk, ev_cnt, ev_if, ev_asg, ev_put, ev_fun, fin_nx, fin_ret, bind_ok, ofO_some, go_nx, go_ret, st_ok, oSome_some, oSomeS_some, slotV_some, asB_bl, blV_bl, tgI_nm, tgI_tup, tgI_0, tgI_1, add_ii, sub_ii, mul_ii, div_ii, mod_ii, neg_i, lt_ii, le_ii, gt_ii, ge_ii, eq_e, ne_e, eq_ii, eq_ss, is_e, isnot_e, is_bb, is_nn, is_in, is_sn, is_rn, is_tn, is_qn, IP.ix_tup, ix_sq, seq_sq, len_tup, len_sq, ofString_inj, startI, L2.atI, L2.ixN, asInt, seq_r, lstO_l, lstO_d, lstP_l, dctO_l, dctO_d, tyO_l, tyO_d, dct_r, dct_q, lst_r, ty_non, ty_bl, ty_int, ty_str, ty_tup, ty_sq, ty_ty, ty_fn, ty_r, tyB_l, tyB_d, isTy_str, isTy_sq, isTy_r, ix_r, len_r, add_qq, add_qr, add_rq, add_rr, mul_q, mul_r, sl_q, sl_r, append_r, extend_r, clear_r, list_q, list_r, list_t, tuple_q, tuple_r, isinst_1, isSub, tyNames, min_ii, max_ii, abs_i, int_i, int_b, tru_bl, tru_q, tru_non, tru_int, tru_tup, ev_iVal, itV_q, itV_t, itV_s, ev_rg1, rg1_i, ev_rg2, rg2_i, List.getElem?_cons_zero, List.getElem?_cons_succ, ite_le, ite_lt, get_app, get_app1, set_app, set_app1, List.set_cons_zero, List.set_cons_succ, all_v, any_v, sum_v, asB_bL, asI_iL, ev_disp0, O1, odds]
  have md : iMod (.int (c / 300)) (.int 8) (S ++ O1 S.length) = some (.int (c / 300 % 8), S ++ O1 S.length) := by simp [mod_ii]
  have dv : iFdiv (.int c) (.int 300) (S ++ O1 S.length) = some (.int (c / 300), S ++ O1 S.length) := by simp [div_ii]
  simp only [ev_asg, ev_bin, e, bind_ok, ev_var, ev_c, List.getElem?_cons_zero, List.getElem?_cons_succ, slotV_some, dv, md, ix, ofO_some, st_ok, tgI_nm, oSomeS_some, List.set_cons_zero, List.set_cons_succ]
def L1 (n r k : Nat) (vs : List IV) : List IV := [.ref (n + 3), .tup [.ref r], .tup [.ref r, .int k, .int 0], .tup [.tup vs, .int k], .tup [.ref (n + 4), .int 0], .tup [.ref r, .int 4], .tup [.ref r, .int (-1)]]
def O2 (n r k : Nat) (vs : List IV) : Sto := [.lst [.ref r, .int k], .lst [], .lst (L1 n r k vs)]
theorem ow_4 (hr : S[r]? = some (.lst vs)) : sAsg (.nm 6) (mLst (mCons (mLst (mCons (mVar 2) (mCons (mVar 3) mNil))) (mCons (mTup (mCons (mVar 2) mNil)) (mCons (mTup (mCons (mVar 2) (mCons (mVar 3) (mCons (mC (.int 0)) mNil)))) (mCons (mTup (mCons (mFn iTuple (mCons (mVar 2) mNil)) (mCons (mVar 3) mNil))) (mCons (mTup (mCons (mLst mNil) (mCons (mC (.int 0)) mNil))) (mCons (mTup (mCons (mVar 2) (mCons (mC (.int 4)) mNil))) (mCons (mTup (mCons (mVar 2) (mCons (mUn iNeg (mC (.int 1))) mNil))) mNil)))))))) (sl3 r k c (some w) none none at') (S ++ O1 S.length) = .nx (sl3 r k c (some w) (some (.ref (S.length + 5))) none at') (S ++ (O1 S.length ++ O2 S.length r k vs)) := by
  have hold : ∀ T : Sto, (S ++ T)[r]? = some (.lst vs) := fun T => get_old hr
  simp [ev_var, ev_c, ev_bin, ev_un, ev_B, ev_tru, ev_andT, ev_orT, ev_notT, ev_and, ev_or, ev_not, ev_mif, ev_chain, ev_nil, ev_cons, ev_tup, ev_lst, ev_fn, ev_mt, ev_pNone, ev_pSome, ev_sl, ev_call, ev_disp0, ev_sNil, ev_seq, ev_expr, ev_ret, ev_retN, ev_brk, ev_cnt, ev_if, ev_asg, ev_put, ev_fun, fin_nx, fin_ret, bind_ok, ofO_some, go_nx, go_ret, st_ok, oSome_some, oSomeS_some, slotV_some, asB_bl, blV_bl, tgI_nm, tgI_tup, tgI_0, tgI_1, add_ii, sub_ii, mul_ii, div_ii, mod_ii, neg_i, lt_ii, le_ii, gt_ii, ge_ii, eq_e, ne_e, eq_ii, eq_ss, is_e, isnot_e, is_bb, is_nn, is_in, is_sn, is_rn, is_tn, is_qn, IP.ix_tup, ix_sq, seq_sq, len_tup, len_sq, ofString_inj, startI, L2.atI, L2.ixN, asInt, seq_r, lstO_l, lstO_d, lstP_l, dctO_l, dctO_d, tyO_l, tyO_d, dct_r, dct_q, lst_r, ty_non, ty_bl, ty_int, ty_str, ty_tup, ty_sq, ty_ty, ty_fn, ty_r, tyB_l, tyB_d, isTy_str, isTy_sq, isTy_r, ix_r, len_r, add_qq, add_qr, add_rq, add_rr, mul_q, mul_r, sl_q, sl_r, append_r, extend_r, clear_r, list_q, list_r, list_t, tuple_q, tuple_r, isinst_1, isSub, tyNames, min_ii, max_ii, abs_i, int_i, int_b, tru_bl, tru_q, tru_non, tru_int, tru_tup, ev_iVal, itV_q, itV_t, itV_s, ev_rg1, rg1_i, ev_rg2, rg2_i, List.getElem?_cons_zero, List.getElem?_cons_succ, ite_le, ite_lt, get_app, get_app1, set_app, set_app1, List.set_cons_zero, List.set_cons_succ, all_v, any_v, sum_v, asB_bL, asI_iL, O1, O2, L1, hold]
def L2 (n r : Nat) (vs : List IV) : List IV := [.tup [.ref r, .bl true], .tup [.ref r, .non], .tup [.ref r, .int (vs.length + 1)], .non, .int 5, .str "roll", .ref (n + 6), .tup [], .ref (n + 7), .tup [.non, .int 0]]
def O3 (n r k : Nat) (vs : List IV) : Sto := [.lst [], .dct [], .lst (L2 n r vs), .lst (L1 n r k vs ++ L2 n r vs)]
theorem ow_5 (hr : S[r]? = some (.lst vs)) : sAsg (.nm 6) (mBin iAdd (mVar 6) (mLst (mCons (mTup (mCons (mVar 2) (mCons (mC (.bl true)) mNil))) (mCons (mTup (mCons (mVar 2) (mCons (mC .non) mNil))) (mCons (mTup (mCons (mVar 2) (mCons (mBin iAdd (mFn iLen (mCons (mVar 2) mNil)) (mC (.int 1))) mNil))) (mCons (mC .non) (mCons (mC (.int 5)) (mCons (mC (.str "roll")) (mCons (mLst mNil) (mCons (mTup mNil) (mCons mDisp0 (mCons (mTup (mCons (mC .non) (mCons (mC (.int 0)) mNil))) mNil)))))))))))) (sl3 r k c (some w) (some (.ref (S.length + 5))) none at') (S ++ (O1 S.length ++ O2 S.length r k vs)) =
    .nx (sl3 r k c (some w) (some (.ref (S.length + 9))) none at') (S ++ (O1 S.length ++ O2 S.length r k vs ++ O3 S.length r k vs)) := by
  have hold : ∀ T : Sto, (S ++ T)[r]? = some (.lst vs) := fun T => get_old hr
  simp [ev_var, ev_c, ev_bin, ev_un, ev_B, ev_tru, ev_andT, ev_orT, ev_notT, ev_and, ev_or, ev_not, ev_mif, ev_chain, ev_nil, ev_cons, ev_tup, ev_lst, ev_fn, ev_mt, ev_pNone, ev_pSome, ev_sl, ev_call, ev_disp0, ev_sNil, ev_seq, ev_expr, ev_ret, ev_retN, ev_brk, ev_cnt, ev_if, ev_asg, ev_put, ev_fun, fin_nx, fin_ret, bind_ok, ofO_some, go_nx, go_ret, st_ok, oSome_some, oSomeS_some, slotV_some, asB_bl, blV_bl, tgI_nm, tgI_tup, tgI_0, tgI_1, add_ii, sub_ii, mul_ii, div_ii, mod_ii, neg_i, lt_ii, le_ii, gt_ii, ge_ii, eq_e, ne_e, eq_ii, eq_ss, is_e, isnot_e, is_bb, is_nn, is_in, is_sn, is_rn, is_tn, is_qn, IP.ix_tup, ix_sq, seq_sq, len_tup, len_sq, ofString_inj, startI, L2.atI, L2.ixN, asInt, seq_r, lstO_l, lstO_d, lstP_l, dctO_l, dctO_d, tyO_l, tyO_d, dct_r, dct_q, lst_r, ty_non, ty_bl, ty_int, ty_str, ty_tup, ty_sq, ty_ty, ty_fn, ty_r, tyB_l, tyB_d, isTy_str, isTy_sq, isTy_r, ix_r, len_r, add_qq, add_qr, add_rq, add_rr, mul_q, mul_r, sl_q, sl_r, append_r, extend_r, clear_r, list_q, list_r, list_t, tuple_q, tuple_r, isinst_1, isSub, tyNames, min_ii, max_ii, abs_i, int_i, int_b, tru_bl, tru_q, tru_non, tru_int, tru_tup, ev_iVal, itV_q, itV_t, itV_s, ev_rg1, rg1_i, ev_rg2, rg2_i, List.getElem?_cons_zero, List.getElem?_cons_succ, ite_le, ite_lt, get_app, get_app1, set_app, set_app1, List.set_cons_zero, List.set_cons_succ, all_v, any_v, sum_v, asB_bL, asI_iL, ev_disp0, O1, O2, O3, L1, L2, hold]
def M1 (n : Nat) (w : IV) : List IV := [.tup [.str "bar", w], .tup [.str "bar"], .tup [.str "bar", .int 0, .int 0], .tup [.str "twice", .ref (n + 10)], .tup [.str "twice", .ref (n + 12)], .tup [.str "twice", .ref (n + 13)]]
def O4 (n : Nat) (w : IV) : Sto := [.lst [], .lst [.int 0], .lst [.int 0, .int 0, .int 0, .int 0, .int 0], .lst [.int 0, w], .lst (M1 n w)]
theorem ow_7 {P : Sto} {n : Nat} (hP : P.length = n + 10) : sAsg (.nm 7) (mLst (mCons (mTup (mCons (mC (.str "bar")) (mCons (mVar 5) mNil))) (mCons (mTup (mCons (mC (.str "bar")) mNil)) (mCons (mTup (mCons (mC (.str "bar")) (mCons (mC (.int 0)) (mCons (mC (.int 0)) mNil)))) (mCons (mTup (mCons (mC (.str "twice")) (mCons (mLst mNil) mNil))) (mCons (mTup (mCons (mC (.str "twice")) (mCons (mBin iMul (mLst (mCons (mC (.int 0)) mNil)) (mC (.int 5))) mNil))) (mCons (mTup (mCons (mC (.str "twice")) (mCons (mLst (mCons (mC (.int 0)) (mCons (mVar 5) mNil))) mNil))) mNil))))))) (sl3 r k c (some w) y6 none at') P =
    .nx (sl3 r k c (some w) y6 (some (.ref (n + 14))) at') (P ++ O4 n w) := by
  have g : ∀ (T : Sto) (i : Nat), (P ++ T)[n + 10 + i]? = T[i]? := fun T i => by rw [← hP, get_app1]
  have g0 : (P ++ [SO.lst [], SO.lst [IV.int 0]])[n + 10 + 1]? = some (SO.lst [IV.int 0]) := g _ 1
  simp [ev_var, ev_c, ev_bin, ev_un, ev_B, ev_tru, ev_andT, ev_orT, ev_notT, ev_and, ev_or, ev_not, ev_mif, ev_chain, ev_nil, ev_cons, ev_tup, ev_lst, ev_fn, ev_mt, ev_pNone, ev_pSome, ev_sl, ev_call, ev_disp0, ev_sNil, ev_seq, ev_expr, ev_ret, ev_retN, ev_brk, ev_cnt, ev_if, ev_asg, ev_put, ev_fun, fin_nx, fin_ret, bind_ok, ofO_some, go_nx, go_ret, st_ok, oSome_some, oSomeS_some, slotV_some, asB_bl, blV_bl, tgI_nm, tgI_tup, tgI_0, tgI_1, add_ii, sub_ii, mul_ii, div_ii, mod_ii, neg_i, lt_ii, le_ii, gt_ii, ge_ii, eq_e, ne_e, eq_ii, eq_ss, is_e, isnot_e, is_bb, is_nn, is_in, is_sn, is_rn, is_tn, is_qn, IP.ix_tup, ix_sq, seq_sq, len_tup, len_sq, ofString_inj, startI, L2.atI, L2.ixN, asInt, seq_r, lstO_l, lstO_d, lstP_l, dctO_l, dctO_d, tyO_l, tyO_d, dct_r, dct_q, lst_r, ty_non, ty_bl, ty_int, ty_str, ty_tup, ty_sq, ty_ty, ty_fn, ty_r, tyB_l, tyB_d, isTy_str, isTy_sq, isTy_r, ix_r, len_r, add_qq, add_qr, add_rq, add_rr, mul_q, mul_r, sl_q, sl_r, append_r, extend_r, clear_r, list_q, list_r, list_t, tuple_q, tuple_r, isinst_1, isSub, tyNames, min_ii, max_ii, abs_i, int_i, int_b, tru_bl, tru_q, tru_non, tru_int, tru_tup, ev_iVal, itV_q, itV_t, itV_s, ev_rg1, rg1_i, ev_rg2, rg2_i, List.getElem?_cons_zero, List.getElem?_cons_succ, ite_le, ite_lt, get_app, get_app1, set_app, set_app1, List.set_cons_zero, List.set_cons_succ, all_v, any_v, sum_v, asB_bL, asI_iL, O4, M1, hP, g0, List.replicate]
def M2 (n : Nat) : List IV := [.tup [.str "twice", .int 3], .tup [.str "ends", .ref (n + 15), .int 1], .tup [.str "ends", .ref (n + 16), .ref (n + 17), .ref (n + 18)]]
def O5 (n : Nat) (w : IV) : Sto := [.lst [.int 0], .lst [.int 0], .lst [.int 1], .lst [.int 2], .lst (M2 n), .lst (M1 n w ++ M2 n)]
def M3 (n : Nat) (w : IV) : List IV := [.tup [.str "ends", .ref (n + 21), .int 1, .int 2], .tup [.str "ends", .ref (n + 22), w, .int 1], .ref (n + 23)]
def O6 (n : Nat) (w : IV) : Sto := [.lst [], .lst [.int 0], .lst [.str "bar", .int 0], .lst (M3 n w), .lst (M1 n w ++ M2 n ++ M3 n w)]
theorem ow_8 {P : Sto} {n : Nat} (hP : P.length = n + 10) : sAsg (.nm 7) (mBin iAdd (mVar 7) (mLst (mCons (mTup (mCons (mC (.str "twice")) (mCons (mC (.int 3)) mNil))) (mCons (mTup (mCons (mC (.str "ends")) (mCons (mLst (mCons (mC (.int 0)) mNil)) (mCons (mC (.int 1)) mNil)))) (mCons (mTup (mCons (mC (.str "ends")) (mCons (mLst (mCons (mC (.int 0)) mNil)) (mCons (mLst (mCons (mC (.int 1)) mNil)) (mCons (mLst (mCons (mC (.int 2)) mNil)) mNil))))) mNil))))) (sl3 r k c (some w) y6 (some (.ref (n + 14))) at') (P ++ O4 n w) =
    .nx (sl3 r k c (some w) y6 (some (.ref (n + 20))) at') (P ++ (O4 n w ++ O5 n w)) := by
  have g : ∀ (T : Sto) (i : Nat), (P ++ T)[n + (10 + i)]? = T[i]? := fun T i => by rw [← Nat.add_assoc, ← hP, get_app1]
  have g4 : ∀ T : Sto, (P ++ (O4 n w ++ T))[n + 14]? = some (.lst (M1 n w)) := fun T => g _ 4
  have g9 : ∀ T : Sto, (P ++ (O4 n w ++ (.lst [.int 0] :: .lst [.int 0] :: .lst [.int 1] :: .lst [.int 2] :: .lst (M2 n) :: T)))[n + 19]? = some (.lst (M2 n)) := fun T => g _ 9
  have l4 : (O4 n w).length = 5 := rfl
  have l1 : (M1 n w).length = 6 := rfl
  simp only [O5, M2] at g9 ⊢
  simp only [ev_var, ev_c, ev_bin, ev_un, ev_B, ev_tru, ev_andT, ev_orT, ev_notT, ev_and, ev_or, ev_not, ev_mif, ev_chain, ev_nil, ev_cons, ev_tup, ev_lst, ev_fn, ev_mt, ev_pNone, ev_pSome, ev_sl, ev_call, ev_disp0, ev_sNil, ev_seq, ev_expr, ev_ret, ev_retN, ev_brk, ev_cnt, ev_if, ev_asg, ev_put, ev_fun, fin_nx, fin_ret, bind_ok, ofO_some, go_nx, go_ret, st_ok, oSome_some, oSomeS_some, slotV_some, asB_bl, blV_bl, tgI_nm, tgI_tup, tgI_0, tgI_1, add_ii, sub_ii, mul_ii, div_ii, mod_ii, neg_i, lt_ii, le_ii, gt_ii, ge_ii, eq_e, ne_e, eq_ii, eq_ss, is_e, isnot_e, is_bb, is_nn, is_in, is_sn, is_rn, is_tn, is_qn, IP.ix_tup, ix_sq, seq_sq, len_tup, len_sq, ofString_inj, startI, L2.atI, L2.ixN, asInt, seq_r, lstO_l, lstO_d, lstP_l, dctO_l, dctO_d, tyO_l, tyO_d, dct_r, dct_q, lst_r, ty_non, ty_bl, ty_int, ty_str, ty_tup, ty_sq, ty_ty, ty_fn, ty_r, tyB_l, tyB_d, isTy_str, isTy_sq, isTy_r, ix_r, len_r, add_qq, add_qr, add_rq, add_rr, mul_q, mul_r, sl_q, sl_r, append_r, extend_r, clear_r, list_q, list_r, list_t, tuple_q, tuple_r, isinst_1, isSub, tyNames, min_ii, max_ii, abs_i, int_i, int_b, tru_bl, tru_q, tru_non, tru_int, tru_tup, ev_iVal, itV_q, itV_t, itV_s, ev_rg1, rg1_i, ev_rg2, rg2_i, List.getElem?_cons_zero, List.getElem?_cons_succ, ite_le, ite_lt, get_app, get_app1, set_app, set_app1, List.set_cons_zero, List.set_cons_succ, all_v, any_v, sum_v, asB_bL, asI_iL, hP, l4, g4, g9, l1, List.length_append, Nat.add_assoc, List.length_cons, List.length_nil, Nat.reduceAdd, Nat.reduceLeDiff, if_true, List.append_assoc, List.cons_append, List.nil_append, Option.bind_some]
theorem ow_9 {P : Sto} {n : Nat} (hP : P.length = n + 10) : sAsg (.nm 7) (mBin iAdd (mVar 7) (mLst (mCons (mTup (mCons (mC (.str "ends")) (mCons (mLst mNil) (mCons (mC (.int 1)) (mCons (mC (.int 2)) mNil))))) (mCons (mTup (mCons (mC (.str "ends")) (mCons (mLst (mCons (mC (.int 0)) mNil)) (mCons (mVar 5) (mCons (mC (.int 1)) mNil))))) (mCons (mLst (mCons (mC (.str "bar")) (mCons (mC (.int 0)) mNil))) mNil))))) (sl3 r k c (some w) y6 (some (.ref (n + 20))) at') (P ++ (O4 n w ++ O5 n w)) =
    .nx (sl3 r k c (some w) y6 (some (.ref (n + 25))) at') (P ++ (O4 n w ++ O5 n w ++ O6 n w)) := by
  have g : ∀ (T : Sto) (i : Nat), (P ++ T)[n + (10 + i)]? = T[i]? := fun T i => by rw [← Nat.add_assoc, ← hP, get_app1]
  have l4 : (O4 n w).length = 5 := rfl
  have l5 : (O5 n w).length = 6 := rfl
  have ga : ∀ T : Sto, (P ++ (O4 n w ++ (O5 n w ++ T)))[n + 20]? = some (.lst (M1 n w ++ M2 n)) := fun T => g _ 10
  have gb : ∀ T : Sto, (P ++ (O4 n w ++ (O5 n w ++ (.lst [] :: .lst [.int 0] :: .lst [.str "bar", .int 0] :: .lst (M3 n w) :: T))))[n + 24]? = some (.lst (M3 n w)) := fun T => g _ 14
  have l1 : (M1 n w).length = 6 := rfl
  have l2 : (M2 n).length = 3 := rfl
  simp only [O6, M3] at gb ⊢
  simp only [ev_var, ev_c, ev_bin, ev_un, ev_B, ev_tru, ev_andT, ev_orT, ev_notT, ev_and, ev_or, ev_not, ev_mif, ev_chain, ev_nil, ev_cons, ev_tup, ev_lst, ev_fn, ev_mt, ev_pNone, ev_pSome, ev_sl, ev_call, ev_disp0, ev_sNil, ev_seq, ev_expr, ev_ret, ev_retN, ev_brk, ev_cnt, ev_if, ev_asg, ev_put, ev_fun, fin_nx, fin_ret, bind_ok, ofO_some, go_nx, go_ret, st_ok, oSome_some, oSomeS_some, slotV_some, asB_bl, blV_bl, tgI_nm, tgI_tup, tgI_0, tgI_1, add_ii, sub_ii, mul_ii, div_ii, mod_ii, neg_i, lt_ii, le_ii, gt_ii, ge_ii, eq_e, ne_e, eq_ii, eq_ss, is_e, isnot_e, is_bb, is_nn, is_in, is_sn, is_rn, is_tn, is_qn, IP.ix_tup, ix_sq, seq_sq, len_tup, len_sq, ofString_inj, startI, L2.atI, L2.ixN, asInt, seq_r, lstO_l, lstO_d, lstP_l, dctO_l, dctO_d, tyO_l, tyO_d, dct_r, dct_q, lst_r, ty_non, ty_bl, ty_int, ty_str, ty_tup, ty_sq, ty_ty, ty_fn, ty_r, tyB_l, tyB_d, isTy_str, isTy_sq, isTy_r, ix_r, len_r, add_qq, add_qr, add_rq, add_rr, mul_q, mul_r, sl_q, sl_r, append_r, extend_r, clear_r, list_q, list_r, list_t, tuple_q, tuple_r, isinst_1, isSub, tyNames, min_ii, max_ii, abs_i, int_i, int_b, tru_bl, tru_q, tru_non, tru_int, tru_tup, ev_iVal, itV_q, itV_t, itV_s, ev_rg1, rg1_i, ev_rg2, rg2_i, List.getElem?_cons_zero, List.getElem?_cons_succ, ite_le, ite_lt, get_app, get_app1, set_app, set_app1, List.set_cons_zero, List.set_cons_succ, all_v, any_v, sum_v, asB_bL, asI_iL, hP, l4, l5, ga, gb, l1, l2, List.length_append, Nat.add_assoc, List.length_cons, List.length_nil, Nat.reduceAdd, Nat.reduceLeDiff, if_true, List.append_assoc, List.cons_append, List.nil_append, Option.bind_some]
def others (n : Nat) (w : IV) : List IV := M1 n w ++ M2 n ++ M3 n w ++ [.tup [.str "once", .int 3]]
def O7 (n : Nat) (w : IV) : Sto := O4 n w ++ O5 n w ++ [.lst [], .lst [.int 0], .lst [.str "bar", .int 0], .lst (M3 n w), .lst (others n w)]
theorem ow_10 {P : Sto} {n : Nat} (hP : P.length = n + 10) : sExpr (mMt "list" mAppend (mVar 7) (mCons (mTup (mCons (mC (.str "once")) (mCons (mC (.int 3)) mNil))) mNil)) (sl3 r k c (some w) y6 (some (.ref (n + 25))) at') (P ++ (O4 n w ++ O5 n w ++ O6 n w)) =
    .nx (sl3 r k c (some w) y6 (some (.ref (n + 25))) at') (P ++ O7 n w) := by
  have g : ∀ (T : Sto) (i : Nat), (P ++ T)[n + (10 + i)]? = T[i]? := fun T i => by rw [← Nat.add_assoc, ← hP, get_app1]
  have ga : (P ++ (O4 n w ++ O5 n w ++ O6 n w))[n + 25]? = some (.lst (M1 n w ++ M2 n ++ M3 n w)) := g _ 15
  have st : ∀ o, (P ++ (O4 n w ++ O5 n w ++ O6 n w)).set (n + 25) o = P ++ (O4 n w ++ O5 n w ++ O6 n w).set 15 o := fun o => by
    have := set_app1 (S := P) (S1 := O4 n w ++ O5 n w ++ O6 n w) (k := 15) (o := o)
    rw [hP] at this
    exact this
  have l1 : (M1 n w ++ M2 n ++ M3 n w).length = 12 := rfl
  have e7 : (O4 n w ++ O5 n w ++ O6 n w).set 15 (.lst (others n w)) = O7 n w := rfl
  simp only [ev_var, ev_c, ev_bin, ev_un, ev_B, ev_tru, ev_andT, ev_orT, ev_notT, ev_and, ev_or, ev_not, ev_mif, ev_chain, ev_nil, ev_cons, ev_tup, ev_lst, ev_fn, ev_mt, ev_pNone, ev_pSome, ev_sl, ev_call, ev_disp0, ev_sNil, ev_seq, ev_expr, ev_ret, ev_retN, ev_brk, ev_cnt, ev_if, ev_asg, ev_put, ev_fun, fin_nx, fin_ret, bind_ok, ofO_some, go_nx, go_ret, st_ok, oSome_some, oSomeS_some, slotV_some, asB_bl, blV_bl, tgI_nm, tgI_tup, tgI_0, tgI_1, add_ii, sub_ii, mul_ii, div_ii, mod_ii, neg_i, lt_ii, le_ii, gt_ii, ge_ii, eq_e, ne_e, eq_ii, eq_ss, is_e, isnot_e, is_bb, is_nn, is_in, is_sn, is_rn, is_tn, is_qn, IP.ix_tup, ix_sq, seq_sq, len_tup, len_sq, ofString_inj, startI, L2.atI, L2.ixN, asInt, seq_r, lstO_l, lstO_d, lstP_l, dctO_l, dctO_d, tyO_l, tyO_d, dct_r, dct_q, lst_r, ty_non, ty_bl, ty_int, ty_str, ty_tup, ty_sq, ty_ty, ty_fn, ty_r, tyB_l, tyB_d, isTy_str, isTy_sq, isTy_r, ix_r, len_r, add_qq, add_qr, add_rq, add_rr, mul_q, mul_r, sl_q, sl_r, append_r, extend_r, clear_r, list_q, list_r, list_t, tuple_q, tuple_r, isinst_1, isSub, tyNames, min_ii, max_ii, abs_i, int_i, int_b, tru_bl, tru_q, tru_non, tru_int, tru_tup, ev_iVal, itV_q, itV_t, itV_s, ev_rg1, rg1_i, ev_rg2, rg2_i, List.getElem?_cons_zero, List.getElem?_cons_succ, ite_le, ite_lt, get_app, get_app1, set_app, set_app1, List.set_cons_zero, List.set_cons_succ, all_v, any_v, sum_v, asB_bL, asI_iL, ga, l1, Option.bind_some, st, Nat.reduceLT, if_true, List.length_cons, List.length_nil, Nat.reduceAdd, Nat.reduceLeDiff, beq_self_eq_true]
  show RS.nx _ (P ++ List.set (O4 n w ++ O5 n w ++ O6 n w) 15 (.lst (others n w))) = _
  rw [e7]
/-- one of the whole ones -/
theorem ow_a (hr : S[r]? = some (.lst vs)) (hl : vs.length ≤ 1000) (h0 : 0 < vs.length) (hc : c % 30 < 17) : ∃ w v, F_l_otherwise [.tup [.ref r, .int k], .int c] S = .ok v (S ++ (O1 S.length ++ O2 S.length r k vs ++ O3 S.length r k vs)) ∧ v ∈ L1 S.length r k vs ++ L2 S.length r vs ∧ w ∈ odds S.length := by
  obtain ⟨w, e3, hw⟩ := ow_3 (S := S) (r := r) (k := k) (c := c) (at' := c / 30 % vs.length)
  have h1 : (0 : Int) < vs.length := by omega
  have ss : startI N_l_otherwise [.tup [.ref r, .int k], .int c] = [some (.tup [.ref r, .int k]), some (.int c), none, none, none, none, none, none] := rfl
  have e1 : sAsg (.tu [.nm 2, .nm 3]) (mVar 0) [some (.tup [.ref r, .int k]), some (.int c), none, none, none, none, none, none] S = .nx [some (.tup [.ref r, .int k]), some (.int c), some (.ref r), some (.int k), none, none, none, none] S := by
    simp [ev_var, ev_c, ev_bin, ev_un, ev_B, ev_tru, ev_andT, ev_orT, ev_notT, ev_and, ev_or, ev_not, ev_mif, ev_chain, ev_nil, ev_cons, ev_tup, ev_lst, ev_fn, ev_mt, ev_pNone, ev_pSome, ev_sl, ev_call, ev_disp0, ev_sNil, ev_seq, ev_expr, ev_ret, ev_retN, ev_brk, ev_cnt, ev_if, ev_asg, ev_put, ev_fun, fin_nx, fin_ret, bind_ok, ofO_some, go_nx, go_ret, st_ok, oSome_some, oSomeS_some, slotV_some, asB_bl, blV_bl, tgI_nm, tgI_tup, tgI_0, tgI_1, add_ii, sub_ii, mul_ii, div_ii, mod_ii, neg_i, lt_ii, le_ii, gt_ii, ge_ii, eq_e, ne_e, eq_ii, eq_ss, is_e, isnot_e, is_bb, is_nn, is_in, is_sn, is_rn, is_tn, is_qn, IP.ix_tup, ix_sq, seq_sq, len_tup, len_sq, ofString_inj, startI, L2.atI, L2.ixN, asInt, seq_r, lstO_l, lstO_d, lstP_l, dctO_l, dctO_d, tyO_l, tyO_d, dct_r, dct_q, lst_r, ty_non, ty_bl, ty_int, ty_str, ty_tup, ty_sq, ty_ty, ty_fn, ty_r, tyB_l, tyB_d, isTy_str, isTy_sq, isTy_r, ix_r, len_r, add_qq, add_qr, add_rq, add_rr, mul_q, mul_r, sl_q, sl_r, append_r, extend_r, clear_r, list_q, list_r, list_t, tuple_q, tuple_r, isinst_1, isSub, tyNames, min_ii, max_ii, abs_i, int_i, int_b, tru_bl, tru_q, tru_non, tru_int, tru_tup, ev_iVal, itV_q, itV_t, itV_s, ev_rg1, rg1_i, ev_rg2, rg2_i, List.getElem?_cons_zero, List.getElem?_cons_succ, ite_le, ite_lt, get_app, get_app1, set_app, set_app1, List.set_cons_zero, List.set_cons_succ, all_v, any_v, sum_v, asB_bL, asI_iL]
  have e2 : sAsg (.nm 4) (mBin iMod (mBin iFdiv (mVar 1) (mC (.int 30))) (mFn iLen (mCons (mVar 2) mNil))) [some (.tup [.ref r, .int k]), some (.int c), some (.ref r), some (.int k), none, none, none, none] S = .nx (sl3 r k c none none none (c / 30 % vs.length)) S := by
    simp [ev_var, ev_c, ev_bin, ev_un, ev_B, ev_tru, ev_andT, ev_orT, ev_notT, ev_and, ev_or, ev_not, ev_mif, ev_chain, ev_nil, ev_cons, ev_tup, ev_lst, ev_fn, ev_mt, ev_pNone, ev_pSome, ev_sl, ev_call, ev_disp0, ev_sNil, ev_seq, ev_expr, ev_ret, ev_retN, ev_brk, ev_cnt, ev_if, ev_asg, ev_put, ev_fun, fin_nx, fin_ret, bind_ok, ofO_some, go_nx, go_ret, st_ok, oSome_some, oSomeS_some, slotV_some, asB_bl, blV_bl, tgI_nm, tgI_tup, tgI_0, tgI_1, add_ii, sub_ii, mul_ii, div_ii, mod_ii, neg_i, lt_ii, le_ii, gt_ii, ge_ii, eq_e, ne_e, eq_ii, eq_ss, is_e, isnot_e, is_bb, is_nn, is_in, is_sn, is_rn, is_tn, is_qn, IP.ix_tup, ix_sq, seq_sq, len_tup, len_sq, ofString_inj, startI, L2.atI, L2.ixN, asInt, seq_r, lstO_l, lstO_d, lstP_l, dctO_l, dctO_d, tyO_l, tyO_d, dct_r, dct_q, lst_r, ty_non, ty_bl, ty_int, ty_str, ty_tup, ty_sq, ty_ty, ty_fn, ty_r, tyB_l, tyB_d, isTy_str, isTy_sq, isTy_r, ix_r, len_r, add_qq, add_qr, add_rq, add_rr, mul_q, mul_r, sl_q, sl_r, append_r, extend_r, clear_r, list_q, list_r, list_t, tuple_q, tuple_r, isinst_1, isSub, tyNames, min_ii, max_ii, abs_i, int_i, int_b, tru_bl, tru_q, tru_non, tru_int, tru_tup, ev_iVal, itV_q, itV_t, itV_s, ev_rg1, rg1_i, ev_rg2, rg2_i, List.getElem?_cons_zero, List.getElem?_cons_succ, ite_le, ite_lt, get_app, get_app1, set_app, set_app1, List.set_cons_zero, List.set_cons_succ, all_v, any_v, sum_v, asB_bL, asI_iL, hr, h0]
  obtain ⟨v, hv, hm⟩ := at_in (xs := L1 S.length r k vs ++ L2 S.length r vs) (z := c % 30) (Int.emod_nonneg _ (by decide)) (by show c % 30 < 17; exact hc)
  refine ⟨w, v, ?_, hm, hw⟩
  have ix : iIx (.ref (S.length + 9)) (.int (c % 30)) (S ++ (O1 S.length ++ O2 S.length r k vs ++ O3 S.length r k vs)) = some (v, S ++ (O1 S.length ++ O2 S.length r k vs ++ O3 S.length r k vs)) := by
    rw [ix_ref (xs := L1 S.length r k vs ++ L2 S.length r vs) (by rw [get_app1]; rfl), hv]; rfl
  have md : ∀ T : Sto, iMod (.int c) (.int 30) T = some (.int (c % 30), T) := fun T => by simp [mod_ii]
  rw [F_l_otherwise, ev_fun, ss, b_l_otherwise]
  simp only [ev_seq, e1, go_nx, e2, e3, ow_4 hr, ow_5 hr]
  simp only [ev_if, ev_B, ev_bin, ev_var, ev_c, List.getElem?_cons_zero, List.getElem?_cons_succ, slotV_some, bind_ok, md, ofO_some, lt_ii, asB_bl, st_ok, decide_eq_true hc, if_true, ev_ret, ix, go_ret, fin_ret]
theorem ow_b (hr : S[r]? = some (.lst vs)) (hl : vs.length ≤ 1000) (h0 : 0 < vs.length) (hc : 17 ≤ c % 30) : ∃ w v T a, F_l_otherwise [.tup [.ref r, .int k], .int c] S = .ok (.tup [.ref (S.length + 30), .int k]) (S ++ (O1 S.length ++ O2 S.length r k vs ++ O3 S.length r k vs ++ O7 S.length w) ++ T) ∧
    (S ++ (O1 S.length ++ O2 S.length r k vs ++ O3 S.length r k vs ++ O7 S.length w) ++ T)[S.length + 30]? = some (.lst (vs.take a ++ [v] ++ vs.drop (a + 1))) ∧ v ∈ others S.length w ∧ w ∈ odds S.length := by
  obtain ⟨w, e3, hw⟩ := ow_3 (S := S) (r := r) (k := k) (c := c) (at' := c / 30 % vs.length)
  have h1 : (0 : Int) < vs.length := by omega
  have ss : startI N_l_otherwise [.tup [.ref r, .int k], .int c] = [some (.tup [.ref r, .int k]), some (.int c), none, none, none, none, none, none] := rfl
  have e1 : sAsg (.tu [.nm 2, .nm 3]) (mVar 0) [some (.tup [.ref r, .int k]), some (.int c), none, none, none, none, none, none] S = .nx [some (.tup [.ref r, .int k]), some (.int c), some (.ref r), some (.int k), none, none, none, none] S := by
    simp [ev_var, ev_c, ev_bin, ev_un, ev_B, ev_tru, ev_andT, ev_orT, ev_notT, ev_and, ev_or, ev_not, ev_mif, ev_chain, ev_nil, ev_cons, ev_tup, ev_lst, ev_fn, ev_mt, ev_pNone, ev_pSome, ev_sl, ev_call, ev_disp0, ev_sNil, ev_seq, ev_expr, ev_ret, ev_retN, ev_brk, ev_cnt, ev_if, ev_asg, ev_put, ev_fun, fin_nx, fin_ret, bind_ok, ofO_some, go_nx, go_ret, st_ok, oSome_some, oSomeS_some, slotV_some, asB_bl, blV_bl, tgI_nm, tgI_tup, tgI_0, tgI_1, add_ii, sub_ii, mul_ii, div_ii, mod_ii, neg_i, lt_ii, le_ii, gt_ii, ge_ii, eq_e, ne_e, eq_ii, eq_ss, is_e, isnot_e, is_bb, is_nn, is_in, is_sn, is_rn, is_tn, is_qn, IP.ix_tup, ix_sq, seq_sq, len_tup, len_sq, ofString_inj, startI, L2.atI, L2.ixN, asInt, seq_r, lstO_l, lstO_d, lstP_l, dctO_l, dctO_d, tyO_l, tyO_d, dct_r, dct_q, lst_r, ty_non, ty_bl, ty_int, ty_str, ty_tup, ty_sq, ty_ty, ty_fn, ty_r, tyB_l, tyB_d, isTy_str, isTy_sq, isTy_r, ix_r, len_r, add_qq, add_qr, add_rq, add_rr, mul_q, mul_r, sl_q, sl_r, append_r, extend_r, clear_r, list_q, list_r, list_t, tuple_q, tuple_r, isinst_1, isSub, tyNames, min_ii, max_ii, abs_i, int_i, int_b, tru_bl, tru_q, tru_non, tru_int, tru_tup, ev_iVal, itV_q, itV_t, itV_s, ev_rg1, rg1_i, ev_rg2, rg2_i, List.getElem?_cons_zero, List.getElem?_cons_succ, ite_le, ite_lt, get_app, get_app1, set_app, set_app1, List.set_cons_zero, List.set_cons_succ, all_v, any_v, sum_v, asB_bL, asI_iL]
  have e2 : sAsg (.nm 4) (mBin iMod (mBin iFdiv (mVar 1) (mC (.int 30))) (mFn iLen (mCons (mVar 2) mNil))) [some (.tup [.ref r, .int k]), some (.int c), some (.ref r), some (.int k), none, none, none, none] S = .nx (sl3 r k c none none none (c / 30 % vs.length)) S := by
    simp [ev_var, ev_c, ev_bin, ev_un, ev_B, ev_tru, ev_andT, ev_orT, ev_notT, ev_and, ev_or, ev_not, ev_mif, ev_chain, ev_nil, ev_cons, ev_tup, ev_lst, ev_fn, ev_mt, ev_pNone, ev_pSome, ev_sl, ev_call, ev_disp0, ev_sNil, ev_seq, ev_expr, ev_ret, ev_retN, ev_brk, ev_cnt, ev_if, ev_asg, ev_put, ev_fun, fin_nx, fin_ret, bind_ok, ofO_some, go_nx, go_ret, st_ok, oSome_some, oSomeS_some, slotV_some, asB_bl, blV_bl, tgI_nm, tgI_tup, tgI_0, tgI_1, add_ii, sub_ii, mul_ii, div_ii, mod_ii, neg_i, lt_ii, le_ii, gt_ii, ge_ii, eq_e, ne_e, eq_ii, eq_ss, is_e, isnot_e, is_bb, is_nn, is_in, is_sn, is_rn, is_tn, is_qn, IP.ix_tup, ix_sq, seq_sq, len_tup, len_sq, ofString_inj, startI, L2.atI, L2.ixN, asInt, seq_r, lstO_l, lstO_d, lstP_l, dctO_l, dctO_d, tyO_l, tyO_d, dct_r, dct_q, lst_r, ty_non, ty_bl, ty_int, ty_str, ty_tup, ty_sq, ty_ty, ty_fn, ty_r, tyB_l, tyB_d, isTy_str, isTy_sq, isTy_r, ix_r, len_r, add_qq, add_qr, add_rq, add_rr, mul_q, mul_r, sl_q, sl_r, append_r, extend_r, clear_r, list_q, list_r, list_t, tuple_q, tuple_r, isinst_1, isSub, tyNames, min_ii, max_ii, abs_i, int_i, int_b, tru_bl, tru_q, tru_non, tru_int, tru_tup, ev_iVal, itV_q, itV_t, itV_s, ev_rg1, rg1_i, ev_rg2, rg2_i, List.getElem?_cons_zero, List.getElem?_cons_succ, ite_le, ite_lt, get_app, get_app1, set_app, set_app1, List.set_cons_zero, List.set_cons_succ, all_v, any_v, sum_v, asB_bL, asI_iL, hr, h0]
  have hlt := Int.emod_lt_of_pos c (by decide : (0 : Int) < 30)
  obtain ⟨v, hv, hm⟩ := at_in (xs := others S.length w) (z := c % 30 - 17) (by omega) (by show c % 30 - 17 < 13; omega)
  obtain ⟨a, ha⟩ : ∃ a : Nat, c / 30 % vs.length = a := ⟨(c / 30 % vs.length).toNat, by have := Int.emod_nonneg (c / 30) (by omega : (vs.length : Int) ≠ 0); omega⟩
  generalize hP : O1 S.length ++ O2 S.length r k vs ++ O3 S.length r k vs = P10
  have lP : (S ++ P10).length = S.length + 10 := by rw [List.length_append, ← hP]; rfl
  refine ⟨w, v, [.lst (vs.take a), .lst [v], .lst (vs.take a ++ [v]), .lst (vs.drop (a + 1)), .lst (vs.take a ++ [v] ++ vs.drop (a + 1))], a, ?_, ?_, hm, hw⟩
  · have md : ∀ T : Sto, iMod (.int c) (.int 30) T = some (.int (c % 30), T) := fun T => by simp [mod_ii]
    have nc : ¬ c % 30 < 17 := by omega
    rw [F_l_otherwise, ev_fun, ss, b_l_otherwise]
    simp only [ev_seq, e1, go_nx, e2, e3, ow_4 hr, ow_5 hr]
    simp only [hP]
    have c6 : sIf (mB (mBin iLt (mBin iMod (mVar 1) (mC (.int 30))) (mC (.int 17)))) (sRet (mBin iIx (mVar 6) (mBin iMod (mVar 1) (mC (.int 30))))) sNil (sl3 r k c (some w) (some (.ref (S.length + 9))) none (c / 30 % vs.length)) (S ++ P10) = .nx (sl3 r k c (some w) (some (.ref (S.length + 9))) none (c / 30 % vs.length)) (S ++ P10) := by
      simp only [ev_if, ev_B, ev_bin, ev_var, ev_c, List.getElem?_cons_zero, List.getElem?_cons_succ, slotV_some, bind_ok, md, ofO_some, lt_ii, asB_bl, st_ok, decide_eq_false nc, if_neg Bool.false_ne_true, ev_sNil]
    simp only [ev_seq, c6, go_nx, ow_7 lP, ow_8 lP, ow_9 lP, ow_10 lP]
    rw [show S ++ (P10 ++ O7 S.length w) ++ [SO.lst (vs.take a), .lst [v], .lst (vs.take a ++ [v]), .lst (vs.drop (a + 1)), .lst (vs.take a ++ [v] ++ vs.drop (a + 1))] = S ++ P10 ++ O7 S.length w ++ [SO.lst (vs.take a), .lst [v], .lst (vs.take a ++ [v]), .lst (vs.drop (a + 1)), .lst (vs.take a ++ [v] ++ vs.drop (a + 1))] by simp only [List.append_assoc]]
    have lQ : (S ++ P10 ++ O7 S.length w).length = S.length + 26 := by rw [List.length_append, lP]; rfl
    have h25 : (S ++ P10 ++ O7 S.length w)[S.length + 25]? = some (.lst (others S.length w)) := by
      have := get_app1 (S := S ++ P10) (S1 := O7 S.length w) (k := 15)
      rw [lP] at this
      exact this
    have hrQ : (S ++ P10 ++ O7 S.length w)[r]? = some (.lst vs) := get_old (get_old hr)
    generalize S ++ P10 ++ O7 S.length w = Q at lQ h25 hrQ
    have g : ∀ (T : Sto) (i : Nat), (Q ++ T)[S.length + (26 + i)]? = T[i]? := fun T i => by rw [← Nat.add_assoc, ← lQ, get_app1]
    have r1 : ∀ T : Sto, (Q ++ T)[r]? = some (.lst vs) := fun T => get_old hrQ
    have ix : ∀ T : Sto, iIx (.ref (S.length + 25)) (.int (c % 30 - 17)) (Q ++ T) = some (v, Q ++ T) := fun T => by
      rw [ix_ref (xs := others S.length w) (get_old h25), hv]; rfl
    have g0 : ∀ T : Sto, (Q ++ T)[S.length + 26]? = T[0]? := fun T => g T 0
    have g1 : ∀ T : Sto, (Q ++ T)[S.length + 27]? = T[1]? := fun T => g T 1
    have g2 : ∀ T : Sto, (Q ++ T)[S.length + 28]? = T[2]? := fun T => g T 2
    have g3 : ∀ T : Sto, (Q ++ T)[S.length + 29]? = T[3]? := fun T => g T 3
    have ca : cutI vs none (some (c / 30 % vs.length)) = vs.take a := by rw [ha, cut_hi]
    have cb : cutI vs (some (c / 30 % vs.length + 1)) none = vs.drop (a + 1) := by
      rw [ha]; exact cut_lo (k := a + 1)
    have t1 : (vs.take a).length ≤ 1000 := Nat.le_trans (List.length_take_le' _ _) hl
    have t2 : (vs.drop (a + 1)).length ≤ 1000 := by rw [List.length_drop]; omega
    generalize vs.take a = A at ca t1
    generalize vs.drop (a + 1) = B at cb t2
    have sb : ∀ T : Sto, iSub (.int (c % 30)) (.int 17) T = some (.int (c % 30 - 17), T) := fun T => rfl
    have z0 : iSl (.ref r) none (some (c / 30 % vs.length)) Q = some (.ref (S.length + 26), Q ++ [.lst A]) := by rw [sl_r, hrQ, ← lQ]; simp only [lstO, Option.map_some, ca]
    simp only [ev_ret, ev_tup, ev_cons, ev_nil, ev_bin, ev_sl, ev_pNone, ev_pSome, ev_lst, ev_var, ev_c, List.getElem?_cons_zero, List.getElem?_cons_succ, slotV_some, bind_ok, asInt, oSome_some, z0, ofO_some, md, sb, ix, List.length_cons, List.length_nil, Nat.reduceAdd, Nat.reduceLeDiff, if_true, List.length_append, lQ, List.append_assoc, List.cons_append, List.nil_append, add_rr, g0, g1, g2, g3, lstO_l, Option.bind_some, add_ii, sl_r, r1, Option.map_some, cb, Nat.add_assoc, ite_le (show A.length + 1 ≤ 16777216 by omega), ite_le (show A.length ≤ 16777215 by omega), ite_le (show A.length + (B.length + 1) ≤ 16777216 by omega), ite_le (show A.length + B.length ≤ 16777215 by omega), ite_le (show A.length + (1 + B.length) ≤ 16777216 by omega), st_ok, fin_ret]
  · have := get_app1 (S := S ++ (P10 ++ O7 S.length w)) (S1 := [SO.lst (vs.take a), .lst [v], .lst (vs.take a ++ [v]), .lst (vs.drop (a + 1)), .lst (vs.take a ++ [v] ++ vs.drop (a + 1))]) (k := 4)
    have lQ : (S ++ (P10 ++ O7 S.length w)).length = S.length + 26 := by rw [← List.append_assoc, List.length_append, lP]; rfl
    rw [lQ] at this
    exact this
end
theorem odds_bar {n : Nat} {w : IV} (h : w ∈ odds n) : barB w = false := by
  simp only [odds, List.mem_cons, List.not_mem_nil, or_false] at h
  rcases h with rfl | rfl | rfl | rfl | rfl | rfl | rfl | rfl <;> rfl
theorem odds_typed {S T : Sto} {w : IV} (h : w ∈ odds S.length) : isTyped (S ++ (O1 S.length ++ T)) w := by
  have g0 : (S ++ (O1 S.length ++ T))[S.length]? = some (.lst [.int 0]) := by rw [get_app]; rfl
  have g1 : (S ++ (O1 S.length ++ T))[S.length + 1]? = some (.dct []) := by rw [get_app1]; rfl
  simp only [odds, List.mem_cons, List.not_mem_nil, or_false] at h
  rcases h with rfl | rfl | rfl | rfl | rfl | rfl | rfl | rfl
  · exact ⟨_, rfl⟩
  · exact ⟨_, rfl⟩
  · exact ⟨_, rfl⟩
  · exact ⟨_, rfl⟩
  · exact ⟨"list", by rw [ty_r, g0]; rfl⟩
  · exact ⟨_, rfl⟩
  · exact ⟨_, rfl⟩
  · exact ⟨"dict", by rw [ty_r, g1]; rfl⟩
theorem notRoll_ty {S : Sto} {v : IV} {t : String} (h : tyI v S = some t) (hn : t ≠ "tuple") : F_is_roll [v] S = .ok (.bl false) S := by
  simp [ev_var, ev_c, ev_bin, ev_un, ev_B, ev_tru, ev_andT, ev_orT, ev_notT, ev_and, ev_or, ev_not, ev_mif, ev_chain, ev_nil, ev_cons, ev_tup, ev_lst, ev_fn, ev_mt, ev_pNone, ev_pSome, ev_sl, ev_call, ev_disp0, ev_sNil, ev_seq, ev_expr, ev_ret, ev_retN, ev_brk, ev_cnt, ev_if, ev_asg, ev_put, ev_fun, fin_nx, fin_ret, bind_ok, ofO_some, go_nx, go_ret, st_ok, oSome_some, oSomeS_some, slotV_some, asB_bl, blV_bl, tgI_nm, tgI_tup, tgI_0, tgI_1, add_ii, sub_ii, mul_ii, div_ii, mod_ii, neg_i, lt_ii, le_ii, gt_ii, ge_ii, eq_e, ne_e, eq_ii, eq_ss, is_e, isnot_e, is_bb, is_nn, is_in, is_sn, is_rn, is_tn, is_qn, IP.ix_tup, ix_sq, seq_sq, len_tup, len_sq, ofString_inj, startI, L2.atI, L2.ixN, asInt, seq_r, lstO_l, lstO_d, lstP_l, dctO_l, dctO_d, tyO_l, tyO_d, dct_r, dct_q, lst_r, ty_non, ty_bl, ty_int, ty_str, ty_tup, ty_sq, ty_ty, ty_fn, ty_r, tyB_l, tyB_d, isTy_str, isTy_sq, isTy_r, ix_r, len_r, add_qq, add_qr, add_rq, add_rr, mul_q, mul_r, sl_q, sl_r, append_r, extend_r, clear_r, list_q, list_r, list_t, tuple_q, tuple_r, isinst_1, isSub, tyNames, min_ii, max_ii, abs_i, int_i, int_b, tru_bl, tru_q, tru_non, tru_int, tru_tup, ev_iVal, itV_q, itV_t, itV_s, ev_rg1, rg1_i, ev_rg2, rg2_i, List.getElem?_cons_zero, List.getElem?_cons_succ, ite_le, ite_lt, get_app, get_app1, set_app, set_app1, List.set_cons_zero, List.set_cons_succ, all_v, any_v, sum_v, asB_bL, asI_iL, F_is_roll, b_is_roll, N_is_roll, h, hn]
theorem notRoll_len {S : Sto} {xs : List IV} (hn : xs.length ≠ 2) : F_is_roll [.tup xs] S = .ok (.bl false) S := by
  have h : ¬ ((xs.length : Int) = 2) := by omega
  simp [ev_var, ev_c, ev_bin, ev_un, ev_B, ev_tru, ev_andT, ev_orT, ev_notT, ev_and, ev_or, ev_not, ev_mif, ev_chain, ev_nil, ev_cons, ev_tup, ev_lst, ev_fn, ev_mt, ev_pNone, ev_pSome, ev_sl, ev_call, ev_disp0, ev_sNil, ev_seq, ev_expr, ev_ret, ev_retN, ev_brk, ev_cnt, ev_if, ev_asg, ev_put, ev_fun, fin_nx, fin_ret, bind_ok, ofO_some, go_nx, go_ret, st_ok, oSome_some, oSomeS_some, slotV_some, asB_bl, blV_bl, tgI_nm, tgI_tup, tgI_0, tgI_1, add_ii, sub_ii, mul_ii, div_ii, mod_ii, neg_i, lt_ii, le_ii, gt_ii, ge_ii, eq_e, ne_e, eq_ii, eq_ss, is_e, isnot_e, is_bb, is_nn, is_in, is_sn, is_rn, is_tn, is_qn, IP.ix_tup, ix_sq, seq_sq, len_tup, len_sq, ofString_inj, startI, L2.atI, L2.ixN, asInt, seq_r, lstO_l, lstO_d, lstP_l, dctO_l, dctO_d, tyO_l, tyO_d, dct_r, dct_q, lst_r, ty_non, ty_bl, ty_int, ty_str, ty_tup, ty_sq, ty_ty, ty_fn, ty_r, tyB_l, tyB_d, isTy_str, isTy_sq, isTy_r, ix_r, len_r, add_qq, add_qr, add_rq, add_rr, mul_q, mul_r, sl_q, sl_r, append_r, extend_r, clear_r, list_q, list_r, list_t, tuple_q, tuple_r, isinst_1, isSub, tyNames, min_ii, max_ii, abs_i, int_i, int_b, tru_bl, tru_q, tru_non, tru_int, tru_tup, ev_iVal, itV_q, itV_t, itV_s, ev_rg1, rg1_i, ev_rg2, rg2_i, List.getElem?_cons_zero, List.getElem?_cons_succ, ite_le, ite_lt, get_app, get_app1, set_app, set_app1, List.set_cons_zero, List.set_cons_succ, all_v, any_v, sum_v, asB_bL, asI_iL, F_is_roll, b_is_roll, N_is_roll, h]
theorem notRoll_fst {S : Sto} {x y : IV} {t : String} (h : tyI x S = some t) (hn : t ≠ "list") : F_is_roll [.tup [x, y]] S = .ok (.bl false) S := by
  simp [ev_var, ev_c, ev_bin, ev_un, ev_B, ev_tru, ev_andT, ev_orT, ev_notT, ev_and, ev_or, ev_not, ev_mif, ev_chain, ev_nil, ev_cons, ev_tup, ev_lst, ev_fn, ev_mt, ev_pNone, ev_pSome, ev_sl, ev_call, ev_disp0, ev_sNil, ev_seq, ev_expr, ev_ret, ev_retN, ev_brk, ev_cnt, ev_if, ev_asg, ev_put, ev_fun, fin_nx, fin_ret, bind_ok, ofO_some, go_nx, go_ret, st_ok, oSome_some, oSomeS_some, slotV_some, asB_bl, blV_bl, tgI_nm, tgI_tup, tgI_0, tgI_1, add_ii, sub_ii, mul_ii, div_ii, mod_ii, neg_i, lt_ii, le_ii, gt_ii, ge_ii, eq_e, ne_e, eq_ii, eq_ss, is_e, isnot_e, is_bb, is_nn, is_in, is_sn, is_rn, is_tn, is_qn, IP.ix_tup, ix_sq, seq_sq, len_tup, len_sq, ofString_inj, startI, L2.atI, L2.ixN, asInt, seq_r, lstO_l, lstO_d, lstP_l, dctO_l, dctO_d, tyO_l, tyO_d, dct_r, dct_q, lst_r, ty_non, ty_bl, ty_int, ty_str, ty_tup, ty_sq, ty_ty, ty_fn, ty_r, tyB_l, tyB_d, isTy_str, isTy_sq, isTy_r, ix_r, len_r, add_qq, add_qr, add_rq, add_rr, mul_q, mul_r, sl_q, sl_r, append_r, extend_r, clear_r, list_q, list_r, list_t, tuple_q, tuple_r, isinst_1, isSub, tyNames, min_ii, max_ii, abs_i, int_i, int_b, tru_bl, tru_q, tru_non, tru_int, tru_tup, ev_iVal, itV_q, itV_t, itV_s, ev_rg1, rg1_i, ev_rg2, rg2_i, List.getElem?_cons_zero, List.getElem?_cons_succ, ite_le, ite_lt, get_app, get_app1, set_app, set_app1, List.set_cons_zero, List.set_cons_succ, all_v, any_v, sum_v, asB_bL, asI_iL, F_is_roll, b_is_roll, N_is_roll, h, hn]
theorem notRoll_nil {S : Sto} {i : Nat} {y : IV} (h : S[i]? = some (.lst [])) : F_is_roll [.tup [.ref i, y]] S = .ok (.bl false) (S ++ [.lst []]) := by
  have e : eqI (.ref i) (.ref S.length) (S ++ [.lst []]) = some true := by
    refine eqI_same (t := .sq []) ?_ ?_ rfl
    · simp only [snapI, get_old (T := [.lst []]) h]; rfl
    · simp only [snapI, get_app]; rfl
  simp [ev_var, ev_c, ev_bin, ev_un, ev_B, ev_tru, ev_andT, ev_orT, ev_notT, ev_and, ev_or, ev_not, ev_mif, ev_chain, ev_nil, ev_cons, ev_tup, ev_lst, ev_fn, ev_mt, ev_pNone, ev_pSome, ev_sl, ev_call, ev_disp0, ev_sNil, ev_seq, ev_expr, ev_ret, ev_retN, ev_brk, ev_cnt, ev_if, ev_asg, ev_put, ev_fun, fin_nx, fin_ret, bind_ok, ofO_some, go_nx, go_ret, st_ok, oSome_some, oSomeS_some, slotV_some, asB_bl, blV_bl, tgI_nm, tgI_tup, tgI_0, tgI_1, add_ii, sub_ii, mul_ii, div_ii, mod_ii, neg_i, lt_ii, le_ii, gt_ii, ge_ii, eq_e, ne_e, eq_ii, eq_ss, is_e, isnot_e, is_bb, is_nn, is_in, is_sn, is_rn, is_tn, is_qn, IP.ix_tup, ix_sq, seq_sq, len_tup, len_sq, ofString_inj, startI, L2.atI, L2.ixN, asInt, seq_r, lstO_l, lstO_d, lstP_l, dctO_l, dctO_d, tyO_l, tyO_d, dct_r, dct_q, lst_r, ty_non, ty_bl, ty_int, ty_str, ty_tup, ty_sq, ty_ty, ty_fn, ty_r, tyB_l, tyB_d, isTy_str, isTy_sq, isTy_r, ix_r, len_r, add_qq, add_qr, add_rq, add_rr, mul_q, mul_r, sl_q, sl_r, append_r, extend_r, clear_r, list_q, list_r, list_t, tuple_q, tuple_r, isinst_1, isSub, tyNames, min_ii, max_ii, abs_i, int_i, int_b, tru_bl, tru_q, tru_non, tru_int, tru_tup, ev_iVal, itV_q, itV_t, itV_s, ev_rg1, rg1_i, ev_rg2, rg2_i, List.getElem?_cons_zero, List.getElem?_cons_succ, ite_le, ite_lt, get_app, get_app1, set_app, set_app1, List.set_cons_zero, List.set_cons_succ, all_v, any_v, sum_v, asB_bL, asI_iL, F_is_roll, b_is_roll, N_is_roll, h, e]
section
variable {S : Sto} {r k : Nat} {vs : List IV} {ps : List Part} {c : Int}
theorem notRoll_a {v : IV} (hr : S[r]? = some (.lst vs)) (q : PartsAt S vs ps) (g : ∀ p ∈ ps, p.good) (hn : ps ≠ []) (hl : ps.length ≤ 1000) (hv : v ∈ L1 S.length r k vs ++ L2 S.length r vs) :
    ∃ T, F_is_roll [v] (S ++ (O1 S.length ++ O2 S.length r k vs ++ O3 S.length r k vs)) = .ok (.bl false) (S ++ (O1 S.length ++ O2 S.length r k vs ++ O3 S.length r k vs) ++ T) := by
  have len := q.len
  have nv : vs ≠ [] := fun z => hn (by subst z; cases q; rfl)
  have h3 : (S ++ (O1 S.length ++ O2 S.length r k vs ++ O3 S.length r k vs))[S.length + 3]? = some (.lst [.ref r, .int k]) := by rw [get_app1]; rfl
  have h4 : (S ++ (O1 S.length ++ O2 S.length r k vs ++ O3 S.length r k vs))[S.length + 4]? = some (.lst []) := by rw [get_app1]; rfl
  have h6 : (S ++ (O1 S.length ++ O2 S.length r k vs ++ O3 S.length r k vs))[S.length + 6]? = some (.lst []) := by rw [get_app1]; rfl
  have h7 : (S ++ (O1 S.length ++ O2 S.length r k vs ++ O3 S.length r k vs))[S.length + 7]? = some (.dct []) := by rw [get_app1]; rfl
  have hr' : (S ++ (O1 S.length ++ O2 S.length r k vs ++ O3 S.length r k vs))[r]? = some (.lst vs) := get_old hr
  have q' : PartsAt (S ++ (O1 S.length ++ O2 S.length r k vs ++ O3 S.length r k vs)) vs ps := q.app
  generalize S ++ (O1 S.length ++ O2 S.length r k vs ++ O3 S.length r k vs) = Q at h3 h4 h6 h7 hr' q'
  have stay : ∀ {v : IV}, F_is_roll [v] Q = .ok (.bl false) Q → ∃ T, F_is_roll [v] Q = .ok (.bl false) (Q ++ T) := fun h => ⟨[], by rw [List.append_nil]; exact h⟩
  have back : ∀ {y : IV}, isTyped Q y → amongB y (min 3 vs.length : Nat) = false → ∃ T, F_is_roll [.tup [.ref r, y]] Q = .ok (.bl false) (Q ++ T) := fun {y} hy ha => by
    obtain ⟨T, e⟩ := isRoll_run (back := y) (f := fun _ => true) hr' nv (by omega) hy (fun x hx T => by
      obtain ⟨p, hp, h⟩ := q'.mem x hx
      exact isPart_good h.app (g p hp))
    exact ⟨T, by rw [e, ha, Bool.and_false]⟩
  simp only [L1, L2, List.cons_append, List.nil_append, List.mem_cons, List.not_mem_nil, or_false] at hv
  rcases hv with rfl | rfl | rfl | rfl | rfl | rfl | rfl | rfl | rfl | rfl | rfl | rfl | rfl | rfl | rfl | rfl | rfl
  · exact stay (notRoll_ty (t := "list") (by rw [ty_r, h3]; rfl) (by decide))
  · exact stay (notRoll_len (by simp))
  · exact stay (notRoll_len (by simp))
  · exact stay (notRoll_fst (t := "tuple") rfl (by decide))
  · exact ⟨_, notRoll_nil h4⟩
  · refine back typed_int ?_
    unfold amongB
    simp only [Bool.and_eq_false_iff, decide_eq_false_iff_not]
    omega
  · exact back typed_int rfl
  · exact back ⟨_, rfl⟩ rfl
  · exact back ⟨_, rfl⟩ rfl
  · refine back typed_int ?_
    unfold amongB
    simp only [Bool.and_eq_false_iff, decide_eq_false_iff_not]
    omega
  · exact stay (notRoll_ty (t := "NoneType") rfl (by decide))
  · exact stay (notRoll_ty (t := "int") rfl (by decide))
  · exact stay (notRoll_ty (t := "str") rfl (by decide))
  · exact stay (notRoll_ty (t := "list") (by rw [ty_r, h6]; rfl) (by decide))
  · exact stay (notRoll_len (by simp))
  · exact stay (notRoll_ty (t := "dict") (by rw [ty_r, h7]; rfl) (by decide))
  · exact stay (notRoll_fst (t := "NoneType") rfl (by decide))
theorem isList_bad {Q : Sto} {i : Nat} {xs : List IV} (hk : Q[i]? = some (.lst xs)) (ht : ∀ x ∈ xs, isTyped Q x) (hb : (decide (1 ≤ xs.length ∧ xs.length ≤ 4) && xs.all barB) = false) : ∃ T, F_is_list [.ref i] Q = .ok (.bl false) (Q ++ T) := by
  obtain ⟨T, e⟩ := isList_run hk ht
  exact ⟨T, by rw [e, hb]⟩
theorem part_bad {P T : Sto} {n : Nat} {w y : IV} (hP : P.length = n + 10) (hw : barB w = false) (tw : isTyped (P ++ (O7 n w ++ T)) w) (hy : y ∈ others n w) : ∃ T', F_is_part [y] (P ++ (O7 n w ++ T)) = .ok (.bl false) (P ++ (O7 n w ++ T) ++ T') := by
  have g : ∀ i, (P ++ (O7 n w ++ T))[n + (10 + i)]? = (O7 n w ++ T)[i]? := fun i => by rw [← Nat.add_assoc, ← hP, get_app1]
  have g10 : (P ++ (O7 n w ++ T))[n + 10]? = some (.lst []) := g 0
  have g12 : (P ++ (O7 n w ++ T))[n + 12]? = some (.lst [.int 0, .int 0, .int 0, .int 0, .int 0]) := g 2
  have g13 : (P ++ (O7 n w ++ T))[n + 13]? = some (.lst [.int 0, w]) := g 3
  have g15 : (P ++ (O7 n w ++ T))[n + 15]? = some (.lst [.int 0]) := g 5
  have g16 : (P ++ (O7 n w ++ T))[n + 16]? = some (.lst [.int 0]) := g 6
  have g17 : (P ++ (O7 n w ++ T))[n + 17]? = some (.lst [.int 1]) := g 7
  have g18 : (P ++ (O7 n w ++ T))[n + 18]? = some (.lst [.int 2]) := g 8
  have g21 : (P ++ (O7 n w ++ T))[n + 21]? = some (.lst []) := g 11
  have g22 : (P ++ (O7 n w ++ T))[n + 22]? = some (.lst [.int 0]) := g 12
  have g23 : (P ++ (O7 n w ++ T))[n + 23]? = some (.lst [.str "bar", .int 0]) := g 13
  generalize P ++ (O7 n w ++ T) = Q at *
  have stay : ∀ {v : IV}, F_is_part [v] Q = .ok (.bl false) Q → ∃ T, F_is_part [v] Q = .ok (.bl false) (Q ++ T) := fun h => ⟨[], by rw [List.append_nil]; exact h⟩
  have t1 : ∀ x ∈ [IV.int 0], isTyped Q x := fun x hx => by cases List.mem_singleton.mp hx; exact typed_int
  have zl : ∀ {i : Nat}, Q[i]? = some (.lst []) → ∃ T, F_is_list [.ref i] Q = .ok (.bl false) (Q ++ T) := fun h => isList_bad h (fun _ h => by cases h) rfl
  have l1 : ∀ {i : Nat}, Q[i]? = some (.lst [.int 0]) → ∃ T, F_is_list [.ref i] Q = .ok (.bl true) (Q ++ T) := fun h => by
    obtain ⟨T, e⟩ := isList_run h t1
    exact ⟨T, e⟩
  simp only [others, M1, M2, M3, List.cons_append, List.nil_append, List.mem_cons, List.not_mem_nil, or_false] at hy
  rcases hy with rfl | rfl | rfl | rfl | rfl | rfl | rfl | rfl | rfl | rfl | rfl | rfl | rfl
  · refine stay ?_
    rw [part_bar tw, hw]
  · exact stay (by simp [ev_var, ev_c, ev_bin, ev_un, ev_B, ev_tru, ev_andT, ev_orT, ev_notT, ev_and, ev_or, ev_not, ev_mif, ev_chain, ev_nil, ev_cons, ev_tup, ev_lst, ev_fn, ev_mt, ev_pNone, ev_pSome, ev_sl, ev_call, ev_disp0, ev_sNil, ev_seq, ev_expr, ev_ret, ev_retN, ev_brk, ev_cnt, ev_if, ev_asg, ev_put, ev_fun, fin_nx, fin_ret, bind_ok, ofO_some, go_nx, go_ret, st_ok, oSome_some, oSomeS_some, slotV_some, asB_bl, blV_bl, tgI_nm, tgI_tup, tgI_0, tgI_1, add_ii, sub_ii, mul_ii, div_ii, mod_ii, neg_i, lt_ii, le_ii, gt_ii, ge_ii, eq_e, ne_e, eq_ii, eq_ss, is_e, isnot_e, is_bb, is_nn, is_in, is_sn, is_rn, is_tn, is_qn, IP.ix_tup, ix_sq, seq_sq, len_tup, len_sq, ofString_inj, startI, L2.atI, L2.ixN, asInt, seq_r, lstO_l, lstO_d, lstP_l, dctO_l, dctO_d, tyO_l, tyO_d, dct_r, dct_q, lst_r, ty_non, ty_bl, ty_int, ty_str, ty_tup, ty_sq, ty_ty, ty_fn, ty_r, tyB_l, tyB_d, isTy_str, isTy_sq, isTy_r, ix_r, len_r, add_qq, add_qr, add_rq, add_rr, mul_q, mul_r, sl_q, sl_r, append_r, extend_r, clear_r, list_q, list_r, list_t, tuple_q, tuple_r, isinst_1, isSub, tyNames, min_ii, max_ii, abs_i, int_i, int_b, tru_bl, tru_q, tru_non, tru_int, tru_tup, ev_iVal, itV_q, itV_t, itV_s, ev_rg1, rg1_i, ev_rg2, rg2_i, List.getElem?_cons_zero, List.getElem?_cons_succ, ite_le, ite_lt, get_app, get_app1, set_app, set_app1, List.set_cons_zero, List.set_cons_succ, all_v, any_v, sum_v, asB_bL, asI_iL, F_is_part, b_is_part, N_is_part])
  · exact stay (by simp [ev_var, ev_c, ev_bin, ev_un, ev_B, ev_tru, ev_andT, ev_orT, ev_notT, ev_and, ev_or, ev_not, ev_mif, ev_chain, ev_nil, ev_cons, ev_tup, ev_lst, ev_fn, ev_mt, ev_pNone, ev_pSome, ev_sl, ev_call, ev_disp0, ev_sNil, ev_seq, ev_expr, ev_ret, ev_retN, ev_brk, ev_cnt, ev_if, ev_asg, ev_put, ev_fun, fin_nx, fin_ret, bind_ok, ofO_some, go_nx, go_ret, st_ok, oSome_some, oSomeS_some, slotV_some, asB_bl, blV_bl, tgI_nm, tgI_tup, tgI_0, tgI_1, add_ii, sub_ii, mul_ii, div_ii, mod_ii, neg_i, lt_ii, le_ii, gt_ii, ge_ii, eq_e, ne_e, eq_ii, eq_ss, is_e, isnot_e, is_bb, is_nn, is_in, is_sn, is_rn, is_tn, is_qn, IP.ix_tup, ix_sq, seq_sq, len_tup, len_sq, ofString_inj, startI, L2.atI, L2.ixN, asInt, seq_r, lstO_l, lstO_d, lstP_l, dctO_l, dctO_d, tyO_l, tyO_d, dct_r, dct_q, lst_r, ty_non, ty_bl, ty_int, ty_str, ty_tup, ty_sq, ty_ty, ty_fn, ty_r, tyB_l, tyB_d, isTy_str, isTy_sq, isTy_r, ix_r, len_r, add_qq, add_qr, add_rq, add_rr, mul_q, mul_r, sl_q, sl_r, append_r, extend_r, clear_r, list_q, list_r, list_t, tuple_q, tuple_r, isinst_1, isSub, tyNames, min_ii, max_ii, abs_i, int_i, int_b, tru_bl, tru_q, tru_non, tru_int, tru_tup, ev_iVal, itV_q, itV_t, itV_s, ev_rg1, rg1_i, ev_rg2, rg2_i, List.getElem?_cons_zero, List.getElem?_cons_succ, ite_le, ite_lt, get_app, get_app1, set_app, set_app1, List.set_cons_zero, List.set_cons_succ, all_v, any_v, sum_v, asB_bL, asI_iL, F_is_part, b_is_part, N_is_part])
  · obtain ⟨T, e⟩ := zl g10
    exact ⟨T, part_twice e⟩
  · obtain ⟨T, e⟩ := isList_bad g12 (fun x hx => by
      simp only [List.mem_cons, List.not_mem_nil, or_false, or_self] at hx
      subst hx; exact typed_int) rfl
    exact ⟨T, part_twice e⟩
  · obtain ⟨T, e⟩ := isList_bad g13 (fun x hx => by
      simp only [List.mem_cons, List.not_mem_nil, or_false] at hx
      rcases hx with rfl | rfl
      · exact typed_int
      · exact tw) (by simp [hw])
    exact ⟨T, part_twice e⟩
  · refine stay ?_
    have := part_twice (S := Q) (T := []) (x := .int 3) (b := false) (by rw [List.append_nil]; exact isList_no (t := "int") rfl (by decide))
    rw [List.append_nil] at this
    exact this
  · exact stay (by simp [ev_var, ev_c, ev_bin, ev_un, ev_B, ev_tru, ev_andT, ev_orT, ev_notT, ev_and, ev_or, ev_not, ev_mif, ev_chain, ev_nil, ev_cons, ev_tup, ev_lst, ev_fn, ev_mt, ev_pNone, ev_pSome, ev_sl, ev_call, ev_disp0, ev_sNil, ev_seq, ev_expr, ev_ret, ev_retN, ev_brk, ev_cnt, ev_if, ev_asg, ev_put, ev_fun, fin_nx, fin_ret, bind_ok, ofO_some, go_nx, go_ret, st_ok, oSome_some, oSomeS_some, slotV_some, asB_bl, blV_bl, tgI_nm, tgI_tup, tgI_0, tgI_1, add_ii, sub_ii, mul_ii, div_ii, mod_ii, neg_i, lt_ii, le_ii, gt_ii, ge_ii, eq_e, ne_e, eq_ii, eq_ss, is_e, isnot_e, is_bb, is_nn, is_in, is_sn, is_rn, is_tn, is_qn, IP.ix_tup, ix_sq, seq_sq, len_tup, len_sq, ofString_inj, startI, L2.atI, L2.ixN, asInt, seq_r, lstO_l, lstO_d, lstP_l, dctO_l, dctO_d, tyO_l, tyO_d, dct_r, dct_q, lst_r, ty_non, ty_bl, ty_int, ty_str, ty_tup, ty_sq, ty_ty, ty_fn, ty_r, tyB_l, tyB_d, isTy_str, isTy_sq, isTy_r, ix_r, len_r, add_qq, add_qr, add_rq, add_rr, mul_q, mul_r, sl_q, sl_r, append_r, extend_r, clear_r, list_q, list_r, list_t, tuple_q, tuple_r, isinst_1, isSub, tyNames, min_ii, max_ii, abs_i, int_i, int_b, tru_bl, tru_q, tru_non, tru_int, tru_tup, ev_iVal, itV_q, itV_t, itV_s, ev_rg1, rg1_i, ev_rg2, rg2_i, List.getElem?_cons_zero, List.getElem?_cons_succ, ite_le, ite_lt, get_app, get_app1, set_app, set_app1, List.set_cons_zero, List.set_cons_succ, all_v, any_v, sum_v, asB_bL, asI_iL, F_is_part, b_is_part, N_is_part])
  · obtain ⟨T, e⟩ := l1 g16
    refine ⟨T, ?_⟩
    rw [part_ends e ⟨"list", by rw [ty_r, g17]; rfl⟩ ⟨"list", by rw [ty_r, g18]; rfl⟩]
    rfl
  · obtain ⟨T, e⟩ := zl g21
    refine ⟨T, ?_⟩
    rw [part_ends e typed_int typed_int]
    rfl
  · obtain ⟨T, e⟩ := l1 g22
    refine ⟨T, ?_⟩
    rw [part_ends e tw typed_int, hw]
    rfl
  · exact stay (by simp [ev_var, ev_c, ev_bin, ev_un, ev_B, ev_tru, ev_andT, ev_orT, ev_notT, ev_and, ev_or, ev_not, ev_mif, ev_chain, ev_nil, ev_cons, ev_tup, ev_lst, ev_fn, ev_mt, ev_pNone, ev_pSome, ev_sl, ev_call, ev_disp0, ev_sNil, ev_seq, ev_expr, ev_ret, ev_retN, ev_brk, ev_cnt, ev_if, ev_asg, ev_put, ev_fun, fin_nx, fin_ret, bind_ok, ofO_some, go_nx, go_ret, st_ok, oSome_some, oSomeS_some, slotV_some, asB_bl, blV_bl, tgI_nm, tgI_tup, tgI_0, tgI_1, add_ii, sub_ii, mul_ii, div_ii, mod_ii, neg_i, lt_ii, le_ii, gt_ii, ge_ii, eq_e, ne_e, eq_ii, eq_ss, is_e, isnot_e, is_bb, is_nn, is_in, is_sn, is_rn, is_tn, is_qn, IP.ix_tup, ix_sq, seq_sq, len_tup, len_sq, ofString_inj, startI, L2.atI, L2.ixN, asInt, seq_r, lstO_l, lstO_d, lstP_l, dctO_l, dctO_d, tyO_l, tyO_d, dct_r, dct_q, lst_r, ty_non, ty_bl, ty_int, ty_str, ty_tup, ty_sq, ty_ty, ty_fn, ty_r, tyB_l, tyB_d, isTy_str, isTy_sq, isTy_r, ix_r, len_r, add_qq, add_qr, add_rq, add_rr, mul_q, mul_r, sl_q, sl_r, append_r, extend_r, clear_r, list_q, list_r, list_t, tuple_q, tuple_r, isinst_1, isSub, tyNames, min_ii, max_ii, abs_i, int_i, int_b, tru_bl, tru_q, tru_non, tru_int, tru_tup, ev_iVal, itV_q, itV_t, itV_s, ev_rg1, rg1_i, ev_rg2, rg2_i, List.getElem?_cons_zero, List.getElem?_cons_succ, ite_le, ite_lt, get_app, get_app1, set_app, set_app1, List.set_cons_zero, List.set_cons_succ, all_v, any_v, sum_v, asB_bL, asI_iL, F_is_part, b_is_part, N_is_part, g23])
  · exact stay (by simp [ev_var, ev_c, ev_bin, ev_un, ev_B, ev_tru, ev_andT, ev_orT, ev_notT, ev_and, ev_or, ev_not, ev_mif, ev_chain, ev_nil, ev_cons, ev_tup, ev_lst, ev_fn, ev_mt, ev_pNone, ev_pSome, ev_sl, ev_call, ev_disp0, ev_sNil, ev_seq, ev_expr, ev_ret, ev_retN, ev_brk, ev_cnt, ev_if, ev_asg, ev_put, ev_fun, fin_nx, fin_ret, bind_ok, ofO_some, go_nx, go_ret, st_ok, oSome_some, oSomeS_some, slotV_some, asB_bl, blV_bl, tgI_nm, tgI_tup, tgI_0, tgI_1, add_ii, sub_ii, mul_ii, div_ii, mod_ii, neg_i, lt_ii, le_ii, gt_ii, ge_ii, eq_e, ne_e, eq_ii, eq_ss, is_e, isnot_e, is_bb, is_nn, is_in, is_sn, is_rn, is_tn, is_qn, IP.ix_tup, ix_sq, seq_sq, len_tup, len_sq, ofString_inj, startI, L2.atI, L2.ixN, asInt, seq_r, lstO_l, lstO_d, lstP_l, dctO_l, dctO_d, tyO_l, tyO_d, dct_r, dct_q, lst_r, ty_non, ty_bl, ty_int, ty_str, ty_tup, ty_sq, ty_ty, ty_fn, ty_r, tyB_l, tyB_d, isTy_str, isTy_sq, isTy_r, ix_r, len_r, add_qq, add_qr, add_rq, add_rr, mul_q, mul_r, sl_q, sl_r, append_r, extend_r, clear_r, list_q, list_r, list_t, tuple_q, tuple_r, isinst_1, isSub, tyNames, min_ii, max_ii, abs_i, int_i, int_b, tru_bl, tru_q, tru_non, tru_int, tru_tup, ev_iVal, itV_q, itV_t, itV_s, ev_rg1, rg1_i, ev_rg2, rg2_i, List.getElem?_cons_zero, List.getElem?_cons_succ, ite_le, ite_lt, get_app, get_app1, set_app, set_app1, List.set_cons_zero, List.set_cons_succ, all_v, any_v, sum_v, asB_bL, asI_iL, F_is_part, b_is_part, N_is_part])
/-- what is otherwise is no roll -/
theorem otherwise_run {v' : IV} (hS : RollAt S v' ps k) (g : ∀ p ∈ ps, p.good) (hn : ps ≠ []) (hl : ps.length ≤ 500) : ∃ v T1 T2, F_l_otherwise [v', .int c] S = .ok v (S ++ T1) ∧ F_is_roll [v] (S ++ T1) = .ok (.bl false) (S ++ T1 ++ T2) := by
  obtain ⟨r, vs, e, hr, q⟩ := hS
  subst e
  have len := q.len
  have h0 : 0 < vs.length := by
    cases ps with
    | nil => exact absurd rfl hn
    | cons _ _ => rw [len]; simp
  by_cases hc : c % 30 < 17
  · obtain ⟨w, v, e1, e2, _⟩ := ow_a (k := k) hr (by omega) h0 hc
    obtain ⟨T, e3⟩ := notRoll_a (k := k) hr q g hn (by omega) e2
    exact ⟨v, _, T, e1, e3⟩
  · obtain ⟨w, v, T, a, e1, e2, e3, e4⟩ := ow_b (k := k) hr (by omega) h0 (by omega : 17 ≤ c % 30)
    have tk : isTyped (S ++ (O1 S.length ++ O2 S.length r k vs ++ O3 S.length r k vs ++ O7 S.length w) ++ T) (.int k) := typed_int
    obtain ⟨T', e5⟩ := isRoll_run (back := .int k) (f := fun x => @decide (x ≠ v) (Classical.propDecidable _)) e2 (by simp) (by
      have := List.length_take_le' a vs
      simp only [List.length_append, List.length_drop, List.length_singleton]
      omega) tk (fun x hx T2 => by
      by_cases hx' : x = v
      · subst hx'
        have lP : (S ++ (O1 S.length ++ O2 S.length r k vs ++ O3 S.length r k vs)).length = S.length + 10 := by rw [List.length_append]; rfl
        have ee : S ++ (O1 S.length ++ O2 S.length r k vs ++ O3 S.length r k vs ++ O7 S.length w) ++ T ++ T2 = S ++ (O1 S.length ++ O2 S.length r k vs ++ O3 S.length r k vs) ++ (O7 S.length w ++ (T ++ T2)) := by simp only [List.append_assoc]
        have tw : isTyped (S ++ (O1 S.length ++ O2 S.length r k vs ++ O3 S.length r k vs) ++ (O7 S.length w ++ (T ++ T2))) w := by
          have := odds_typed (T := O2 S.length r k vs ++ O3 S.length r k vs ++ (O7 S.length w ++ (T ++ T2))) e4
          simpa only [List.append_assoc] using this
        obtain ⟨T', e⟩ := part_bad (T := T ++ T2) lP (odds_bar e4) tw e3
        rw [ee]
        refine ⟨T', ?_⟩
        rw [e]
        simp
      · have hm : x ∈ vs := by
          rcases List.mem_append.mp hx with hx | hx
          · rcases List.mem_append.mp hx with hx | hx
            · exact List.mem_of_mem_take hx
            · exact absurd (List.mem_singleton.mp hx) hx'
          · exact List.mem_of_mem_drop hx
        obtain ⟨p, hp, h⟩ := q.mem x hm
        rw [List.append_assoc, List.append_assoc]
        obtain ⟨T', e⟩ := isPart_good (h.app (T := O1 S.length ++ O2 S.length r k vs ++ O3 S.length r k vs ++ O7 S.length w ++ (T ++ T2))) (g p hp)
        refine ⟨T', ?_⟩
        rw [show @decide (x ≠ v) (Classical.propDecidable _) = true from @decide_eq_true _ (Classical.propDecidable _) hx']
        simpa only [List.append_assoc] using e)
    rw [List.append_assoc S] at e1 e5
    refine ⟨_, _, T', e1, ?_⟩
    rw [e5]
    have al : ((vs.take a ++ [v] ++ vs.drop (a + 1)).all fun x => @decide (x ≠ v) (Classical.propDecidable _)) = false := by
      rw [List.all_eq_false]
      exact ⟨v, by simp, by simp⟩
    rw [al]; rfl
end
/-! ### one roll, asked twice -/
section
variable {P J : Sto} {ks : List IV} {v hv : IV} {ps : List Part} {k r d0 : Nat} {vs : List IV} {X : List Int} {y4 y5 y6 : Option IV}
theorem pj {o : SO} {j : Nat} : (P ++ (o :: J))[P.length + (j + 1)]? = J[j]? := by rw [get_app1]; rfl
theorem pl {o : SO} : (P ++ (o :: J)).length = P.length + (J.length + 1) := by rw [List.length_append, List.length_cons]
theorem RollAt.parts {S : Sto} (h : RollAt S v ps k) : ∃ r vs, v = .tup [.ref r, .int k] ∧ S[r]? = some (.lst vs) ∧ PartsAt S vs ps := h
abbrev sr (v : IV) (κ : Nat) (hv : IV) (d : Nat) (y4 y5 y6 : Option IV) : Slo := [some v, some (.ref κ), some hv, some (.ref d), y4, y5, y6, none, none, none]
theorem gf {o : SO} {Y : List IV} {T : Sto} : (P ++ (o :: (J ++ (.lst Y :: T))))[P.length + (J.length + 1)]? = some (.lst Y) := by rw [pj, List.getElem?_append_right (Nat.le_refl _), Nat.sub_self]; rfl
theorem gj {o : SO} {T : Sto} {j : Nat} {u : SO} (h : J[j]? = some u) : (P ++ (o :: (J ++ T)))[P.length + (j + 1)]? = some u := by rw [pj]; exact get_old h
theorem gk {o : SO} : (P ++ (o :: J))[P.length]? = some o := by rw [get_app]; rfl
theorem iL_q {S : Sto} {i : Nat} {Y : List Int} (h : S[i]? = some (.lst (iL Y))) : snapI S 9 (.ref i) = some (.sq (iL Y)) := by
  simp only [snapI, h, iL_snap, Option.map_some]
theorem rt_b (hd : J[d0]? = some (.lst (iL X))) (hl : X.length ≤ 900000) : sIf (mOrT (mNotT (mTru (mFn iIsinst (mCons (mVar 5) (mCons (mC (.ty "list")) mNil))))) (mOrT (mB (mBin iNe (mVar 5) (mVar 3))) (mNotT (mTru (mFn iAll (mCons (mLc [7, 8] (.nm 8) (iVal (mVar 5)) bYes (mCall C_l_whole (mCons (mVar 8) mNil))) mNil)))))) (sRet (mC (.bl false))) sNil
    (sr v P.length hv (P.length + (d0 + 1)) y4 (some (.ref (P.length + (J.length + 1)))) y6) (P ++ (.lst ks :: (J ++ [.lst (iL X)]))) =
    .nx (sr v P.length hv (P.length + (d0 + 1)) y4 (some (.ref (P.length + (J.length + 1)))) y6) (P ++ (.lst ks :: (J ++ [.lst (iL X), .lst (bL (X.map fun _ => true))]))) := by
  have g0 : (P ++ (.lst ks :: (J ++ [.lst (iL X)])))[P.length + (J.length + 1)]? = some (SO.lst (iL X)) := gf
  have gd : (P ++ (.lst ks :: (J ++ [.lst (iL X)])))[P.length + (d0 + 1)]? = some (SO.lst (iL X)) := gj hd
  have e := lc_pure (own := [7, 8]) (g := .nm 8) (m := iVal (mVar 5)) (c := bYes) (e := mCall C_l_whole (mCons (mVar 8) mNil)) (it := .lst (.ref (P.length + (J.length + 1)))) (t0 := sr v P.length hv (P.length + (d0 + 1)) y4 (some (.ref (P.length + (J.length + 1)))) y6)
    (S0 := P ++ (.lst ks :: (J ++ [.lst (iL X)]))) (S1 := P ++ (.lst ks :: (J ++ [.lst (iL X)]))) (xs := iL X) (p := fun _ => true) (f := fun _ => .bl true) (by
      rw [ev_iVal]
      simp only [ev_var, List.getElem?_cons_zero, List.getElem?_cons_succ, slotV_some, bind_ok]
      exact itV_r g0) (fun n acc => next_r (get_old g0)) (fun n x acc ex => by
      obtain ⟨z, _, rfl⟩ := List.mem_map.mp (List.mem_of_getElem? ex)
      refine ⟨[some v, some (.ref P.length), some hv, some (.ref (P.length + (d0 + 1))), y4, some (.ref (P.length + (J.length + 1))), y6, none, some (.int z), none], by simp [tgI_nm, wipeI], rfl, fun _ => ?_⟩
      simp only [ev_call, ev_cons, ev_nil, ev_var, List.getElem?_cons_zero, List.getElem?_cons_succ, slotV_some, bind_ok, whole_call]) (by rw [iL_len]; omega)
  have eb : ((iL X).filter fun _ => true).map (fun _ => IV.bl true) = bL (X.map fun _ => true) := by
    rw [List.filter_eq_self.mpr (fun _ _ => rfl)]; simp [bL, iL]
  rw [eb] at e
  have es : P ++ (SO.lst ks :: (J ++ [.lst (iL X)])) ++ [.lst (bL (X.map fun _ => true))] = P ++ (.lst ks :: (J ++ [.lst (iL X), .lst (bL (X.map fun _ => true))])) := by simp
  have eq : eqI (.ref (P.length + (J.length + 1))) (.ref (P.length + (d0 + 1))) (P ++ (.lst ks :: (J ++ [.lst (iL X)]))) = some true := eqI_same (iL_q g0) (iL_q gd) (okT_mono (n := 2) okT_iL (by omega))
  have al : iAll [.ref (P ++ (SO.lst ks :: (J ++ [.lst (iL X)]))).length] (P ++ (SO.lst ks :: (J ++ [.lst (iL X)])) ++ [.lst (bL (X.map fun _ => true))]) = some (.bl true, P ++ (SO.lst ks :: (J ++ [.lst (iL X)])) ++ [.lst (bL (X.map fun _ => true))]) := by
    rw [all_v, seq_r, get_app]
    simp [lstO, asB_bL]
  have is : iIsinst [.ref (P.length + (J.length + 1)), .ty "list"] (P ++ (.lst ks :: (J ++ [.lst (iL X)]))) = some (.bl true, P ++ (.lst ks :: (J ++ [.lst (iL X)]))) := by
    simp [isinst_1, tyNames, ty_r, g0, tyO_l, isSub]
  rw [es] at e al
  simp only [ev_if, ev_orT, ev_notT, ev_tru, ev_fn, ev_cons, ev_nil, ev_var, ev_c, List.getElem?_cons_zero, List.getElem?_cons_succ, slotV_some, bind_ok, is, ofO_some, tru_bl, oSome_some, Bool.not_true, if_neg Bool.false_ne_true, ev_B, ev_bin, ne_e, eq, Option.map_some, asB_bl, e, al, st_ok, ev_sNil]
theorem rt_c (hd : J[d0]? = some (.lst (iL X))) (hl : X.length ≤ 900000) (hk : ks.length ≤ 1000) {B : SO} : sExpr (mMt "list" mAppend (mVar 1) (mCons (mTup (mCons (mVar 5) (mCons (mBin iAdd (mVar 3) (mLst (mCons (mC (.int 0)) mNil))) mNil))) mNil))
    (sr v P.length hv (P.length + (d0 + 1)) y4 (some (.ref (P.length + (J.length + 1)))) y6) (P ++ (.lst ks :: (J ++ [.lst (iL X), B]))) =
    .nx (sr v P.length hv (P.length + (d0 + 1)) y4 (some (.ref (P.length + (J.length + 1)))) y6) (P ++ (.lst (ks ++ [.tup [.ref (P.length + (J.length + 1)), .ref (P.length + (J.length + 4))]]) :: (J ++ [.lst (iL X), B, .lst [.int 0], .lst (iL X ++ [.int 0])]))) := by
  have gd : ∀ T : Sto, (P ++ (.lst ks :: (J ++ T)))[P.length + (d0 + 1)]? = some (SO.lst (iL X)) := fun T => gj hd
  have g3 : (P ++ (.lst ks :: (J ++ [.lst (iL X), B, .lst [.int 0]])))[P.length + (J.length + 3)]? = some (SO.lst [.int 0]) := by
    rw [show P.length + (J.length + 3) = P.length + ((J.length + 2) + 1) from rfl, pj, get_app1]; rfl
  have gk' : ∀ T : Sto, (P ++ (.lst ks :: T))[P.length]? = some (SO.lst ks) := fun T => gk
  have ad : iAdd (.ref (P.length + (d0 + 1))) (.ref (P.length + (J.length + 3))) (P ++ (.lst ks :: (J ++ [.lst (iL X), B, .lst [.int 0]]))) = some (.ref (P.length + (J.length + 4)), P ++ (.lst ks :: (J ++ [.lst (iL X), B, .lst [.int 0], .lst (iL X ++ [.int 0])]))) := by
    rw [add_seq (fun p h => by cases h) (seq_ref (gd _)) (seq_ref g3) (by rw [iL_len]; show X.length + 1 ≤ _; omega)]
    simp
  have ap : mAppend (.ref P.length) [.tup [.ref (P.length + (J.length + 1)), .ref (P.length + (J.length + 4))]] (P ++ (.lst ks :: (J ++ [.lst (iL X), B, .lst [.int 0], .lst (iL X ++ [.int 0])]))) = some (.non, P ++ (.lst (ks ++ [.tup [.ref (P.length + (J.length + 1)), .ref (P.length + (J.length + 4))]]) :: (J ++ [.lst (iL X), B, .lst [.int 0], .lst (iL X ++ [.int 0])]))) := by
    rw [append_r, gk', lstO_l, Option.bind_some, if_pos (by omega), set_app]; rfl
  have ls : mLst (mCons (mC (.int 0)) mNil) (sr v P.length hv (P.length + (d0 + 1)) y4 (some (.ref (P.length + (J.length + 1)))) y6) (P ++ (.lst ks :: (J ++ [.lst (iL X), B]))) = .ok (.ref (P.length + (J.length + 3))) (P ++ (.lst ks :: (J ++ [.lst (iL X), B, .lst [.int 0]]))) := by
    simp [ev_var, ev_c, ev_bin, ev_un, ev_B, ev_tru, ev_andT, ev_orT, ev_notT, ev_and, ev_or, ev_not, ev_mif, ev_chain, ev_nil, ev_cons, ev_tup, ev_lst, ev_fn, ev_mt, ev_pNone, ev_pSome, ev_sl, ev_call, ev_disp0, ev_sNil, ev_seq, ev_expr, ev_ret, ev_retN, ev_brk, ev_cnt, ev_if, ev_asg, ev_put, ev_fun, fin_nx, fin_ret, bind_ok, ofO_some, go_nx, go_ret, st_ok, oSome_some, oSomeS_some, slotV_some, asB_bl, blV_bl, tgI_nm, tgI_tup, tgI_0, tgI_1, add_ii, sub_ii, mul_ii, div_ii, mod_ii, neg_i, lt_ii, le_ii, gt_ii, ge_ii, eq_e, ne_e, eq_ii, eq_ss, is_e, isnot_e, is_bb, is_nn, is_in, is_sn, is_rn, is_tn, is_qn, IP.ix_tup, ix_sq, seq_sq, len_tup, len_sq, ofString_inj, startI, L2.atI, L2.ixN, asInt, seq_r, lstO_l, lstO_d, lstP_l, dctO_l, dctO_d, tyO_l, tyO_d, dct_r, dct_q, lst_r, ty_non, ty_bl, ty_int, ty_str, ty_tup, ty_sq, ty_ty, ty_fn, ty_r, tyB_l, tyB_d, isTy_str, isTy_sq, isTy_r, ix_r, len_r, add_qq, add_qr, add_rq, add_rr, mul_q, mul_r, sl_q, sl_r, append_r, extend_r, clear_r, list_q, list_r, list_t, tuple_q, tuple_r, isinst_1, isSub, tyNames, min_ii, max_ii, abs_i, int_i, int_b, tru_bl, tru_q, tru_non, tru_int, tru_tup, ev_iVal, itV_q, itV_t, itV_s, ev_rg1, rg1_i, ev_rg2, rg2_i, List.getElem?_cons_zero, List.getElem?_cons_succ, ite_le, ite_lt, get_app, get_app1, set_app, set_app1, List.set_cons_zero, List.set_cons_succ, all_v, any_v, sum_v, asB_bL, asI_iL]
  have it : isTy "list" (.ref P.length) (P ++ (.lst ks :: (J ++ [.lst (iL X), B]))) = true := by rw [isTy_r, gk']; rfl
  simp only [ev_expr, ev_mt, ev_var, List.getElem?_cons_zero, List.getElem?_cons_succ, slotV_some, bind_ok, it, if_true, ev_cons, ev_nil, ev_tup, ev_bin, ls, ad, ofO_some, List.length_cons, List.length_nil, Nat.reduceAdd, Nat.reduceLeDiff, ap, st_ok]
theorem rt_d (hl : X.length ≤ 900000) {o B C D : SO} : sExpr (mMt "list" mAppend (mVar 5) (mCons (mC (.int 0)) mNil))
    (sr v P.length hv (P.length + (d0 + 1)) y4 (some (.ref (P.length + (J.length + 1)))) y6) (P ++ (o :: (J ++ [.lst (iL X), B, C, D]))) =
    .nx (sr v P.length hv (P.length + (d0 + 1)) y4 (some (.ref (P.length + (J.length + 1)))) y6) (P ++ (o :: (J ++ [.lst (iL X ++ [.int 0]), B, C, D]))) := by
  have g0 : (P ++ (o :: (J ++ [.lst (iL X), B, C, D])))[P.length + (J.length + 1)]? = some (SO.lst (iL X)) := gf
  have ap : mAppend (.ref (P.length + (J.length + 1))) [.int 0] (P ++ (o :: (J ++ [.lst (iL X), B, C, D]))) = some (.non, P ++ (o :: (J ++ [.lst (iL X ++ [.int 0]), B, C, D]))) := by
    rw [append_r, g0, lstO_l, Option.bind_some, if_pos (by rw [iL_len]; omega), set_app1, List.set_cons_succ, set_app]; rfl
  have it : isTy "list" (.ref (P.length + (J.length + 1))) (P ++ (o :: (J ++ [.lst (iL X), B, C, D]))) = true := by rw [isTy_r, g0]; rfl
  simp only [ev_expr, ev_mt, ev_var, List.getElem?_cons_zero, List.getElem?_cons_succ, slotV_some, bind_ok, it, if_true, ev_cons, ev_nil, ev_c, ap, ofO_some, st_ok]
theorem rt_f {Q : Sto} (hr : Q[r]? = some (.lst vs)) (q : PartsAt Q vs ps) (hs : ∀ p ∈ ps, p.small) (hl : ps.length ≤ 1000) {κ d : Nat} : sIf (mOrT (mNotT (mTru (mCall C_l_whole (mCons (mVar 6) mNil)))) (mB (mBin iNe (mVar 6) (mFn iSum (mCons (mLc [7, 9] (.nm 9) (iVal (mBin iIx (mVar 0) (mC (.int 0)))) bYes (mCall C_l_size (mCons (mVar 9) mNil))) mNil))))) (sRet (mC (.bl false))) sNil
    (sr (.tup [.ref r, .int k]) κ hv d y4 y5 (some (.int (total ps)))) Q = .nx (sr (.tup [.ref r, .int k]) κ hv d y4 y5 (some (.int (total ps)))) (Q ++ [.lst (iL (ps.map fun p => (p.bars.length : Int)))]) := by
  have len := q.len
  have e := lc_pure (own := [7, 9]) (g := .nm 9) (m := iVal (mBin iIx (mVar 0) (mC (.int 0)))) (c := bYes) (e := mCall C_l_size (mCons (mVar 9) mNil)) (it := .lst (.ref r)) (t0 := sr (.tup [.ref r, .int k]) κ hv d y4 y5 (some (.int (total ps))))
    (S0 := Q) (S1 := Q) (xs := vs) (p := fun _ => true) (f := fun x => match snapI Q 9 x with
      | some (.tup [_, .int _]) => .int 1
      | some (.tup [_, .sq l]) => .int l.length
      | some (.tup [_, .sq l, _, _]) => .int (l.length + 2)
      | _ => .non) (by
      rw [ev_iVal]
      simp only [ev_var, ev_bin, ev_c, List.getElem?_cons_zero, List.getElem?_cons_succ, slotV_some, bind_ok]
      exact itV_r hr) (fun n acc => next_r (get_old hr)) (fun n x acc ex => by
      obtain ⟨p, hp, hx⟩ := q.mem x (List.mem_of_getElem? ex)
      refine ⟨[some (.tup [.ref r, .int k]), some (.ref κ), some hv, some (.ref d), y4, y5, some (.int (total ps)), none, none, some x], by simp [tgI_nm, wipeI], rfl, fun _ => ?_⟩
      have sc := size_call (S := Q ++ [.lst acc]) (v := x) p (hs p hp) (hx.app.snap (n := 6))
      simp only [ev_call, ev_cons, ev_nil, ev_var, List.getElem?_cons_zero, List.getElem?_cons_succ, slotV_some, bind_ok, sc]
      rw [hx.snap (n := 6)]
      cases p <;> simp [Part.tree, Part.bars, iL_len]) (by omega)
  have eb : (vs.filter fun _ => true).map (fun x => match snapI Q 9 x with
      | some (.tup [_, .int _]) => IV.int 1
      | some (.tup [_, .sq l]) => .int l.length
      | some (.tup [_, .sq l, _, _]) => .int (l.length + 2)
      | _ => .non) = iL (ps.map fun p => (p.bars.length : Int)) := by
    rw [List.filter_eq_self.mpr (fun _ _ => rfl)]
    clear e len hr
    induction q with
    | nil => rfl
    | @cons v p vs ps h _ ih =>
      simp only [List.map_cons, iL] at ih ⊢
      rw [ih (fun p hp => hs p (List.mem_cons_of_mem _ hp)) (by simp at hl; omega), h.snap (n := 6)]
      cases p <;> simp [Part.tree, Part.bars, iL_len]
  rw [eb] at e
  have sm : iSum [.ref Q.length] (Q ++ [.lst (iL (ps.map fun p => (p.bars.length : Int)))]) = some (.int (total ps), Q ++ [.lst (iL (ps.map fun p => (p.bars.length : Int)))]) := by
    rw [sum_v, seq_r, get_app]
    simp only [List.getElem?_cons_zero, lstO_l, Option.bind_some, asI_iL, Option.map_some]
    rfl
  simp only [ev_if, ev_orT, ev_notT, ev_tru, ev_call, ev_cons, ev_nil, ev_var, List.getElem?_cons_zero, List.getElem?_cons_succ, slotV_some, bind_ok, whole_call, tru_bl, oSome_some, Bool.not_true, if_neg Bool.false_ne_true, ev_B, ev_bin, ev_fn, e, sm, ofO_some, ne_e, eq_ii, decide_true, Option.map_some, asB_bl, st_ok, ev_sNil]
def rbody : SS := (sSeq (sAsg (.nm 5) (mCall C_unrolled (mCons (mVar 2) mNil)))
  (sSeq (sIf (mOrT (mNotT (mTru (mFn iIsinst (mCons (mVar 5) (mCons (mC (.ty "list")) mNil))))) (mOrT (mB (mBin iNe (mVar 5) (mVar 3))) (mNotT (mTru (mFn iAll (mCons (mLc [7, 8] (.nm 8) (iVal (mVar 5)) bYes (mCall C_l_whole (mCons (mVar 8) mNil))) mNil)))))) (sRet (mC (.bl false))) sNil)
  (sSeq (sExpr (mMt "list" mAppend (mVar 1) (mCons (mTup (mCons (mVar 5) (mCons (mBin iAdd (mVar 3) (mLst (mCons (mC (.int 0)) mNil))) mNil))) mNil)))
  (sSeq (sExpr (mMt "list" mAppend (mVar 5) (mCons (mC (.int 0)) mNil)))
  (sSeq (sAsg (.nm 6) (mCall C_many (mCons (mVar 2) mNil)))
  (sIf (mOrT (mNotT (mTru (mCall C_l_whole (mCons (mVar 6) mNil)))) (mB (mBin iNe (mVar 6) (mFn iSum (mCons (mLc [7, 9] (.nm 9) (iVal (mBin iIx (mVar 0) (mC (.int 0)))) bYes (mCall C_l_size (mCons (mVar 9) mNil))) mNil))))) (sRet (mC (.bl false))) sNil))))))
def J5 (X : List Int) (ps : List Part) : Sto := [.lst (iL X ++ [.int 0]), .lst (bL (X.map fun _ => true)), .lst [.int 0], .lst (iL X ++ [.int 0]), .lst (iL (ps.map fun p => (p.bars.length : Int)))]
theorem play_len {ps : List Part} {k : Nat} (hs : ∀ p ∈ ps, p.small) (hl : ps.length ≤ 100) : (play ps k).length ≤ 900000 := by
  have l1 : (ps.map Part.first).flatten.length ≤ 3000 * ps.length := flat_len fun p hp => first_len p (hs p hp)
  have l2 : ((ps.take k).map Part.again).flatten.length ≤ 3000 * (ps.take k).length := flat_len fun p hp => again_len p (hs p (List.mem_of_mem_take hp))
  have l3 : (ps.take k).length ≤ 100 := Nat.le_trans (List.length_take_le' _ _) hl
  unfold play
  rw [List.length_append]
  omega
theorem iter_run (hr : P[r]? = some (.lst vs)) (q : PartsAt P vs ps) (hs : ∀ p ∈ ps, p.small) (hl : ps.length ≤ 100) (hk : k ≤ ps.length) (hh : ∀ ks T, RollAt (P ++ (.lst ks :: (J ++ T))) hv ps k) (hd : J[d0]? = some (.lst (iL (play ps k)))) (hks : ks.length ≤ 1000) :
    rbody (sr (.tup [.ref r, .int k]) P.length hv (P.length + (d0 + 1)) y4 y5 y6) (P ++ (.lst ks :: J)) =
      .nx (sr (.tup [.ref r, .int k]) P.length hv (P.length + (d0 + 1)) y4 (some (.ref (P.length + (J.length + 1)))) (some (.int (total ps)))) (P ++ (.lst (ks ++ [.tup [.ref (P.length + (J.length + 1)), .ref (P.length + (J.length + 4))]]) :: (J ++ J5 (play ps k) ps))) := by
  obtain ⟨U, u1, u2⟩ := unrolled_run ps k hs (by omega) hk
  have h0 := (hh ks []).snap
  rw [List.append_nil] at h0
  have cu : C_unrolled [hv] (P ++ (.lst ks :: J)) = .ok (.ref (P.length + (J.length + 1))) (P ++ (.lst ks :: (J ++ [.lst (iL (play ps k))]))) := by
    rw [show C_unrolled = snF F_unrolled from rfl, sn_iL (snap1 h0) u1 u2, pl]
    simp
  have pn := play_len (k := k) hs hl
  have a1 : sAsg (.nm 5) (mCall C_unrolled (mCons (mVar 2) mNil)) (sr (.tup [.ref r, .int k]) P.length hv (P.length + (d0 + 1)) y4 y5 y6) (P ++ (.lst ks :: J)) = .nx (sr (.tup [.ref r, .int k]) P.length hv (P.length + (d0 + 1)) y4 (some (.ref (P.length + (J.length + 1)))) y6) (P ++ (.lst ks :: (J ++ [.lst (iL (play ps k))]))) := by
    simp only [ev_asg, ev_call, ev_cons, ev_nil, ev_var, List.getElem?_cons_zero, List.getElem?_cons_succ, slotV_some, bind_ok, cu, st_ok, tgI_nm, oSomeS_some, List.set_cons_zero, List.set_cons_succ]
  obtain ⟨U2, m1⟩ := many_run ps k hs (by omega)
  have cm : ∀ {ks' : List IV} {T : Sto}, C_many [hv] (P ++ (.lst ks' :: (J ++ T))) = .ok (.int (total ps)) (P ++ (.lst ks' :: (J ++ T))) := fun {ks' T} => sn_sc (snap1 (hh ks' T).snap) m1 rfl
  have a2 : ∀ {ks' : List IV} {T : Sto} {y5 y6 : Option IV}, sAsg (.nm 6) (mCall C_many (mCons (mVar 2) mNil)) (sr (.tup [.ref r, .int k]) P.length hv (P.length + (d0 + 1)) y4 y5 y6) (P ++ (.lst ks' :: (J ++ T))) = .nx (sr (.tup [.ref r, .int k]) P.length hv (P.length + (d0 + 1)) y4 y5 (some (.int (total ps)))) (P ++ (.lst ks' :: (J ++ T))) := fun {ks' T y5 y6} => by
    simp only [ev_asg, ev_call, ev_cons, ev_nil, ev_var, List.getElem?_cons_zero, List.getElem?_cons_succ, slotV_some, bind_ok, cm, st_ok, tgI_nm, oSomeS_some, List.set_cons_zero, List.set_cons_succ]
  rw [rbody]
  simp only [ev_seq, a1, go_nx, rt_b hd pn, rt_c hd pn hks, rt_d pn, a2]
  rw [rt_f (get_old hr) q.app hs (by omega)]
  simp [J5]
theorem right_run (hr : P[r]? = some (.lst vs)) (q : PartsAt P vs ps) (g : ∀ p ∈ ps, p.good) (hn : ps ≠ []) (hl : ps.length ≤ 100) (hk : k ≤ min 3 ps.length) (hks : ks.length ≤ 900) :
    ∃ f d f' d' T, F_l_right [.tup [.ref r, .int k], .ref P.length] (P ++ (.lst ks :: J)) = .ok (.bl true) (P ++ (.lst (ks ++ [.tup [.ref (P.length + (f + 1)), .ref (P.length + (d + 1))], .tup [.ref (P.length + (f' + 1)), .ref (P.length + (d' + 1))]]) :: (J ++ T))) ∧
      (J ++ T)[f]? = some (.lst (iL (play ps k ++ [0]))) ∧ (J ++ T)[d]? = some (.lst (iL (play ps k ++ [0]))) ∧ (J ++ T)[f']? = some (.lst (iL (play ps k ++ [0]))) ∧ (J ++ T)[d']? = some (.lst (iL (play ps k ++ [0]))) := by
  have hs : ∀ p ∈ ps, p.small := fun p hp => (g p hp).small
  have hv0 : RollAt P (.tup [.ref r, .int k]) ps k := ⟨r, vs, rfl, hr, q⟩
  -- the copy
  have hlen : ∀ ks' : List IV, (P ++ (.lst ks' :: J)).length = P.length + (J.length + 1) := fun ks' => pl
  have cc := copied_call (S := P ++ (.lst ks :: J)) ps k hs (by omega) (hv0.app (T := .lst ks :: J)).snap
  have hp : ∀ (ks' : List IV) (T : Sto), RollAt (P ++ (.lst ks' :: (J ++ ((plantI (P.length + (J.length + 1)) (rollT ps k)).2 ++ T)))) (plantI (P.length + (J.length + 1)) (rollT ps k)).1 ps k := fun ks' T => by
    have := (plant_roll (P ++ (.lst ks' :: J)) ps k).app (T := T)
    rw [hlen] at this
    simpa only [List.append_assoc, List.cons_append] using this
  rw [hlen] at cc
  generalize plantI (P.length + (J.length + 1)) (rollT ps k) = pt at cc hp
  obtain ⟨hv, O⟩ := pt
  simp only at cc hp
  -- what is due
  obtain ⟨U, i, u1, u2⟩ := played_run ps k hs (by omega) (by omega)
  have sq : snapI (P ++ (.lst ks :: (J ++ O))) 9 (.ref r) = some (.sq (ps.map Part.tree)) := by
    simp only [snapI, get_old (T := .lst ks :: (J ++ O)) hr, (q.app (T := .lst ks :: (J ++ O))).snap (n := 5), Option.map_some]
  have cp : C_l_played [.ref r, .int k] (P ++ (.lst ks :: (J ++ O))) = .ok (.ref (P.length + ((J ++ O).length + 1))) (P ++ (.lst ks :: (J ++ O ++ [.lst (iL (play ps k))]))) := by
    rw [show C_l_played = snF F_l_played from rfl, sn_iL (snap2 sq snap_int) u1 u2, pl]
    simp
  have hJ : ∀ T : Sto, (J ++ O ++ [SO.lst (iL (play ps k))] ++ T)[(J ++ O).length]? = some (.lst (iL (play ps k))) := fun T => by
    rw [List.append_assoc, get_app]; rfl
  have hh : ∀ (U' : Sto) (ks' : List IV) (T : Sto), RollAt (P ++ (.lst ks' :: (J ++ O ++ U' ++ T))) hv ps k := fun U' ks' T => by
    have := hp ks' (U' ++ T)
    simpa only [List.append_assoc] using this
  have i1 := iter_run (J := J ++ O ++ [.lst (iL (play ps k))]) (ks := ks) (hv := hv) (d0 := (J ++ O).length) (y4 := some (.int 0)) (y5 := none) (y6 := none) hr q hs hl (by omega) (fun ks' T => hh _ ks' T) (by have := hJ []; rw [List.append_nil] at this; exact this) (by omega)
  have i2 := iter_run (J := J ++ O ++ [.lst (iL (play ps k))] ++ J5 (play ps k) ps) (ks := ks ++ [.tup [.ref (P.length + ((J ++ O ++ [SO.lst (iL (play ps k))]).length + 1)), .ref (P.length + ((J ++ O ++ [SO.lst (iL (play ps k))]).length + 4))]]) (hv := hv) (d0 := (J ++ O).length) (y4 := some (.int 1)) (y5 := some (.ref (P.length + ((J ++ O ++ [SO.lst (iL (play ps k))]).length + 1)))) (y6 := some (.int (total ps))) hr q hs hl (by omega)
    (fun ks' T => by have := hh ([.lst (iL (play ps k))] ++ J5 (play ps k) ps) ks' T; simpa only [List.append_assoc] using this) (hJ _) (by rw [List.length_append]; simp; omega)
  have s1 : sAsg (.nm 2) (mCall C_l_copied (mCons (mVar 0) mNil)) [some (.tup [.ref r, .int k]), some (.ref P.length), none, none, none, none, none, none, none, none] (P ++ (.lst ks :: J)) = .nx [some (.tup [.ref r, .int k]), some (.ref P.length), some hv, none, none, none, none, none, none, none] (P ++ (.lst ks :: (J ++ O))) := by
    simp only [ev_asg, ev_call, ev_cons, ev_nil, ev_var, List.getElem?_cons_zero, List.getElem?_cons_succ, slotV_some, bind_ok, cc, st_ok, tgI_nm, oSomeS_some, List.set_cons_zero, List.set_cons_succ, List.append_assoc, List.cons_append]
  have s2 : sAsg (.nm 3) (mCall C_l_played (mCons (mBin iIx (mVar 0) (mC (.int 0))) (mCons (mBin iIx (mVar 0) (mC (.int 1))) mNil))) [some (.tup [.ref r, .int k]), some (.ref P.length), some hv, none, none, none, none, none, none, none] (P ++ (.lst ks :: (J ++ O))) = .nx (sr (.tup [.ref r, .int k]) P.length hv (P.length + ((J ++ O).length + 1)) none none none) (P ++ (.lst ks :: (J ++ O ++ [.lst (iL (play ps k))]))) := by
    have j0 : iIx (.tup [.ref r, .int k]) (.int 0) (P ++ (.lst ks :: (J ++ O))) = some (.ref r, P ++ (.lst ks :: (J ++ O))) := rfl
    have j1 : iIx (.tup [.ref r, .int k]) (.int 1) (P ++ (.lst ks :: (J ++ O))) = some (.int k, P ++ (.lst ks :: (J ++ O))) := rfl
    simp only [ev_asg, ev_call, ev_cons, ev_nil, ev_bin, ev_c, ev_var, List.getElem?_cons_zero, List.getElem?_cons_succ, slotV_some, bind_ok, j0, j1, ofO_some, cp, st_ok, tgI_nm, oSomeS_some, List.set_cons_zero, List.set_cons_succ]
  have s3 := for_2 (g := .nm 4) (m := iRange1 (mCons (mC (.int 2)) mNil)) (b := rbody) (it := .rng 0 1 2) (v := .int 0) (w := .int 1) (t0 := sr (.tup [.ref r, .int k]) P.length hv (P.length + ((J ++ O).length + 1)) none none none) (t1 := sr (.tup [.ref r, .int k]) P.length hv (P.length + ((J ++ O).length + 1)) (some (.int 0)) none none) (t2 := sr (.tup [.ref r, .int k]) P.length hv (P.length + ((J ++ O).length + 1)) (some (.int 1)) (some (.ref (P.length + ((J ++ O ++ [SO.lst (iL (play ps k))]).length + 1)))) (some (.int (total ps)))) (S0 := P ++ (.lst ks :: (J ++ O ++ [.lst (iL (play ps k))]))) rfl rfl (tgI_nm.trans rfl) i1 rfl (tgI_nm.trans rfl) i2 rfl
  have ss : startI N_l_right [.tup [.ref r, .int k], .ref P.length] = [some (.tup [.ref r, .int k]), some (.ref P.length), none, none, none, none, none, none, none, none] := rfl
  generalize hK : (ks ++ [.tup [.ref (P.length + ((J ++ O ++ [SO.lst (iL (play ps k))]).length + 1)), .ref (P.length + ((J ++ O ++ [SO.lst (iL (play ps k))]).length + 4))]]) ++ [.tup [.ref (P.length + ((J ++ O ++ [SO.lst (iL (play ps k))] ++ J5 (play ps k) ps).length + 1)), .ref (P.length + ((J ++ O ++ [SO.lst (iL (play ps k))] ++ J5 (play ps k) ps).length + 4))]] = K at s3
  have hq : RollAt (P ++ (.lst K :: (J ++ O ++ [SO.lst (iL (play ps k))] ++ J5 (play ps k) ps ++ J5 (play ps k) ps))) hv ps k := by
    have := hh ([.lst (iL (play ps k))] ++ J5 (play ps k) ps) K (J5 (play ps k) ps)
    simpa only [List.append_assoc] using this
  obtain ⟨T, ir⟩ := isRoll_good hq g hn (by omega) hk
  have he : eqI hv (.tup [.ref r, .int k]) (P ++ (.lst K :: (J ++ O ++ [SO.lst (iL (play ps k))] ++ J5 (play ps k) ps ++ J5 (play ps k) ps)) ++ T) = some true := eqI_same hq.app.snap ((hv0.app (T := .lst K :: (J ++ O ++ [SO.lst (iL (play ps k))] ++ J5 (play ps k) ps ++ J5 (play ps k) ps))).app (T := T)).snap roll_ok
  have l5 : (J5 (play ps k) ps).length = 5 := rfl
  have iz : iL (play ps k) ++ [.int 0] = iL (play ps k ++ [0]) := by simp [iL]
  have e1 : J ++ (O ++ ([SO.lst (iL (play ps k))] ++ (J5 (play ps k) ps ++ (J5 (play ps k) ps ++ T)))) = (J ++ O ++ [SO.lst (iL (play ps k))]) ++ (J5 (play ps k) ps ++ (J5 (play ps k) ps ++ T)) := by simp only [List.append_assoc]
  have e2 : J ++ (O ++ ([SO.lst (iL (play ps k))] ++ (J5 (play ps k) ps ++ (J5 (play ps k) ps ++ T)))) = (J ++ O ++ [SO.lst (iL (play ps k))] ++ J5 (play ps k) ps) ++ (J5 (play ps k) ps ++ T) := by simp only [List.append_assoc]
  refine ⟨(J ++ O ++ [SO.lst (iL (play ps k))]).length, (J ++ O ++ [SO.lst (iL (play ps k))]).length + 3, (J ++ O ++ [SO.lst (iL (play ps k))] ++ J5 (play ps k) ps).length, (J ++ O ++ [SO.lst (iL (play ps k))] ++ J5 (play ps k) ps).length + 3, O ++ ([.lst (iL (play ps k))] ++ (J5 (play ps k) ps ++ (J5 (play ps k) ps ++ T))), ?_, ?_, ?_, ?_, ?_⟩
  · have hb : b_l_right = sSeq (sAsg (.nm 2) (mCall C_l_copied (mCons (mVar 0) mNil))) (sSeq (sAsg (.nm 3) (mCall C_l_played (mCons (mBin iIx (mVar 0) (mC (.int 0))) (mCons (mBin iIx (mVar 0) (mC (.int 1))) mNil)))) (sSeq (sFor (.nm 4) (iRange1 (mCons (mC (.int 2)) mNil)) rbody)
      (sRet (mAnd (mBin iIs (mCall F_is_roll (mCons (mVar 2) mNil)) (mC (.bl true))) (mBin iEq (mVar 2) (mVar 0)))))) := rfl
    rw [F_l_right, ev_fun, ss, hb]
    simp only [ev_seq, s1, go_nx, s2, s3]
    have ist : ∀ S : Sto, iIs (.bl true) (.bl true) S = some (.bl true, S) := fun _ => rfl
    simp only [ev_ret, ev_and, ev_bin, ev_call, ev_cons, ev_nil, ev_var, ev_c, List.getElem?_cons_zero, List.getElem?_cons_succ, slotV_some, bind_ok, ir, ist, ofO_some, blV_bl, if_true, eq_e, he, Option.map_some, st_ok, fin_ret]
    rw [← hK]
    simp [J5]
  · rw [e1, get_app, ← iz]; rfl
  · rw [e1, get_app1, ← iz]; rfl
  · rw [e2, get_app, ← iz]; rfl
  · rw [e2, get_app1, ← iz]; rfl
end
/-! ### the law -/
def KOk (J : Sto) (κ : Nat) (x : IV) : Prop := ∃ f d X, x = .tup [.ref (κ + (f + 1)), .ref (κ + (d + 1))] ∧ J[f]? = some (.lst (iL X)) ∧ J[d]? = some (.lst (iL X))
theorem KOk.app {J T : Sto} {κ : Nat} {x : IV} (h : KOk J κ x) : KOk (J ++ T) κ x := by
  obtain ⟨f, d, X, e, h1, h2⟩ := h
  exact ⟨f, d, X, e, get_old h1, get_old h2⟩
theorem right_kept {P J : Sto} {ks : List IV} {v : IV} {ps : List Part} {k : Nat} (h : RollAt P v ps k) (g : ∀ p ∈ ps, p.good) (hn : ps ≠ []) (hl : ps.length ≤ 100) (hk : k ≤ min 3 ps.length) (hks : ks.length ≤ 900) (ok : ∀ x ∈ ks, KOk J P.length x) :
    ∃ ks' J', F_l_right [v, .ref P.length] (P ++ (.lst ks :: J)) = .ok (.bl true) (P ++ (.lst ks' :: J')) ∧ ks'.length = ks.length + 2 ∧ ∀ x ∈ ks', KOk J' P.length x := by
  obtain ⟨r, vs, e, hr, q⟩ := h
  subst e
  obtain ⟨f, d, f', d', T, e1, h1, h2, h3, h4⟩ := right_run (J := J) (ks := ks) hr q g hn hl hk hks
  refine ⟨_, _, e1, by simp, fun x hx => ?_⟩
  rcases List.mem_append.mp hx with hx | hx
  · exact (ok x hx).app
  · simp only [List.mem_cons, List.not_mem_nil, or_false] at hx
    rcases hx with rfl | rfl
    · exact ⟨_, _, _, rfl, h1, h2⟩
    · exact ⟨_, _, _, rfl, h3, h4⟩
def lrBody : SS := sIf (mNotT (mTru (mCall F_l_right (mCons (mBin iIx (mVar 1) (mVar 2)) (mCons (mVar 3) mNil))))) (sRet (mC (.bl false))) sNil
def lmBody : SS := sExpr (mMt "list" mAppend (mVar 1) (mCons (mCall C_l_roll (mCons (mCall C_l_cell_at (mCons (mVar 0) (mCons (mBin iMul (mC (.int 2)) (mVar 2)) mNil))) (mCons (mCall C_l_mixed (mCons (mCall C_l_cell_at (mCons (mVar 0) (mCons (mBin iAdd (mBin iMul (mC (.int 2)) (mVar 2)) (mC (.int 1))) mNil))) (mCons (mC (.int 2)) mNil))) mNil))) mNil))
def cellN (ns : List Int) (j : Nat) : Int := ns[j]?.getD 0
def psN (ns : List Int) (j : Nat) : List Part := rollParts (cellN ns (2 * j)) (mixed (cellN ns (2 * j + 1)) 2)
def bkN (ns : List Int) (j : Nat) : Nat := rollBack (cellN ns (2 * j)) (mixed (cellN ns (2 * j + 1)) 2)
theorem psN_ok (ns : List Int) (j : Nat) : (∀ p ∈ psN ns j, p.good) ∧ psN ns j ≠ [] ∧ (psN ns j).length ≤ 100 ∧ bkN ns j ≤ min 3 (psN ns j).length := by
  have hl := rollParts_len (cellN ns (2 * j)) (mixed (cellN ns (2 * j + 1)) 2)
  have h1 := Int.emod_nonneg (cellN ns (2 * j)) (by decide : (6 : Int) ≠ 0)
  have h2 := Int.emod_lt_of_pos (cellN ns (2 * j)) (by decide : (0 : Int) < 6)
  refine ⟨rollParts_good _ _, fun z => ?_, ?_, rollBack_le _ _⟩
  · have : (psN ns j).length = 0 := by rw [z]; rfl
    unfold psN at this
    omega
  · unfold psN
    omega
section
variable {ns : List Int}
theorem make_run {L : List IV} {O : Sto} {j : Nat} {y3 : Option IV} (hj : j ≤ 1) (hL : L.length ≤ 10) : lmBody [some (.sq (iL ns)), some (.ref 0), some (.int j), y3, none, none] (.lst L :: O) =
    .nx [some (.sq (iL ns)), some (.ref 0), some (.int j), y3, none, none] (.lst (L ++ [(plantI (O.length + 1) (rollT (psN ns j) (bkN ns j))).1]) :: (O ++ (plantI (O.length + 1) (rollT (psN ns j) (bkN ns j))).2)) := by
  have c1 : ∀ S : Sto, C_l_cell_at [.sq (iL ns), .int (2 * j)] S = .ok (.int (cellN ns (2 * j))) S := fun S => by
    have := cell_call (S := S) ns (2 * j)
    simpa [cellN] using this
  have c2 : ∀ S : Sto, C_l_cell_at [.sq (iL ns), .int (2 * j + 1)] S = .ok (.int (cellN ns (2 * j + 1))) S := fun S => by
    have := cell_call (S := S) ns (2 * j + 1)
    simpa [cellN] using this
  have c3 : ∀ S : Sto, C_l_mixed [.int (cellN ns (2 * j + 1)), .int 2] S = .ok (.int (mixed (cellN ns (2 * j + 1)) 2)) S := fun S => mixed_call _ 2 (by omega)
  have c4 := roll_call (S := .lst L :: O) (cellN ns (2 * j)) (mixed (cellN ns (2 * j + 1)) 2)
  have it : isTy "list" (.ref 0) (.lst L :: O) = true := rfl
  have mm : ∀ S : Sto, iMul (.int 2) (.int j) S = some (.int (2 * j), S) := fun S => by
    rw [mul_ii, if_pos (okMul_l (by omega))]
  rw [List.length_cons] at c4
  have ap : ∀ (w : IV) (T : Sto), mAppend (.ref 0) [w] (.lst L :: T) = some (.non, .lst (L ++ [w]) :: T) := fun w T => by
    rw [append_r]
    simp only [List.getElem?_cons_zero, lstO_l, Option.bind_some, if_pos (show L.length < 16777216 by omega), List.set_cons_zero]
  rw [lmBody]
  simp only [ev_expr, ev_mt, ev_var, List.getElem?_cons_zero, List.getElem?_cons_succ, slotV_some, bind_ok, it, if_true, ev_cons, ev_nil, ev_call, ev_bin, ev_c, mm, ofO_some, c1, add_ii, c2, c3, c4, List.cons_append, ap, st_ok]
  rfl
theorem rr_run {P J : Sto} {ks : List IV} {v : IV} {ps : List Part} {k : Nat} {z : Int} {L : List IV} {y4 y5 : Option IV} (hL : P[0]? = some (.lst L)) (hv : L2.atI L z = some v) (h : RollAt P v ps k) (g : (∀ p ∈ ps, p.good) ∧ ps ≠ [] ∧ ps.length ≤ 100 ∧ k ≤ min 3 ps.length) (hks : ks.length ≤ 900) (ok : ∀ x ∈ ks, KOk J P.length x) :
    ∃ ks' J', lrBody [some (.sq (iL ns)), some (.ref 0), some (.int z), some (.ref P.length), y4, y5] (P ++ (.lst ks :: J)) = .nx [some (.sq (iL ns)), some (.ref 0), some (.int z), some (.ref P.length), y4, y5] (P ++ (.lst ks' :: J')) ∧ ks'.length = ks.length + 2 ∧ ∀ x ∈ ks', KOk J' P.length x := by
  obtain ⟨ks', J', e1, e2, e3⟩ := right_kept (ks := ks) (J := J) h g.1 g.2.1 g.2.2.1 g.2.2.2 hks ok
  refine ⟨ks', J', ?_, e2, e3⟩
  have ix : iIx (.ref 0) (.int z) (P ++ (.lst ks :: J)) = some (v, P ++ (.lst ks :: J)) := by rw [ix_ref (get_old hL), hv]; rfl
  rw [lrBody]
  simp only [ev_if, ev_notT, ev_tru, ev_call, ev_cons, ev_nil, ev_bin, ev_var, List.getElem?_cons_zero, List.getElem?_cons_succ, slotV_some, bind_ok, ix, ofO_some, e1, tru_bl, oSome_some, st_ok, Bool.not_true, if_neg Bool.false_ne_true, ev_sNil]
theorem run : ∀ ns : List Int, ns.length ≤ 63 → (∀ z ∈ ns, Builtin.Int.intBits z ≤ 1048576) → ∃ S, F_law [.sq (ns.map IV.int)] [] = .ok (.bl true) S := fun ns _ _ => by
  show ∃ S, F_law [.sq (iL ns)] [] = .ok (.bl true) S
  -- the rolls
  have m0 := make_run (ns := ns) (L := []) (O := []) (j := 0) (y3 := none) (by omega) (by simp)
  have p0 : ∀ (L : List IV) (T : Sto), RollAt (.lst L :: ((plantI 1 (rollT (psN ns 0) (bkN ns 0))).2 ++ T)) (plantI 1 (rollT (psN ns 0) (bkN ns 0))).1 (psN ns 0) (bkN ns 0) := fun L T => (plant_roll [.lst L] (psN ns 0) (bkN ns 0)).app (T := T)
  simp only [List.length_nil, Nat.zero_add, List.nil_append] at m0
  generalize plantI 1 (rollT (psN ns 0) (bkN ns 0)) = pt0 at m0 p0
  obtain ⟨v0, O0⟩ := pt0
  simp only at m0 p0
  have m1 := make_run (ns := ns) (L := [v0]) (O := O0) (j := 1) (y3 := none) (by omega) (by simp)
  have p1 : ∀ (L : List IV), RollAt (.lst L :: (O0 ++ (plantI (O0.length + 1) (rollT (psN ns 1) (bkN ns 1))).2)) (plantI (O0.length + 1) (rollT (psN ns 1) (bkN ns 1))).1 (psN ns 1) (bkN ns 1) := fun L => by
    have := plant_roll (.lst L :: O0) (psN ns 1) (bkN ns 1)
    simpa using this
  generalize plantI (O0.length + 1) (rollT (psN ns 1) (bkN ns 1)) = pt1 at m1 p1
  obtain ⟨v1, O1'⟩ := pt1
  simp only [List.cons_append, List.nil_append] at m1 p1
  have hP0 := p0 [v0, v1] O1'
  have hP1 := p1 [v0, v1]
  have s2 := for_2 (g := .nm 2) (m := iRange1 (mCons (mC (.int 2)) mNil)) (b := lmBody) (it := .rng 0 1 2) (v := .int 0) (w := .int 1) (t0 := [some (.sq (iL ns)), some (.ref 0), none, none, none, none]) (t1 := [some (.sq (iL ns)), some (.ref 0), some (.int (0 : Nat)), none, none, none]) (t2 := [some (.sq (iL ns)), some (.ref 0), some (.int (1 : Nat)), none, none, none]) (S0 := [.lst []]) rfl rfl (tgI_nm.trans rfl) m0 rfl (tgI_nm.trans rfl) m1 rfl
  -- kept
  generalize hP : SO.lst [v0, v1] :: (O0 ++ O1') = P at hP0 hP1 s2
  have hL : P[0]? = some (.lst [v0, v1]) := by rw [← hP]; rfl
  have g0 := psN_ok ns 0
  have g1 := psN_ok ns 1
  obtain ⟨k1, J1, r1, l1, o1⟩ := rr_run (ns := ns) (J := []) (ks := []) (z := 0) (y4 := none) (y5 := none) hL rfl hP0 g0 (by simp) (fun x h => by cases h)
  obtain ⟨k2, J2, r2, l2, o2⟩ := rr_run (ns := ns) (J := J1) (ks := k1) (z := 1) (y4 := none) (y5 := none) hL rfl hP1 g1 (by simp at l1; omega) o1
  obtain ⟨k3, J3, r3, l3, o3⟩ := rr_run (ns := ns) (J := J2) (ks := k2) (z := 0) (y4 := none) (y5 := none) hL rfl hP0 g0 (by simp at l1; omega) o2
  have s4 := for_3 (g := .nm 2) (m := iVal (mTup (mCons (mC (.int 0)) (mCons (mC (.int 1)) (mCons (mC (.int 0)) mNil))))) (b := lrBody) (it := .tup [.int 0, .int 1, .int 0]) (v := .int 0) (w := .int 1) (x := .int 0) (t0 := [some (.sq (iL ns)), some (.ref 0), some (.int (1 : Nat)), some (.ref P.length), none, none])
    (t1 := [some (.sq (iL ns)), some (.ref 0), some (.int 0), some (.ref P.length), none, none]) (t2 := [some (.sq (iL ns)), some (.ref 0), some (.int 1), some (.ref P.length), none, none]) (t3 := [some (.sq (iL ns)), some (.ref 0), some (.int 0), some (.ref P.length), none, none]) (S0 := P ++ [.lst []]) rfl rfl (tgI_nm.trans rfl) r1 rfl (tgI_nm.trans rfl) r2 rfl (tgI_nm.trans rfl) r3 rfl
  -- what is otherwise
  have c1 : ∀ S : Sto, C_l_cell_at [.sq (iL ns), .int 4] S = .ok (.int (cellN ns 4)) S := fun S => cell_call (S := S) ns 4
  have c2 : ∀ S : Sto, C_l_mixed [.int (cellN ns 4), .int 3] S = .ok (.int (mixed (cellN ns 4) 3)) S := fun S => mixed_call _ 3 (by omega)
  obtain ⟨w, T1, T2, x1, x2⟩ := otherwise_run (c := mixed (cellN ns 4) 3) (hP0.app (T := .lst k3 :: J3)) g0.1 g0.2.1 (by have := g0.2.2.1; omega)
  have hb : b_law = sSeq (sAsg (.nm 1) (mLst mNil)) (sSeq (sFor (.nm 2) (iRange1 (mCons (mC (.int 2)) mNil)) lmBody) (sSeq (sAsg (.nm 3) (mLst mNil)) (sSeq (sFor (.nm 2) (iVal (mTup (mCons (mC (.int 0)) (mCons (mC (.int 1)) (mCons (mC (.int 0)) mNil))))) lrBody)
    (sSeq (sIf (mB (mBin iIsNot (mCall F_is_roll (mCons (mCall F_l_otherwise (mCons (mBin iIx (mVar 1) (mC (.int 0))) (mCons (mCall C_l_mixed (mCons (mCall C_l_cell_at (mCons (mVar 0) (mCons (mC (.int 4)) mNil))) (mCons (mC (.int 3)) mNil))) mNil))) mNil)) (mC (.bl false)))) (sRet (mC (.bl false))) sNil)
    (sRet (mBin iEq (mLc [4, 5] (.nm 5) (iVal (mVar 3)) (mB (mBin iNe (mBin iIx (mVar 5) (mC (.int 0))) (mBin iIx (mVar 5) (mC (.int 1))))) (mVar 5)) (mLst mNil))))))) := rfl
  have ss : startI N_law [.sq (iL ns)] = [some (.sq (iL ns)), none, none, none, none, none] := rfl
  have a1 : sAsg (.nm 1) (mLst mNil) [some (.sq (iL ns)), none, none, none, none, none] [] = .nx [some (.sq (iL ns)), some (.ref 0), none, none, none, none] [.lst []] := rfl
  have a3 : sAsg (.nm 3) (mLst mNil) [some (.sq (iL ns)), some (.ref 0), some (.int (1 : Nat)), none, none, none] P = .nx [some (.sq (iL ns)), some (.ref 0), some (.int (1 : Nat)), some (.ref P.length), none, none] (P ++ [.lst []]) := rfl
  have a5 : sIf (mB (mBin iIsNot (mCall F_is_roll (mCons (mCall F_l_otherwise (mCons (mBin iIx (mVar 1) (mC (.int 0))) (mCons (mCall C_l_mixed (mCons (mCall C_l_cell_at (mCons (mVar 0) (mCons (mC (.int 4)) mNil))) (mCons (mC (.int 3)) mNil))) mNil))) mNil)) (mC (.bl false)))) (sRet (mC (.bl false))) sNil [some (.sq (iL ns)), some (.ref 0), some (.int 0), some (.ref P.length), none, none] (P ++ (.lst k3 :: J3)) =
      .nx [some (.sq (iL ns)), some (.ref 0), some (.int 0), some (.ref P.length), none, none] (P ++ (.lst k3 :: J3) ++ T1 ++ T2) := by
    have ix : iIx (.ref 0) (.int 0) (P ++ (.lst k3 :: J3)) = some (v0, P ++ (.lst k3 :: J3)) := by rw [ix_ref (get_old hL)]; rfl
    have inn : ∀ S : Sto, iIsNot (.bl false) (.bl false) S = some (.bl false, S) := fun _ => rfl
    simp only [ev_if, ev_B, ev_bin, ev_call, ev_cons, ev_nil, ev_var, ev_c, List.getElem?_cons_zero, List.getElem?_cons_succ, slotV_some, bind_ok, ix, ofO_some, c1, c2, x1, x2, inn, asB_bl, st_ok, if_neg Bool.false_ne_true, ev_sNil]
  -- the pairs
  have hk : (P ++ (.lst k3 :: J3) ++ T1 ++ T2)[P.length]? = some (.lst k3) := get_old (get_old gk)
  have eJ : P ++ (SO.lst k3 :: J3) ++ T1 ++ T2 = P ++ (.lst k3 :: (J3 ++ (T1 ++ T2))) := by simp only [List.append_assoc, List.cons_append]
  have lc := lc_pure (own := [4, 5]) (g := .nm 5) (m := iVal (mVar 3)) (c := mB (mBin iNe (mBin iIx (mVar 5) (mC (.int 0))) (mBin iIx (mVar 5) (mC (.int 1))))) (e := mVar 5) (it := .lst (.ref P.length)) (t0 := [some (.sq (iL ns)), some (.ref 0), some (.int 0), some (.ref P.length), none, none])
    (S0 := P ++ (.lst k3 :: J3) ++ T1 ++ T2) (S1 := P ++ (.lst k3 :: J3) ++ T1 ++ T2) (xs := k3) (p := fun _ => false) (f := fun x => x) (by
      rw [ev_iVal]
      simp only [ev_var, List.getElem?_cons_zero, List.getElem?_cons_succ, slotV_some, bind_ok]
      exact itV_r hk) (fun n acc => next_r (get_old hk)) (fun n x acc ex => by
      obtain ⟨f, d, X, e, h1, h2⟩ := o3 x (List.mem_of_getElem? ex)
      subst e
      refine ⟨[some (.sq (iL ns)), some (.ref 0), some (.int 0), some (.ref P.length), none, some (.tup [.ref (P.length + (f + 1)), .ref (P.length + (d + 1))])], by simp [tgI_nm, wipeI], ?_, nofun⟩
      have f1 : (P ++ (.lst k3 :: J3) ++ T1 ++ T2 ++ [.lst acc])[P.length + (f + 1)]? = some (.lst (iL X)) := by rw [eJ]; exact get_old (gj h1)
      have f2 : (P ++ (.lst k3 :: J3) ++ T1 ++ T2 ++ [.lst acc])[P.length + (d + 1)]? = some (.lst (iL X)) := by rw [eJ]; exact get_old (gj h2)
      have eq := eqI_same (iL_q f1) (iL_q f2) (okT_mono (n := 2) okT_iL (by omega))
      generalize P ++ (.lst k3 :: J3) ++ T1 ++ T2 ++ [.lst acc] = Q at eq
      have j0 : iIx (.tup [.ref (P.length + (f + 1)), .ref (P.length + (d + 1))]) (.int 0) Q = some (.ref (P.length + (f + 1)), Q) := rfl
      have j1 : iIx (.tup [.ref (P.length + (f + 1)), .ref (P.length + (d + 1))]) (.int 1) Q = some (.ref (P.length + (d + 1)), Q) := rfl
      simp only [ev_B, ev_bin, ev_var, ev_c, List.getElem?_cons_zero, List.getElem?_cons_succ, slotV_some, bind_ok, j0, j1, ofO_some, ne_e, eq, Option.map_some, Bool.not_true, asB_bl]) (by simp at l1; omega)
  have ef : (k3.filter fun _ => false).map (fun x : IV => x) = [] := by simp
  rw [ef] at lc
  generalize P ++ (.lst k3 :: J3) ++ T1 ++ T2 = Q at lc a5
  have eq : eqI (.ref Q.length) (.ref (Q ++ [SO.lst []]).length) (Q ++ [.lst []] ++ [.lst []]) = some true := by
    refine eqI_same (t := .sq []) ?_ ?_ rfl
    · simp only [snapI, get_old (T := [SO.lst []]) (get_app (S := Q) (S1 := [SO.lst []]))]; rfl
    · simp only [snapI, get_app]; rfl
  refine ⟨Q ++ [.lst []] ++ [.lst []], ?_⟩
  rw [F_law, ev_fun, ss, hb]
  simp only [ev_seq, a1, go_nx, s2, a3, s4, a5]
  simp only [ev_ret, ev_bin, lc, bind_ok, ev_lst, ev_nil, List.length_nil, Nat.zero_le, if_true, eq_e, eq, Option.map_some, ofO_some, st_ok, fin_ret]
end
end BW

namespace BW
open PySem PySem.Spec PyProof.Rows L2 IP
def topS (i : Nat) : Stmt := PySem.Challenge.pw_barwright_k20_rolls_played.main.body.getD i (.Pass ⟨0, 0, 0, 0⟩)
def gvs : List (Str × IV) := [("MOST_LIST", (.int 4)), ("MOST_BACK", (.int 3))]
def nbs : List Str := ["isinstance", "int", "bool", "list", "len", "all", "tuple", "min", "range", "sum"]
abbrev T_0 : Tb := ⟨[], gvs, nbs⟩
abbrev st_is_whole : Stmt := topS 1
theorem sc_is_whole : FnScope N_is_whole ["thing"] (defScope st_is_whole) := ⟨rfl, rfl, rfl, by decide +kernel, rfl, by decide +kernel, by decide +kernel⟩
theorem ba_is_whole : BindA "is_whole" st_is_whole ["thing"] := fun _ _ _ _ _ _ us hl => match us, hl with | [_], _ => rfl
theorem d_is_whole : denDef T_0 N_is_whole st_is_whole = some b_is_whole := by kernel_rfl
abbrev T_1 : Tb := ⟨("is_whole", 1, F_is_whole) :: (T_0).fn, (T_0).gv, (T_0).nb⟩
abbrev st_is_among : Stmt := topS 2
theorem sc_is_among : FnScope N_is_among ["thing", "least", "most"] (defScope st_is_among) := ⟨rfl, rfl, rfl, by decide +kernel, rfl, by decide +kernel, by decide +kernel⟩
theorem ba_is_among : BindA "is_among" st_is_among ["thing", "least", "most"] := fun _ _ _ _ _ _ us hl => match us, hl with | [_, _, _], _ => rfl
theorem d_is_among : denDef T_1 N_is_among st_is_among = some b_is_among := by kernel_rfl
abbrev T_2 : Tb := ⟨("is_among", 3, F_is_among) :: (T_1).fn, (T_1).gv, (T_1).nb⟩
abbrev st_is_bar : Stmt := topS 6
theorem sc_is_bar : FnScope N_is_bar ["thing"] (defScope st_is_bar) := ⟨rfl, rfl, rfl, by decide +kernel, rfl, by decide +kernel, by decide +kernel⟩
theorem ba_is_bar : BindA "is_bar" st_is_bar ["thing"] := fun _ _ _ _ _ _ us hl => match us, hl with | [_], _ => rfl
theorem d_is_bar : denDef T_2 N_is_bar st_is_bar = some b_is_bar := by kernel_rfl
abbrev T_3 : Tb := ⟨("is_bar", 1, F_is_bar) :: (T_2).fn, (T_2).gv, (T_2).nb⟩
abbrev st_is_list : Stmt := topS 7
theorem sc_is_list : FnScope N_is_list ["thing"] (defScope st_is_list) := ⟨rfl, rfl, rfl, by decide +kernel, rfl, by decide +kernel, by decide +kernel⟩
theorem ba_is_list : BindA "is_list" st_is_list ["thing"] := fun _ _ _ _ _ _ us hl => match us, hl with | [_], _ => rfl
theorem d_is_list : denDef T_3 N_is_list st_is_list = some b_is_list := by kernel_rfl
abbrev T_4 : Tb := ⟨("is_list", 1, F_is_list) :: (T_3).fn, (T_3).gv, (T_3).nb⟩
abbrev st_is_part : Stmt := topS 8
theorem sc_is_part : FnScope N_is_part ["thing"] (defScope st_is_part) := ⟨rfl, rfl, rfl, by decide +kernel, rfl, by decide +kernel, by decide +kernel⟩
theorem ba_is_part : BindA "is_part" st_is_part ["thing"] := fun _ _ _ _ _ _ us hl => match us, hl with | [_], _ => rfl
theorem d_is_part : denDef T_4 N_is_part st_is_part = some b_is_part := by kernel_rfl
abbrev T_5 : Tb := ⟨("is_part", 1, F_is_part) :: (T_4).fn, (T_4).gv, (T_4).nb⟩
abbrev st_is_roll : Stmt := topS 9
theorem sc_is_roll : FnScope N_is_roll ["thing"] (defScope st_is_roll) := ⟨rfl, rfl, rfl, by decide +kernel, rfl, by decide +kernel, by decide +kernel⟩
theorem ba_is_roll : BindA "is_roll" st_is_roll ["thing"] := fun _ _ _ _ _ _ us hl => match us, hl with | [_], _ => rfl
theorem d_is_roll : denDef T_5 N_is_roll st_is_roll = some b_is_roll := by kernel_rfl
abbrev T_6 : Tb := ⟨("is_roll", 1, F_is_roll) :: (T_5).fn, (T_5).gv, (T_5).nb⟩
abbrev st_l_cell_at : Stmt := topS 16
theorem sc_l_cell_at : FnScope N_l_cell_at ["_law_script", "_law_k"] (defScope st_l_cell_at) := ⟨rfl, rfl, rfl, by decide +kernel, rfl, by decide +kernel, by decide +kernel⟩
theorem ba_l_cell_at : BindA "_law_cell_at" st_l_cell_at ["_law_script", "_law_k"] := fun _ _ _ _ _ _ us hl => match us, hl with | [_, _], _ => rfl
theorem d_l_cell_at : denDef T_6 N_l_cell_at st_l_cell_at = some b_l_cell_at := by kernel_rfl
abbrev T_7 : Tb := ⟨("_law_cell_at", 2, C_l_cell_at) :: (T_6).fn, (T_6).gv, (T_6).nb⟩
abbrev st_l_mixed : Stmt := topS 17
theorem sc_l_mixed : FnScope N_l_mixed ["_law_cell", "_law_k"] (defScope st_l_mixed) := ⟨rfl, rfl, rfl, by decide +kernel, rfl, by decide +kernel, by decide +kernel⟩
theorem ba_l_mixed : BindA "_law_mixed" st_l_mixed ["_law_cell", "_law_k"] := fun _ _ _ _ _ _ us hl => match us, hl with | [_, _], _ => rfl
theorem d_l_mixed : denDef T_7 N_l_mixed st_l_mixed = some b_l_mixed := by kernel_rfl
abbrev T_8 : Tb := ⟨("_law_mixed", 2, C_l_mixed) :: (T_7).fn, (T_7).gv, (T_7).nb⟩
abbrev st_l_part : Stmt := topS 19
theorem sc_l_part : FnScope N_l_part ["_law_cell", "_law_wide"] (defScope st_l_part) := ⟨rfl, rfl, rfl, by decide +kernel, rfl, by decide +kernel, by decide +kernel⟩
theorem ba_l_part : BindA "_law_part" st_l_part ["_law_cell", "_law_wide"] := fun _ _ _ _ _ _ us hl => match us, hl with | [_, _], _ => rfl
theorem d_l_part : denDef T_8 N_l_part st_l_part = some b_l_part := by kernel_rfl
abbrev T_9 : Tb := ⟨("_law_part", 2, C_l_part) :: (T_8).fn, (T_8).gv, (T_8).nb⟩
abbrev st_l_roll : Stmt := topS 24
theorem sc_l_roll : FnScope N_l_roll ["_law_cell", "_law_more"] (defScope st_l_roll) := ⟨rfl, rfl, rfl, by decide +kernel, rfl, by decide +kernel, by decide +kernel⟩
theorem ba_l_roll : BindA "_law_roll" st_l_roll ["_law_cell", "_law_more"] := fun _ _ _ _ _ _ us hl => match us, hl with | [_, _], _ => rfl
theorem d_l_roll : denDef T_9 N_l_roll st_l_roll = some b_l_roll := by kernel_rfl
abbrev T_10 : Tb := ⟨("_law_roll", 2, C_l_roll) :: (T_9).fn, (T_9).gv, (T_9).nb⟩
abbrev st_l_otherwise : Stmt := topS 26
theorem sc_l_otherwise : FnScope N_l_otherwise ["_law_roll_here", "_law_cell"] (defScope st_l_otherwise) := ⟨rfl, rfl, rfl, by decide +kernel, rfl, by decide +kernel, by decide +kernel⟩
theorem ba_l_otherwise : BindA "_law_otherwise" st_l_otherwise ["_law_roll_here", "_law_cell"] := fun _ _ _ _ _ _ us hl => match us, hl with | [_, _], _ => rfl
theorem d_l_otherwise : denDef T_10 N_l_otherwise st_l_otherwise = some b_l_otherwise := by kernel_rfl
abbrev T_11 : Tb := ⟨("_law_otherwise", 2, F_l_otherwise) :: (T_10).fn, (T_10).gv, (T_10).nb⟩
abbrev st_first_time : Stmt := topS 10
theorem sc_first_time : FnScope N_first_time ["part"] (defScope st_first_time) := ⟨rfl, rfl, rfl, by decide +kernel, rfl, by decide +kernel, by decide +kernel⟩
theorem ba_first_time : BindA "first_time" st_first_time ["part"] := fun _ _ _ _ _ _ us hl => match us, hl with | [_], _ => rfl
theorem d_first_time : denDef T_11 N_first_time st_first_time = some b_first_time := by kernel_rfl
abbrev T_12 : Tb := ⟨("first_time", 1, C_first_time) :: (T_11).fn, (T_11).gv, (T_11).nb⟩
abbrev st_once_more : Stmt := topS 11
theorem sc_once_more : FnScope N_once_more ["part"] (defScope st_once_more) := ⟨rfl, rfl, rfl, by decide +kernel, rfl, by decide +kernel, by decide +kernel⟩
theorem ba_once_more : BindA "once_more" st_once_more ["part"] := fun _ _ _ _ _ _ us hl => match us, hl with | [_], _ => rfl
theorem d_once_more : denDef T_12 N_once_more st_once_more = some b_once_more := by kernel_rfl
abbrev T_13 : Tb := ⟨("once_more", 1, C_once_more) :: (T_12).fn, (T_12).gv, (T_12).nb⟩
abbrev st_unrolled : Stmt := topS 13
theorem sc_unrolled : FnScope N_unrolled ["roll"] (defScope st_unrolled) := ⟨rfl, rfl, rfl, by decide +kernel, rfl, by decide +kernel, by decide +kernel⟩
theorem ba_unrolled : BindA "unrolled" st_unrolled ["roll"] := fun _ _ _ _ _ _ us hl => match us, hl with | [_], _ => rfl
theorem d_unrolled : denDef T_13 N_unrolled st_unrolled = some b_unrolled := by kernel_rfl
abbrev T_14 : Tb := ⟨("unrolled", 1, C_unrolled) :: (T_13).fn, (T_13).gv, (T_13).nb⟩
abbrev st_bars_of : Stmt := topS 12
theorem sc_bars_of : FnScope N_bars_of ["part"] (defScope st_bars_of) := ⟨rfl, rfl, rfl, by decide +kernel, rfl, by decide +kernel, by decide +kernel⟩
theorem ba_bars_of : BindA "bars_of" st_bars_of ["part"] := fun _ _ _ _ _ _ us hl => match us, hl with | [_], _ => rfl
theorem d_bars_of : denDef T_14 N_bars_of st_bars_of = some b_bars_of := by kernel_rfl
abbrev T_15 : Tb := ⟨("bars_of", 1, C_bars_of) :: (T_14).fn, (T_14).gv, (T_14).nb⟩
abbrev st_many : Stmt := topS 14
theorem sc_many : FnScope N_many ["roll"] (defScope st_many) := ⟨rfl, rfl, rfl, by decide +kernel, rfl, by decide +kernel, by decide +kernel⟩
theorem ba_many : BindA "many" st_many ["roll"] := fun _ _ _ _ _ _ us hl => match us, hl with | [_], _ => rfl
theorem d_many : denDef T_15 N_many st_many = some b_many := by kernel_rfl
abbrev T_16 : Tb := ⟨("many", 1, C_many) :: (T_15).fn, (T_15).gv, (T_15).nb⟩
abbrev st_l_whole : Stmt := topS 18
theorem sc_l_whole : FnScope N_l_whole ["_law_found"] (defScope st_l_whole) := ⟨rfl, rfl, rfl, by decide +kernel, rfl, by decide +kernel, by decide +kernel⟩
theorem ba_l_whole : BindA "_law_whole" st_l_whole ["_law_found"] := fun _ _ _ _ _ _ us hl => match us, hl with | [_], _ => rfl
theorem d_l_whole : denDef T_16 N_l_whole st_l_whole = some b_l_whole := by kernel_rfl
abbrev T_17 : Tb := ⟨("_law_whole", 1, C_l_whole) :: (T_16).fn, (T_16).gv, (T_16).nb⟩
abbrev st_l_first : Stmt := topS 20
theorem sc_l_first : FnScope N_l_first ["_law_part_here"] (defScope st_l_first) := ⟨rfl, rfl, rfl, by decide +kernel, rfl, by decide +kernel, by decide +kernel⟩
theorem ba_l_first : BindA "_law_first" st_l_first ["_law_part_here"] := fun _ _ _ _ _ _ us hl => match us, hl with | [_], _ => rfl
theorem d_l_first : denDef T_17 N_l_first st_l_first = some b_l_first := by kernel_rfl
abbrev T_18 : Tb := ⟨("_law_first", 1, C_l_first) :: (T_17).fn, (T_17).gv, (T_17).nb⟩
abbrev st_l_again : Stmt := topS 21
theorem sc_l_again : FnScope N_l_again ["_law_part_here"] (defScope st_l_again) := ⟨rfl, rfl, rfl, by decide +kernel, rfl, by decide +kernel, by decide +kernel⟩
theorem ba_l_again : BindA "_law_again" st_l_again ["_law_part_here"] := fun _ _ _ _ _ _ us hl => match us, hl with | [_], _ => rfl
theorem d_l_again : denDef T_18 N_l_again st_l_again = some b_l_again := by kernel_rfl
abbrev T_19 : Tb := ⟨("_law_again", 1, F_l_again) :: (T_18).fn, (T_18).gv, (T_18).nb⟩
abbrev st_l_played : Stmt := topS 22
theorem sc_l_played : FnScope N_l_played ["_law_parts", "_law_back"] (defScope st_l_played) := ⟨rfl, rfl, rfl, by decide +kernel, rfl, by decide +kernel, by decide +kernel⟩
theorem ba_l_played : BindA "_law_played" st_l_played ["_law_parts", "_law_back"] := fun _ _ _ _ _ _ us hl => match us, hl with | [_, _], _ => rfl
theorem d_l_played : denDef T_19 N_l_played st_l_played = some b_l_played := by kernel_rfl
abbrev T_20 : Tb := ⟨("_law_played", 2, C_l_played) :: (T_19).fn, (T_19).gv, (T_19).nb⟩
abbrev st_l_size : Stmt := topS 23
theorem sc_l_size : FnScope N_l_size ["_law_part_here"] (defScope st_l_size) := ⟨rfl, rfl, rfl, by decide +kernel, rfl, by decide +kernel, by decide +kernel⟩
theorem ba_l_size : BindA "_law_size" st_l_size ["_law_part_here"] := fun _ _ _ _ _ _ us hl => match us, hl with | [_], _ => rfl
theorem d_l_size : denDef T_20 N_l_size st_l_size = some b_l_size := by kernel_rfl
abbrev T_21 : Tb := ⟨("_law_size", 1, C_l_size) :: (T_20).fn, (T_20).gv, (T_20).nb⟩
abbrev st_l_copied : Stmt := topS 25
theorem sc_l_copied : FnScope N_l_copied ["_law_roll_here"] (defScope st_l_copied) := ⟨rfl, rfl, rfl, by decide +kernel, rfl, by decide +kernel, by decide +kernel⟩
theorem ba_l_copied : BindA "_law_copied" st_l_copied ["_law_roll_here"] := fun _ _ _ _ _ _ us hl => match us, hl with | [_], _ => rfl
theorem d_l_copied : denDef T_21 N_l_copied st_l_copied = some b_l_copied := by kernel_rfl
abbrev T_22 : Tb := ⟨("_law_copied", 1, C_l_copied) :: (T_21).fn, (T_21).gv, (T_21).nb⟩
abbrev st_l_right : Stmt := topS 27
theorem sc_l_right : FnScope N_l_right ["_law_roll_here", "_law_kept"] (defScope st_l_right) := ⟨rfl, rfl, rfl, by decide +kernel, rfl, by decide +kernel, by decide +kernel⟩
theorem ba_l_right : BindA "_law_right" st_l_right ["_law_roll_here", "_law_kept"] := fun _ _ _ _ _ _ us hl => match us, hl with | [_, _], _ => rfl
theorem d_l_right : denDef T_22 N_l_right st_l_right = some b_l_right := by kernel_rfl
abbrev T_23 : Tb := ⟨("_law_right", 2, F_l_right) :: (T_22).fn, (T_22).gv, (T_22).nb⟩
abbrev st_law : Stmt := topS 28
theorem sc_law : FnScope N_law ["_law_script"] (defScope st_law) := ⟨rfl, rfl, rfl, by decide +kernel, rfl, by decide +kernel, by decide +kernel⟩
theorem d_law : denDef T_23 N_law st_law = some b_law := by kernel_rfl
theorem all_mk {l : PySem.W.OpenLaw} {w : World} {K : PySem.W.Frag} {h : Heap} {mg : Str → Option Value} {fa : Addr} (X : K.In h) (G : h.Ns mainGlobals mg) (hfa : mg "law" = some (.ref fa))
    {f0 f1 f2 f3 f4 f5 f6 f7 f8 f9 f10 f11 f12 f13 f14 f15 f16 f17 f18 f19 f20 f21 f22 f23 : Addr} {od0 od1 od2 od3 od4 od5 od6 od7 od8 od9 od10 od11 od12 od13 od14 od15 od16 od17 od18 od19 od20 od21 od22 od23 an0 an1 an2 an3 an4 an5 an6 an7 an8 an9 an10 an11 an12 an13 an14 an15 an16 an17 an18 an19 an20 an21 an22 an23 : Option Addr} {sl0 sl1 sl2 sl3 sl4 sl5 sl6 sl7 sl8 sl9 sl10 sl11 sl12 sl13 sl14 sl15 sl16 sl17 sl18 sl19 sl20 sl21 sl22 sl23 : Array (Option Value)} {oc0 oc1 oc2 oc3 oc4 oc5 oc6 oc7 oc8 oc9 oc10 oc11 oc12 oc13 oc14 oc15 oc16 oc17 oc18 oc19 oc20 oc21 oc22 oc23 kV0 kV1 kV2 kV3 kV4 kV5 kV6 kV7 kV8 kV9 kV10 kV11 kV12 kV13 kV14 kV15 kV16 kV17 kV18 kV19 kV20 kV21 kV22 kV23 dc0 dc1 dc2 dc3 dc4 dc5 dc6 dc7 dc8 dc9 dc10 dc11 dc12 dc13 dc14 dc15 dc16 dc17 dc18 dc19 dc20 dc21 dc22 dc23 pm0 pm1 pm2 pm3 pm4 pm5 pm6 pm7 pm8 pm9 pm10 pm11 pm12 pm13 pm14 pm15 pm16 pm17 pm18 pm19 pm20 pm21 pm22 pm23 cd0 cd1 cd2 cd3 cd4 cd5 cd6 cd7 cd8 cd9 cd10 cd11 cd12 cd13 cd14 cd15 cd16 cd17 cd18 cd19 cd20 cd21 cd22 cd23 ct0 ct1 ct2 ct3 ct4 ct5 ct6 ct7 ct8 ct9 ct10 ct11 ct12 ct13 ct14 ct15 ct16 ct17 ct18 ct19 ct20 ct21 ct22 ct23 : Value}
    {vt1 vt3 : Tok}
    (a0 : PySem.W.nsIn K mainGlobals "is_whole" = some (some (.ref f0)))
    (l0 : K.lookup f0 = some ⟨oc0, od0, .func (PySem.W.fnOf "is_whole" "is_whole" (defArgs st_is_whole) (defBody st_is_whole) (defScope st_is_whole) .none kV0 dc0 pm0 an0 cd0 ct0), sl0⟩)
    (c0 : PySem.W.codeIn K cd0 "is_whole" = true)
    (k0 : PySem.W.keepIn K (.ref f0) = true)
    (a1 : PySem.W.nsIn K mainGlobals "is_among" = some (some (.ref f1)))
    (l1 : K.lookup f1 = some ⟨oc1, od1, .func (PySem.W.fnOf "is_among" "is_among" (defArgs st_is_among) (defBody st_is_among) (defScope st_is_among) .none kV1 dc1 pm1 an1 cd1 ct1), sl1⟩)
    (c1 : PySem.W.codeIn K cd1 "is_among" = true)
    (k1 : PySem.W.keepIn K (.ref f1) = true)
    (a2 : PySem.W.nsIn K mainGlobals "is_bar" = some (some (.ref f2)))
    (l2 : K.lookup f2 = some ⟨oc2, od2, .func (PySem.W.fnOf "is_bar" "is_bar" (defArgs st_is_bar) (defBody st_is_bar) (defScope st_is_bar) .none kV2 dc2 pm2 an2 cd2 ct2), sl2⟩)
    (c2 : PySem.W.codeIn K cd2 "is_bar" = true)
    (k2 : PySem.W.keepIn K (.ref f2) = true)
    (a3 : PySem.W.nsIn K mainGlobals "is_list" = some (some (.ref f3)))
    (l3 : K.lookup f3 = some ⟨oc3, od3, .func (PySem.W.fnOf "is_list" "is_list" (defArgs st_is_list) (defBody st_is_list) (defScope st_is_list) .none kV3 dc3 pm3 an3 cd3 ct3), sl3⟩)
    (c3 : PySem.W.codeIn K cd3 "is_list" = true)
    (k3 : PySem.W.keepIn K (.ref f3) = true)
    (a4 : PySem.W.nsIn K mainGlobals "is_part" = some (some (.ref f4)))
    (l4 : K.lookup f4 = some ⟨oc4, od4, .func (PySem.W.fnOf "is_part" "is_part" (defArgs st_is_part) (defBody st_is_part) (defScope st_is_part) .none kV4 dc4 pm4 an4 cd4 ct4), sl4⟩)
    (c4 : PySem.W.codeIn K cd4 "is_part" = true)
    (k4 : PySem.W.keepIn K (.ref f4) = true)
    (a5 : PySem.W.nsIn K mainGlobals "is_roll" = some (some (.ref f5)))
    (l5 : K.lookup f5 = some ⟨oc5, od5, .func (PySem.W.fnOf "is_roll" "is_roll" (defArgs st_is_roll) (defBody st_is_roll) (defScope st_is_roll) .none kV5 dc5 pm5 an5 cd5 ct5), sl5⟩)
    (c5 : PySem.W.codeIn K cd5 "is_roll" = true)
    (k5 : PySem.W.keepIn K (.ref f5) = true)
    (a6 : PySem.W.nsIn K mainGlobals "_law_cell_at" = some (some (.ref f6)))
    (l6 : K.lookup f6 = some ⟨oc6, od6, .func (PySem.W.fnOf "_law_cell_at" "_law_cell_at" (defArgs st_l_cell_at) (defBody st_l_cell_at) (defScope st_l_cell_at) .none kV6 dc6 pm6 an6 cd6 ct6), sl6⟩)
    (c6 : PySem.W.codeIn K cd6 "_law_cell_at" = true)
    (k6 : PySem.W.keepIn K (.ref f6) = true)
    (a7 : PySem.W.nsIn K mainGlobals "_law_mixed" = some (some (.ref f7)))
    (l7 : K.lookup f7 = some ⟨oc7, od7, .func (PySem.W.fnOf "_law_mixed" "_law_mixed" (defArgs st_l_mixed) (defBody st_l_mixed) (defScope st_l_mixed) .none kV7 dc7 pm7 an7 cd7 ct7), sl7⟩)
    (c7 : PySem.W.codeIn K cd7 "_law_mixed" = true)
    (k7 : PySem.W.keepIn K (.ref f7) = true)
    (a8 : PySem.W.nsIn K mainGlobals "_law_part" = some (some (.ref f8)))
    (l8 : K.lookup f8 = some ⟨oc8, od8, .func (PySem.W.fnOf "_law_part" "_law_part" (defArgs st_l_part) (defBody st_l_part) (defScope st_l_part) .none kV8 dc8 pm8 an8 cd8 ct8), sl8⟩)
    (c8 : PySem.W.codeIn K cd8 "_law_part" = true)
    (k8 : PySem.W.keepIn K (.ref f8) = true)
    (a9 : PySem.W.nsIn K mainGlobals "_law_roll" = some (some (.ref f9)))
    (l9 : K.lookup f9 = some ⟨oc9, od9, .func (PySem.W.fnOf "_law_roll" "_law_roll" (defArgs st_l_roll) (defBody st_l_roll) (defScope st_l_roll) .none kV9 dc9 pm9 an9 cd9 ct9), sl9⟩)
    (c9 : PySem.W.codeIn K cd9 "_law_roll" = true)
    (k9 : PySem.W.keepIn K (.ref f9) = true)
    (a10 : PySem.W.nsIn K mainGlobals "_law_otherwise" = some (some (.ref f10)))
    (l10 : K.lookup f10 = some ⟨oc10, od10, .func (PySem.W.fnOf "_law_otherwise" "_law_otherwise" (defArgs st_l_otherwise) (defBody st_l_otherwise) (defScope st_l_otherwise) .none kV10 dc10 pm10 an10 cd10 ct10), sl10⟩)
    (c10 : PySem.W.codeIn K cd10 "_law_otherwise" = true)
    (k10 : PySem.W.keepIn K (.ref f10) = true)
    (a11 : PySem.W.nsIn K mainGlobals "first_time" = some (some (.ref f11)))
    (l11 : K.lookup f11 = some ⟨oc11, od11, .func (PySem.W.fnOf "first_time" "first_time" (defArgs st_first_time) (defBody st_first_time) (defScope st_first_time) .none kV11 dc11 pm11 an11 cd11 ct11), sl11⟩)
    (c11 : PySem.W.codeIn K cd11 "first_time" = true)
    (k11 : PySem.W.keepIn K (.ref f11) = true)
    (a12 : PySem.W.nsIn K mainGlobals "once_more" = some (some (.ref f12)))
    (l12 : K.lookup f12 = some ⟨oc12, od12, .func (PySem.W.fnOf "once_more" "once_more" (defArgs st_once_more) (defBody st_once_more) (defScope st_once_more) .none kV12 dc12 pm12 an12 cd12 ct12), sl12⟩)
    (c12 : PySem.W.codeIn K cd12 "once_more" = true)
    (k12 : PySem.W.keepIn K (.ref f12) = true)
    (a13 : PySem.W.nsIn K mainGlobals "unrolled" = some (some (.ref f13)))
    (l13 : K.lookup f13 = some ⟨oc13, od13, .func (PySem.W.fnOf "unrolled" "unrolled" (defArgs st_unrolled) (defBody st_unrolled) (defScope st_unrolled) .none kV13 dc13 pm13 an13 cd13 ct13), sl13⟩)
    (c13 : PySem.W.codeIn K cd13 "unrolled" = true)
    (k13 : PySem.W.keepIn K (.ref f13) = true)
    (a14 : PySem.W.nsIn K mainGlobals "bars_of" = some (some (.ref f14)))
    (l14 : K.lookup f14 = some ⟨oc14, od14, .func (PySem.W.fnOf "bars_of" "bars_of" (defArgs st_bars_of) (defBody st_bars_of) (defScope st_bars_of) .none kV14 dc14 pm14 an14 cd14 ct14), sl14⟩)
    (c14 : PySem.W.codeIn K cd14 "bars_of" = true)
    (k14 : PySem.W.keepIn K (.ref f14) = true)
    (a15 : PySem.W.nsIn K mainGlobals "many" = some (some (.ref f15)))
    (l15 : K.lookup f15 = some ⟨oc15, od15, .func (PySem.W.fnOf "many" "many" (defArgs st_many) (defBody st_many) (defScope st_many) .none kV15 dc15 pm15 an15 cd15 ct15), sl15⟩)
    (c15 : PySem.W.codeIn K cd15 "many" = true)
    (k15 : PySem.W.keepIn K (.ref f15) = true)
    (a16 : PySem.W.nsIn K mainGlobals "_law_whole" = some (some (.ref f16)))
    (l16 : K.lookup f16 = some ⟨oc16, od16, .func (PySem.W.fnOf "_law_whole" "_law_whole" (defArgs st_l_whole) (defBody st_l_whole) (defScope st_l_whole) .none kV16 dc16 pm16 an16 cd16 ct16), sl16⟩)
    (c16 : PySem.W.codeIn K cd16 "_law_whole" = true)
    (k16 : PySem.W.keepIn K (.ref f16) = true)
    (a17 : PySem.W.nsIn K mainGlobals "_law_first" = some (some (.ref f17)))
    (l17 : K.lookup f17 = some ⟨oc17, od17, .func (PySem.W.fnOf "_law_first" "_law_first" (defArgs st_l_first) (defBody st_l_first) (defScope st_l_first) .none kV17 dc17 pm17 an17 cd17 ct17), sl17⟩)
    (c17 : PySem.W.codeIn K cd17 "_law_first" = true)
    (k17 : PySem.W.keepIn K (.ref f17) = true)
    (a18 : PySem.W.nsIn K mainGlobals "_law_again" = some (some (.ref f18)))
    (l18 : K.lookup f18 = some ⟨oc18, od18, .func (PySem.W.fnOf "_law_again" "_law_again" (defArgs st_l_again) (defBody st_l_again) (defScope st_l_again) .none kV18 dc18 pm18 an18 cd18 ct18), sl18⟩)
    (c18 : PySem.W.codeIn K cd18 "_law_again" = true)
    (k18 : PySem.W.keepIn K (.ref f18) = true)
    (a19 : PySem.W.nsIn K mainGlobals "_law_played" = some (some (.ref f19)))
    (l19 : K.lookup f19 = some ⟨oc19, od19, .func (PySem.W.fnOf "_law_played" "_law_played" (defArgs st_l_played) (defBody st_l_played) (defScope st_l_played) .none kV19 dc19 pm19 an19 cd19 ct19), sl19⟩)
    (c19 : PySem.W.codeIn K cd19 "_law_played" = true)
    (k19 : PySem.W.keepIn K (.ref f19) = true)
    (a20 : PySem.W.nsIn K mainGlobals "_law_size" = some (some (.ref f20)))
    (l20 : K.lookup f20 = some ⟨oc20, od20, .func (PySem.W.fnOf "_law_size" "_law_size" (defArgs st_l_size) (defBody st_l_size) (defScope st_l_size) .none kV20 dc20 pm20 an20 cd20 ct20), sl20⟩)
    (c20 : PySem.W.codeIn K cd20 "_law_size" = true)
    (k20 : PySem.W.keepIn K (.ref f20) = true)
    (a21 : PySem.W.nsIn K mainGlobals "_law_copied" = some (some (.ref f21)))
    (l21 : K.lookup f21 = some ⟨oc21, od21, .func (PySem.W.fnOf "_law_copied" "_law_copied" (defArgs st_l_copied) (defBody st_l_copied) (defScope st_l_copied) .none kV21 dc21 pm21 an21 cd21 ct21), sl21⟩)
    (c21 : PySem.W.codeIn K cd21 "_law_copied" = true)
    (k21 : PySem.W.keepIn K (.ref f21) = true)
    (a22 : PySem.W.nsIn K mainGlobals "_law_right" = some (some (.ref f22)))
    (l22 : K.lookup f22 = some ⟨oc22, od22, .func (PySem.W.fnOf "_law_right" "_law_right" (defArgs st_l_right) (defBody st_l_right) (defScope st_l_right) .none kV22 dc22 pm22 an22 cd22 ct22), sl22⟩)
    (c22 : PySem.W.codeIn K cd22 "_law_right" = true)
    (k22 : PySem.W.keepIn K (.ref f22) = true)
    (a23 : PySem.W.nsIn K mainGlobals "law" = some (some (.ref f23)))
    (l23 : K.lookup f23 = some ⟨oc23, od23, .func (PySem.W.fnOf "law" "law" (defArgs st_law) (defBody st_law) (defScope st_law) .none kV23 dc23 pm23 an23 cd23 ct23), sl23⟩)
    (c23 : PySem.W.codeIn K cd23 "law" = true)
    (k23 : PySem.W.keepIn K (.ref f23) = true)
    (g2 : PySem.W.nsIn K mainGlobals "MOST_LIST" = some (some (.int (4) vt1)))
    (g4 : PySem.W.nsIn K mainGlobals "MOST_BACK" = some (some (.int (3) vt3)))
    (z5 : PySem.W.nsIn K mainGlobals "isinstance" = some none)
    (z6 : PySem.W.nsIn K mainGlobals "int" = some none)
    (z7 : PySem.W.nsIn K mainGlobals "bool" = some none)
    (z8 : PySem.W.nsIn K mainGlobals "list" = some none)
    (z9 : PySem.W.nsIn K mainGlobals "len" = some none)
    (z10 : PySem.W.nsIn K mainGlobals "all" = some none)
    (z11 : PySem.W.nsIn K mainGlobals "tuple" = some none)
    (z12 : PySem.W.nsIn K mainGlobals "min" = some none)
    (z13 : PySem.W.nsIn K mainGlobals "range" = some none)
    (z14 : PySem.W.nsIn K mainGlobals "sum" = some none)
    (run : ∀ ns : List Int, ns.length ≤ 63 → (∀ z ∈ ns, Builtin.Int.intBits z ≤ 1048576) → ∃ S, F_law [.sq (ns.map IV.int)] [] = .ok (.bl true) S) :
    ∃ fd : FuncData, (∀ (s : Shared) (v : Value), BindsTo s fd ⟨[v], []⟩ [("_law_script", v)]) ∧ ∀ base : Heap, K.In base → base.Ns mainGlobals mg → FnOk l.prog w K mg base (L2.CX l.prog w) 24 fa fd ["_law_script"] (spLaw K) := by
  have e := hfa.symm.trans (PySem.W.mg_of X G a23)
  cases e
  have D0 : DefK K mg "is_whole" st_is_whole := defK_mk X G a0 l0 c0 k0
  have D1 : DefK K mg "is_among" st_is_among := defK_mk X G a1 l1 c1 k1
  have D2 : DefK K mg "is_bar" st_is_bar := defK_mk X G a2 l2 c2 k2
  have D3 : DefK K mg "is_list" st_is_list := defK_mk X G a3 l3 c3 k3
  have D4 : DefK K mg "is_part" st_is_part := defK_mk X G a4 l4 c4 k4
  have D5 : DefK K mg "is_roll" st_is_roll := defK_mk X G a5 l5 c5 k5
  have D6 : DefK K mg "_law_cell_at" st_l_cell_at := defK_mk X G a6 l6 c6 k6
  have D7 : DefK K mg "_law_mixed" st_l_mixed := defK_mk X G a7 l7 c7 k7
  have D8 : DefK K mg "_law_part" st_l_part := defK_mk X G a8 l8 c8 k8
  have D9 : DefK K mg "_law_roll" st_l_roll := defK_mk X G a9 l9 c9 k9
  have D10 : DefK K mg "_law_otherwise" st_l_otherwise := defK_mk X G a10 l10 c10 k10
  have D11 : DefK K mg "first_time" st_first_time := defK_mk X G a11 l11 c11 k11
  have D12 : DefK K mg "once_more" st_once_more := defK_mk X G a12 l12 c12 k12
  have D13 : DefK K mg "unrolled" st_unrolled := defK_mk X G a13 l13 c13 k13
  have D14 : DefK K mg "bars_of" st_bars_of := defK_mk X G a14 l14 c14 k14
  have D15 : DefK K mg "many" st_many := defK_mk X G a15 l15 c15 k15
  have D16 : DefK K mg "_law_whole" st_l_whole := defK_mk X G a16 l16 c16 k16
  have D17 : DefK K mg "_law_first" st_l_first := defK_mk X G a17 l17 c17 k17
  have D18 : DefK K mg "_law_again" st_l_again := defK_mk X G a18 l18 c18 k18
  have D19 : DefK K mg "_law_played" st_l_played := defK_mk X G a19 l19 c19 k19
  have D20 : DefK K mg "_law_size" st_l_size := defK_mk X G a20 l20 c20 k20
  have D21 : DefK K mg "_law_copied" st_l_copied := defK_mk X G a21 l21 c21 k21
  have D22 : DefK K mg "_law_right" st_l_right := defK_mk X G a22 l22 c22 k22
  have FL := fun_mk (st := st_law) l23 c23 k23
  refine ⟨PySem.W.fnOf "law" "law" (defArgs st_law) (defBody st_law) (defScope st_law) .none kV23 dc23 pm23 an23 cd23 ct23, fun s v => .of_eq rfl, fun base _ _ => ?_⟩
  have O0 : TabOk l.prog w K mg base T_0 0 := tab0 (gvs_cons (gv_mk X G g2 cv_int) (gvs_cons (gv_mk X G g4 cv_int) gvs_nil)) (nbs_cons (PySem.W.mg_none_of X G z5) (nbs_cons (PySem.W.mg_none_of X G z6) (nbs_cons (PySem.W.mg_none_of X G z7) (nbs_cons (PySem.W.mg_none_of X G z8) (nbs_cons (PySem.W.mg_none_of X G z9) (nbs_cons (PySem.W.mg_none_of X G z10) (nbs_cons (PySem.W.mg_none_of X G z11) (nbs_cons (PySem.W.mg_none_of X G z12) (nbs_cons (PySem.W.mg_none_of X G z13) (nbs_cons (PySem.W.mg_none_of X G z14) nbs_nil))))))))))
  have O1 : TabOk l.prog w K mg base T_1 1 := O0.def (defK_ok O0 D0 sc_is_whole ba_is_whole rfl d_is_whole)
  have O2 : TabOk l.prog w K mg base T_2 2 := O1.def (defK_ok O1 D1 sc_is_among ba_is_among rfl d_is_among)
  have O3 : TabOk l.prog w K mg base T_3 3 := O2.def (defK_ok O2 D2 sc_is_bar ba_is_bar rfl d_is_bar)
  have O4 : TabOk l.prog w K mg base T_4 4 := O3.def (defK_ok O3 D3 sc_is_list ba_is_list rfl d_is_list)
  have O5 : TabOk l.prog w K mg base T_5 5 := O4.def (defK_ok O4 D4 sc_is_part ba_is_part rfl d_is_part)
  have O6 : TabOk l.prog w K mg base T_6 6 := O5.def (defK_ok O5 D5 sc_is_roll ba_is_roll rfl d_is_roll)
  have O7 : TabOk l.prog w K mg base T_7 7 := O6.def (defK_ok O6 D6 sc_l_cell_at ba_l_cell_at rfl d_l_cell_at).sn
  have O8 : TabOk l.prog w K mg base T_8 8 := O7.def (defK_ok O7 D7 sc_l_mixed ba_l_mixed rfl d_l_mixed).sn
  have O9 : TabOk l.prog w K mg base T_9 9 := O8.def (defK_ok O8 D8 sc_l_part ba_l_part rfl d_l_part).sn
  have O10 : TabOk l.prog w K mg base T_10 10 := O9.def (defK_ok O9 D9 sc_l_roll ba_l_roll rfl d_l_roll).sn
  have O11 : TabOk l.prog w K mg base T_11 11 := O10.def (defK_ok O10 D10 sc_l_otherwise ba_l_otherwise rfl d_l_otherwise)
  have O12 : TabOk l.prog w K mg base T_12 12 := O11.def (defK_ok O11 D11 sc_first_time ba_first_time rfl d_first_time).sn
  have O13 : TabOk l.prog w K mg base T_13 13 := O12.def (defK_ok O12 D12 sc_once_more ba_once_more rfl d_once_more).sn
  have O14 : TabOk l.prog w K mg base T_14 14 := O13.def (defK_ok O13 D13 sc_unrolled ba_unrolled rfl d_unrolled).sn
  have O15 : TabOk l.prog w K mg base T_15 15 := O14.def (defK_ok O14 D14 sc_bars_of ba_bars_of rfl d_bars_of).sn
  have O16 : TabOk l.prog w K mg base T_16 16 := O15.def (defK_ok O15 D15 sc_many ba_many rfl d_many).sn
  have O17 : TabOk l.prog w K mg base T_17 17 := O16.def (defK_ok O16 D16 sc_l_whole ba_l_whole rfl d_l_whole).sn
  have O18 : TabOk l.prog w K mg base T_18 18 := O17.def (defK_ok O17 D17 sc_l_first ba_l_first rfl d_l_first).sn
  have O19 : TabOk l.prog w K mg base T_19 19 := O18.def (defK_ok O18 D18 sc_l_again ba_l_again rfl d_l_again)
  have O20 : TabOk l.prog w K mg base T_20 20 := O19.def (defK_ok O19 D19 sc_l_played ba_l_played rfl d_l_played).sn
  have O21 : TabOk l.prog w K mg base T_21 21 := O20.def (defK_ok O20 D20 sc_l_size ba_l_size rfl d_l_size).sn
  have O22 : TabOk l.prog w K mg base T_22 22 := O21.def (defK_ok O21 D21 sc_l_copied ba_l_copied rfl d_l_copied).sn
  have O23 : TabOk l.prog w K mg base T_23 23 := O22.def (defK_ok O22 D22 sc_l_right ba_l_right rfl d_l_right)
  exact law_ok O23 FL sc_law d_law run
end BW
open PySem PySem.W PyProof.Rows
set_option maxHeartbeats 0 in
theorem PySem.Challenge.cw_barwright_k20_rolls_played_holds : PySem.Challenge.rw_barwright_k20_rolls_played.Holds := by
  w_on; o_law; k_head; (case hw => w_witness2)
  k_fill
  refine L2.walk_ofB (l := PySem.Challenge.rw_barwright_k20_rolls_played) (n := 63) (k := 24) (x := "_law_script") (CX := fun w => L2.CX (PySem.Challenge.rw_barwright_k20_rolls_played).prog w) (sp := fun w => IP.spLaw _) rfl (by decide) rfl ⟨rfl, by decide, by decide⟩ (fun w h Y => PySem.W.kIn_of Y) ?F (fun _ _ a ns hl hz hO hS => ⟨a, ns, rfl, hO, hS, hl, hz, fun _ => rfl⟩) (fun _ _ _ _ _ h => by obtain ⟨_, _, _, _, _, _, _, _, _, _, _, _, h⟩ := h; exact h)
  case F =>
    intro w mg fa h KX G hmg
    refine' BW.all_mk KX G hmg ?a0 ?l0 ?c0 ?k0 ?a1 ?l1 ?c1 ?k1 ?a2 ?l2 ?c2 ?k2 ?a3 ?l3 ?c3 ?k3 ?a4 ?l4 ?c4 ?k4 ?a5 ?l5 ?c5 ?k5 ?a6 ?l6 ?c6 ?k6 ?a7 ?l7 ?c7 ?k7 ?a8 ?l8 ?c8 ?k8 ?a9 ?l9 ?c9 ?k9 ?a10 ?l10 ?c10 ?k10 ?a11 ?l11 ?c11 ?k11 ?a12 ?l12 ?c12 ?k12 ?a13 ?l13 ?c13 ?k13 ?a14 ?l14 ?c14 ?k14 ?a15 ?l15 ?c15 ?k15 ?a16 ?l16 ?c16 ?k16 ?a17 ?l17 ?c17 ?k17 ?a18 ?l18 ?c18 ?k18 ?a19 ?l19 ?c19 ?k19 ?a20 ?l20 ?c20 ?k20 ?a21 ?l21 ?c21 ?k21 ?a22 ?l22 ?c22 ?k22 ?a23 ?l23 ?c23 ?k23 ?g2 ?g4 ?z5 ?z6 ?z7 ?z8 ?z9 ?z10 ?z11 ?z12 ?z13 ?z14 BW.run
    (case a0 => k_is); (case l0 => k_is); (case c0 => k_is); (case k0 => k_is); (case a1 => k_is); (case l1 => k_is); (case c1 => k_is); (case k1 => k_is); (case a2 => k_is); (case l2 => k_is); (case c2 => k_is); (case k2 => k_is); (case a3 => k_is); (case l3 => k_is); (case c3 => k_is); (case k3 => k_is); (case a4 => k_is); (case l4 => k_is); (case c4 => k_is); (case k4 => k_is); (case a5 => k_is); (case l5 => k_is); (case c5 => k_is); (case k5 => k_is); (case a6 => k_is); (case l6 => k_is); (case c6 => k_is); (case k6 => k_is); (case a7 => k_is); (case l7 => k_is); (case c7 => k_is); (case k7 => k_is); (case a8 => k_is); (case l8 => k_is); (case c8 => k_is); (case k8 => k_is); (case a9 => k_is); (case l9 => k_is); (case c9 => k_is); (case k9 => k_is); (case a10 => k_is); (case l10 => k_is); (case c10 => k_is); (case k10 => k_is); (case a11 => k_is); (case l11 => k_is); (case c11 => k_is); (case k11 => k_is); (case a12 => k_is); (case l12 => k_is); (case c12 => k_is); (case k12 => k_is); (case a13 => k_is); (case l13 => k_is); (case c13 => k_is); (case k13 => k_is); (case a14 => k_is); (case l14 => k_is); (case c14 => k_is); (case k14 => k_is); (case a15 => k_is); (case l15 => k_is); (case c15 => k_is); (case k15 => k_is); (case a16 => k_is); (case l16 => k_is); (case c16 => k_is); (case k16 => k_is); (case a17 => k_is); (case l17 => k_is); (case c17 => k_is); (case k17 => k_is); (case a18 => k_is); (case l18 => k_is); (case c18 => k_is); (case k18 => k_is); (case a19 => k_is); (case l19 => k_is); (case c19 => k_is); (case k19 => k_is); (case a20 => k_is); (case l20 => k_is); (case c20 => k_is); (case k20 => k_is); (case a21 => k_is); (case l21 => k_is); (case c21 => k_is); (case k21 => k_is); (case a22 => k_is); (case l22 => k_is); (case c22 => k_is); (case k22 => k_is); (case a23 => k_is); (case l23 => k_is); (case c23 => k_is); (case k23 => k_is); (case g2 => k_is); (case g4 => k_is); (case z5 => k_is); (case z6 => k_is); (case z7 => k_is); (case z8 => k_is); (case z9 => k_is); (case z10 => k_is); (case z11 => k_is); (case z12 => k_is); (case z13 => k_is); (case z14 => k_is)

