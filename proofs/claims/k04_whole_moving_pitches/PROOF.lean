import PyProof.Rows.All
import Wide.All
import OpenK.AllK
import Wide.FinOn
import HandS.ForMost
import HandS.ForExc
import HandS.Deep
import HandS.IsInst
import HandS.Wide
import HandS.WideBits
import HandS.EndBits
import HandS.Walk
import HandS.More
import HandS.StrMore
import HandS.NoneIn
import HandS.ExcOwn
import HandS.ExcCtx
import HandS.HotCalls
import HandS.ExcIs
import HandS.TupLe
import HandS.Flow
import KE.DataCmp
import KE.DataMinMax
import HandS.Codes
import HandS.Replace
import PyProof.ToksMono
import PyProof.StrReplace2
import PyProof.StrBlock
import PySem.Challenge.RW_barwright_k04_whole_moving_pitches
set_option Elab.async false
set_option linter.all false
set_option maxRecDepth 100000
set_option maxHeartbeats 0
/-! IPyA: values, stores, results of a small evaluator, and how they stand to the layer's heaps. -/
namespace IP
abbrev VSt := L2.St
open PySem PySem.Spec PyProof.Rows L2

/-- values: tuples are carried whole, and lists that nobody may write (sq: the script, the module's); other lists, dicts and instances by their place in the store -/
inductive IV where
  | non | bl (b : Bool) | int (i : Int) | str (x : Str) | tup (xs : List IV) | sq (xs : List IV) | ref (i : Nat) | ty (n : String) | fn (x : Str) | adr (a : Addr)
  deriving Inhabited

inductive SO where
  | lst (xs : List IV)
  | dct (kvs : List (Key × IV))
  | ins (C : Str) (fs : List (Str × IV))

abbrev Sto := List SO
abbrev Slo := List (Option IV)

inductive R (α : Type) where
  | ok (a : α) (S : Sto)
  | ex (c : Str) (fs : List (Str × IV)) (S : Sto)
  | no

def R.bind {α β : Type} (r : R α) (f : α → Sto → R β) : R β := match r with
  | .ok a S => f a S
  | .ex c fs S => .ex c fs S
  | .no => .no

def R.ofO {α : Type} : Option (α × Sto) → R α
  | some (a, S) => .ok a S
  | none => .no

inductive RS where
  | nx (t : Slo) (S : Sto)
  | ret (v : IV) (S : Sto)
  | brk (t : Slo) (S : Sto)
  | cnt (t : Slo) (S : Sto)
  | ex (c : Str) (fs : List (Str × IV)) (t : Slo) (S : Sto)
  | no

abbrev SE := Slo → Sto → R IV
abbrev SB := Slo → Sto → R Bool
abbrev SA := Slo → Sto → R (List IV)
abbrev SS := Slo → Sto → RS
abbrev FN := List IV → Sto → R IV

/-- a tuple that is tracked, or one of the module -/
def SqU (K : PySem.W.Frag) (H : Hp) (a : Addr) (xs : List V) : Prop := H a = some (.tup xs) ∨
  ∃ (o : Obj) (its : Array Value) (n : Nat), K.lookup a = some o ∧ o.cls = .type "tuple" ∧ o.data = .seq its n ∧ its.size ≤ sizeLine ∧ Vals xs its.toList
theorem SqU.t {K : PySem.W.Frag} {H : Hp} {a : Addr} {xs : List V} (h : SqU K H a xs) : SqT K H a xs := h.imp .inl id
/-- a list that is locked, or one of the module, or one that isn't told of (so nothing is written in it) -/
def SqF (K : PySem.W.Frag) (r : List Addr) (H : Hp) (a : Addr) (xs : List V) : Prop := (∃ o, H a = some (.frz o (.lst xs))) ∨ (H a = some (.lst xs) ∧ a ∉ r) ∨
  ∃ (o : Obj) (its : Array Value) (n : Nat), K.lookup a = some o ∧ o.cls = .type "list" ∧ o.dict = none ∧ o.data = .seq its n ∧ its.size ≤ sizeLine ∧ Vals xs its.toList
theorem SqF.l {K : PySem.W.Frag} {r : List Addr} {H : Hp} {a : Addr} {xs : List V} (h : SqF K r H a xs) : SqL K H a xs := by
  rcases h with h | h | h
  · exact .inl (.inr h)
  · exact .inl (.inl h.1)
  · exact .inr h
section
variable (K : PySem.W.Frag) (mg : Str → Option Value)
mutual
inductive VR (r : List Addr) (H : Hp) : IV → V → Prop
  | non : VR r H .non .non
  | bl (b : Bool) : VR r H (.bl b) (.bl b)
  | int (i : Int) : VR r H (.int i) (.int i)
  | str (x : Str) : VR r H (.str x) (.str x)
  | ty (n : String) : VR r H (.ty n) (.ty n)
  | ref {i : Nat} {a : Addr} : r[i]? = some a → VR r H (.ref i) (.ref a)
  | adr (a : Addr) : VR r H (.adr a) (.ref a)
  | fn {x : Str} {a : Addr} : mg x = some (.ref a) → VR r H (.fn x) (.ref a)
  | tup {xs : List IV} {a : Addr} {vs : List V} : SqU K H a vs → VRs r H xs vs → VR r H (.tup xs) (.ref a)
  | sq {xs : List IV} {a : Addr} {vs : List V} : SqF K r H a vs → VRs r H xs vs → VR r H (.sq xs) (.ref a)
inductive VRs (r : List Addr) (H : Hp) : List IV → List V → Prop
  | nil : VRs r H [] []
  | cons {x : IV} {v : V} {xs : List IV} {vs : List V} : VR r H x v → VRs r H xs vs → VRs r H (x :: xs) (v :: vs)
end

/-- attributes, one by one -/
inductive FR (r : List Addr) (H : Hp) : List (Str × IV) → List (Str × V) → Prop
  | nil : FR r H [] []
  | cons {f : Str} {x : IV} {v : V} {xs : List (Str × IV)} {vs : List (Str × V)} : VR K mg r H x v → FR r H xs vs → FR r H ((f, x) :: xs) ((f, v) :: vs)
/-- a dict's pairs -/
inductive KR (r : List Addr) (H : Hp) : List (Key × IV) → List (Key × V) → Prop
  | nil : KR r H [] []
  | cons {k : Key} {x : IV} {v : V} {xs : List (Key × IV)} {vs : List (Key × V)} : VR K mg r H x v → KR r H xs vs → KR r H ((k, x) :: xs) ((k, v) :: vs)

def OR (r : List Addr) (H : Hp) (a : Addr) : SO → Prop
  | .lst xs => ∃ vs, H a = some (.lst vs) ∧ VRs K mg r H xs vs
  | .dct kvs => ∃ ws, H a = some (.dK ws) ∧ KR K mg r H kvs ws
  | .ins C fs => ∃ Ca dx ws, mg C = some (.ref Ca) ∧ H a = some (.ins Ca dx ws) ∧ FR K mg r H fs ws

structure Rel (r : List Addr) (S : Sto) (H : Hp) : Prop where
  len : r.length = S.length
  nd : r.Nodup
  obj : ∀ (i : Nat) (o : SO) (a : Addr), S[i]? = some o → r[i]? = some a → OR K mg r H a o

/-- what is told of the store stays, what isn't told of it too -/
structure Ex (r : List Addr) (H : Hp) (r' : List Addr) (H' : Hp) : Prop where
  pre : ∃ t, r' = r ++ t
  fr : ∀ a o, H a = some o → a ∉ r → H' a = some o ∧ a ∉ r'

/-- an exception: its class's name, its own attributes -/
def XR (r : List Addr) (H : Hp) (c : Str) (fs : List (Str × IV)) (cls : Value) (d : Option Addr) : Prop :=
  ∃ C, mg c = some (.ref C) ∧ cls = .ref C ∧ ((fs = [] ∧ d = none) ∨ fs ≠ [] ∧ ∃ dd ws, d = some dd ∧ H dd = some (.xd ws) ∧ FR K mg r H fs ws)

def Aft {α : Type} (W : XK) (x : R α) (r : List Addr) (H : Hp) (Q : List Addr → α → Sto → Hp → Prop) : Prop := match x with
  | .ok a S' => ∀ r' H', Ex r H r' H' → Rel K mg r' S' H' → Q r' a S' H'
  | .ex c fs S' => ∀ r' H' cls d, Ex r H r' H' → Rel K mg r' S' H' → XR K mg r' H' c fs cls d → W cls d H'
  | .no => False

structure St1 (r : List Addr) (n : Nat) (t : Slo) (s : VSt) (H : Hp) : Prop where
  l1 : t.length = n
  l2 : s.length = n
  at_ : ∀ (i : Nat) (v : IV), t[i]? = some (some v) → ∃ w, s[i]? = some (some w) ∧ VR K mg r H v w

end

section
variable {K : PySem.W.Frag} {mg : Str → Option Value} {r r' r2 : List Addr} {H H' H2 : Hp} {S S' : Sto}

theorem Ex.refl : Ex r H r H := ⟨⟨[], (List.append_nil r).symm⟩, fun _ _ e n => ⟨e, n⟩⟩
theorem Ex.trans (h : Ex r H r' H') (k : Ex r' H' r2 H2) : Ex r H r2 H2 := by
  obtain ⟨t, e⟩ := h.pre
  obtain ⟨t2, e2⟩ := k.pre
  refine ⟨⟨t ++ t2, by rw [e2, e, List.append_assoc]⟩, fun a o e n => ?_⟩
  obtain ⟨e1, n1⟩ := h.fr a o e n
  exact k.fr a o e1 n1
theorem Ex.at_ (h : Ex r H r' H') {i : Nat} {a : Addr} (e : r[i]? = some a) : r'[i]? = some a := by
  obtain ⟨t, rfl⟩ := h.pre
  rw [List.getElem?_append_left]
  · exact e
  · exact (List.getElem?_eq_some_iff.mp e).1

/-- no told place holds a tuple -/
theorem Rel.noTup (R : Rel K mg r S H) {a : Addr} {vs : List V} (h : H a = some (.tup vs)) : a ∉ r := by
  intro m
  obtain ⟨i, hi, ei⟩ := List.getElem_of_mem m
  have hS : i < S.length := R.len ▸ hi
  have q := R.obj i S[i] a (List.getElem?_eq_getElem hS) (by rw [List.getElem?_eq_getElem hi, ei])
  cases e : S[i] with
  | lst xs => rw [e] at q; obtain ⟨ws, q, _⟩ := q; rw [q] at h; cases h
  | dct kvs => rw [e] at q; obtain ⟨ws, q, _⟩ := q; rw [q] at h; cases h
  | ins C fs => rw [e] at q; obtain ⟨Ca, dx, ws, _, q, _⟩ := q; rw [q] at h; cases h

theorem Rel.noFrz (R : Rel K mg r S H) {a : Addr} {o : Obj} {u : HO} (h : H a = some (.frz o u)) : a ∉ r := by
  intro m
  obtain ⟨i, hi, ei⟩ := List.getElem_of_mem m
  have hS : i < S.length := R.len ▸ hi
  have q := R.obj i S[i] a (List.getElem?_eq_getElem hS) (by rw [List.getElem?_eq_getElem hi, ei])
  cases e : S[i] with
  | lst xs => rw [e] at q; obtain ⟨ws, q, _⟩ := q; rw [q] at h; cases h
  | dct kvs => rw [e] at q; obtain ⟨ws, q, _⟩ := q; rw [q] at h; cases h
  | ins C fs => rw [e] at q; obtain ⟨Ca, dx, ws, _, q, _⟩ := q; rw [q] at h; cases h
theorem sqU_mono (R : Rel K mg r S H) (x : Ex r H r' H') {a : Addr} {vs : List V} (h : SqU K H a vs) : SqU K H' a vs := by
  rcases h with h | h
  · exact .inl (x.fr a _ h (R.noTup h)).1
  · exact .inr h
theorem sqF_mono (R : Rel K mg r S H) (x : Ex r H r' H') {a : Addr} {vs : List V} (h : SqF K r H a vs) : SqF K r' H' a vs := by
  rcases h with ⟨o, h⟩ | h | h
  · exact .inl ⟨o, (x.fr a _ h (R.noFrz h)).1⟩
  · exact .inr (.inl (x.fr a _ h.1 h.2))
  · exact .inr (.inr h)

mutual
theorem VR.mono (R : Rel K mg r S H) (x : Ex r H r' H') : ∀ {v : IV} {w : V}, VR K mg r H v w → VR K mg r' H' v w
  | _, _, .non => .non
  | _, _, .bl b => .bl b
  | _, _, .int i => .int i
  | _, _, .str z => .str z
  | _, _, .ty n => .ty n
  | _, _, .ref e => .ref (x.at_ e)
  | _, _, .adr a => .adr a
  | _, _, .fn e => .fn e
  | _, _, .tup h q => .tup (sqU_mono R x h) (VRs.mono R x q)
  | _, _, .sq h q => .sq (sqF_mono R x h) (VRs.mono R x q)
theorem VRs.mono (R : Rel K mg r S H) (x : Ex r H r' H') : ∀ {v : List IV} {w : List V}, VRs K mg r H v w → VRs K mg r' H' v w
  | _, _, .nil => .nil
  | _, _, .cons h q => .cons (VR.mono R x h) (VRs.mono R x q)
end
theorem FR.mono (R : Rel K mg r S H) (x : Ex r H r' H') : ∀ {v : List (Str × IV)} {w : List (Str × V)}, FR K mg r H v w → FR K mg r' H' v w
  | _, _, .nil => .nil
  | _, _, .cons h q => .cons (h.mono R x) (FR.mono R x q)
theorem KR.mono (R : Rel K mg r S H) (x : Ex r H r' H') : ∀ {v : List (Key × IV)} {w : List (Key × V)}, KR K mg r H v w → KR K mg r' H' v w
  | _, _, .nil => .nil
  | _, _, .cons h q => .cons (h.mono R x) (KR.mono R x q)

theorem VRs.length : ∀ {xs : List IV} {vs : List V}, VRs K mg r H xs vs → xs.length = vs.length
  | _, _, .nil => rfl
  | _, _, .cons _ q => by rw [List.length_cons, List.length_cons, VRs.length q]
theorem VRs.get : ∀ {xs : List IV} {vs : List V}, VRs K mg r H xs vs → ∀ {i : Nat} {x : IV}, xs[i]? = some x → ∃ v, vs[i]? = some v ∧ VR K mg r H x v
  | _, _, .nil, i, x, e => by simp at e
  | _, _, .cons h q, 0, x, e => by simp at e; subst e; exact ⟨_, rfl, h⟩
  | _, _, .cons h q, i + 1, x, e => by
    obtain ⟨v, e1, e2⟩ := VRs.get q (i := i) (x := x) (by simpa using e)
    exact ⟨v, by simpa using e1, e2⟩
theorem VRs.get' : ∀ {xs : List IV} {vs : List V}, VRs K mg r H xs vs → ∀ {i : Nat} {v : V}, vs[i]? = some v → ∃ x, xs[i]? = some x ∧ VR K mg r H x v
  | _, _, .nil, i, x, e => by simp at e
  | _, _, .cons h q, 0, x, e => by simp at e; subst e; exact ⟨_, rfl, h⟩
  | _, _, .cons h q, i + 1, x, e => by
    obtain ⟨v, e1, e2⟩ := VRs.get' q (i := i) (v := x) (by simpa using e)
    exact ⟨v, by simpa using e1, e2⟩
theorem VRs.append : ∀ {xs ys : List IV} {vs ws : List V}, VRs K mg r H xs vs → VRs K mg r H ys ws → VRs K mg r H (xs ++ ys) (vs ++ ws)
  | _, _, _, _, .nil, s => s
  | _, _, _, _, .cons h t, s => .cons h (VRs.append t s)
theorem VRs.take : ∀ {xs : List IV} {vs : List V} (n : Nat), VRs K mg r H xs vs → VRs K mg r H (xs.take n) (vs.take n)
  | _, _, 0, _ => by rw [List.take_zero, List.take_zero]; exact .nil
  | _, _, _ + 1, .nil => .nil
  | _, _, n + 1, .cons h t => .cons h (VRs.take n t)
theorem VRs.drop : ∀ {xs : List IV} {vs : List V} (n : Nat), VRs K mg r H xs vs → VRs K mg r H (xs.drop n) (vs.drop n)
  | _, _, 0, h => h
  | _, _, _ + 1, .nil => .nil
  | _, _, n + 1, .cons _ t => VRs.drop n t
theorem VRs.set : ∀ {xs : List IV} {vs : List V} (i : Nat) {x : IV} {v : V}, VRs K mg r H xs vs → VR K mg r H x v → VRs K mg r H (xs.set i x) (vs.set i v)
  | _, _, _, _, _, .nil, _ => .nil
  | _, _, 0, _, _, .cons _ t, k => .cons k t
  | _, _, i + 1, _, _, .cons h t, k => .cons h (VRs.set i t k)
theorem VRs.dropLast : ∀ {xs : List IV} {vs : List V}, VRs K mg r H xs vs → VRs K mg r H xs.dropLast vs.dropLast
  | _, _, .nil => .nil
  | _, _, .cons _ .nil => .nil
  | _, _, .cons h (.cons k t) => .cons h (VRs.dropLast (.cons k t))
theorem VRs.eraseIdx : ∀ {xs : List IV} {vs : List V} (i : Nat), VRs K mg r H xs vs → VRs K mg r H (xs.eraseIdx i) (vs.eraseIdx i)
  | _, _, _, .nil => .nil
  | _, _, 0, .cons _ t => t
  | _, _, i + 1, .cons h t => .cons h (VRs.eraseIdx i t)
theorem VRs.reverse : ∀ {xs : List IV} {vs : List V}, VRs K mg r H xs vs → VRs K mg r H xs.reverse vs.reverse
  | _, _, .nil => .nil
  | _, _, .cons h t => by rw [List.reverse_cons, List.reverse_cons]; exact VRs.append (VRs.reverse t) (.cons h .nil)
theorem VRs.rep {xs : List IV} {vs : List V} (h : VRs K mg r H xs vs) : ∀ k : Nat, VRs K mg r H (List.replicate k xs).flatten (List.replicate k vs).flatten
  | 0 => .nil
  | k + 1 => by
    rw [List.replicate_succ, List.replicate_succ, List.flatten_cons, List.flatten_cons]
    exact VRs.append h (VRs.rep h k)
theorem VRs.ints : ∀ ns : List Int, VRs K mg r H (ns.map IV.int) (ns.map V.int)
  | [] => .nil
  | n :: ns => .cons (.int n) (VRs.ints ns)
theorem VRs.strs : ∀ ns : List Str, VRs K mg r H (ns.map IV.str) (ns.map V.str)
  | [] => .nil
  | n :: ns => .cons (.str n) (VRs.strs ns)
theorem VRs.one {x : IV} {v : V} (h : VR K mg r H x v) : VRs K mg r H [x] [v] := .cons h .nil

/-! ### results -/
theorem Aft.mono {α : Type} {W : XK} {x : R α} {Q Q' : List Addr → α → Sto → Hp → Prop} (h : Aft K mg W x r H Q) (x1 : Ex r H r' H')
    (q : ∀ r2 a S2 H2, Ex r' H' r2 H2 → Rel K mg r2 S2 H2 → Q r2 a S2 H2 → Q' r2 a S2 H2) : Aft K mg W x r' H' Q' := by
  cases x with
  | ok a S => exact fun r2 H2 e R => q _ _ _ _ e R (h r2 H2 (x1.trans e) R)
  | ex c fs S => exact fun r2 H2 cls d e R z => h r2 H2 cls d (x1.trans e) R z
  | no => exact h
theorem Aft.bind {α β : Type} {W : XK} {x : R α} {f : α → Sto → R β} {Q : List Addr → β → Sto → Hp → Prop} (h : Aft K mg W (x.bind f) r H Q) :
    Aft K mg W x r H (fun r1 a S1 H1 => Ex r H r1 H1 ∧ Rel K mg r1 S1 H1 ∧ Aft K mg W (f a S1) r1 H1 Q) := by
  cases x with
  | ok a S => exact fun r2 H2 e R => ⟨e, R, Aft.mono h e fun _ _ _ _ _ _ z => z⟩
  | ex c fs S => exact h
  | no => exact h

/-! ### slots -/
theorem St1.mono {n : Nat} {t : Slo} {s : VSt} (h : St1 K mg r n t s H) (R : Rel K mg r S H) (x : Ex r H r' H') : St1 K mg r' n t s H' :=
  ⟨h.l1, h.l2, fun i v e => let ⟨w, e1, e2⟩ := h.at_ i v e; ⟨w, e1, e2.mono R x⟩⟩
theorem St1.set {n : Nat} {t : Slo} {s : VSt} (h : St1 K mg r n t s H) (i : Nat) {v : IV} {w : V} (q : VR K mg r H v w) : St1 K mg r n (t.set i (some v)) (s.set i (some w)) H := by
  refine ⟨by rw [List.length_set, h.l1], by rw [List.length_set, h.l2], fun j u e => ?_⟩
  rw [List.getElem?_set] at e
  by_cases hj : i = j
  · rw [if_pos hj] at e
    subst hj
    by_cases hi : i < t.length
    · rw [if_pos hi] at e
      cases e
      refine ⟨w, ?_, q⟩
      rw [List.getElem?_set, if_pos rfl, if_pos (by rw [h.l2, ← h.l1]; exact hi)]
    · rw [if_neg hi] at e; cases e
  · rw [if_neg hj] at e
    obtain ⟨w', e1, e2⟩ := h.at_ j u e
    exact ⟨w', by rw [List.getElem?_set, if_neg hj]; exact e1, e2⟩
theorem St1.unset {n : Nat} {t : Slo} {s : VSt} (h : St1 K mg r n t s H) (i : Nat) : St1 K mg r n (t.set i none) (s.set i none) H := by
  refine ⟨by rw [List.length_set, h.l1], by rw [List.length_set, h.l2], fun j u e => ?_⟩
  rw [List.getElem?_set] at e
  by_cases hj : i = j
  · rw [if_pos hj] at e
    by_cases hi : i < t.length
    · rw [if_pos (by rw [hj] at hi; exact hj ▸ hi)] at e; cases e
    · rw [if_neg (by rw [hj] at hi; exact hj ▸ hi)] at e; cases e
  · rw [if_neg hj] at e
    obtain ⟨w', e1, e2⟩ := h.at_ j u e
    exact ⟨w', by rw [List.getElem?_set, if_neg hj]; exact e1, e2⟩
def wipeI (t : Slo) : List Nat → Slo
  | [] => t
  | v :: vs => (wipeI t vs).set v none
theorem St1.wipe {n : Nat} {t : Slo} {s : VSt} (h : St1 K mg r n t s H) : ∀ vs : List Nat, St1 K mg r n (wipeI t vs) (L2.wipe s vs) H
  | [] => h
  | v :: vs => (St1.wipe h vs).unset v
end

/-! ### the readings -/
def tI (X : Cx) (W : WX) (m : SE) : TE := fun s H Q => ∃ r t S, St1 X.K X.mg r X.N.length t s H ∧ Rel X.K X.mg r S H ∧
  Aft X.K X.mg (fun c d H' => W c d s H') (m t S) r H (fun r' v _ H' => ∀ w, VR X.K X.mg r' H' v w → Q w H')
def tIB (X : Cx) (W : WX) (m : SB) : TT := fun s H Q => ∃ r t S, St1 X.K X.mg r X.N.length t s H ∧ Rel X.K X.mg r S H ∧
  Aft X.K X.mg (fun c d H' => W c d s H') (m t S) r H (fun _ b _ H' => Q b H')
def tIA (X : Cx) (W : WX) (m : SA) : TA := fun s H Q => ∃ r t S, St1 X.K X.mg r X.N.length t s H ∧ Rel X.K X.mg r S H ∧
  Aft X.K X.mg (fun c d H' => W c d s H') (m t S) r H (fun r' v _ H' => ∀ w, VRs X.K X.mg r' H' v w → Q w H')
def AftS (X : Cx) (W : WX) (x : RS) (r : List Addr) (H : Hp) (D : Ends) : Prop := match x with
  | .nx t S => ∀ r' H' s', Ex r H r' H' → Rel X.K X.mg r' S H' → St1 X.K X.mg r' X.N.length t s' H' → D.nx s' H'
  | .ret v S => ∀ r' H' w, Ex r H r' H' → Rel X.K X.mg r' S H' → VR X.K X.mg r' H' v w → D.rt w H'
  | .brk t S => ∀ r' H' s', Ex r H r' H' → Rel X.K X.mg r' S H' → St1 X.K X.mg r' X.N.length t s' H' → D.bk s' H'
  | .cnt t S => ∀ r' H' s', Ex r H r' H' → Rel X.K X.mg r' S H' → St1 X.K X.mg r' X.N.length t s' H' → D.ct s' H'
  | .ex c fs t S => ∀ r' H' s' cls d, Ex r H r' H' → Rel X.K X.mg r' S H' → St1 X.K X.mg r' X.N.length t s' H' → XR X.K X.mg r' H' c fs cls d → W cls d s' H'
  | .no => False
def tS (X : Cx) (W : WX) (m : SS) : TS := fun D s H => ∃ r t S, St1 X.K X.mg r X.N.length t s H ∧ Rel X.K X.mg r S H ∧ AftS X W (m t S) r H D

abbrev EOk (X : Cx) (W : WX) (e : Expr) (m : SE) : Prop := PE X e (tI X W m)
abbrev BOk (X : Cx) (W : WX) (e : Expr) (m : SB) : Prop := PT X e (tIB X W m)
abbrev AOk (X : Cx) (W : WX) (es : List Expr) (m : SA) : Prop := PA X es (tIA X W m)
abbrev SOk (X : Cx) (W : WX) (st : Stmt) (m : SS) : Prop := PS X st (tS X W m)
abbrev SsOk (X : Cx) (W : WX) (sts : List Stmt) (m : SS) : Prop := PSs X sts (tS X W m)

theorem PE_imp {X : Cx} {e : Expr} {t u : TE} (h : PE X e t) (k : ∀ s H Q, u s H Q → t s H Q) : PE X e u :=
  ⟨fun pins s σ H Q I q => h.run pins s σ H Q I (k σ H Q q)⟩
theorem PT_imp {X : Cx} {e : Expr} {t u : TT} (h : PT X e t) (k : ∀ s H Q, u s H Q → t s H Q) : PT X e u :=
  ⟨fun pins s σ H Q I q => h.run pins s σ H Q I (k σ H Q q)⟩
theorem PW_imp {X : Cx} {e : Expr} {t u : TT} (h : PW X e t) (k : ∀ s H Q, u s H Q → t s H Q) : PW X e u :=
  ⟨fun wh pins s σ H Q I q => h.run wh pins s σ H Q I (k σ H Q q)⟩
theorem PA_imp {X : Cx} {es : List Expr} {t u : TA} (h : PA X es t) (k : ∀ s H Q, u s H Q → t s H Q) : PA X es u :=
  ⟨fun pos pins s σ H Q I q => h.run pos pins s σ H Q I (k σ H Q q)⟩
theorem PS_imp {X : Cx} {e : Stmt} {t u : TS} (h : PS X e t) (k : ∀ D s H, u D s H → t D s H) : PS X e u :=
  ⟨fun pins s σ H D I q => h.run pins s σ H D I (k D σ H q)⟩
theorem PSs_imp {X : Cx} {e : List Stmt} {t u : TS} (h : PSs X e t) (k : ∀ D s H, u D s H → t D s H) : PSs X e u :=
  ⟨fun pins s σ H D I q => h.run pins s σ H D I (k D σ H q)⟩
end IP

/-! IPyB: operations on values. -/
namespace IP
open PySem PySem.Spec PyProof.Rows L2

section
variable {K : PySem.W.Frag} {mg : Str → Option Value} {r r' r2 : List Addr} {H H' H2 : Hp} {S S' : Sto}

/-! ### the store -/
theorem Rel.at_ (R : Rel K mg r S H) {i : Nat} {o : SO} (e : S[i]? = some o) : ∃ a, r[i]? = some a ∧ OR K mg r H a o := by
  have h : i < r.length := by rw [R.len]; exact (List.getElem?_eq_some_iff.mp e).1
  exact ⟨r[i], List.getElem?_eq_getElem h, R.obj i o _ e (List.getElem?_eq_getElem h)⟩
theorem OR.hasObj {a : Addr} {o : SO} (h : OR K mg r H a o) : ∃ u, H a = some u := by
  cases o with
  | lst xs => obtain ⟨vs, h, _⟩ := h; exact ⟨_, h⟩
  | dct kvs => obtain ⟨ws, h, _⟩ := h; exact ⟨_, h⟩
  | ins C fs => obtain ⟨Ca, dx, ws, _, h, _⟩ := h; exact ⟨_, h⟩
theorem Rel.hasObj (R : Rel K mg r S H) {a : Addr} (m : a ∈ r) : ∃ u, H a = some u := by
  obtain ⟨i, hi, ei⟩ := List.getElem_of_mem m
  have hS : i < S.length := R.len ▸ hi
  exact (R.obj i S[i] a (List.getElem?_eq_getElem hS) (by rw [List.getElem?_eq_getElem hi, ei])).hasObj
theorem Rel.fresh (R : Rel K mg r S H) {p : Addr} (hp : H p = none) : p ∉ r := fun m => by
  obtain ⟨u, e⟩ := R.hasObj m
  rw [hp] at e; cases e
theorem OR.mono {o : SO} {a : Addr} (R : Rel K mg r S H) (x : Ex r H r' H') (hb : H' a = H a) (h : OR K mg r H a o) : OR K mg r' H' a o := by
  cases o with
  | lst xs => obtain ⟨vs, h, q⟩ := h; exact ⟨vs, hb.trans h, q.mono R x⟩
  | dct kvs => obtain ⟨ws, h, q⟩ := h; exact ⟨ws, hb.trans h, q.mono R x⟩
  | ins C fs => obtain ⟨Ca, dx, ws, g, h, q⟩ := h; exact ⟨Ca, dx, ws, g, hb.trans h, q.mono R x⟩
/-- a new object that the store doesn't tell of -/
theorem Rel.beside (R : Rel K mg r S H) {p : Addr} {u : HO} (hp : H p = none) : Ex r H r (upd H p u) ∧ Rel K mg r S (upd H p u) := by
  have x : Ex r H r (upd H p u) := ⟨⟨[], (List.append_nil r).symm⟩, fun a o e n => ⟨by rw [upd_ne (ne_of_none e hp)]; exact e, n⟩⟩
  refine ⟨x, R.len, R.nd, fun i o a e1 e2 => ?_⟩
  have q := R.obj i o a e1 e2
  obtain ⟨w, hw⟩ := q.hasObj
  exact q.mono R x (upd_ne (ne_of_none hw hp))
/-- a new object of the store -/
theorem Rel.alloc (R : Rel K mg r S H) {p : Addr} {u : HO} {o : SO} (hp : H p = none) (ho : Ex r H (r ++ [p]) (upd H p u) → OR K mg (r ++ [p]) (upd H p u) p o) :
    Ex r H (r ++ [p]) (upd H p u) ∧ Rel K mg (r ++ [p]) (S ++ [o]) (upd H p u) ∧ (r ++ [p])[S.length]? = some p := by
  have np := R.fresh hp
  have x : Ex r H (r ++ [p]) (upd H p u) := ⟨⟨[p], rfl⟩, fun a o e n => ⟨by rw [upd_ne (ne_of_none e hp)]; exact e, fun m => by
    rcases List.mem_append.mp m with m | m
    · exact n m
    · rw [List.mem_singleton.mp m, hp] at e; cases e⟩⟩
  have at_ : (r ++ [p])[S.length]? = some p := by rw [← R.len, List.getElem?_concat_length]
  refine ⟨x, ⟨by rw [List.length_append, List.length_append, R.len]; rfl, ?_, fun i o2 a e1 e2 => ?_⟩, at_⟩
  · rw [List.nodup_append]
    exact ⟨R.nd, by simp, fun a ha b hb e => np (by rw [← List.mem_singleton.mp hb, ← e]; exact ha)⟩
  · rw [List.getElem?_append] at e1
    by_cases hi : i < S.length
    · rw [if_pos hi] at e1
      rw [List.getElem?_append_left (by rw [R.len]; exact hi)] at e2
      have q := R.obj i o2 a e1 e2
      obtain ⟨w, hw⟩ := q.hasObj
      exact q.mono R x (upd_ne (ne_of_none hw hp))
    · rw [if_neg hi] at e1
      have h0 : i - S.length = 0 := by
        have := (List.getElem?_eq_some_iff.mp e1).1
        simp at this; omega
      rw [h0] at e1
      cases e1
      have : i = S.length := by omega
      subst this
      rw [at_] at e2
      cases e2
      exact ho x
/-- an object of the store is written -/
theorem Rel.write (R : Rel K mg r S H) {i : Nat} {a : Addr} {u : HO} {o : SO} (ha : r[i]? = some a) (ho : Ex r H r (upd H a u) → OR K mg r (upd H a u) a o) :
    Ex r H r (upd H a u) ∧ Rel K mg r (S.set i o) (upd H a u) := by
  have ma : a ∈ r := List.mem_of_getElem? ha
  have x : Ex r H r (upd H a u) := ⟨⟨[], (List.append_nil r).symm⟩, fun b o e n => ⟨by rw [upd_ne (fun z => n (by rw [z]; exact ma))]; exact e, n⟩⟩
  refine ⟨x, by rw [List.length_set, R.len], R.nd, fun j o2 b e1 e2 => ?_⟩
  rw [List.getElem?_set] at e1
  by_cases hj : i = j
  · subst hj
    rw [ha] at e2
    cases e2
    rw [if_pos rfl] at e1
    split at e1
    · cases e1; exact ho x
    · cases e1
  · rw [if_neg hj] at e1
    have q := R.obj j o2 b e1 e2
    have nb : b ≠ a := fun z => hj (by
      subst z
      exact (List.getElem?_inj (List.getElem?_eq_some_iff.mp ha).1 R.nd).mp (ha.trans e2.symm))
    exact q.mono R x (upd_ne nb)

/-- the list at a place of the store, to be read -/
theorem Rel.lstAt (R : Rel K mg r S H) {i : Nat} {a : Addr} {xs : List IV} (e : S[i]? = some (.lst xs)) (ha : r[i]? = some a) : ∃ vs, H a = some (.lst vs) ∧ VRs K mg r H xs vs := R.obj i _ a e ha
/-- the items of a list -/
def seqI (v : IV) (S : Sto) : Option (List IV) := match v with
  | .ref i => match S[i]? with
    | some (.lst xs) => some xs
    | _ => none
  | .sq xs => some xs
  | _ => none
theorem Rel.items (R : Rel K mg r S H) {v : IV} {w : V} {xs : List IV} (e : seqI v S = some xs) (h : VR K mg r H v w) : ∃ a vs, w = .ref a ∧ SqL K H a vs ∧ VRs K mg r H xs vs := by
  unfold seqI at e
  split at e
  · split at e
    · rename_i ys hy
      cases e
      cases h with | ref q1 =>
      obtain ⟨vs, h1, h2⟩ := R.lstAt hy q1
      exact ⟨_, vs, rfl, .inl (.inl h1), h2⟩
    · cases e
  · cases e
    cases h with | sq q1 q2 => exact ⟨_, _, rfl, q1.l, q2⟩
  · cases e
end

/-! ### what an operation by values is -/
abbrev O1 := IV → Sto → Option (IV × Sto)
abbrev O2 := IV → IV → Sto → Option (IV × Sto)
abbrev OL := List IV → Sto → Option (IV × Sto)

def Gives (K : PySem.W.Frag) (mg : Str → Option Value) (x : Option (IV × Sto)) (r : List Addr) (H : Hp) (Q : VK) : Prop :=
  ∃ z S', x = some (z, S') ∧ ∀ r' H' w, Ex r H r' H' → Rel K mg r' S' H' → VR K mg r' H' z w → Q w H'
def rO2 (X : Cx) (f : O2) : R2 := fun x y H Q => ∃ r S u v, Rel X.K X.mg r S H ∧ VR X.K X.mg r H u x ∧ VR X.K X.mg r H v y ∧ Gives X.K X.mg (f u v S) r H Q
def rO1 (X : Cx) (f : O1) : V → Hp → VK → Prop := fun x H Q => ∃ r S u, Rel X.K X.mg r S H ∧ VR X.K X.mg r H u x ∧ Gives X.K X.mg (f u S) r H Q
def rOL (X : Cx) (f : OL) : List V → Hp → VK → Prop := fun xs H Q => ∃ r S us, Rel X.K X.mg r S H ∧ VRs X.K X.mg r H us xs ∧ Gives X.K X.mg (f us S) r H Q
def rOM (X : Cx) (f : IV → OL) : V → List V → Hp → VK → Prop := fun x xs H Q => ∃ r S u us, Rel X.K X.mg r S H ∧ VR X.K X.mg r H u x ∧ VRs X.K X.mg r H us xs ∧ Gives X.K X.mg (f u us S) r H Q

abbrev Op2Ok (X : Cx) (g : Value → Value → Sem Value) (f : O2) : Prop := OpR X g (rO2 X f)
abbrev CallOk (X : Cx) (g : Value) (f : OL) : Prop := CallR X g (rOL X f)

section
variable {X : Cx}
theorem opR_by {g : Value → Value → Sem Value} {q : R2} (h : ∀ x y H Q, q x y H Q → ∃ p, OpR X g p ∧ p x y H Q) : OpR X g q := fun pins s σ H x y v u Q I rx ry z => by
  obtain ⟨p, k, e⟩ := h x y H Q z
  exact k pins s σ H x y v u Q I rx ry e
theorem unR_by {g : Value → Sem Value} {q : V → Hp → VK → Prop} (h : ∀ x H Q, q x H Q → ∃ p, UnR X g p ∧ p x H Q) : UnR X g q := fun pins s σ H x v Q I rx z => by
  obtain ⟨p, k, e⟩ := h x H Q z
  exact k pins s σ H x v Q I rx e
theorem callR_by {g : Value} {q : List V → Hp → VK → Prop} (h : ∀ x H Q, q x H Q → ∃ p, CallR X g p ∧ p x H Q) : CallR X g q := fun pins s σ H x v Q I rx z => by
  obtain ⟨p, k, e⟩ := h x H Q z
  exact k pins s σ H x v Q I rx e
theorem mtR_by {g : String} {q : V → List V → Hp → VK → Prop} (h : ∀ x xs H Q, q x xs H Q → ∃ p, MtR X g p ∧ p x xs H Q) : MtR X g q := fun pins s σ H x xs v us Q I rx rs z => by
  obtain ⟨p, k, e⟩ := h x xs H Q z
  exact k pins s σ H x xs v us Q I rx rs e
variable {K : PySem.W.Frag} {mg : Str → Option Value} {r : List Addr} {H : Hp} {S : Sto} {Q : VK}
/-- an operation that makes nothing -/
theorem Gives.same {z : IV} {w : V} (R : Rel K mg r S H) (g : Gives K mg (some (z, S)) r H Q) (h : VR K mg r H z w) : Q w H := by
  obtain ⟨z', S', e, q⟩ := g
  cases e
  exact q r H w .refl R h
theorem Gives.nothing {P : Prop} (g : Gives K mg none r H Q) : P := by
  obtain ⟨z', S', e, q⟩ := g
  cases e
/-- a new list -/
theorem Gives.newL {xs : List IV} {vs : List V} {p : Addr} (R : Rel K mg r S H) (g : Gives K mg (some (.ref S.length, S ++ [.lst xs])) r H Q) (hp : H p = .none) (h : VRs K mg r H xs vs) : Q (.ref p) (upd H p (.lst vs)) := by
  obtain ⟨z', S', e, q⟩ := g
  cases e
  obtain ⟨x, R', e⟩ := R.alloc (u := .lst vs) (o := .lst xs) hp fun x => ⟨vs, upd_same, h.mono R x⟩
  exact q _ _ _ x R' (.ref e)
/-- a new tuple -/
theorem Gives.newT {xs : List IV} {vs : List V} {p : Addr} (R : Rel K mg r S H) (g : Gives K mg (some (.tup xs, S)) r H Q) (hp : H p = .none) (h : VRs K mg r H xs vs) : Q (.ref p) (upd H p (.tup vs)) := by
  obtain ⟨z', S', e, q⟩ := g
  cases e
  obtain ⟨x, R'⟩ := R.beside (u := .tup vs) hp
  exact q _ _ _ x R' (.tup (.inl upd_same) (h.mono R x))
end

/-! ### ints, texts, lists: + - * // % -/
def okMul (i j : Int) : Bool := decide (-(2 ^ 64) < i ∧ i < 2 ^ 64) || decide (-(2 ^ 64) < j ∧ j < 2 ^ 64) || decide ((Builtin.Int.intBits i : Int) + (Builtin.Int.intBits j : Int) ≤ 134217728)
def iAdd : O2 := fun u v S => match u, v with
  | .int i, .int j => some (.int (i + j), S)
  | .int i, .bl b => some (.int (i + b2i b), S)
  | .str a, .str b => if a.length + b.length ≤ 16777216 then some (.str (a ++ b), S) else none
  | .tup xs, .tup ys => if xs.isEmpty || decide (16777216 < xs.length + ys.length) then none else some (.tup (xs ++ ys), S)
  | u, v => match seqI u S, seqI v S with
    | some xs, some ys => if xs.length + ys.length ≤ 16777216 then some (.ref S.length, S ++ [.lst (xs ++ ys)]) else none
    | _, _ => none
def iSub : O2 := fun u v S => match u, v with
  | .int i, .int j => some (.int (i - j), S)
  | _, _ => none
def iMul : O2 := fun u v S => match u, v with
  | .int i, .int j => if okMul i j then some (.int (i * j), S) else none
  | .str x, .int n => if decide (x.length ≤ 1000000 ∧ -1000000 ≤ n ∧ n ≤ 1000000 ∧ x.length * n.toNat ≤ 16777216) then some (.str (Txt.mul x n), S) else none
  | u, .int k => match seqI u S with
    | some xs => if decide (-(2 ^ 63) ≤ k ∧ k < 2 ^ 63 ∧ xs.length * k.toNat ≤ 16777216) then some (.ref S.length, S ++ [.lst (List.replicate k.toNat xs).flatten]) else none
    | none => none
  | _, _ => none
def iFdiv : O2 := fun u v S => match u, v with
  | .int i, .int j => if decide (0 < j ∧ j < 1073741824) then some (.int (i / j), S) else none
  | _, _ => none
def iMod : O2 := fun u v S => match u, v with
  | .int i, .int j => if decide (0 < j) then some (.int (i % j), S) else none
  | _, _ => none
def iPow : O2 := fun u v S => match u, v with
  | .int i, .int j => if decide (0 ≤ j ∧ j ≤ 1000000 ∧ i.natAbs < 2 ^ 64) then some (.int (i ^ j.toNat), S) else none
  | _, _ => none
def iShl : O2 := fun u v S => match u, v with
  | .int i, .int j => if decide (0 ≤ j ∧ j ≤ 1000000 ∧ i.natAbs < 2 ^ 64) then some (.int (i * 2 ^ j.toNat), S) else none
  | _, _ => none
def iShr : O2 := fun u v S => match u, v with
  | .int i, .int j => if decide (0 ≤ j) then some (.int (i / 2 ^ j.toNat), S) else none
  | _, _ => none
def iAnd : O2 := fun u v S => match u, v with
  | .int i, .int j => some (.int (Builtin.bitAnd i j), S)
  | _, _ => none
def iNeg : O1 := fun u S => match u with
  | .int i => some (.int (-i), S)
  | _ => none

section
variable {X : Cx}
theorem sl16 : sizeLine = 16777216 := sizeLine_eq
/-- list + list, list * int: whatever is read as a list -/
theorem op_catL : OpR X (binaryOp .Add) (fun x y H Q => ∃ a b xs zs, x = .ref a ∧ y = .ref b ∧ SqL X.K H a xs ∧ SqL X.K H b zs ∧ xs.length + zs.length ≤ sizeLine ∧ ∀ p, H p = none → Q (.ref p) (upd H p (.lst (xs ++ zs)))) := by
  intro pins s σ H x y v u Q I rx ry h
  obtain ⟨a, b, xs, zs, rfl, rfl, hA, hB, hz, q⟩ := h
  cases rx
  cases ry
  obtain ⟨its, r, ⟨⟨cls, dd, data, sl⟩, n, ho, hc, hn, hd⟩, _⟩ := I.list hA
  obtain ⟨its2, r2, ⟨⟨cls2, dd2, data2, sl2⟩, n2, ho2, hc2, hn2, hd2⟩, _⟩ := I.list hB
  simp only at hc hd hc2 hd2
  subst hc hd hc2 hd2
  have hl := r.length
  have hl2 := r2.length
  have ea : its.toArray ++ its2.toArray = (its ++ its2).toArray := by simp
  refine concat_meets ⟨_, ho, rfl⟩ ⟨_, ho2, rfl⟩ noFill_list_add seq_list_add PySem.F.slot_list_add PySem.F.entry_list_add (PySem.F.args_list_add_2 _ _) (list_addW a b its.toArray its2.toArray n n2 dd dd2 sl sl2 (by rw [List.size_toArray, List.size_toArray]; omega)) ⟨ho, ho2, ?_⟩
  rw [ea]
  exact ⟨.ref _, _, I.lnew (t' := s.toks) (r.append r2) (by rw [List.length_append]; omega), rfl, q _ I.fresh⟩
theorem op_repL : OpR X (binaryOp .Mult) (fun x y H Q => ∃ l k xs, x = .ref l ∧ y = .int k ∧ SqL X.K H l xs ∧ -(2 ^ 63) ≤ k ∧ k < 2 ^ 63 ∧ xs.length * k.toNat ≤ sizeLine ∧
    ∀ p, H p = none → Q (.ref p) (upd H p (.lst (List.replicate k.toNat xs).flatten))) := by
  intro pins s σ H x y v u Q I rx ry h
  obtain ⟨l, k, xs, rfl, rfl, hA, h1, h2, hz, q⟩ := h
  cases rx
  obtain ⟨t, rfl⟩ := ry
  obtain ⟨its, r, ⟨⟨cls, dd, data, sl⟩, n, ho, hc, hn, hd⟩, _⟩ := I.list hA
  simp only at hc hd
  subst hc hd
  have hl := r.length
  have hlen : its.toArray.size * k.toNat ≤ sizeLine := by rw [List.size_toArray, ← hl]; exact hz
  have hcap : ¬ its.toArray.size * k.toNat > (2 ^ 63 - 1) / 8 := by
    have : (sizeLine : Nat) ≤ (2 ^ 63 - 1) / 8 := by decide
    omega
  have hfit : ¬ (!Builtin.List.listFitsIndex k) = true := by
    simp [Builtin.List.listFitsIndex]; omega
  have hlong : ¬ Builtin.List.listTooLong (its.toArray.size * k.toNat) = true := by
    rw [notLongL hlen]
    exact Bool.false_ne_true
  refine wpAny_binaryOp_repeat_ref (T := "list") (U := "int") (by decide) ⟨_, ho, rfl⟩ (fun s' => typeIs_int s' k t) PySem.noFill_list_mul PySem.F.fills_int_mul PySem.F.slot_int_rmul PySem.repeat_list PySem.F.slot_int_index.lookup
    (call_meets PySem.F.slot_int_rmul (typeIs_int s k t) PySem.F.entry_int_rmul (PySem.F.args_int_rmul_2 _ _) (lm_int_rmul_list_any k t l its.toArray n dd sl)
      ⟨ho, rfl, ⟨_, ho, rfl⟩, call_meets PySem.F.slot_list_mul ⟨_, ho, rfl⟩ PySem.F.entry_list_mul (PySem.F.args_list_mul_2 _ _) (lm_list_mul_any l its.toArray n dd sl k t hfit hcap hlong) ⟨ho, ?_⟩⟩)
  rw [PyProof.Rows.listMul_foldl_if]
  exact ⟨.ref _, _, I.lnew (t' := s.toks) (r.rep k.toNat) (by rw [PyProof.Rows.lm_len_rep_flat, Nat.mul_comm]; exact hz), rfl, q _ I.fresh⟩
theorem catL_go {x y : V} {H : Hp} {Q : VK} {r : List Addr} {S : Sto} {u v : IV} (R : Rel X.K X.mg r S H) (hu : VR X.K X.mg r H u x) (hv : VR X.K X.mg r H v y)
    (g : Gives X.K X.mg (match seqI u S, seqI v S with
      | some xs, some ys => if xs.length + ys.length ≤ 16777216 then some (.ref S.length, S ++ [.lst (xs ++ ys)]) else none
      | _, _ => none) r H Q) : ∃ p, OpR X (binaryOp .Add) p ∧ p x y H Q := by
  split at g
  · rename_i xs ys h1 h2
    split at g
    · rename_i hl
      obtain ⟨a, vs, e1, e2, s1⟩ := R.items h1 hu
      obtain ⟨b, ws, e3, e4, s2⟩ := R.items h2 hv
      exact ⟨_, op_catL, a, b, vs, ws, e1, e3, e2, e4, by rw [sl16, ← s1.length, ← s2.length]; exact hl, fun p hp => g.newL R hp (s1.append s2)⟩
    · exact g.nothing
  · exact g.nothing
theorem repL_go {x : V} {k : Int} {H : Hp} {Q : VK} {r : List Addr} {S : Sto} {u : IV} (R : Rel X.K X.mg r S H) (hu : VR X.K X.mg r H u x)
    (g : Gives X.K X.mg (match seqI u S with
      | some xs => if decide (-(2 ^ 63) ≤ k ∧ k < 2 ^ 63 ∧ xs.length * k.toNat ≤ 16777216) then some (.ref S.length, S ++ [.lst (List.replicate k.toNat xs).flatten]) else none
      | none => none) r H Q) : ∃ p, OpR X (binaryOp .Mult) p ∧ p x (.int k) H Q := by
  split at g
  · rename_i xs h1
    split at g
    · rename_i hl
      rw [decide_eq_true_eq] at hl
      obtain ⟨a, vs, e1, e2, s1⟩ := R.items h1 hu
      exact ⟨_, op_repL, a, k, vs, e1, rfl, e2, hl.1, hl.2.1, by rw [sl16, ← s1.length]; exact hl.2.2, fun p hp => g.newL R hp (s1.rep _)⟩
    · exact g.nothing
  · exact g.nothing
theorem o_add : Op2Ok X (binaryOp .Add) iAdd := opR_by fun x y H Q h => by
  obtain ⟨r, S, u, v, R, hu, hv, g⟩ := h
  have hu0 := hu
  have hv0 := hv
  cases hu <;> cases hv <;> simp only [iAdd] at g <;> first | exact g.nothing | exact catL_go R hu0 hv0 g | skip
  case int.int i j => exact ⟨_, op_add, i, j, rfl, rfl, g.same R (.int _)⟩
  case int.bl i j => exact ⟨_, op_add_ib, i, j, rfl, rfl, g.same R (.int _)⟩
  case str.str i j =>
    split at g
    · rename_i hl
      exact ⟨_, op_add_str, i, j, rfl, rfl, by rw [sl16]; exact hl, g.same R (.str _)⟩
    · exact g.nothing
  case tup.tup xs a vs q1 q2 ys b ws q3 q4 =>
    split at g
    · exact g.nothing
    · rename_i hl
      simp only [Bool.or_eq_true, List.isEmpty_iff, decide_eq_true_eq, not_or] at hl
      refine ⟨_, op_catT, a, b, vs, ws, rfl, rfl, q1.t, q3.t, ?_, ?_, fun e => ?_, fun e p hp => ?_⟩
      · intro e; subst e; have := q2.length; cases xs with
        | nil => exact hl.1 rfl
        | cons _ _ => simp at this
      · rw [sl16, ← q2.length, ← q4.length]; omega
      · subst e
        have := q4.length
        cases ys with
        | nil => rw [List.append_nil] at g; exact g.same R (.tup q1 q2)
        | cons _ _ => simp at this
      · exact g.newT R hp (q2.append q4)
theorem o_sub : Op2Ok X (binaryOp .Sub) iSub := opR_by fun x y H Q h => by
  obtain ⟨r, S, u, v, R, hu, hv, g⟩ := h
  cases hu <;> cases hv <;> simp only [iSub] at g <;> first | exact g.nothing | skip
  case int.int i j => exact ⟨_, op_sub, i, j, rfl, rfl, g.same R (.int _)⟩
theorem op_mul_str : OpR X (binaryOp .Mult) (fun x y H Q => ∃ (z : Str) (n : Int), x = .str z ∧ y = .int n ∧ (z.length ≤ 1000000 ∧ -1000000 ≤ n ∧ n ≤ 1000000 ∧ z.length * n.toNat ≤ 16777216) ∧ Q (.str (Txt.mul z n)) H) :=
  fun pins s σ H x y v u Q I rx ry ⟨z, n, e1, e2, h, q⟩ => by
    subst e1
    subst e2
    obtain ⟨t, rfl⟩ := rx
    obtain ⟨t', rfl⟩ := ry
    refine SB.mul ⟨?_, fun h1 _ => ?_, fun h1 _ => ?_⟩ fun t2 k => ⟨.str (Txt.mul z n), H, I.tok k, ⟨t2, rfl⟩, q⟩
    · simp; omega
    · intro h2
      have h3 : (z.length : Int) ≤ (2 ^ 63 - 1) / n := by
        rw [Int.le_ediv_iff_mul_le (by omega)]
        have h4 : (z.length : Int) * n ≤ 1000000 * 1000000 := Int.mul_le_mul (by omega) (by omega) (by omega) (by omega)
        omega
      omega
    · unfold Builtin.Str.tooLong
      rw [sl16]
      simp
      omega
theorem o_mul : Op2Ok X (binaryOp .Mult) iMul := opR_by fun x y H Q h => by
  obtain ⟨r, S, u, v, R, hu, hv, g⟩ := h
  have hu0 := hu
  cases hu <;> cases hv <;> simp only [iMul] at g <;> first | exact g.nothing | exact repL_go R hu0 g | skip
  case int.int i j =>
    split at g
    · rename_i hl
      unfold okMul at hl
      rw [Bool.or_eq_true, Bool.or_eq_true, decide_eq_true_eq, decide_eq_true_eq, decide_eq_true_eq] at hl
      rcases hl with (hl | hl) | hl
      · exact ⟨_, op_mul, i, j, rfl, rfl, .inl hl, g.same R (.int _)⟩
      · exact ⟨_, op_mul, i, j, rfl, rfl, .inr hl, g.same R (.int _)⟩
      · exact ⟨_, op_mulX, i, j, rfl, rfl, hl, g.same R (.int _)⟩
    · exact g.nothing
  case str.int z n =>
    split at g
    · rename_i hl
      have hl := of_decide_eq_true hl
      exact ⟨_, op_mul_str, z, n, rfl, rfl, hl, g.same R (.str _)⟩
    · exact g.nothing
theorem o_fdiv : Op2Ok X (binaryOp .FloorDiv) iFdiv := opR_by fun x y H Q h => by
  obtain ⟨r, S, u, v, R, hu, hv, g⟩ := h
  cases hu <;> cases hv <;> simp only [iFdiv] at g <;> first | exact g.nothing | skip
  case int.int i j =>
    split at g
    · rename_i hl
      have hl := of_decide_eq_true hl
      exact ⟨_, op_fdiv, i, j, rfl, rfl, hl, g.same R (.int _)⟩
    · exact g.nothing
theorem o_mod : Op2Ok X (binaryOp .Mod) iMod := opR_by fun x y H Q h => by
  obtain ⟨r, S, u, v, R, hu, hv, g⟩ := h
  cases hu <;> cases hv <;> simp only [iMod] at g <;> first | exact g.nothing | skip
  case int.int i j =>
    split at g
    · rename_i hl
      exact ⟨_, op_mod, i, j, rfl, rfl, decide_eq_true_eq.mp hl, g.same R (.int _)⟩
    · exact g.nothing
theorem o_pow : Op2Ok X (binaryOp .Pow) iPow := opR_by fun x y H Q h => by
  obtain ⟨r, S, u, v, R, hu, hv, g⟩ := h
  cases hu <;> cases hv <;> simp only [iPow] at g <;> first | exact g.nothing | skip
  case int.int i j =>
    split at g
    · rename_i hl
      have hl := of_decide_eq_true hl
      exact ⟨_, op_pow, i, j, rfl, rfl, hl, g.same R (.int _)⟩
    · exact g.nothing
theorem o_shl : Op2Ok X (binaryOp .LShift) iShl := opR_by fun x y H Q h => by
  obtain ⟨r, S, u, v, R, hu, hv, g⟩ := h
  cases hu <;> cases hv <;> simp only [iShl] at g <;> first | exact g.nothing | skip
  case int.int i j =>
    split at g
    · rename_i hl
      have hl := of_decide_eq_true hl
      exact ⟨_, op_shl, i, j, rfl, rfl, hl, g.same R (.int _)⟩
    · exact g.nothing
theorem o_shr : Op2Ok X (binaryOp .RShift) iShr := opR_by fun x y H Q h => by
  obtain ⟨r, S, u, v, R, hu, hv, g⟩ := h
  cases hu <;> cases hv <;> simp only [iShr] at g <;> first | exact g.nothing | skip
  case int.int i j =>
    split at g
    · rename_i hl
      exact ⟨_, op_shr, i, j, rfl, rfl, decide_eq_true_eq.mp hl, g.same R (.int _)⟩
    · exact g.nothing
theorem o_and : Op2Ok X (binaryOp .BitAnd) iAnd := opR_by fun x y H Q h => by
  obtain ⟨r, S, u, v, R, hu, hv, g⟩ := h
  cases hu <;> cases hv <;> simp only [iAnd] at g <;> first | exact g.nothing | skip
  case int.int i j => exact ⟨_, op_and, i, j, rfl, rfl, g.same R (.int _)⟩
theorem o_neg : UnR X (unaryOp .USub) (rO1 X iNeg) := unR_by fun x H Q h => by
  obtain ⟨r, S, u, R, hu, g⟩ := h
  cases hu <;> simp only [iNeg] at g <;> first | exact g.nothing | skip
  case int i => exact ⟨_, un_neg, i, rfl, g.same R (.int _)⟩
end

/-! ### == != < <= > >= in is -/
def mapO {α β : Type} (f : α → Option β) : List α → Option (List β)
  | [] => some []
  | x :: xs => match f x with
    | none => none
    | some y => match mapO f xs with
      | none => none
      | some ys => some (y :: ys)
def toD (S : Sto) : Nat → IV → Option PyData
  | 0, _ => none
  | n + 1, v => match v with
    | .non => some .none
    | .bl b => some (.bool b)
    | .int i => some (.int i)
    | .str x => some (.str x)
    | .tup xs => (mapO (toD S n) xs).map .tuple
    | v => match seqI v S with
      | some xs => (mapO (toD S n) xs).map .list
      | none => none

section
variable {K : PySem.W.Frag} {mg : Str → Option Value} {r : List Addr} {H : Hp} {S : Sto} {Q : VK}
theorem dps_of {f : IV → Option PyData} (hf : ∀ v w d, VR K mg r H v w → f v = some d → Dp K H w d) : ∀ (v : List IV) (w : List V) (d : List PyData), VRs K mg r H v w → mapO f v = some d → DpAll K H w d
  | _, _, _, .nil, e => by simp only [mapO] at e; cases e; exact .nil
  | _, _, _, .cons (x := x) (xs := xs) h q, e => by
    simp only [mapO] at e
    split at e
    · cases e
    · rename_i y e1
      split at e
      · cases e
      · rename_i ys e2
        cases e
        exact .cons (hf _ _ _ h e1) (dps_of hf _ _ _ q e2)
theorem dp_of (R : Rel K mg r S H) : ∀ (n : Nat) (v : IV) (w : V) (d : PyData), VR K mg r H v w → toD S n v = some d → Dp K H w d
  | 0, _, _, _, _, e => by simp only [toD] at e; cases e
  | n + 1, v, w, d, h, e => by
    have lst : ∀ xs, seqI v S = some xs → (mapO (toD S n) xs).map PyData.list = some d → Dp K H w d := fun xs hx e => by
      simp only [Option.map_eq_some_iff] at e
      obtain ⟨ds, e1, e2⟩ := e
      subst e2
      obtain ⟨a, vs, rfl, s1, s2⟩ := R.items hx h
      exact .lst s1 (dps_of (dp_of R n) _ _ _ s2 e1)
    cases h with
    | non => simp only [toD] at e; cases e; exact .non
    | bl b => simp only [toD] at e; cases e; exact .bl b
    | int i => simp only [toD] at e; cases e; exact .int i
    | str x => simp only [toD] at e; cases e; exact .str x
    | ty n => simp only [toD, seqI] at e; cases e
    | fn q => simp only [toD, seqI] at e; cases e
    | adr q => simp only [toD, seqI] at e; cases e
    | tup q1 q2 =>
      simp only [toD, Option.map_eq_some_iff] at e
      obtain ⟨ds, e1, e2⟩ := e
      subst e2
      exact .tup q1.t (dps_of (dp_of R n) _ _ _ q2 e1)
    | sq q1 q2 => simp only [toD, seqI] at e; exact lst _ rfl e
    | ref q1 =>
      simp only [toD] at e
      split at e
      · rename_i xs hx; exact lst xs hx e
      · cases e
end

/-- two lists of other lengths -/
def lenNe (u v : IV) (S : Sto) : Bool := match seqI u S, seqI v S with
  | some xs, some ys => xs.length != ys.length
  | _, _ => false
/-- == of two values -/
def eqI (u v : IV) (S : Sto) : Option Bool := match u, v with
  | .int i, .int j => some (decide (i = j))
  | .str x, .str y => some (decide (x = y))
  | .bl x, .bl y => some (decide (x = y))
  | .non, .non => some true
  | _, _ => if lenNe u v S then some false else match toD S 20 u, toD S 20 v with
    | some d, some e => if SeqAt.shaped d && SeqAt.shaped e then some (PyData.eqv d e) else none
    | _, _ => none
def iEq : O2 := fun u v S => (eqI u v S).map fun b => (.bl b, S)
def iNe : O2 := fun u v S => (eqI u v S).map fun b => (.bl (!b), S)
def seqD : PyData → Bool
  | .list _ => true
  | .tuple _ => true
  | _ => false
def ltD (a b : Option PyData) : Option Bool := match a, b with
  | some d, some e => if seqD d && PySem.W.alike d e && SeqAt.shaped d then some (PySem.W.dataLt d e) else none
  | _, _ => none
def iLt : O2 := fun u v S => match u, v with
  | .int i, .int j => some (.bl (decide (i < j)), S)
  | u, v => (ltD (toD S 20 u) (toD S 20 v)).map fun b => (.bl b, S)
def iLe : O2 := fun u v S => match u, v with
  | .int i, .int j => some (.bl (decide (i ≤ j)), S)
  | _, _ => none
def iGt : O2 := fun u v S => match u, v with
  | .int i, .int j => some (.bl (decide (j < i)), S)
  | _, _ => none
def iGe : O2 := fun u v S => match u, v with
  | .int i, .int j => some (.bl (decide (j ≤ i)), S)
  | _, _ => none
/-- is: with None, True, False on the right -/
def isI (u v : IV) : Option Bool := match u, v with
  | .non, .non => some true
  | .bl a, .bl b => some (decide (a = b))
  | .ref _, .non => some false
  | .int _, .non => some false
  | .str _, .non => some false
  | .bl _, .non => some false
  | .tup _, .non => some false
  | .sq _, .non => some false
  | .ref _, .bl _ => some false
  | .sq _, .bl _ => some false
  | .int _, .bl _ => some false
  | .str _, .bl _ => some false
  | .non, .bl _ => some false
  | .tup _, .bl _ => some false
  | _, _ => none
def iIs : O2 := fun u v S => (isI u v).map fun b => (.bl b, S)
def iIsNot : O2 := fun u v S => (isI u v).map fun b => (.bl (!b), S)

section
variable {X : Cx}
theorem is_plain2 {u v : Value} {b : Bool} (hp : plainIs u v = true) (e : (u == v) = b) : ∀ (A : Around) (E : Value → Shared → Prop) (s : Shared) (M : Model) (Q : Value → Shared → Prop), Q (.bool b) s → wpAny M A (compareOp .Is u v) Q E s :=
  fun A E s M Q h => wpAny_is_plain hp (by rw [e]; exact h)
theorem op_eqLen (hu : X.A.units + 64 < cLine) : OpR X (compareOp .Eq) (fun x y H Q => ∃ a b xs ys, x = .ref a ∧ y = .ref b ∧ SqL X.K H a xs ∧ SqL X.K H b ys ∧ xs.length ≠ ys.length ∧ Q (.bl false) H) := by
  intro pins s σ H x y v u Q I rx ry h
  obtain ⟨a, b, xs, ys, rfl, rfl, h1, h2, hn, q⟩ := h
  cases rx
  cases ry
  obtain ⟨its, r1, p1, _⟩ := I.list h1
  obtain ⟨its2, r2, p2, _⟩ := I.list h2
  exact SeqAt.eq_list_lengthsAt p1.isList p2.isList (by rw [List.size_toArray, List.size_toArray, ← r1.length, ← r2.length]; simpa using hn) (by omega) ⟨.bl false, H, I, rfl, q⟩
theorem op_neLen (hu : X.A.units + 64 < cLine) : OpR X (compareOp .NotEq) (fun x y H Q => ∃ a b xs ys, x = .ref a ∧ y = .ref b ∧ SqL X.K H a xs ∧ SqL X.K H b ys ∧ xs.length ≠ ys.length ∧ Q (.bl true) H) := by
  intro pins s σ H x y v u Q I rx ry h
  obtain ⟨a, b, xs, ys, rfl, rfl, h1, h2, hn, q⟩ := h
  cases rx
  cases ry
  obtain ⟨its, r1, p1, _⟩ := I.list h1
  obtain ⟨its2, r2, p2, _⟩ := I.list h2
  exact SeqAt.RcNeAt.lists_lengths p1.isList p2.isList (by rw [List.size_toArray, List.size_toArray, ← r1.length, ← r2.length]; simpa using hn) (by omega) _ _ _ _ ⟨.bl true, H, I, rfl, q⟩
theorem lenNe_ok {r : List Addr} {S : Sto} {H : Hp} {u v : IV} {x y : V} (R : Rel X.K X.mg r S H) (h1 : VR X.K X.mg r H u x) (h2 : VR X.K X.mg r H v y) (e : lenNe u v S = true) : ∃ a b xs ys, x = .ref a ∧ y = .ref b ∧ SqL X.K H a xs ∧ SqL X.K H b ys ∧ xs.length ≠ ys.length := by
  unfold lenNe at e
  split at e
  · rename_i xs ys k1 k2
    obtain ⟨a, vs, e1, e2, s1⟩ := R.items k1 h1
    obtain ⟨b, ws, e3, e4, s2⟩ := R.items k2 h2
    exact ⟨a, b, vs, ws, e1, e3, e2, e4, by rw [← s1.length, ← s2.length]; simpa using e⟩
  · cases e
theorem o_eq (hu : X.A.units + 64 < cLine) : Op2Ok X (compareOp .Eq) iEq := opR_by fun x y H Q h => by
  obtain ⟨r, S, u, v, R, h1, h2, g⟩ := h
  have deep : ∀ d e, toD S 20 u = some d → toD S 20 v = some e → SeqAt.shaped d = true → SeqAt.shaped e = true → Q (.bl (PyData.eqv d e)) H → ∃ p, OpR X (compareOp .Eq) p ∧ p x y H Q := fun d e k1 k2 k3 k4 q =>
    ⟨_, op_eqD hu, d, e, dp_of R 20 _ _ _ h1 k1, dp_of R 20 _ _ _ h2 k2, k3, k4, q⟩
  unfold iEq eqI at g
  split at g
  · cases h1; cases h2; exact ⟨_, op_eq, rfl, by have q := g.same R (.bl _); simpa using q⟩
  · cases h1; cases h2; exact ⟨_, op_eq, rfl, by have q := g.same R (.bl _); simpa using q⟩
  · cases h1; cases h2; exact ⟨_, op_eq, rfl, by have q := g.same R (.bl _); simpa using q⟩
  · cases h1; cases h2; exact ⟨_, op_eq, rfl, by have q := g.same R (.bl _); simpa using q⟩
  · split at g
    · rename_i k0
      obtain ⟨a, b, xs, ys, f1, f2, f3, f4, f5⟩ := lenNe_ok R h1 h2 k0
      exact ⟨_, op_eqLen hu, a, b, xs, ys, f1, f2, f3, f4, f5, g.same R (.bl _)⟩
    · split at g
      · rename_i d e k1 k2
        split at g
        · rename_i k3
          rw [Bool.and_eq_true] at k3
          exact deep d e k1 k2 k3.1 k3.2 (g.same R (.bl _))
        · exact g.nothing
      · exact g.nothing
theorem o_ne (hu : X.A.units + 64 < cLine) : Op2Ok X (compareOp .NotEq) iNe := opR_by fun x y H Q h => by
  obtain ⟨r, S, u, v, R, h1, h2, g⟩ := h
  have deep : ∀ d e, toD S 20 u = some d → toD S 20 v = some e → SeqAt.shaped d = true → SeqAt.shaped e = true → Q (.bl (!PyData.eqv d e)) H → ∃ p, OpR X (compareOp .NotEq) p ∧ p x y H Q := fun d e k1 k2 k3 k4 q =>
    ⟨_, op_neD hu, d, e, dp_of R 20 _ _ _ h1 k1, dp_of R 20 _ _ _ h2 k2, k3, k4, q⟩
  unfold iNe eqI at g
  split at g
  · cases h1; cases h2; exact ⟨_, op_ne, rfl, by have q := g.same R (.bl _); simpa using q⟩
  · cases h1; cases h2; exact ⟨_, op_ne, rfl, by have q := g.same R (.bl _); simpa using q⟩
  · cases h1; cases h2; exact ⟨_, op_ne, rfl, by have q := g.same R (.bl _); simpa using q⟩
  · cases h1; cases h2; exact ⟨_, op_ne, rfl, by have q := g.same R (.bl _); simpa using q⟩
  · split at g
    · rename_i k0
      obtain ⟨a, b, xs, ys, f1, f2, f3, f4, f5⟩ := lenNe_ok R h1 h2 k0
      exact ⟨_, op_neLen hu, a, b, xs, ys, f1, f2, f3, f4, f5, g.same R (.bl _)⟩
    · split at g
      · rename_i d e k1 k2
        split at g
        · rename_i k3
          rw [Bool.and_eq_true] at k3
          exact deep d e k1 k2 k3.1 k3.2 (g.same R (.bl _))
        · exact g.nothing
      · exact g.nothing
theorem op_ltD (hu : X.A.units + 64 < cLine) : OpR X (compareOp .Lt) (fun x y H Q => ∃ d e, Dp X.K H x d ∧ Dp X.K H y e ∧ PySem.W.alike d e = true ∧ seqD d = true ∧ SeqAt.shaped d = true ∧ Q (.bl (PySem.W.dataLt d e)) H) := by
  intro pins s σ H x y v u Q I rx ry h
  obtain ⟨d, e, hd, he, al, sd, sh, q⟩ := h
  obtain ⟨as, r1⟩ := Dp.reads I d x v hd rx
  obtain ⟨bs, r2⟩ := Dp.reads I e y u he ry
  exact PySem.W.lt_data r1 r2 al (fun z => by rw [z] at sd; cases sd) (by have := SeqAt.depth_of_shaped sh; omega) ⟨.bl _, H, I, rfl, q⟩
theorem o_lt (hu : X.A.units + 64 < cLine) : Op2Ok X (compareOp .Lt) iLt := opR_by fun x y H Q h => by
  obtain ⟨r, S, u, v, R, hu1, hv, g⟩ := h
  unfold iLt at g
  split at g
  · cases hu1; cases hv; exact ⟨_, op_lt, _, _, rfl, rfl, g.same R (.bl _)⟩
  · unfold ltD at g
    split at g
    · rename_i d e k1 k2
      split at g
      · rename_i k3
        simp only [Bool.and_eq_true] at k3
        exact ⟨_, op_ltD hu, d, e, dp_of R 20 _ _ _ hu1 k1, dp_of R 20 _ _ _ hv k2, k3.1.2, k3.1.1, k3.2, g.same R (.bl _)⟩
      · exact g.nothing
    · exact g.nothing
theorem o_le : Op2Ok X (compareOp .LtE) iLe := opR_by fun x y H Q h => by
  obtain ⟨r, S, u, v, R, hu, hv, g⟩ := h
  cases hu <;> cases hv <;> simp only [iLe] at g <;> first | exact g.nothing | skip
  case int.int i j => exact ⟨_, op_le, i, j, rfl, rfl, g.same R (.bl _)⟩
theorem o_gt : Op2Ok X (compareOp .Gt) iGt := opR_by fun x y H Q h => by
  obtain ⟨r, S, u, v, R, hu, hv, g⟩ := h
  cases hu <;> cases hv <;> simp only [iGt] at g <;> first | exact g.nothing | skip
  case int.int i j => exact ⟨_, op_gt, i, j, rfl, rfl, g.same R (.bl _)⟩
theorem o_ge : Op2Ok X (compareOp .GtE) iGe := opR_by fun x y H Q h => by
  obtain ⟨r, S, u, v, R, hu, hv, g⟩ := h
  cases hu <;> cases hv <;> simp only [iGe] at g <;> first | exact g.nothing | skip
  case int.int i j => exact ⟨_, op_ge, i, j, rfl, rfl, g.same R (.bl _)⟩
theorem is_fin {x y : V} {u v : Value} {b : Bool} {s : Shared} {pins : List (Addr × Obj)} {σ : VSt} {H : Hp} {Q : VK} (I : Inv X pins σ H s) (hp : plainIs u v = true) (e : (u == v) = b) (q : Q (.bl b) H) :
    wpAny (model X.prog X.w) X.A (compareOp .Is u v) (EP X pins σ Q) X.xe s :=
  wpAny_is_plain hp (by rw [e]; exact ⟨.bl b, H, I, rfl, q⟩)
theorem isnot_fin {x y : V} {u v : Value} {b : Bool} {s : Shared} {pins : List (Addr × Obj)} {σ : VSt} {H : Hp} {Q : VK} (I : Inv X pins σ H s) (hp : plainIs u v = true) (e : (!(u == v)) = b) (q : Q (.bl b) H) :
    wpAny (model X.prog X.w) X.A (compareOp .IsNot u v) (EP X pins σ Q) X.xe s :=
  wpAny_isNot_plain hp (by rw [e]; exact ⟨.bl b, H, I, rfl, q⟩)
theorem o_is : Op2Ok X (compareOp .Is) iIs := fun pins s σ H x y v u Q I rx ry h => by
  obtain ⟨r, S, a, b, R, h1, h2, g⟩ := h
  cases h1 <;> cases h2 <;> simp only [iIs, isI, Option.map] at g <;> first | exact g.nothing | skip
  all_goals (have q := g.same R (.bl _); first | (obtain ⟨t, rfl⟩ := rx; cases ry) | (cases rx; cases ry))
  all_goals (refine is_fin (x := .non) (y := .non) I rfl ?_ q; first | rfl | exact beq_eq_false_iff_ne.mpr (by intro z; cases z) | (rename_i p1 p2; cases p1 <;> cases p2 <;> rfl))
theorem o_isNot : Op2Ok X (compareOp .IsNot) iIsNot := fun pins s σ H x y v u Q I rx ry h => by
  obtain ⟨r, S, a, b, R, h1, h2, g⟩ := h
  cases h1 <;> cases h2 <;> simp only [iIsNot, isI, Option.map] at g <;> first | exact g.nothing | skip
  all_goals (have q := g.same R (.bl _); first | (obtain ⟨t, rfl⟩ := rx; cases ry) | (cases rx; cases ry))
  all_goals (refine isnot_fin (x := .non) (y := .non) I rfl ?_ q; first | rfl | (rw [beq_eq_false_iff_ne.mpr (by intro z; cases z)]; rfl) | (rename_i p1 p2; cases p1 <;> cases p2 <;> rfl))
end
end IP

/-! IPyC: truth, subscripts, slices, membership, built-in functions and methods, by values. -/
namespace IP
open PySem PySem.Spec PyProof.Rows L2

section
variable {K : PySem.W.Frag} {mg : Str → Option Value} {r : List Addr} {H : Hp} {S : Sto} {Q : VK}
theorem VRs.isEmpty {xs : List IV} {vs : List V} (h : VRs K mg r H xs vs) : xs.isEmpty = vs.isEmpty := by
  have := h.length
  cases xs <;> cases vs <;> simp at this <;> rfl
theorem KR.length : ∀ {xs : List (Key × IV)} {vs : List (Key × V)}, KR K mg r H xs vs → xs.length = vs.length
  | _, _, .nil => rfl
  | _, _, .cons _ q => by rw [List.length_cons, List.length_cons, KR.length q]
theorem KR.isEmpty {xs : List (Key × IV)} {vs : List (Key × V)} (h : KR K mg r H xs vs) : xs.isEmpty = vs.isEmpty := by
  have := h.length
  cases xs <;> cases vs <;> simp at this <;> rfl
def valI (kvs : List (Key × IV)) (k : Key) : Option IV := (kvs.find? fun kv => decide (kv.1 = k)).map (·.2)
def putI (kvs : List (Key × IV)) (k : Key) (v : IV) : List (Key × IV) :=
  if (kvs.any fun kv => decide (kv.1 = k)) = true then kvs.map (fun kv => if kv.1 = k then (kv.1, v) else kv) else kvs ++ [(k, v)]
inductive OptR {K : PySem.W.Frag} {mg : Str → Option Value} (r : List Addr) (H : Hp) : Option IV → Option V → Prop
  | none : OptR r H none none
  | some {x : IV} {v : V} : VR K mg r H x v → OptR r H (some x) (some v)
theorem KR.val : ∀ {xs : List (Key × IV)} {vs : List (Key × V)} (k : Key), KR K mg r H xs vs → OptR (K := K) (mg := mg) r H (valI xs k) (valV vs k)
  | _, _, _, .nil => .none
  | _, _, k, .cons (k := j) (x := x) (v := v) (xs := xs) (vs := vs) h q => by
    unfold valI valV
    rw [List.find?_cons, List.find?_cons]
    by_cases e : j = k
    · simp only [e, decide_true]; exact .some h
    · simp only [e, decide_false]; exact KR.val k q
theorem KR.any : ∀ {xs : List (Key × IV)} {vs : List (Key × V)} (k : Key), KR K mg r H xs vs → (xs.any fun kv => decide (kv.1 = k)) = (vs.any fun kv => decide (kv.1 = k))
  | _, _, _, .nil => rfl
  | _, _, k, .cons h q => by rw [List.any_cons, List.any_cons, KR.any k q]
theorem KR.repl : ∀ {xs : List (Key × IV)} {vs : List (Key × V)} (k : Key) {y : IV} {w : V}, VR K mg r H y w → KR K mg r H xs vs →
    KR K mg r H (xs.map fun kv => if kv.1 = k then (kv.1, y) else kv) (vs.map fun kv => if kv.1 = k then (kv.1, w) else kv)
  | _, _, _, _, _, _, .nil => .nil
  | _, _, k, _, _, hy, .cons (k := j) h q => by
    rw [List.map_cons, List.map_cons]
    by_cases e : j = k
    · simp only [e, if_true]; exact .cons hy (KR.repl k hy q)
    · simp only [e, if_false]; exact .cons h (KR.repl k hy q)
theorem KR.snoc : ∀ {xs : List (Key × IV)} {vs : List (Key × V)} (k : Key) {y : IV} {w : V}, VR K mg r H y w → KR K mg r H xs vs → KR K mg r H (xs ++ [(k, y)]) (vs ++ [(k, w)])
  | _, _, _, _, _, hy, .nil => .cons hy .nil
  | _, _, k, _, _, hy, .cons h q => .cons h (KR.snoc k hy q)
theorem KR.put {xs : List (Key × IV)} {vs : List (Key × V)} (k : Key) {y : IV} {w : V} (hy : VR K mg r H y w) (h : KR K mg r H xs vs) : KR K mg r H (putI xs k y) (putK vs k w) := by
  unfold putI putK
  rw [h.any k]
  split
  · exact h.repl k hy
  · exact h.snoc k hy
end

/-- the dict at a place of the store -/
def dctI (v : IV) (S : Sto) : Option (Nat × List (Key × IV)) := match v with
  | .ref i => match S[i]? with
    | some (.dct kvs) => some (i, kvs)
    | _ => none
  | _ => none
theorem Rel.dct {K : PySem.W.Frag} {mg : Str → Option Value} {r : List Addr} {H : Hp} {S : Sto} (R : Rel K mg r S H) {v : IV} {w : V} {i : Nat} {kvs : List (Key × IV)} (e : dctI v S = some (i, kvs)) (h : VR K mg r H v w) :
    ∃ a ws, w = .ref a ∧ r[i]? = some a ∧ H a = some (.dK ws) ∧ KR K mg r H kvs ws := by
  unfold dctI at e
  split at e
  · split at e
    · rename_i ys hy
      cases e
      cases h with | ref q1 =>
      obtain ⟨ws, h1, h2⟩ := R.obj _ _ _ hy q1
      exact ⟨_, ws, rfl, q1, h1, h2⟩
    · cases e
  · cases e
/-! ### truth -/
def truI (v : IV) (S : Sto) : Option Bool := match v with
  | .non => some false
  | .bl b => some b
  | .int i => some (i != 0)
  | .str y => if y.length ≤ 16777216 then some ((y.length : Int) != 0) else none
  | .tup xs => some (!xs.isEmpty)
  | v => match dctI v S with
    | some (_, kvs) => some (!kvs.isEmpty)
    | none => (seqI v S).map fun xs => !xs.isEmpty
theorem tru_ok1 {K : PySem.W.Frag} {mg : Str → Option Value} {r : List Addr} {H : Hp} {S : Sto} (R : Rel K mg r S H) {v : IV} {w : V} {b : Bool} (h : VR K mg r H v w) (e : truI v S = some b) : TruV K w H b := by
  have gen : ((match dctI v S with
      | some (_, kvs) => some (!kvs.isEmpty)
      | none => (seqI v S).map fun xs => !xs.isEmpty) = some b) → TruV K w H b := fun e => by
    split at e
    · rename_i i kvs hk
      cases e
      obtain ⟨a, ws, rfl, _, e1, e2⟩ := R.dct hk h
      exact .inr (.inr ⟨ws, e1, by rw [e2.isEmpty]⟩)
    · simp only [Option.map_eq_some_iff] at e
      obtain ⟨xs, e1, e2⟩ := e
      subst e2
      obtain ⟨a, vs, rfl, s1, s2⟩ := R.items e1 h
      exact .inl ⟨vs, s1, by rw [s2.isEmpty]⟩
  unfold truI at e
  split at e
  · cases h; cases e; rfl
  · cases h; cases e; rfl
  · cases h; cases e; rfl
  · cases h
    split at e
    · cases e; exact ⟨by rw [sl16]; assumption, rfl⟩
    · cases e
  · cases h with | tup q1 q2 => cases e; exact .inr (.inl ⟨_, q1.t, by rw [q2.isEmpty]⟩)
  · exact gen e

/-! ### subscripts -/
def keyI : IV → Option Key
  | .int i => some (.inl i)
  | .str x => some (.inr x)
  | _ => none
theorem keyI_ok {K : PySem.W.Frag} {mg : Str → Option Value} {r : List Addr} {H : Hp} {v : IV} {w : V} {k : Key} (h : VR K mg r H v w) (e : keyI v = some k) : w = kV k := by
  cases h <;> simp only [keyI] at e <;> cases e <;> rfl
def ixI (u v : IV) (S : Sto) : Option IV := match u, v with
  | .tup xs, .int i => atI xs i
  | .str z, .int i => if z.length ≤ 16777216 then (atI z.cps.toList i).map fun c => .str ⟨#[c]⟩ else none
  | u, k => match dctI u S with
    | some (_, kvs) => (keyI k).bind fun key => valI kvs key
    | none => match seqI u S, k with
      | some xs, .int i => atI xs i
      | _, _ => none
def iIx : O2 := fun u v S => (ixI u v S).map fun z => (z, S)
theorem VRs.atI {K : PySem.W.Frag} {mg : Str → Option Value} {r : List Addr} {H : Hp} {xs : List IV} {vs : List V} (h : VRs K mg r H xs vs) {i : Int} {x : IV} (e : L2.atI xs i = some x) : ∃ v, L2.atI vs i = some v ∧ VR K mg r H x v := by
  unfold L2.atI at e ⊢
  rw [← h.length]
  cases hk : ixN xs.length i with
  | none => rw [hk] at e; cases e
  | some j => rw [hk] at e; exact h.get e
section
variable {X : Cx}
theorem ixR_by {q : R2} (h : ∀ x y H Q, q x y H Q → ∃ p, IxR X p ∧ p x y H Q) : IxR X q := fun va sl pins s σ H x y v u Q I rx ry z hs => by
  obtain ⟨p, k, e⟩ := h x y H Q z
  exact k va sl pins s σ H x y v u Q I rx ry e hs
theorem ix_dict (hu : X.A.units + 1 < cLine) : IxR X (fun x y H Q => ∃ a v, x = .ref a ∧ DGet H a y (some v) ∧ Q v H) := by
  intro va sl pins s σ H x y v u Q I rx ry ⟨a, z, e, g, q⟩ hs
  subst e
  obtain rfl : v = Value.ref a := rx
  exact tail_any (dict_typeIs I g) slot_dict_getitem.lookup (d_getItem hu I g ry fun w' s' I' rw => ⟨z, H, I', rw, q⟩) hs
theorem o_ix (hu : X.A.units + 1 < cLine) : IxR X (rO2 X iIx) := ixR_by fun x y H Q h => by
  obtain ⟨r, S, u, v, R, h1, h2, g⟩ := h
  cases e : ixI u v S with
  | none => unfold iIx at g; rw [e] at g; exact g.nothing
  | some z =>
    unfold iIx at g
    rw [e] at g
    simp only [Option.map_some] at g
    unfold ixI at e
    split at e
    · cases h1 with
      | tup q1 q2 =>
        cases h2
        obtain ⟨w, e1, e2⟩ := q2.atI e
        exact ⟨_, ix_tup, _, _, _, w, rfl, rfl, q1.t, e1, g.same R e2⟩
    · cases h1; cases h2
      split at e
      · simp only [Option.map_eq_some_iff] at e
        obtain ⟨c, e1, e2⟩ := e
        subst e2
        exact ⟨_, ix_str, _, _, c, rfl, rfl, by rw [sl16]; assumption, e1, g.same R (.str _)⟩
      · cases e
    · split at e
      · rename_i j kvs hk
        simp only [Option.bind_eq_some_iff] at e
        obtain ⟨key, e1, e2⟩ := e
        obtain ⟨a, ws, rfl, _, s1, s2⟩ := R.dct hk h1
        have q := s2.val key
        rw [e2] at q
        cases hv : valV ws key with
        | none => rw [hv] at q; cases q
        | some w =>
          rw [hv] at q
          cases q with
          | some q => exact ⟨_, ix_dict hu, _, w, rfl, .inl ⟨ws, key, .inl s1, keyI_ok h2 e1, hv.symm⟩, g.same R q⟩
      · split at e
        · rename_i xs i hx _ _
          cases h2
          obtain ⟨a, vs, rfl, s1, s2⟩ := R.items hx h1
          obtain ⟨w, e1, e2⟩ := s2.atI e
          exact ⟨_, ix_list, _, _, _, w, rfl, rfl, s1, e1, g.same R e2⟩
        · cases e
end

/-! ### slices -/
def cutI (xs : List IV) (lo hi : Option Int) : List IV := (xs.drop (HT.sIx xs.length 0 lo)).take (HT.sIx xs.length xs.length hi - HT.sIx xs.length 0 lo)
theorem VRs.cut {K : PySem.W.Frag} {mg : Str → Option Value} {r : List Addr} {H : Hp} {xs : List IV} {vs : List V} (h : VRs K mg r H xs vs) (lo hi : Option Int) : VRs K mg r H (cutI xs lo hi) (cutV vs lo hi) := by
  unfold cutI cutV
  rw [h.length]
  exact (h.drop _).take _
def iSl (u : IV) (lo hi : Option Int) (S : Sto) : Option (IV × Sto) := match u with
  | .str z => if z.length ≤ 16777216 then some (.str (cutS z lo hi), S) else none
  | .tup xs => if HT.sIx xs.length 0 lo = 0 ∧ HT.sIx xs.length xs.length hi = xs.length then none else some (.tup (cutI xs lo hi), S)
  | u => (seqI u S).map fun xs => (.ref S.length, S ++ [.lst (cutI xs lo hi)])
def rOS (X : Cx) : V → Option Int → Option Int → Hp → VK → Prop := fun x lo hi H Q => ∃ r S u, Rel X.K X.mg r S H ∧ VR X.K X.mg r H u x ∧ Gives X.K X.mg (iSl u lo hi S) r H Q
section
variable {X : Cx}
theorem slR_by {q : V → Option Int → Option Int → Hp → VK → Prop} (h : ∀ x lo hi H Q, q x lo hi H Q → ∃ p, SlR X p ∧ p x lo hi H Q) : SlR X q := fun pins s σ H x v vl vu lo hi sl Q I rx is pl pu z => by
  obtain ⟨p, k, e⟩ := h x lo hi H Q z
  exact k pins s σ H x v vl vu lo hi sl Q I rx is pl pu e
theorem o_sl : SlR X (rOS X) := slR_by fun x lo hi H Q h => by
  obtain ⟨r, S, u, R, h1, g⟩ := h
  unfold iSl at g
  split at g
  · cases h1
    split at g
    · exact ⟨_, sl_str, _, rfl, by rw [sl16]; assumption, g.same R (.str _)⟩
    · exact g.nothing
  · cases h1 with | tup q1 q2 =>
    split at g
    · exact g.nothing
    · rename_i hn
      exact ⟨_, sl_tup, _, _, rfl, q1.t, by rw [← q2.length]; exact hn, fun p hp => g.newT R hp (q2.cut lo hi)⟩
  · cases e : seqI u S with
    | none => rw [e] at g; exact g.nothing
    | some xs =>
      rw [e] at g
      obtain ⟨a, vs, rfl, s1, s2⟩ := R.items e h1
      exact ⟨_, sl_list, _, _, rfl, s1, fun p hp => g.newL R hp (s2.cut lo hi)⟩
end

/-! ### in -/
def flatI : IV → Bool
  | .non | .bl _ | .int _ | .str _ => true
  | _ => false
def eqF : IV → IV → Bool
  | .non, .non => true
  | .bl a, .bl b => a == b
  | .bl a, .int b => (if a then 1 else 0) == b
  | .int a, .bl b => a == (if b then 1 else 0)
  | .int a, .int b => a == b
  | .str a, .str b => a == b
  | _, _ => false
section
variable {K : PySem.W.Frag} {mg : Str → Option Value} {r : List Addr} {H : Hp} {S : Sto} {Q : VK}
theorem flat_ok {v : IV} {w : V} (h : VR K mg r H v w) (e : flatI v = true) : flatV w = true := by cases h <;> first | rfl | cases e
theorem eqF_ok {v v' : IV} {w w' : V} (h : VR K mg r H v w) (h' : VR K mg r H v' w') (e : flatI v = true) (e' : flatI v' = true) : eqV w w' = eqF v v' := by
  cases h <;> first | (cases e; done) | (cases h' <;> first | (cases e'; done) | rfl)
theorem flats_ok : ∀ {vs : List IV} {ws : List V}, VRs K mg r H vs ws → vs.all flatI = true → ws.all flatV = true
  | _, _, .nil, _ => rfl
  | _, _, .cons h q, e => by
    rw [List.all_cons, Bool.and_eq_true] at e
    rw [List.all_cons, flat_ok h e.1, flats_ok q e.2]; rfl
theorem anys_ok {v : IV} {w : V} (h : VR K mg r H v w) (e : flatI v = true) : ∀ {vs : List IV} {ws : List V}, VRs K mg r H vs ws → vs.all flatI = true → inV w ws = vs.any fun y => eqF y v
  | _, _, .nil, _ => rfl
  | _, _, .cons h1 q, e1 => by
    rw [List.all_cons, Bool.and_eq_true] at e1
    unfold inV
    rw [List.any_cons, List.any_cons, eqF_ok h1 h e1.1 e]
    exact congrArg _ (anys_ok h e q e1.2)
end
def inI (u v : IV) (S : Sto) : Option Bool := match u, v with
  | .str x, .str z => match x.cps.toList with
    | [c] => some (decide (c ∈ z.cps.toList))
    | _ => some (!(Builtin.Str.occurrences z x 0 z.length 1).isEmpty)
  | u, .tup xs => if flatI u && xs.all flatI then some (xs.any fun y => eqF y u) else none
  | u, v => match dctI v S with
    | some (_, kvs) => (keyI u).map fun key => (valI kvs key).isSome
    | none => match seqI v S with
      | some xs => if flatI u && xs.all flatI then some (xs.any fun y => eqF y u) else
        match toD S 20 u, toD S 20 v with
        | some d, some (.list ds) => if SeqAt.shaped d && SeqAt.shaped (.list ds) then some (ds.any fun z => PyData.eqv z d) else none
        | _, _ => none
      | none => none
def iIn : O2 := fun u v S => (inI u v S).map fun b => (.bl b, S)
def iNotIn : O2 := fun u v S => (inI u v S).map fun b => (.bl (!b), S)
section
variable {X : Cx}
theorem op_in_dct (hu : X.A.units + 1 < cLine) : OpR X (compareOp .In) (fun y x H Q => ∃ a o, x = .ref a ∧ DGet H a y o ∧ Q (.bl o.isSome) H) := fun pins s σ H y x v u Q I ry rx ⟨a, o, e, g, q⟩ => by
  subst e
  obtain rfl : u = Value.ref a := rx
  exact d_in hu I g ry fun s' I' => ⟨.bl o.isSome, H, I', rfl, q⟩
theorem op_notIn_dct (hu : X.A.units + 1 < cLine) : OpR X (compareOp .NotIn) (fun y x H Q => ∃ a o, x = .ref a ∧ DGet H a y o ∧ Q (.bl (!o.isSome)) H) := fun pins s σ H y x v u Q I ry rx ⟨a, o, e, g, q⟩ => by
  subst e
  obtain rfl : u = Value.ref a := rx
  exact d_notIn hu I g ry fun s' I' => ⟨.bl (!o.isSome), H, I', rfl, q⟩
/-- membership, read once for in and not in -/
theorem in_core {neg : Bool} {f : CmpOp} (hu : X.A.units + 65 < cLine)
    (c1 : OpR X (compareOp f) (fun x y H Q => ∃ (c : Nat) (z : Str), x = .str ⟨#[c]⟩ ∧ y = .str z ∧ Q (.bl (xor neg (decide (c ∈ z.cps.toList)))) H))
    (c2 : OpR X (compareOp f) (fun x y H Q => ∃ i j, x = .str i ∧ y = .str j ∧ Q (.bl (xor neg (!(Builtin.Str.occurrences j i 0 j.length 1).isEmpty))) H))
    (c3 : OpR X (compareOp f) (rIn X.K neg))
    (c4 : OpR X (compareOp f) (fun y x H Q => ∃ a o, x = .ref a ∧ DGet H a y o ∧ Q (.bl (xor neg o.isSome)) H))
    (c5 : OpR X (compareOp f) (fun x y H Q => ∃ d ds, Dp X.K H x d ∧ Dp X.K H y (.list ds) ∧ SeqAt.shaped d = true ∧ SeqAt.shaped (.list ds) = true ∧ Q (.bl (xor neg (ds.any fun z => PyData.eqv z d))) H)) :
    Op2Ok X (compareOp f) (fun u v S => (inI u v S).map fun b => (.bl (xor neg b), S)) := opR_by fun x y H Q h => by
  obtain ⟨r, S, u, v, R, h1, h2, g⟩ := h
  have rin : ∀ (p : Addr) (xs : List IV) (vs : List V), y = .ref p → (SqL X.K H p vs ∨ SqT X.K H p vs) → VRs X.K X.mg r H xs vs → (flatI u && xs.all flatI) = true → Q (.bl (xor neg (xs.any fun y => eqF y u))) H → ∃ q, OpR X (compareOp f) q ∧ q x y H Q :=
    fun p xs vs ey hs hv e q => by
      rw [Bool.and_eq_true] at e
      refine ⟨_, c3, p, vs, ey, hs, flat_ok h1 e.1, flats_ok hv e.2, ?_⟩
      rw [anys_ok h1 e.1 hv e.2]
      cases neg
      · simpa using q
      · simpa using q
  dsimp only at g
  cases e : inI u v S with
  | none => rw [e] at g; exact g.nothing
  | some b =>
    rw [e] at g
    simp only [Option.map_some] at g
    have q := g.same R (.bl _)
    unfold inI at e
    split at e
    · rename_i s1 s2
      cases h1; cases h2
      split at e
      · rename_i c hc
        cases e
        refine ⟨_, c1, c, s2, ?_, rfl, q⟩
        obtain ⟨⟨l⟩⟩ := s1
        simp only at hc
        rw [hc]
      · cases e
        exact ⟨_, c2, _, _, rfl, rfl, q⟩
    · cases h2 with
      | tup q1 q2 =>
        split at e
        · rename_i hf
          cases e
          exact rin _ _ _ rfl (.inr q1.t) q2 hf q
        · cases e
    · split at e
      · rename_i j kvs hk
        simp only [Option.map_eq_some_iff] at e
        obtain ⟨key, e1, e2⟩ := e
        subst e2
        obtain ⟨a, ws, rfl, _, s1, s2⟩ := R.dct hk h2
        have z := s2.val key
        refine ⟨_, c4, _, valV ws key, rfl, .inl ⟨ws, key, .inl s1, keyI_ok h1 e1, rfl⟩, ?_⟩
        have : (valV ws key).isSome = (valI kvs key).isSome := by
          generalize valI kvs key = o at z
          cases hv : valV ws key with
          | none => rw [hv] at z; cases z; rfl
          | some w => rw [hv] at z; cases z; rfl
        rw [this]; exact q
      · split at e
        · rename_i xs hx
          obtain ⟨a, vs, rfl, s1, s2⟩ := R.items hx h2
          split at e
          · rename_i hf
            cases e
            exact rin _ _ _ rfl (.inl s1) s2 hf q
          · split at e
            · rename_i d ds k1 k2
              split at e
              · rename_i k3
                cases e
                rw [Bool.and_eq_true] at k3
                exact ⟨_, c5, d, ds, dp_of R 20 _ _ _ h1 k1, dp_of R 20 _ _ _ h2 k2, k3.1, k3.2, q⟩
              · cases e
            · cases e
        · cases e
theorem o_in (hu : X.A.units + 65 < cLine) : Op2Ok X (compareOp .In) iIn := by
  have z := in_core (neg := false) (f := .In) hu (by simpa using op_in_sign) (by simpa using op_in_str) op_in_seq (by simpa using op_in_dct (by omega)) (by have z := op_inD (X := X) hu; unfold rInD at z; simpa using z)
  have e : iIn = fun u v S => (inI u v S).map fun b => (.bl (xor false b), S) := by funext u v S; unfold iIn; congr 1; funext b; simp
  rw [e]; exact z
theorem o_notIn (hu : X.A.units + 65 < cLine) : Op2Ok X (compareOp .NotIn) iNotIn := by
  have z := in_core (neg := true) (f := .NotIn) hu (by simpa using op_notIn_sign) (by simpa using op_notIn_str) op_notIn_seq (by simpa using op_notIn_dct (by omega)) (by have z := op_notInD (X := X) hu; unfold rNotInD at z; simpa using z)
  have e : iNotIn = fun u v S => (inI u v S).map fun b => (.bl (xor true b), S) := by funext u v S; unfold iNotIn; congr 1; funext b; simp
  rw [e]; exact z
end
end IP

/-! IPyD: built-in functions and methods, by values. -/
namespace IP
open PySem PySem.Spec PyProof.Rows L2

section
variable {K : PySem.W.Frag} {mg : Str → Option Value} {r : List Addr} {H : Hp} {S : Sto} {Q : VK}
/-- an object of the store gets another content -/
theorem Gives.setO {i : Nat} {a : Addr} {o : SO} {u : HO} {z : IV} {w : V} (R : Rel K mg r S H) (g : Gives K mg (some (z, S.set i o)) r H Q) (ha : r[i]? = some a)
    (ho : Ex r H r (upd H a u) → OR K mg r (upd H a u) a o) (hz : VR K mg r H z w) : Q w (upd H a u) := by
  obtain ⟨z', S', e, q⟩ := g
  cases e
  obtain ⟨x, R'⟩ := R.write (u := u) (o := o) ha ho
  exact q _ _ _ x R' (hz.mono R x)
theorem Gives.setL {i : Nat} {a : Addr} {ys : List IV} {ws : List V} {z : IV} {w : V} (R : Rel K mg r S H) (g : Gives K mg (some (z, S.set i (.lst ys))) r H Q) (ha : r[i]? = some a)
    (hv : VRs K mg r H ys ws) (hz : VR K mg r H z w) : Q w (upd H a (.lst ws)) :=
  g.setO R ha (fun x => ⟨ws, upd_same, hv.mono R x⟩) hz

def asInt : IV → Option Int | .int i => some i | _ => none
def asBl : IV → Option Bool | .bl i => some i | _ => none
def asStr : IV → Option Str | .str i => some i | _ => none
theorem ints_of : ∀ {xs : List IV} {ns : List Int} {vs : List V}, mapO asInt xs = some ns → VRs K mg r H xs vs → vs = ns.map V.int
  | _, _, _, e, .nil => by simp only [mapO] at e; cases e; rfl
  | _, _, _, e, .cons h q => by
    simp only [mapO] at e
    split at e
    · cases e
    · rename_i y e1
      split at e
      · cases e
      · rename_i ys e2
        cases e
        cases h <;> simp only [asInt] at e1 <;> cases e1
        rw [ints_of e2 q]; rfl
theorem bls_of : ∀ {xs : List IV} {ns : List Bool} {vs : List V}, mapO asBl xs = some ns → VRs K mg r H xs vs → vs = ns.map V.bl
  | _, _, _, e, .nil => by simp only [mapO] at e; cases e; rfl
  | _, _, _, e, .cons h q => by
    simp only [mapO] at e
    split at e
    · cases e
    · rename_i y e1
      split at e
      · cases e
      · rename_i ys e2
        cases e
        cases h <;> simp only [asBl] at e1 <;> cases e1
        rw [bls_of e2 q]; rfl
theorem strs_of : ∀ {xs : List IV} {ns : List Str} {vs : List V}, mapO asStr xs = some ns → VRs K mg r H xs vs → vs = ns.map V.str
  | _, _, _, e, .nil => by simp only [mapO] at e; cases e; rfl
  | _, _, _, e, .cons h q => by
    simp only [mapO] at e
    split at e
    · cases e
    · rename_i y e1
      split at e
      · cases e
      · rename_i ys e2
        cases e
        cases h <;> simp only [asStr] at e1 <;> cases e1
        rw [strs_of e2 q]; rfl
end

/-! ### functions -/
def iLen : OL := fun us S => match us with
  | [.str y] => if y.length ≤ 16777216 then some (.int y.length, S) else none
  | [.tup xs] => some (.int xs.length, S)
  | [v] => match dctI v S with
    | some (_, kvs) => some (.int kvs.length, S)
    | none => (seqI v S).map fun xs => (.int xs.length, S)
  | _ => none
def iAbs : OL := fun us S => match us with
  | [.int i] => some (.int (if i < 0 then -i else i), S)
  | _ => none
def listMax : List Int → Option Int
  | [] => none
  | [x] => some x
  | x :: xs => (listMax xs).map fun m => if m > x then m else x
def listMin : List Int → Option Int
  | [] => none
  | [x] => some x
  | x :: xs => (listMin xs).map fun m => if m < x then m else x
def iMax : OL := fun us S => match us with
  | [.int i, .int j] => some (.int (if j > i then j else i), S)
  | [v] => ((seqI v S).bind (mapO asInt)).bind fun ns => (listMax ns).map fun m => (.int m, S)
  | _ => none
/-- the place of the one that is less than all others -/
def minJ (ds : List PyData) : Option Nat := match ds with
  | [] => none
  | x :: xs =>
    let m := PySem.W.minD x xs
    if (x :: xs).all (fun d => seqD d && SeqAt.shaped d && PySem.W.alike m d && (x :: xs).all (PySem.W.alike d)) then
      match (List.range (x :: xs).length).filter (fun i => !(PySem.W.dataLt m ((x :: xs).getD i .none))) with
      | [j] => some j
      | _ => none
    else none
def iMinD (v : IV) (S : Sto) : Option IV := match seqI v S, toD S 20 v with
  | some ys, some (.list ds) => (minJ ds).bind fun j => ys[j]?
  | _, _ => none
def iMin : OL := fun us S => match us with
  | [.int i, .int j] => some (.int (if j < i then j else i), S)
  | [v] => match (seqI v S).bind (mapO asInt) with
    | some ns => (listMin ns).map fun m => (.int m, S)
    | none => (iMinD v S).map fun y => (y, S)
  | _ => none
def iSum : OL := fun us S => match us with
  | [v] => ((seqI v S).bind (mapO asInt)).map fun ns => (.int ns.sum, S)
  | _ => none
def iAll : OL := fun us S => match us with
  | [v] => ((seqI v S).bind (mapO asBl)).map fun ns => (.bl (ns.all id), S)
  | _ => none
def iAny : OL := fun us S => match us with
  | [v] => ((seqI v S).bind (mapO asBl)).map fun ns => (.bl (ns.any id), S)
  | _ => none
def iInt : OL := fun us S => match us with
  | [.int i] => some (.int i, S)
  | [.bl b] => some (.int (if b then 1 else 0), S)
  | [.str x] => if x.length ≤ 640 then (PySem.intText? x).map fun n => (.int n, S) else none
  | _ => none
def iStr : OL := fun us S => match us with
  | [.int i] => if i.natAbs.log2 < 1920 then some (.str (toString i), S) else none
  | _ => none
def iList : OL := fun us S => match us with
  | [.tup xs] => some (.ref S.length, S ++ [.lst xs])
  | [v] => (seqI v S).map fun xs => (.ref S.length, S ++ [.lst xs])
  | _ => none
def iTuple : OL := fun us S => match us with
  | [.tup xs] => some (.tup xs, S)
  | [v] => (seqI v S).map fun xs => (.tup xs, S)
  | _ => none
def iDivmod : OL := fun us S => match us with
  | [.int i, .int j] => if decide (0 < j ∧ j < 1073741824) then some (.tup [.int (i / j), .int (i % j)], S) else none
  | _ => none
/-- the name of a value's built-in type -/
def tyI (v : IV) (S : Sto) : Option String := match v with
  | .non => some "NoneType"
  | .bl _ => some "bool"
  | .int _ => some "int"
  | .str _ => some "str"
  | .tup _ => some "tuple"
  | .sq _ => some "list"
  | .ref i => match S[i]? with
    | some (.lst _) => some "list"
    | some (.dct _) => some "dict"
    | _ => none
  | _ => none
def tyNames : List String := ["NoneType", "bool", "int", "str", "tuple", "list", "dict"]
def isSub (a b : String) : Bool := a == b || (a == "bool" && b == "int")
theorem kit_all : ∀ a ∈ tyNames, ∀ b ∈ tyNames, kitB a b = some (isSub a b) := by decide +kernel
def isIn1 (t : String) : List IV → Option Bool
  | [] => some false
  | .ty n :: r => if tyNames.contains n then (isIn1 t r).map fun b => isSub t n || b else none
  | _ => none
def iIsinst : OL := fun us S => match us with
  | [v, .ty n] => if tyNames.contains n then (tyI v S).map fun t => (.bl (isSub t n), S) else none
  | [v, .tup ts] => (tyI v S).bind fun t => (isIn1 t ts).map fun b => (.bl b, S)
  | _ => none

section
variable {X : Cx}
theorem listMax_ok : ∀ {ns : List Int} {m : Int}, listMax ns = some m → 0 < ns.length ∧ m ∈ ns ∧ ∀ y ∈ ns, y ≤ m
  | [], _, e => by cases e
  | [x], _, e => by cases e; simp
  | x :: y :: xs, m, e => by
    rw [listMax.eq_3 x (y :: xs) (by simp)] at e
    simp only [Option.map_eq_some_iff] at e
    obtain ⟨k, e1, e2⟩ := e
    obtain ⟨_, h2, h3⟩ := listMax_ok e1
    refine ⟨by simp, ?_, fun z hz => ?_⟩
    · subst e2; split
      · exact List.mem_cons_of_mem _ h2
      · exact List.mem_cons_self
    · subst e2
      rcases List.mem_cons.mp hz with rfl | hz
      · split <;> omega
      · have := h3 z hz
        split <;> omega
theorem listMin_ok : ∀ {ns : List Int} {m : Int}, listMin ns = some m → 0 < ns.length ∧ m ∈ ns ∧ ∀ y ∈ ns, m ≤ y
  | [], _, e => by cases e
  | [x], _, e => by cases e; simp
  | x :: y :: xs, m, e => by
    rw [listMin.eq_3 x (y :: xs) (by simp)] at e
    simp only [Option.map_eq_some_iff] at e
    obtain ⟨k, e1, e2⟩ := e
    obtain ⟨_, h2, h3⟩ := listMin_ok e1
    refine ⟨by simp, ?_, fun z hz => ?_⟩
    · subst e2; split
      · exact List.mem_cons_of_mem _ h2
      · exact List.mem_cons_self
    · subst e2
      rcases List.mem_cons.mp hz with rfl | hz
      · split <;> omega
      · have := h3 z hz
        split <;> omega
theorem call_len_d : CallR X (.builtin "len") (fun xs H Q => ∃ a kvs, xs = [.ref a] ∧ H a = some (.dK kvs) ∧ Q (.int kvs.length) H) := fun pins s σ H xs us Q I rv ⟨a, kvs, e, h, q⟩ => by
  subst e
  cases rv with
  | cons r1 r2 =>
    cases r2
    cases r1
    exact d_len I (.inl h) fun t s' I' => ⟨.int kvs.length, H, I', ⟨t, rfl⟩, q⟩
theorem c_len : CallOk X (.builtin "len") iLen := callR_by fun xs H Q h => by
  obtain ⟨r, S, us, R, hu, g⟩ := h
  unfold iLen at g
  split at g
  · cases hu with | cons h1 h2 => cases h2; cases h1; split at g; (exact ⟨_, call_len, _, _, rfl, ⟨by rw [sl16]; assumption, rfl⟩, g.same R (.int _)⟩); exact g.nothing
  · cases hu with | cons h1 h2 => cases h2; cases h1 with | tup q1 q2 => exact ⟨_, call_len, _, _, rfl, .inr ⟨_, q1.t, q2.length⟩, g.same R (.int _)⟩
  · cases hu with | cons h1 h2 =>
      cases h2
      split at g
      · rename_i j kvs hk
        obtain ⟨a, ws, rfl, _, s1, s2⟩ := R.dct hk h1
        refine ⟨_, call_len_d, _, ws, rfl, s1, ?_⟩
        rw [← s2.length]; exact g.same R (.int _)
      · rename_i v _ _ _ _ _
        cases e : seqI v S with
        | none => rw [e] at g; exact g.nothing
        | some ys =>
          rw [e] at g
          obtain ⟨a, vs, rfl, s1, s2⟩ := R.items e h1
          exact ⟨_, call_len, _, _, rfl, .inl ⟨_, s1, s2.length⟩, g.same R (.int _)⟩
  · exact g.nothing
theorem c_abs : CallOk X (.builtin "abs") iAbs := callR_by fun xs H Q h => by
  obtain ⟨r, S, us, R, hu, g⟩ := h
  unfold iAbs at g
  split at g
  · cases hu with | cons h1 h2 => cases h2; cases h1; exact ⟨_, call_abs, _, rfl, g.same R (.int _)⟩
  · exact g.nothing
/-- a list of ints, of bools, of texts handed in -/
theorem one_list {α : Type} {K : PySem.W.Frag} {mg : Str → Option Value} {r : List Addr} {H : Hp} {S : Sto} {v : IV} {w : V} {f : IV → Option α} {c : α → V}
    (hf : ∀ {xs : List IV} {ns : List α} {vs : List V}, mapO f xs = some ns → VRs K mg r H xs vs → vs = ns.map c) (R : Rel K mg r S H) (q1 : VR K mg r H v w) {ns : List α} (e : (seqI v S).bind (mapO f) = some ns) : ∃ p, w = .ref p ∧ SqL K H p (ns.map c) := by
  simp only [Option.bind_eq_some_iff] at e
  obtain ⟨xs, e1, e2⟩ := e
  obtain ⟨a, vs, rfl, s1, s2⟩ := R.items e1 q1
  rw [← hf e2 s2]; exact ⟨a, rfl, s1⟩
theorem c_max (hc : X.calm = true) : CallOk X (.builtin "max") iMax := callR_by fun xs H Q h => by
  obtain ⟨r, S, us, R, hu, g⟩ := h
  unfold iMax at g
  split at g
  · cases hu with | cons h1 h2 => cases h1; cases h2 with | cons h3 h4 => cases h3; cases h4; exact ⟨_, call_max2 hc, _, _, rfl, g.same R (.int _)⟩
  · cases hu with | cons h1 h2 =>
      cases h2
      rename_i v _
      cases e : (seqI v S).bind (mapO asInt) with
      | none => rw [e] at g; exact g.nothing
      | some ns =>
        rw [e] at g
        simp only [Option.bind_some] at g
        obtain ⟨p, rfl, sq⟩ := one_list ints_of R h1 e
        cases em : listMax ns with
        | none => rw [em] at g; exact g.nothing
        | some m =>
          rw [em] at g
          obtain ⟨k1, k2, k3⟩ := listMax_ok em
          refine ⟨_, cr_max hc, p, ns, rfl, sq, k1, fun m' hm hle => ?_⟩
          have : m' = m := Int.le_antisymm (k3 _ hm) (hle _ k2)
          subst this
          exact g.same R (.int _)
  · exact g.nothing
theorem depthAll_le {n : Nat} : ∀ {ds : List PyData}, (∀ d ∈ ds, d.depth ≤ n) → PyData.depthAll ds ≤ n
  | [], _ => Nat.zero_le _
  | d :: ds, h => by
    simp only [PyData.depthAll]
    have h1 := h d List.mem_cons_self
    have h2 := depthAll_le fun x hx => h x (List.mem_cons_of_mem _ hx)
    omega
theorem cr_minD (hc : X.calm = true) (hu : X.A.units + 65 < cLine) : CallR X (.builtin "min") (fun vs H Q => ∃ a ws ds j w, vs = [.ref a] ∧ SqL X.K H a ws ∧ Dp X.K H (.ref a) (.list ds) ∧ minJ ds = some j ∧ ws[j]? = some w ∧ Q w H) := by
  intro pins s σ H vs us Q I r h
  obtain ⟨a, ws, ds, j, w, rfl, hs, hd, hj, hw, q⟩ := h
  obtain ⟨its, rv, hl, _⟩ := I.list hs
  rw [Vals.ref1 r]
  obtain ⟨as, rd⟩ := Dp.reads I (.list ds) (.ref a) (.ref a) hd rfl
  cases rd with
  | list e1 e2 e3 ra =>
    rename_i o vs2 n as2
    cases ds with
    | nil => cases hj
    | cons x xs =>
      unfold minJ at hj
      dsimp only at hj
      split at hj
      · rename_i hall
        rw [List.all_eq_true] at hall
        have hall' : ∀ d ∈ x :: xs, seqD d = true ∧ SeqAt.shaped d = true ∧ PySem.W.alike (PySem.W.minD x xs) d = true ∧ ∀ e ∈ x :: xs, PySem.W.alike d e = true := fun d hd => by
          have k := hall d hd
          simp only [Bool.and_eq_true] at k
          exact ⟨k.1.1.1, k.1.1.2, k.1.2, fun e he => List.all_eq_true.mp k.2 e he⟩
        split at hj
        · rename_i j' hf
          cases hj
          have hL : s.heap.IsList a vs2 := ⟨o, e1, e2, n, e3⟩
          have hd64 : PyData.depthAll (x :: xs) ≤ 64 := depthAll_le fun d hd => SeqAt.depth_of_shaped (hall' d hd).2.1
          have hvs : vs2 = its.toArray := by
            obtain ⟨o', e1', _, n', e3'⟩ := hl.isList
            rw [e1] at e1'
            cases e1'
            rw [e3] at e3'
            cases e3'
            rfl
          refine PySem.W.min_list_data (I.ok.hd hc) hL ra ⟨fun d hd e he => (hall' d hd).2.2.2 e he, fun d hd z => by have k := (hall' d hd).1; rw [z] at k; cases k⟩ (by omega) fun i v h' tk bs hv hr hk => ?_
          obtain ⟨bs2, r2, hi, hm, _⟩ := PySem.W.readsAll_at ra i v (by simpa using hv)
          have r3 := PySem.W.reads_keeps hk r2
          have em : PySem.W.minD x xs = (x :: xs).getD i .none := PySem.W.alike_unique _ _ v _ _ (hall' _ hm).2.2.1 hr r3
          have hin : i ∈ (List.range (x :: xs).length).filter (fun i => !(PySem.W.dataLt (PySem.W.minD x xs) ((x :: xs).getD i .none))) := by
            rw [List.mem_filter]
            refine ⟨List.mem_range.mpr hi, ?_⟩
            rw [← em]
            have : PySem.W.dataLt (PySem.W.minD x xs) (PySem.W.minD x xs) = false := lex_irrefl _
            rw [this]; rfl
          rw [hf, List.mem_singleton] at hin
          subst hin
          rw [hvs] at hv
          have hv' : its[i]? = some v := by simpa using hv
          obtain ⟨u, hu1, hu2⟩ := rv.get hw
          rw [hv'] at hu1
          cases hu1
          exact ⟨w, H, I.kept hk, hu2, q⟩
        · cases hj
      · cases hj
theorem c_min (hc : X.calm = true) (hu0 : X.A.units + 65 < cLine) : CallOk X (.builtin "min") iMin := callR_by fun xs H Q h => by
  obtain ⟨r, S, us, R, hu, g⟩ := h
  unfold iMin at g
  split at g
  · cases hu with | cons h1 h2 => cases h1; cases h2 with | cons h3 h4 => cases h3; cases h4; exact ⟨_, call_min2 hc, _, _, rfl, g.same R (.int _)⟩
  · cases hu with | cons h1 h2 =>
      cases h2
      rename_i v _
      cases e : (seqI v S).bind (mapO asInt) with
      | none =>
        rw [e] at g
        dsimp only at g
        cases e2 : iMinD v S with
        | none => rw [e2] at g; exact g.nothing
        | some y =>
          rw [e2] at g
          unfold iMinD at e2
          split at e2
          · rename_i ys ds k1 k2
            simp only [Option.bind_eq_some_iff] at e2
            obtain ⟨j, e3, e4⟩ := e2
            obtain ⟨a, ws, rfl, sq, hv⟩ := R.items k1 h1
            obtain ⟨w, e5, e6⟩ := hv.get e4
            exact ⟨_, cr_minD hc hu0, a, ws, ds, j, w, rfl, sq, dp_of R 20 _ _ _ h1 k2, e3, e5, g.same R e6⟩
          · cases e2
      | some ns =>
        rw [e] at g
        dsimp only at g
        obtain ⟨p, rfl, sq⟩ := one_list ints_of R h1 e
        cases em : listMin ns with
        | none => rw [em] at g; exact g.nothing
        | some m =>
          rw [em] at g
          obtain ⟨k1, k2, k3⟩ := listMin_ok em
          refine ⟨_, cr_min hc, p, ns, rfl, sq, k1, fun m' hm hle => ?_⟩
          have : m' = m := Int.le_antisymm (hle _ k2) (k3 _ hm)
          subst this
          exact g.same R (.int _)
  · exact g.nothing
theorem c_sum (hc : X.calm = true) : CallOk X (.builtin "sum") iSum := callR_by fun xs H Q h => by
  obtain ⟨r, S, us, R, hu, g⟩ := h
  unfold iSum at g
  split at g
  · cases hu with | cons h1 h2 =>
      cases h2
      rename_i v _
      cases e : (seqI v S).bind (mapO asInt) with
      | none => rw [e] at g; exact g.nothing
      | some ns => rw [e] at g; obtain ⟨p, rfl, sq⟩ := one_list ints_of R h1 e; exact ⟨_, cr_sum hc, p, ns, rfl, sq, g.same R (.int _)⟩
  · exact g.nothing
theorem c_all (hc : X.calm = true) : CallOk X (.builtin "all") iAll := callR_by fun xs H Q h => by
  obtain ⟨r, S, us, R, hu, g⟩ := h
  unfold iAll at g
  split at g
  · cases hu with | cons h1 h2 =>
      cases h2
      rename_i v _
      cases e : (seqI v S).bind (mapO asBl) with
      | none => rw [e] at g; exact g.nothing
      | some ns => rw [e] at g; obtain ⟨p, rfl, sq⟩ := one_list bls_of R h1 e; exact ⟨_, cr_all hc, p, ns, rfl, sq, g.same R (.bl _)⟩
  · exact g.nothing
theorem c_any (hc : X.calm = true) : CallOk X (.builtin "any") iAny := callR_by fun xs H Q h => by
  obtain ⟨r, S, us, R, hu, g⟩ := h
  unfold iAny at g
  split at g
  · cases hu with | cons h1 h2 =>
      cases h2
      rename_i v _
      cases e : (seqI v S).bind (mapO asBl) with
      | none => rw [e] at g; exact g.nothing
      | some ns => rw [e] at g; obtain ⟨p, rfl, sq⟩ := one_list bls_of R h1 e; exact ⟨_, cr_any hc, p, ns, rfl, sq, g.same R (.bl _)⟩
  · exact g.nothing
theorem c_int : CallOk X (.type "int") iInt := callR_by fun xs H Q h => by
  obtain ⟨r, S, us, R, hu, g⟩ := h
  unfold iInt at g
  split at g
  · cases hu with | cons h1 h2 => cases h2; cases h1; exact ⟨_, call_int1, .inl ⟨_, rfl, g.same R (.int _)⟩⟩
  · cases hu with | cons h1 h2 => cases h2; cases h1; exact ⟨_, call_int1, .inr ⟨_, rfl, g.same R (.int _)⟩⟩
  · cases hu with | cons h1 h2 =>
      cases h2; cases h1
      split at g
      · rename_i x hl
        cases e : PySem.intText? x with
        | none => rw [e] at g; exact g.nothing
        | some n => rw [e] at g; exact ⟨_, call_int_str, _, n, rfl, e, hl, g.same R (.int _)⟩
      · exact g.nothing
  · exact g.nothing
theorem c_str : CallOk X (.type "str") iStr := callR_by fun xs H Q h => by
  obtain ⟨r, S, us, R, hu, g⟩ := h
  unfold iStr at g
  split at g
  · cases hu with | cons h1 h2 =>
      cases h2; cases h1
      split at g
      · rename_i hl; exact ⟨_, call_str_int, _, rfl, hl, g.same R (.str _)⟩
      · exact g.nothing
  · exact g.nothing
theorem c_list : CallOk X (.type "list") iList := callR_by fun xs H Q h => by
  obtain ⟨r, S, us, R, hu, g⟩ := h
  unfold iList at g
  split at g
  · cases hu with | cons h1 h2 => cases h2; cases h1 with | tup q1 q2 => exact ⟨_, call_list_of, _, _, rfl, .inr q1.t, fun l hl => g.newL R hl q2⟩
  · cases hu with | cons h1 h2 =>
      cases h2
      rename_i v _ _
      cases e : seqI v S with
      | none => rw [e] at g; exact g.nothing
      | some ys =>
        rw [e] at g
        obtain ⟨a, vs, rfl, s1, s2⟩ := R.items e h1
        exact ⟨_, call_list_of, a, vs, rfl, .inl s1, fun l hl => g.newL R hl s2⟩
  · exact g.nothing
theorem c_tuple : CallOk X (.type "tuple") iTuple := callR_by fun xs H Q h => by
  obtain ⟨r, S, us, R, hu, g⟩ := h
  unfold iTuple at g
  split at g
  · cases hu with | cons h1 h2 => cases h2; cases h1 with | tup q1 q2 => exact ⟨_, call_tuple_of, _, _, rfl, .inr ⟨q1.t, g.same R (.tup q1 q2)⟩⟩
  · cases hu with | cons h1 h2 =>
      cases h2
      rename_i v _ _
      cases e : seqI v S with
      | none => rw [e] at g; exact g.nothing
      | some ys =>
        rw [e] at g
        obtain ⟨a, vs, rfl, s1, s2⟩ := R.items e h1
        exact ⟨_, call_tuple_of, a, vs, rfl, .inl ⟨s1, fun l hl => g.newT R hl s2⟩⟩
  · exact g.nothing
theorem c_divmod : CallOk X (.builtin "divmod") iDivmod := callR_by fun xs H Q h => by
  obtain ⟨r, S, us, R, hu, g⟩ := h
  unfold iDivmod at g
  split at g
  · cases hu with | cons h1 h2 => cases h1; cases h2 with | cons h3 h4 =>
      cases h3; cases h4
      split at g
      · rename_i hl
        have hl := of_decide_eq_true hl
        exact ⟨_, call_divmod, _, _, rfl, hl, fun p hp => g.newT R hp (.cons (.int _) (.cons (.int _) .nil))⟩
      · exact g.nothing
  · exact g.nothing
theorem ty_ok {K : PySem.W.Frag} {mg : Str → Option Value} {r : List Addr} {H : Hp} {S : Sto} (R : Rel K mg r S H) {v : IV} {w : V} {t : String} (h : VR K mg r H v w) (e : tyI v S = some t) : TyX K H w (.type t) ∧ t ∈ tyNames := by
  cases h with
  | non => cases e; exact ⟨.base .non, by decide⟩
  | bl b => cases e; exact ⟨.base (.bl b), by decide⟩
  | int i => cases e; exact ⟨.base (.int i), by decide⟩
  | str x => cases e; exact ⟨.base (.str x), by decide⟩
  | ty n => cases e
  | fn q => cases e
  | adr q => cases e
  | tup q1 q2 =>
    cases e
    rcases q1 with q1 | ⟨o, its, n, q1, q3, _⟩
    · exact ⟨.base (.tup q1), by decide⟩
    · exact ⟨.kTuple q1 q3, by decide⟩
  | sq q1 q2 =>
    cases e
    rcases q1 with ⟨o, q1⟩ | q1 | ⟨o, its, n, q1, q3, _⟩
    · exact ⟨.base (.frz q1), by decide⟩
    · exact ⟨.base (.lst q1.1), by decide⟩
    · exact ⟨.kList q1 q3, by decide⟩
  | ref q1 =>
    simp only [tyI] at e
    split at e
    · rename_i xs hk; cases e; obtain ⟨vs, s1, _⟩ := R.obj _ _ _ hk q1; exact ⟨.base (.lst s1), by decide⟩
    · rename_i kvs hk; cases e; obtain ⟨ws, s1, _⟩ := R.obj _ _ _ hk q1; exact ⟨.base (.dK s1), by decide⟩
    · cases e
theorem isIn1_ok {K : PySem.W.Frag} {mg : Str → Option Value} {r : List Addr} {H : Hp} {t : String} (ht : t ∈ tyNames) : ∀ {ts : List IV} {b : Bool} {vs : List V}, isIn1 t ts = some b → VRs K mg r H ts vs →
    ∃ us, Paired ClsV vs us ∧ PySem.W.kitAny K (.type t) us = some b
  | [], b, _, e, .nil => by simp only [isIn1] at e; cases e; exact ⟨[], .nil, kitAny_nil⟩
  | .ty n :: rest, b, _, e, .cons h q => by
    simp only [isIn1] at e
    split at e
    · rename_i hn
      have hn : n ∈ tyNames := by simpa using hn
      have k := kit_ty (K := K) (kit_all t ht n hn)
      cases h
      simp only [Option.map_eq_some_iff] at e
      obtain ⟨b', e1, e2⟩ := e
      obtain ⟨us, p1, p2⟩ := isIn1_ok ht e1 q
      refine ⟨.type n :: us, .cons (.ty n) p1, kitAny_cons k (fun z => ?_) (fun z => ?_)⟩
      · rw [← e2, z]; simpa using p2
      · rw [← e2, z]; rfl
    · cases e
theorem c_isinst : CallOk X (.builtin "isinstance") iIsinst := callR_by fun xs H Q h => by
  obtain ⟨r, S, us, R, hu, g⟩ := h
  unfold iIsinst at g
  split at g
  · rename_i v n
    cases hu with | cons h1 h2 => cases h2 with | cons h3 h4 =>
      cases h4; cases h3
      split at g
      · rename_i hn
        have hn : n ∈ tyNames := by simpa using hn
        cases e : tyI v S with
        | none => rw [e] at g; exact g.nothing
        | some t =>
          rw [e] at g
          obtain ⟨k1, k2⟩ := ty_ok R h1 e
          exact ⟨_, call_isi, _, _, _, _, _, rfl, .ty n, k1, kit_ty (kit_all t k2 n hn), g.same R (.bl _)⟩
      · exact g.nothing
  · rename_i v ts
    cases hu with | cons h1 h2 => cases h2 with | cons h3 h4 =>
      cases h4
      cases e : tyI v S with
      | none => rw [e] at g; exact g.nothing
      | some t =>
        rw [e] at g
        simp only [Option.bind_some] at g
        obtain ⟨k1, k2⟩ := ty_ok R h1 e
        cases e2 : isIn1 t ts with
        | none => rw [e2] at g; exact g.nothing
        | some b =>
          rw [e2] at g
          cases h3 with
          | tup q1 q2 =>
            obtain ⟨us, p1, p2⟩ := isIn1_ok k2 e2 q2
            rcases q1 with q1 | ⟨o, its, n, q1, q3, q4, q5, q6⟩
            · exact ⟨_, call_isiT, _, _, _, _, _, _, rfl, q1, p1, k1, p2, g.same R (.bl _)⟩
            · have e3 : its.toList = us := ClsV.all p1 q6
              obtain ⟨oc, od, odat, osl⟩ := o
              cases q3
              cases q4
              refine ⟨_, call_isiK, _, _, od, us, n, osl, _, _, rfl, ?_, k1, p2, g.same R (.bl _)⟩
              rw [q1, ← e3]
  · exact g.nothing
end

/-! ### methods -/
def isTy (T : String) (v : IV) (S : Sto) : Bool := match v with
  | .str _ => T == "str"
  | .int _ => T == "int"
  | .sq _ => T == "list"
  | .ref i => match S[i]? with
    | some (.lst _) => T == "list"
    | some (.dct _) => T == "dict"
    | _ => false
  | _ => false
theorem isTy_ok {K : PySem.W.Frag} {mg : Str → Option Value} {r : List Addr} {H : Hp} {S : Sto} (R : Rel K mg r S H) {v : IV} {w : V} {T : String} (h : VR K mg r H v w) (e : isTy T v S = true) : tyV K T w H := by
  cases h with
  | str x => simp only [isTy, beq_iff_eq] at e; exact e
  | int x => simp only [isTy, beq_iff_eq] at e; exact e
  | sq q1 q2 => simp only [isTy, beq_iff_eq] at e; exact .inl ⟨e, _, q1.l⟩
  | ref q1 =>
    simp only [isTy] at e
    split at e
    · rename_i xs hk; obtain ⟨vs, s1, _⟩ := R.obj _ _ _ hk q1; exact .inl ⟨by simpa using e, _, .inl (.inl s1)⟩
    · rename_i kvs hk; obtain ⟨ws, s1, _⟩ := R.obj _ _ _ hk q1; exact .inr (.inr (.inl ⟨by simpa using e, .inl ⟨_, s1⟩⟩))
    · cases e
  | _ => cases e
abbrev OM := IV → List IV → Sto → Option (IV × Sto)
abbrev MtOk (X : Cx) (id : String) (f : OM) : Prop := MtR X id (rOM X f)
def lstI (u : IV) (S : Sto) : Option (Nat × List IV) := match u with
  | .ref i => match S[i]? with
    | some (.lst xs) => some (i, xs)
    | _ => none
  | _ => none
theorem lstI_ok {K : PySem.W.Frag} {mg : Str → Option Value} {r : List Addr} {H : Hp} {S : Sto} (R : Rel K mg r S H) {u : IV} {w : V} {i : Nat} {xs : List IV} (h : VR K mg r H u w) (e : lstI u S = some (i, xs)) :
    ∃ a vs, w = .ref a ∧ r[i]? = some a ∧ H a = some (.lst vs) ∧ VRs K mg r H xs vs := by
  cases h with
  | ref q1 =>
    simp only [lstI] at e
    split at e
    · rename_i ys hk
      cases e
      obtain ⟨vs, s1, s2⟩ := R.lstAt hk q1
      exact ⟨_, vs, rfl, q1, s1, s2⟩
    · cases e
  | _ => simp only [lstI] at e; cases e
def mAppend : OM := fun u vs S => match lstI u S, vs with
  | some (i, xs), [y] => if xs.length < 16777216 then some (.non, S.set i (.lst (xs ++ [y]))) else none
  | _, _ => none
def mExtend : OM := fun u vs S => match lstI u S, vs with
  | some (i, xs), [y] => match lstI y S with
    | some (_, zs) => if xs.length + zs.length ≤ 16777216 then some (.non, S.set i (.lst (xs ++ zs))) else none
    | none => none
  | _, _ => none
def mPop : OM := fun u vs S => match lstI u S, vs with
  | some (i, xs), [] => xs[xs.length - 1]?.map fun y => (y, S.set i (.lst xs.dropLast))
  | some (i, xs), [.int k] => if decide (-(2 ^ 63) ≤ k ∧ k < 2 ^ 63) then
      (seqIndex? k xs.length).bind fun j => xs[j]?.map fun y => (y, S.set i (.lst (xs.eraseIdx j)))
    else none
  | _, _ => none
def mClear : OM := fun u vs S => match lstI u S, vs with
  | some (i, _), [] => some (.non, S.set i (.lst []))
  | _, _ => none
def mInsert : OM := fun u vs S => match lstI u S, vs with
  | some (i, xs), [.int k, y] => if decide (xs.length < 16777216 ∧ 0 ≤ k ∧ k < 2 ^ 63) then some (.non, S.set i (.lst (xs.take k.toNat ++ [y] ++ xs.drop k.toNat))) else none
  | _, _ => none
/-- the first place of an equal item -/
def placeOf (y : IV) : List IV → Option Nat
  | [] => none
  | x :: xs => if eqF x y then some 0 else (placeOf y xs).map (· + 1)
def mIndex : OM := fun u vs S => match vs with
  | [y] => match seqI u S with
    | some xs => if flatI y && xs.all flatI then (placeOf y xs).map fun j => (.int j, S) else none
    | none => none
  | _ => none
def mFind : OM := fun u vs S => match u, vs with
  | .str a, [.str b] => some (.int (Txt.find a b), S)
  | _, _ => none
def mStartswith : OM := fun u vs S => match u, vs with
  | .str a, [.str b] => some (.bl (Txt.startswith a b), S)
  | _, _ => none
def mEndswith : OM := fun u vs S => match u, vs with
  | .str a, [.str b] => some (.bl (Txt.endswith a b), S)
  | _, _ => none
def mPartition : OM := fun u vs S => match u, vs with
  | .str a, [.str b] => if decide (b.length ≠ 0 ∧ a.length ≤ 16777216) then some (.tup [.str (Txt.partition a b).1, .str (Txt.partition a b).2.1, .str (Txt.partition a b).2.2], S) else none
  | _, _ => none
def mSplit : OM := fun u vs S => match u, vs with
  | .str a, [.str b] => if decide (b.length ≠ 0 ∧ a.length + 2 ≤ 16777216) then some (.ref S.length, S ++ [.lst ((Txt.split a b).map .str)]) else none
  | _, _ => none
def mJoin : OM := fun u vs S => match u, vs with
  | .str a, [.tup xs] => (mapO asStr xs).bind fun ys => if (ys.map (·.length)).sum + ys.length * a.length ≤ 16777216 then some (.str (Txt.join a ys), S) else none
  | .str a, [v] => ((seqI v S).bind (mapO asStr)).bind fun ys => if (ys.map (·.length)).sum + ys.length * a.length ≤ 16777216 then some (.str (Txt.join a ys), S) else none
  | _, _ => none
def mUpper : OM := fun u vs S => match u, vs with
  | .str a, [] => if a.length ≤ 5592405 then some (.str (Txt.upper a), S) else none
  | _, _ => none
def mRstrip : OM := fun u vs S => match u, vs with
  | .str a, [.str b] => if a.length ≤ 16777216 then some (.str (Txt.rstripChars a b), S) else none
  | _, _ => none
def mGet : OM := fun u vs S => match dctI u S with
  | some (_, kvs) => match vs with
    | [k] => (keyI k).map fun key => ((valI kvs key).getD .non, S)
    | [k, z] => (keyI k).map fun key => ((valI kvs key).getD z, S)
    | _ => none
  | none => none

section
variable {X : Cx}
theorem m_append : MtOk X "list.append" mAppend := mtR_by fun x xs H Q h => by
  obtain ⟨r, S, u, us, R, h1, hs, g⟩ := h
  unfold mAppend at g
  split at g
  · rename_i i ys y e
    obtain ⟨a, vs, rfl, q1, s1, s2⟩ := lstI_ok R h1 e
    cases hs with | cons k1 k2 =>
      cases k2
      split at g
      · exact ⟨_, mt_append, a, vs, _, rfl, rfl, s1, by rw [sl16, ← s2.length]; assumption, g.setL R q1 (s2.append (.one k1)) .non⟩
      · exact g.nothing
  · exact g.nothing
theorem m_extend : MtOk X "list.extend" mExtend := mtR_by fun x xs H Q h => by
  obtain ⟨r, S, u, us, R, h1, hs, g⟩ := h
  unfold mExtend at g
  split at g
  · rename_i i ys y e
    obtain ⟨a, vs, rfl, q1, s1, s2⟩ := lstI_ok R h1 e
    cases hs with | cons k1 k2 =>
      cases k2
      split at g
      · rename_i j zs e2
        obtain ⟨b, ws, rfl, q1', s1', s2'⟩ := lstI_ok R k1 e2
        split at g
        · exact ⟨_, mt_extend, a, b, vs, ws, rfl, rfl, s1, s1', by rw [sl16, ← s2.length, ← s2'.length]; assumption, g.setL R q1 (s2.append s2') .non⟩
        · exact g.nothing
      · exact g.nothing
  · exact g.nothing
theorem m_pop : MtOk X "list.pop" mPop := mtR_by fun x xs H Q h => by
  obtain ⟨r, S, u, us, R, h1, hs, g⟩ := h
  unfold mPop at g
  split at g
  · rename_i i ys e
    obtain ⟨a, vs, rfl, q1, s1, s2⟩ := lstI_ok R h1 e
    cases hs
    cases ey : ys[ys.length - 1]? with
    | none => rw [ey] at g; exact g.nothing
    | some y =>
      rw [ey] at g
      obtain ⟨w, e1, e2⟩ := s2.get ey
      exact ⟨_, mt_pop, a, vs, w, rfl, rfl, s1, by rw [← s2.length]; exact e1, g.setL R q1 s2.dropLast e2⟩
  · rename_i i ys k e
    obtain ⟨a, vs, rfl, q1, s1, s2⟩ := lstI_ok R h1 e
    cases hs with | cons k1 k2 =>
      cases k2; cases k1
      split at g
      · rename_i hk
        have hk := of_decide_eq_true hk
        cases ej : seqIndex? k ys.length with
        | none => rw [ej] at g; exact g.nothing
        | some j =>
          rw [ej] at g
          simp only [Option.bind_some] at g
          cases ey : ys[j]? with
          | none => rw [ey] at g; exact g.nothing
          | some y =>
            rw [ey] at g
            obtain ⟨w, e1, e2⟩ := s2.get ey
            exact ⟨_, mt_popAt, a, vs, k, j, w, rfl, rfl, s1, hk.1, hk.2, by rw [← s2.length]; exact ej, e1, g.setL R q1 (s2.eraseIdx j) e2⟩
      · exact g.nothing
  · exact g.nothing
theorem m_clear : MtOk X "list.clear" mClear := mtR_by fun x xs H Q h => by
  obtain ⟨r, S, u, us, R, h1, hs, g⟩ := h
  unfold mClear at g
  split at g
  · rename_i i ys e
    obtain ⟨a, vs, rfl, q1, s1, s2⟩ := lstI_ok R h1 e
    cases hs
    exact ⟨_, mt_clear, a, vs, rfl, rfl, s1, g.setL R q1 .nil .non⟩
  · exact g.nothing
theorem m_insert : MtOk X "list.insert" mInsert := mtR_by fun x xs H Q h => by
  obtain ⟨r, S, u, us, R, h1, hs, g⟩ := h
  unfold mInsert at g
  split at g
  · rename_i i ys k y e
    obtain ⟨a, vs, rfl, q1, s1, s2⟩ := lstI_ok R h1 e
    cases hs with | cons k1 k2 => cases k2 with | cons k3 k4 =>
      cases k4; cases k1
      split at g
      · rename_i hk
        have hk := of_decide_eq_true hk
        exact ⟨_, mt_insert, a, vs, k, _, rfl, rfl, s1, by rw [sl16, ← s2.length]; exact hk.1, hk.2.1, hk.2.2, g.setL R q1 (((s2.take _).append (.one k3)).append (s2.drop _)) .non⟩
      · exact g.nothing
  · exact g.nothing
theorem placeOf_ok {y : IV} : ∀ {xs : List IV} {j : Nat}, placeOf y xs = some j → (∃ z, xs[j]? = some z ∧ eqF z y = true) ∧ ∀ m z, m < j → xs[m]? = some z → eqF z y = false
  | [], _, e => by cases e
  | x :: xs, j, e => by
    simp only [placeOf] at e
    split at e
    · cases e; exact ⟨⟨x, rfl, by assumption⟩, fun m z hm => by omega⟩
    · rename_i hx
      simp only [Option.map_eq_some_iff] at e
      obtain ⟨k, e1, e2⟩ := e
      subst e2
      obtain ⟨⟨z, h1, h2⟩, h3⟩ := placeOf_ok e1
      refine ⟨⟨z, by simpa using h1, h2⟩, fun m z hm hz => ?_⟩
      cases m with
      | zero => simp at hz; subst hz; simpa using hx
      | succ m => exact h3 m z (by omega) (by simpa using hz)
theorem m_index : MtOk X "list.index" mIndex := mtR_by fun x xs H Q h => by
  obtain ⟨r, S, u, us, R, h1, hs, g⟩ := h
  unfold mIndex at g
  split at g
  · rename_i y
    split at g
    · rename_i ys hy
      split at g
      · rename_i hf
        rw [Bool.and_eq_true] at hf
        cases hs with | cons k1 k2 =>
          cases k2
          obtain ⟨a, vs, rfl, s1, s2⟩ := R.items hy h1
          cases ep : placeOf y ys with
          | none => rw [ep] at g; exact g.nothing
          | some j =>
            rw [ep] at g
            obtain ⟨⟨z, e1, e2⟩, e3⟩ := placeOf_ok ep
            obtain ⟨w, e4, e5⟩ := s2.get e1
            have fz : ∀ {m : Nat} {z : IV}, ys[m]? = some z → flatI z = true := fun {m z} q => List.all_eq_true.mp hf.2 z (List.mem_of_getElem? q)
            refine ⟨_, mt_index, _, vs, _, j, w, rfl, rfl, s1, flat_ok k1 hf.1, flats_ok s2 hf.2, e4, ?_, fun m z' hm hz => ?_, g.same R (.int _)⟩
            · rw [eqF_ok e5 k1 (fz e1) hf.1]; exact e2
            · obtain ⟨z2, e6, e7⟩ := s2.get' hz
              rw [eqF_ok e7 k1 (fz e6) hf.1]; exact e3 m z2 hm e6
      · exact g.nothing
    · exact g.nothing
  · exact g.nothing
theorem m_find : MtOk X "str.find" mFind := mtR_by fun x xs H Q h => by
  obtain ⟨r, S, u, us, R, h1, hs, g⟩ := h
  unfold mFind at g
  split at g
  · cases h1; cases hs with | cons k1 k2 => cases k2; cases k1; exact ⟨_, mt_find, _, _, rfl, rfl, g.same R (.int _)⟩
  · exact g.nothing
theorem m_startswith : MtOk X "str.startswith" mStartswith := mtR_by fun x xs H Q h => by
  obtain ⟨r, S, u, us, R, h1, hs, g⟩ := h
  unfold mStartswith at g
  split at g
  · cases h1; cases hs with | cons k1 k2 => cases k2; cases k1; exact ⟨_, mt_startswith, _, _, rfl, rfl, g.same R (.bl _)⟩
  · exact g.nothing
theorem m_endswith : MtOk X "str.endswith" mEndswith := mtR_by fun x xs H Q h => by
  obtain ⟨r, S, u, us, R, h1, hs, g⟩ := h
  unfold mEndswith at g
  split at g
  · cases h1; cases hs with | cons k1 k2 => cases k2; cases k1; exact ⟨_, mt_endswith, _, _, rfl, rfl, g.same R (.bl _)⟩
  · exact g.nothing
theorem m_partition : MtOk X "str.partition" mPartition := mtR_by fun x xs H Q h => by
  obtain ⟨r, S, u, us, R, h1, hs, g⟩ := h
  unfold mPartition at g
  split at g
  · cases h1; cases hs with | cons k1 k2 =>
      cases k2; cases k1
      split at g
      · rename_i hk
        have hk := of_decide_eq_true hk
        exact ⟨_, mt_partition, _, _, rfl, rfl, by simpa using hk.1, by rw [sl16]; exact hk.2, fun p hp => g.newT R hp (.cons (.str _) (.cons (.str _) (.cons (.str _) .nil)))⟩
      · exact g.nothing
  · exact g.nothing
theorem m_split : MtOk X "str.split" mSplit := mtR_by fun x xs H Q h => by
  obtain ⟨r, S, u, us, R, h1, hs, g⟩ := h
  unfold mSplit at g
  split at g
  · cases h1; cases hs with | cons k1 k2 =>
      cases k2; cases k1
      split at g
      · rename_i hk
        have hk := of_decide_eq_true hk
        exact ⟨_, mt_split, _, _, rfl, rfl, by simpa using hk.1, by rw [sl16]; exact hk.2, fun p hp => g.newL R hp (VRs.strs _)⟩
      · exact g.nothing
  · exact g.nothing
theorem m_join : MtOk X "str.join" mJoin := mtR_by fun x xs H Q h => by
  obtain ⟨r, S, u, us, R, h1, hs, g⟩ := h
  unfold mJoin at g
  split at g
  · cases h1; cases hs with | cons k1 k2 =>
      cases k2; cases k1 with | tup q1 q2 =>
        rename_i a xs p vs
        cases e : mapO asStr xs with
        | none => rw [e] at g; exact g.nothing
        | some ys =>
          rw [e] at g
          simp only [Option.bind_some] at g
          split at g
          · exact ⟨_, mt_join, _, p, ys, rfl, rfl, .inr (by rw [← strs_of e q2]; exact q1.t), by assumption, g.same R (.str _)⟩
          · exact g.nothing
  · cases h1; cases hs with | cons k1 k2 =>
      cases k2
      rename_i a v _ _
      cases e : (seqI v S).bind (mapO asStr) with
      | none => rw [e] at g; exact g.nothing
      | some ys =>
        rw [e] at g
        simp only [Option.bind_some] at g
        split at g
        · obtain ⟨p, rfl, sq⟩ := one_list strs_of R k1 e
          exact ⟨_, mt_join, _, p, ys, rfl, rfl, .inl sq, by assumption, g.same R (.str _)⟩
        · exact g.nothing
  · exact g.nothing
theorem m_upper : MtOk X "str.upper" mUpper := mtR_by fun x xs H Q h => by
  obtain ⟨r, S, u, us, R, h1, hs, g⟩ := h
  unfold mUpper at g
  split at g
  · cases h1; cases hs
    split at g
    · exact ⟨_, mt_upper, _, rfl, rfl, by assumption, g.same R (.str _)⟩
    · exact g.nothing
  · exact g.nothing
theorem mt_get1 (hu : X.A.units + 1 < cLine) : MtR X "dict.get" (fun x xs H Q => ∃ a y o, x = .ref a ∧ xs = [y] ∧ DGet H a y o ∧ Q (o.getD .non) H) := fun pins s σ H x xs v us Q I rx rv ⟨a, y, o, e, e2, g, q⟩ => by
  subst e
  subst e2
  obtain rfl : v = Value.ref a := rx
  cases rv with | cons r1 r2 => cases r2; exact d_get1 hu I g r1 fun w' s' I' rw => ⟨_, H, I', rw, q⟩
theorem mt_get2 (hu : X.A.units + 1 < cLine) : MtR X "dict.get" (fun x xs H Q => ∃ a y z o, x = .ref a ∧ xs = [y, z] ∧ DGet H a y o ∧ Q (o.getD z) H) := fun pins s σ H x xs v us Q I rx rv ⟨a, y, z, o, e, e2, g, q⟩ => by
  subst e
  subst e2
  obtain rfl : v = Value.ref a := rx
  cases rv with | cons r1 r2 => cases r2 with | cons r3 r4 => cases r4; exact d_get2 hu I g r1 r3 fun w' s' I' rw => ⟨_, H, I', rw, q⟩
theorem m_get (hu : X.A.units + 1 < cLine) : MtOk X "dict.get" mGet := mtR_by fun x xs H Q h => by
  obtain ⟨r, S, u, us, R, h1, hs, g⟩ := h
  unfold mGet at g
  split at g
  · rename_i j kvs hk
    obtain ⟨a, ws, rfl, _, s1, s2⟩ := R.dct hk h1
    split at g
    · rename_i k
      cases hs with | cons k1 k2 =>
        cases k2
        cases e : keyI k with
        | none => rw [e] at g; exact g.nothing
        | some key =>
          rw [e] at g
          refine ⟨_, mt_get1 hu, _, _, valV ws key, rfl, rfl, .inl ⟨ws, key, .inl s1, keyI_ok k1 e, rfl⟩, ?_⟩
          have z := s2.val key
          have g' := g.same R (w := (valV ws key).getD .non)
          generalize valI kvs key = o at z g'
          generalize valV ws key = o2 at z g' ⊢
          cases z with
          | none => exact g' .non
          | some z => exact g' z
    · rename_i k zz
      cases hs with | cons k1 k2 => cases k2 with | cons k3 k4 =>
        cases k4
        cases e : keyI k with
        | none => rw [e] at g; exact g.nothing
        | some key =>
          rw [e] at g
          refine ⟨_, mt_get2 hu, _, _, _, valV ws key, rfl, rfl, .inl ⟨ws, key, .inl s1, keyI_ok k1 e, rfl⟩, ?_⟩
          have z := s2.val key
          have g' := fun w => g.same R (w := w)
          generalize valI kvs key = o at z g'
          generalize valV ws key = o2 at z ⊢
          cases z with
          | none => exact g' _ k3
          | some z => exact g' _ z
    · exact g.nothing
  · exact g.nothing
end
end IP

/-! IPyE: the constructs of expressions. -/
namespace IP
open PySem PySem.Spec PyProof.Rows L2

theorem takes0N {X : Cx} : L2N.Takes X (fun _ _ _ _ => False) := fun _ _ ⟨_, _, _, _, _, _, _, _, _, _, _, _, _, _, _, _, z⟩ => z.elim
/-- what a place where code runs must have -/
structure Gd (X : Cx) (W : WX) : Prop where
  calm : X.calm = true
  nd : X.N.Nodup
  tk : L2N.Takes X W
  un : X.A.units + 65 < cLine

/-! ### the evaluator's pieces -/
def mVar (i : Nat) : SE := fun t S => match t[i]? with
  | some (some v) => .ok v S
  | _ => .no
def mC (v : IV) : SE := fun _ S => .ok v S
def mBin (f : O2) (a b : SE) : SE := fun t S => (a t S).bind fun x S1 => (b t S1).bind fun y S2 => R.ofO (f x y S2)
def mUn (f : O1) (a : SE) : SE := fun t S => (a t S).bind fun x S1 => R.ofO (f x S1)
def asB (v : IV) (S : Sto) : R Bool := match v with
  | .bl b => .ok b S
  | _ => .no
/-- a value that must be True or False, as a test -/
def mB (a : SE) : SB := fun t S => (a t S).bind asB
def mTru (a : SE) : SB := fun t S => (a t S).bind fun v S1 => match truI v S1 with
  | some b => .ok b S1
  | none => .no
def mAndT (a b : SB) : SB := fun t S => (a t S).bind fun c S1 => if c then b t S1 else .ok false S1
def mOrT (a b : SB) : SB := fun t S => (a t S).bind fun c S1 => if c then .ok true S1 else b t S1
def mNotT (a : SB) : SB := fun t S => (a t S).bind fun c S1 => .ok (!c) S1
def mAnd (a b : SE) : SE := fun t S => (a t S).bind fun v S1 => match v with
  | .bl c => if c then b t S1 else .ok (.bl false) S1
  | _ => .no
def mOr (a b : SE) : SE := fun t S => (a t S).bind fun v S1 => match truI v S1 with
  | some c => if c then .ok v S1 else b t S1
  | none => .no
def mNot (a : SE) : SE := fun t S => (a t S).bind fun v S1 => match v with
  | .bl c => .ok (.bl (!c)) S1
  | _ => .no
def mIf (c : SB) (a b : SE) : SE := fun t S => (c t S).bind fun k S1 => if k then a t S1 else b t S1
/-- a f b g c -/
def mChain (f g : O2) (a b c : SE) : SE := fun t S => (a t S).bind fun x S1 => (b t S1).bind fun y S2 => (R.ofO (f x y S2)).bind fun z S3 => match z with
  | .bl k => if k then (c t S3).bind fun w S4 => R.ofO (g y w S4) else .ok (.bl false) S3
  | _ => .no
def mNil : SA := fun _ S => .ok [] S
def mCons (a : SE) (b : SA) : SA := fun t S => (a t S).bind fun x S1 => (b t S1).bind fun xs S2 => .ok (x :: xs) S2
def mTup (a : SA) : SE := fun t S => (a t S).bind fun xs S1 => if xs.length ≤ 16777216 then .ok (.tup xs) S1 else .no
def mLst (a : SA) : SE := fun t S => (a t S).bind fun xs S1 => if xs.length ≤ 16777216 then .ok (.ref S1.length) (S1 ++ [.lst xs]) else .no
def mFn (f : OL) (a : SA) : SE := fun t S => (a t S).bind fun xs S1 => R.ofO (f xs S1)
def mMt (T : String) (f : OM) (o : SE) (a : SA) : SE := fun t S => (o t S).bind fun x S1 => if isTy T x S1 then (a t S1).bind fun xs S2 => R.ofO (f x xs S2) else .no
abbrev SO' := Slo → Sto → R (Option Int)
def pNone : SO' := fun _ S => .ok none S
def pSome (a : SE) : SO' := fun t S => (a t S).bind fun v S1 => match v with
  | .int i => .ok (some i) S1
  | _ => .no
def mSl (a : SE) (lo hi : SO') : SE := fun t S => (a t S).bind fun x S1 => (lo t S1).bind fun l S2 => (hi t S2).bind fun h S3 => R.ofO (iSl x l h S3)
def mCall (F : FN) (a : SA) : SE := fun t S => (a t S).bind fun xs S1 => F xs S1
def mDisp0 : SE := fun _ S => .ok (.ref S.length) (S ++ [.dct []])

section
variable {X : Cx} {W : WX}
/-! ### readings in a row -/
theorem rd_E {m : SE} {s : VSt} {H : Hp} {Q : VK} {r : List Addr} {t : Slo} {S : Sto} (hs : St1 X.K X.mg r X.N.length t s H) (R : Rel X.K X.mg r S H) {P : List Addr → IV → Sto → Hp → Prop}
    (h : Aft X.K X.mg (fun c d H' => W c d s H') (m t S) r H P)
    (k : ∀ r' v S' H' w, Ex r H r' H' → Rel X.K X.mg r' S' H' → St1 X.K X.mg r' X.N.length t s H' → VR X.K X.mg r' H' v w → P r' v S' H' → Q w H') : tI X W m s H Q :=
  ⟨r, t, S, hs, R, Aft.mono h .refl fun r2 a S2 H2 e R2 p w hw => k r2 a S2 H2 w e R2 (hs.mono R e) hw p⟩
theorem rd_B {m : SB} {s : VSt} {H : Hp} {Q : Bool → Hp → Prop} {r : List Addr} {t : Slo} {S : Sto} (hs : St1 X.K X.mg r X.N.length t s H) (R : Rel X.K X.mg r S H) {P : List Addr → Bool → Sto → Hp → Prop}
    (h : Aft X.K X.mg (fun c d H' => W c d s H') (m t S) r H P)
    (k : ∀ r' v S' H', Ex r H r' H' → Rel X.K X.mg r' S' H' → St1 X.K X.mg r' X.N.length t s H' → P r' v S' H' → Q v H') : tIB X W m s H Q :=
  ⟨r, t, S, hs, R, Aft.mono h .refl fun r2 a S2 H2 e R2 p => k r2 a S2 H2 e R2 (hs.mono R e) p⟩
theorem rd_A {m : SA} {s : VSt} {H : Hp} {Q : List V → Hp → Prop} {r : List Addr} {t : Slo} {S : Sto} (hs : St1 X.K X.mg r X.N.length t s H) (R : Rel X.K X.mg r S H) {P : List Addr → List IV → Sto → Hp → Prop}
    (h : Aft X.K X.mg (fun c d H' => W c d s H') (m t S) r H P)
    (k : ∀ r' v S' H' w, Ex r H r' H' → Rel X.K X.mg r' S' H' → St1 X.K X.mg r' X.N.length t s H' → VRs X.K X.mg r' H' v w → P r' v S' H' → Q w H') : tIA X W m s H Q :=
  ⟨r, t, S, hs, R, Aft.mono h .refl fun r2 a S2 H2 e R2 p w hw => k r2 a S2 H2 w e R2 (hs.mono R e) hw p⟩

theorem aft_ofO {K : PySem.W.Frag} {mg : Str → Option Value} {W : XK} {r : List Addr} {H : Hp} {x : Option (IV × Sto)} {Q : VK} (h : Aft K mg W (R.ofO x) r H (fun r' v _ H' => ∀ w, VR K mg r' H' v w → Q w H')) : Gives K mg x r H Q := by
  cases x with
  | none => exact h.elim
  | some p => exact ⟨p.1, p.2, rfl, fun r' H' w e R hw => h r' H' e R w hw⟩

/-! ### names, constants -/
theorem e_var {i : Nat} {x : Str} {pos : Pos} (hN : X.N[i]? = some x) (hv : Vis X.env.scope x) (hd : (x == ("__debug__" : Str)) = false) (hcd : (x == ("__classdict__" : Str)) = false) : EOk X W (.Name x pos) (mVar i) :=
  PE_imp (pe_var hN hv hd hcd) fun s H Q ⟨r, t, S, hs, R, h⟩ => by
    unfold mVar at h
    split at h
    · rename_i v e
      obtain ⟨w, e1, e2⟩ := hs.at_ i v e
      exact ⟨w, e1, h r H .refl R w e2⟩
    · exact h.elim
theorem tC_of {v : IV} {w : V} (hv : ∀ (r : List Addr) (H : Hp), VR X.K X.mg r H v w) {s : VSt} {H : Hp} {Q : VK} (h : tI X W (mC v) s H Q) : tC w s H Q := by
  obtain ⟨r, t, S, hs, R, h⟩ := h
  exact h r H .refl R w (hv r H)
theorem e_int {i : Int} {j pos} : EOk X W (.Constant (.int i) j pos) (mC (.int i)) := PE_imp pe_int fun s H Q h => tC_of (fun _ _ => .int i) h
theorem e_bl {i : Bool} {j pos} : EOk X W (.Constant (.bool i) j pos) (mC (.bl i)) := PE_imp pe_bl fun s H Q h => tC_of (fun _ _ => .bl i) h
theorem e_non {j pos} : EOk X W (.Constant .none j pos) (mC .non) := PE_imp pe_non fun s H Q h => tC_of (fun _ _ => .non) h
theorem e_str {i : Str} {j pos} : EOk X W (.Constant (.str i) j pos) (mC (.str i)) := PE_imp pe_str fun s H Q h => tC_of (fun _ _ => .str i) h
theorem e_glob {x : Str} {v : IV} {w : V} {u : Value} {pos : Pos} (hg : Gl X x) (hm : X.mg x = some u) (rl : RelV w u) (hv : ∀ (r : List Addr) (H : Hp), VR X.K X.mg r H v w) (hd : (x == ("__debug__" : Str)) = false) : EOk X W (.Name x pos) (mC v) :=
  PE_imp (pe_glob hg hm rl hd) fun s H Q h => tC_of hv h
theorem e_bty {x : Str} {n : String} {pos : Pos} (hg : Gl X x) (hm : X.mg x = none) (hv : bootBuiltins x = some (.type n)) (hn : x ≠ "__name__") (hd : (x == ("__debug__" : Str)) = false) : EOk X W (.Name x pos) (mC (.ty n)) :=
  PE_imp (pe_bltn (v := .ty n) hg hm hv rfl hn hd) fun s H Q h => tC_of (fun _ _ => .ty n) h

/-! ### operators -/
theorem rd_bin {f : O2} {ma mb : SE} {s : VSt} {H : Hp} {Q : VK} (h : tI X W (mBin f ma mb) s H Q) : tOp (rO2 X f) (tI X W ma) (tI X W mb) s H Q := by
  obtain ⟨r, t, S, hs, R, h⟩ := h
  refine rd_E hs R (Aft.bind h) fun r1 u S1 H1 x e1 R1 hs1 hu ⟨_, _, h1⟩ => ?_
  refine rd_E hs1 R1 (Aft.bind h1) fun r2 v S2 H2 y e2 R2 hs2 hv ⟨_, _, h2⟩ => ?_
  exact ⟨r2, S2, u, v, R2, hu.mono R1 e2, hv, aft_ofO h2⟩
theorem e_bin {op : Operator} {f : O2} {a b : Expr} {ma mb : SE} {pos : Pos} (ho : Op2Ok X (binaryOp op) f) (ha : EOk X W a ma) (hb : EOk X W b mb) : EOk X W (.BinOp a op b pos) (mBin f ma mb) :=
  PE_imp (pe_op ho ha hb) fun s H Q h => rd_bin h
theorem e_cmp {op : CmpOp} {f : O2} {a b : Expr} {ma mb : SE} {pos : Pos} (ho : Op2Ok X (compareOp op) f) (ha : EOk X W a ma) (hb : EOk X W b mb) (hm : behindInMarks op b = false) : EOk X W (.Compare a [op] [b] pos) (mBin f ma mb) :=
  PE_imp (pe_cmpR ho ha hb hm) fun s H Q h => rd_bin h
theorem e_ix {a b : Expr} {ma mb : SE} {pos : Pos} (hu : X.A.units + 1 < cLine) (ha : EOk X W a ma) (hb : EOk X W b mb) (hs : PlainIx b) : EOk X W (.Subscript a b pos) (mBin iIx ma mb) :=
  PE_imp (pe_ix (o_ix hu) ha hb hs) fun s H Q h => rd_bin h
theorem e_un {op : UnaryOp} {f : O1} {a : Expr} {ma : SE} {pos : Pos} (ho : UnR X (unaryOp op) (rO1 X f)) (ha : EOk X W a ma) : EOk X W (.UnaryOp op a pos) (mUn f ma) :=
  PE_imp (pe_un ho ha) fun s H Q ⟨r, t, S, hs, R, h⟩ => rd_E hs R (Aft.bind h) fun r1 u S1 H1 x e1 R1 hs1 hu ⟨_, _, h1⟩ => ⟨r1, S1, u, R1, hu, aft_ofO h1⟩
theorem b_of {ma : SE} {s : VSt} {H : Hp} {Q : Bool → Hp → Prop} (h : tIB X W (mB ma) s H Q) : tI X W ma s H fun x H' => ∃ k, x = .bl k ∧ Q k H' := by
  obtain ⟨r, t, S, hs, R, h⟩ := h
  refine rd_E hs R (Aft.bind h) fun r1 u S1 H1 x e1 R1 hs1 hu ⟨_, _, h1⟩ => ?_
  unfold asB at h1
  split at h1
  · cases hu; exact ⟨_, rfl, h1 r1 H1 .refl R1⟩
  · exact h1.elim
/-- a comparison as a test -/
theorem b_cmp {op : CmpOp} {f : O2} {a b : Expr} {ma mb : SE} {pos : Pos} (ho : Op2Ok X (compareOp op) f) (ha : EOk X W a ma) (hb : EOk X W b mb) (hm : behindInMarks op b = false) : BOk X W (.Compare a [op] [b] pos) (mB (mBin f ma mb)) :=
  PT_imp (pt_cmpR ho ha hb hm) fun s H Q h => rd_bin (b_of h)
theorem rd_chain {f g : O2} {ma mb mc : SE} {s : VSt} {H : Hp} {Q : VK} (h : tI X W (mChain f g ma mb mc) s H Q) : tChain (rO2 X f) (rO2 X g) (tI X W ma) (tI X W mb) (tI X W mc) s H Q := by
  obtain ⟨r, t, S, hs, R, h⟩ := h
  refine rd_E hs R (Aft.bind h) fun r1 u S1 H1 x e1 R1 hs1 hu ⟨_, _, h1⟩ => ?_
  refine rd_E hs1 R1 (Aft.bind h1) fun r2 v S2 H2 y e2 R2 hs2 hv ⟨_, _, h2⟩ => ?_
  refine ⟨r2, S2, u, v, R2, hu.mono R1 e2, hv, ?_⟩
  cases ef : f u v S2 with
  | none => rw [ef] at h2; exact h2.elim
  | some p =>
    rw [ef] at h2
    refine ⟨p.1, p.2, rfl, fun r3 H3 w3 e3 R3 hw => ?_⟩
    have h3 := (Aft.bind h2) r3 H3 e3 R3
    obtain ⟨_, _, h3⟩ := h3
    split at h3
    · rename_i k ek
      rw [ek] at hw
      cases hw
      refine ⟨k, rfl, ?_⟩
      cases k with
      | false =>
        rw [if_neg (by simp)] at h3 ⊢
        exact h3 r3 H3 .refl R3 _ (.bl _)
      | true =>
        rw [if_pos rfl] at h3 ⊢
        refine rd_E (hs2.mono R2 e3) R3 (Aft.bind h3) fun r4 w S4 H4 z e4 R4 hs4 hw4 ⟨_, _, h4⟩ => ?_
        exact ⟨r4, S4, v, w, R4, (hv.mono R2 e3).mono R3 e4, hw4, aft_ofO h4⟩
    · exact h3.elim
theorem e_chain {op op' : CmpOp} {f g : O2} {a b c : Expr} {ma mb mc : SE} {pos : Pos} (ho : Op2Ok X (compareOp op) f) (ho' : Op2Ok X (compareOp op') g) (ha : EOk X W a ma) (hb : EOk X W b mb) (hc : EOk X W c mc)
    (hm : lastMarks [op, op'] [b, c] = false) : EOk X W (.Compare a [op, op'] [b, c] pos) (mChain f g ma mb mc) := PE_imp (pe_chain ho ho' ha hb hc hm) fun s H Q h => rd_chain h
theorem b_chain {op op' : CmpOp} {f g : O2} {a b c : Expr} {ma mb mc : SE} {pos : Pos} (ho : Op2Ok X (compareOp op) f) (ho' : Op2Ok X (compareOp op') g) (ha : EOk X W a ma) (hb : EOk X W b mb) (hc : EOk X W c mc)
    (hm : lastMarks [op, op'] [b, c] = false) : BOk X W (.Compare a [op, op'] [b, c] pos) (mB (mChain f g ma mb mc)) := PT_imp (pt_chain ho ho' ha hb hc hm) fun s H Q h => rd_chain (b_of h)
/-! ### truth, and, or, not, if -/
theorem b_tru {a : Expr} {ma : SE} (ha : EOk X W a ma) (he : ∀ whole, isTrue a X.env whole = (do let v ← whole; standAt a.pos; holding [v] (truthy v))) : BOk X W a (mTru ma) :=
  PT_imp (pt_truth ha he) fun s H Q ⟨r, t, S, hs, R, h⟩ => rd_E hs R (Aft.bind h) fun r1 u S1 H1 x e1 R1 hs1 hu ⟨_, _, h1⟩ => by
    split at h1
    · rename_i b eb; exact ⟨b, tru_ok1 R1 hu eb, h1 r1 H1 .refl R1⟩
    · exact h1.elim
theorem b_not {a : Expr} {ma : SB} {pos : Pos} (ha : BOk X W a ma) : BOk X W (.UnaryOp .Not a pos) (mNotT ma) :=
  PT_imp (pt_not ha) fun s H Q ⟨r, t, S, hs, R, h⟩ => rd_B hs R (Aft.bind h) fun r1 c S1 H1 e1 R1 hs1 ⟨_, _, h1⟩ => h1 r1 H1 .refl R1
theorem w_and1 {a : Expr} {ma : SB} {pos : Pos} (ha : BOk X W a ma) : PW X (.BoolOp .And [a] pos) (tIB X W ma) := pw_and1 ha
theorem w_or1 {a : Expr} {ma : SB} {pos : Pos} (ha : BOk X W a ma) : PW X (.BoolOp .Or [a] pos) (tIB X W ma) := pw_or1 ha
theorem w_and {a b : Expr} {rest : List Expr} {ma mb : SB} {pos : Pos} (ha : BOk X W a ma) (hb : PW X (.BoolOp .And (b :: rest) pos) (tIB X W mb)) : PW X (.BoolOp .And (a :: b :: rest) pos) (tIB X W (mAndT ma mb)) :=
  PW_imp (pw_and ha hb) fun s H Q ⟨r, t, S, hs, R, h⟩ => rd_B hs R (Aft.bind h) fun r1 c S1 H1 e1 R1 hs1 ⟨_, _, h1⟩ => by
    cases c with
    | true => rw [if_pos rfl] at h1 ⊢; exact ⟨r1, t, S1, hs1, R1, h1⟩
    | false => rw [if_neg (by simp)] at h1 ⊢; exact h1 r1 H1 .refl R1
theorem w_or {a b : Expr} {rest : List Expr} {ma mb : SB} {pos : Pos} (ha : BOk X W a ma) (hb : PW X (.BoolOp .Or (b :: rest) pos) (tIB X W mb)) : PW X (.BoolOp .Or (a :: b :: rest) pos) (tIB X W (mOrT ma mb)) :=
  PW_imp (pw_or ha hb) fun s H Q ⟨r, t, S, hs, R, h⟩ => rd_B hs R (Aft.bind h) fun r1 c S1 H1 e1 R1 hs1 ⟨_, _, h1⟩ => by
    cases c with
    | true => rw [if_pos rfl] at h1 ⊢; exact h1 r1 H1 .refl R1
    | false => rw [if_neg (by simp)] at h1 ⊢; exact ⟨r1, t, S1, hs1, R1, h1⟩
theorem e_one {op} {a : Expr} {ma : SE} {pos : Pos} (ha : EOk X W a ma) : EOk X W (.BoolOp op [a] pos) ma := pe_one ha
theorem e_and {a b : Expr} {rest : List Expr} {ma mb : SE} {pos : Pos} (ha : EOk X W a ma) (hb : EOk X W (.BoolOp .And (b :: rest) pos) mb) : EOk X W (.BoolOp .And (a :: b :: rest) pos) (mAnd ma mb) :=
  PE_imp (pe_and ha hb) fun s H Q ⟨r, t, S, hs, R, h⟩ => rd_E hs R (Aft.bind h) fun r1 u S1 H1 x e1 R1 hs1 hu ⟨_, _, h1⟩ => by
    split at h1
    · rename_i c _
      cases hu
      refine ⟨c, rfl, ?_⟩
      cases c with
      | true => rw [if_pos rfl] at h1 ⊢; exact ⟨r1, t, S1, hs1, R1, h1⟩
      | false => rw [if_neg (by simp)] at h1 ⊢; exact h1 r1 H1 .refl R1 _ (.bl _)
    · exact h1.elim
theorem e_or {a b : Expr} {rest : List Expr} {ma mb : SE} {pos : Pos} (ha : EOk X W a ma) (hb : EOk X W (.BoolOp .Or (b :: rest) pos) mb) : EOk X W (.BoolOp .Or (a :: b :: rest) pos) (mOr ma mb) :=
  PE_imp (pe_orT ha hb) fun s H Q ⟨r, t, S, hs, R, h⟩ => rd_E hs R (Aft.bind h) fun r1 u S1 H1 x e1 R1 hs1 hu ⟨_, _, h1⟩ => by
    split at h1
    · rename_i c eb
      refine ⟨c, tru_ok1 R1 hu eb, ?_⟩
      cases c with
      | true => rw [if_pos rfl] at h1 ⊢; exact h1 r1 H1 .refl R1 _ hu
      | false => rw [if_neg (by simp)] at h1 ⊢; exact ⟨r1, t, S1, hs1, R1, h1⟩
    · exact h1.elim
theorem e_not {a : Expr} {ma : SE} {pos : Pos} (ha : EOk X W a ma) : EOk X W (.UnaryOp .Not a pos) (mNot ma) :=
  PE_imp (pe_not ha) fun s H Q ⟨r, t, S, hs, R, h⟩ => rd_E hs R (Aft.bind h) fun r1 u S1 H1 x e1 R1 hs1 hu ⟨_, _, h1⟩ => by
    split at h1
    · rename_i c _; cases hu; exact ⟨c, rfl, h1 r1 H1 .refl R1 _ (.bl _)⟩
    · exact h1.elim
theorem e_if {c a b : Expr} {mc : SB} {ma mb : SE} {pos : Pos} (hc : BOk X W c mc) (ha : EOk X W a ma) (hb : EOk X W b mb) : EOk X W (.IfExp c a b pos) (mIf mc ma mb) :=
  PE_imp (pe_ifExp hc ha hb) fun s H Q ⟨r, t, S, hs, R, h⟩ => rd_B hs R (Aft.bind h) fun r1 k S1 H1 e1 R1 hs1 ⟨_, _, h1⟩ => by
    cases k with
    | true => rw [if_pos rfl] at h1 ⊢; exact ⟨r1, t, S1, hs1, R1, h1⟩
    | false => rw [if_neg (by simp)] at h1 ⊢; exact ⟨r1, t, S1, hs1, R1, h1⟩
/-! ### argument lists, displays -/
theorem a_nil : AOk X W [] mNil := PA_imp pa_nil fun s H Q ⟨r, t, S, hs, R, h⟩ => h r H .refl R [] .nil
theorem a_cons {e : Expr} {es : List Expr} {ma : SE} {mb : SA} (ha : EOk X W e ma) (hb : AOk X W es mb) (hst : starEach (e :: es) X.env = (false, eval e X.env) :: starEach es X.env) : AOk X W (e :: es) (mCons ma mb) :=
  PA_imp (pa_cons ha hb hst) fun s H Q ⟨r, t, S, hs, R, h⟩ => rd_E hs R (Aft.bind h) fun r1 u S1 H1 x e1 R1 hs1 hu ⟨_, _, h1⟩ =>
    rd_A hs1 R1 (Aft.bind h1) fun r2 us S2 H2 xs e2 R2 hs2 hus ⟨_, _, h2⟩ => h2 r2 H2 .refl R2 _ (.cons (hu.mono R1 e2) hus)
theorem e_tup {es : List Expr} {ma : SA} {k : Nat} {pos : Pos} (ha : AOk X W es ma) : EOk X W (.Tuple es k pos) (mTup ma) :=
  PE_imp (pe_tup ha) fun s H Q ⟨r, t, S, hs, R, h⟩ => rd_A hs R (Aft.bind h) fun r1 us S1 H1 xs e1 R1 hs1 hus ⟨_, _, h1⟩ => by
    split at h1
    · rename_i hl
      exact ⟨by rw [sl16, ← hus.length]; exact hl, fun p hp => Gives.newT R1 (aft_ofO (x := some (.tup us, S1)) h1) hp hus⟩
    · exact h1.elim
theorem e_lst {es : List Expr} {ma : SA} {pos : Pos} (ha : AOk X W es ma) : EOk X W (.List es pos) (mLst ma) :=
  PE_imp (pe_lst ha) fun s H Q ⟨r, t, S, hs, R, h⟩ => rd_A hs R (Aft.bind h) fun r1 us S1 H1 xs e1 R1 hs1 hus ⟨_, _, h1⟩ => by
    split at h1
    · rename_i hl
      exact ⟨by rw [sl16, ← hus.length]; exact hl, fun p hp => Gives.newL R1 (aft_ofO (x := some (.ref S1.length, S1 ++ [.lst us])) h1) hp hus⟩
    · exact h1.elim
theorem e_dict0 {pos : Pos} : EOk X W (.Dict [] [] pos) mDisp0 :=
  PE_imp pe_dnewK fun s H Q ⟨r, t, S, hs, R, h⟩ => fun p hp => by
    obtain ⟨x, R', e⟩ := R.alloc (u := .dK []) (o := .dct []) hp fun x => ⟨[], upd_same, .nil⟩
    exact h _ _ x R' _ (.ref e)
/-! ### slices -/
def tIO (X : Cx) (W : WX) (m : SO') : TO := fun s H Q => ∃ r t S, St1 X.K X.mg r X.N.length t s H ∧ Rel X.K X.mg r S H ∧
  Aft X.K X.mg (fun c d H' => W c d s H') (m t S) r H (fun _ b _ H' => Q b H')
abbrev POk (X : Cx) (W : WX) (e : Option Expr) (m : SO') : Prop := PO X e (tIO X W m)
theorem PO_imp {e : Option Expr} {t u : TO} (h : PO X e t) (k : ∀ s H Q, u s H Q → t s H Q) : PO X e u :=
  ⟨fun pins s σ H Q I q => h.run pins s σ H Q I (k σ H Q q)⟩
theorem p_none : POk X W none pNone := PO_imp po_none fun s H Q ⟨r, t, S, hs, R, h⟩ => h r H .refl R
theorem p_some {e : Expr} {m : SE} (he : EOk X W e m) : POk X W (some e) (pSome m) := PO_imp (po_some he) fun s H Q ⟨r, t, S, hs, R, h⟩ =>
  rd_E hs R (Aft.bind h) fun r1 u S1 H1 x e1 R1 hs1 hu ⟨_, _, h1⟩ => by
    split at h1
    · cases hu; exact ⟨_, rfl, h1 r1 H1 .refl R1⟩
    · exact h1.elim
theorem rd_O {m : SO'} {s : VSt} {H : Hp} {Q : Option Int → Hp → Prop} {r : List Addr} {t : Slo} {S : Sto} (hs : St1 X.K X.mg r X.N.length t s H) (R : Rel X.K X.mg r S H) {P : List Addr → Option Int → Sto → Hp → Prop}
    (h : Aft X.K X.mg (fun c d H' => W c d s H') (m t S) r H P)
    (k : ∀ r' v S' H', Ex r H r' H' → Rel X.K X.mg r' S' H' → St1 X.K X.mg r' X.N.length t s H' → P r' v S' H' → Q v H') : tIO X W m s H Q :=
  ⟨r, t, S, hs, R, Aft.mono h .refl fun r2 a S2 H2 e R2 p => k r2 a S2 H2 e R2 (hs.mono R e) p⟩
theorem e_sl {a : Expr} {lo hi : Option Expr} {ma : SE} {ml mh : SO'} {p2 pos : Pos} (ha : EOk X W a ma) (hl : POk X W lo ml) (hh : POk X W hi mh) : EOk X W (.Subscript a (.Slice lo hi none p2) pos) (mSl ma ml mh) :=
  PE_imp (pe_slice o_sl ha hl hh) fun s H Q ⟨r, t, S, hs, R, h⟩ => rd_E hs R (Aft.bind h) fun r1 u S1 H1 x e1 R1 hs1 hu ⟨_, _, h1⟩ =>
    rd_O hs1 R1 (Aft.bind h1) fun r2 l S2 H2 e2 R2 hs2 ⟨_, _, h2⟩ => rd_O hs2 R2 (Aft.bind h2) fun r3 k S3 H3 e3 R3 hs3 ⟨_, _, h3⟩ =>
      ⟨r3, S3, u, R3, (hu.mono R1 e2).mono R2 e3, aft_ofO h3⟩
/-! ### calls -/
theorem e_bi {x : Str} {id : String} {f : OL} {e : Expr} {es : List Expr} {ma : SA} {p pos : Pos} (hc : CallOk X (.builtin id) f) (hg : Gl X x) (hm : X.mg x = none) (hv : bootBuiltins x = some (.builtin id)) (ha : AOk X W (e :: es) ma)
    (hn : x ≠ "__name__") (hdb : (x == ("__debug__" : Str)) = false) (he : starEach (e :: es) X.env = (false, eval e X.env) :: starEach es X.env) (hpl : (backTo pos (starEach es X.env)).any (·.1) = false) :
    EOk X W (.Call (.Name x p) (e :: es) [] pos) (mFn f ma) :=
  PE_imp (pe_callB hc hg hm hv ha hn hdb he hpl) fun s H Q ⟨r, t, S, hs, R, h⟩ => rd_A hs R (Aft.bind h) fun r1 us S1 H1 xs e1 R1 hs1 hus ⟨_, _, h1⟩ => ⟨r1, S1, us, R1, hus, aft_ofO h1⟩
theorem e_bt {x : Str} {T : String} {f : OL} {e : Expr} {es : List Expr} {ma : SA} {p pos : Pos} (hc : CallOk X (.type T) f) (hg : Gl X x) (hm : X.mg x = none) (hv : bootBuiltins x = some (.type T)) (ha : AOk X W (e :: es) ma)
    (hn : x ≠ "__name__") (hdb : (x == ("__debug__" : Str)) = false) (he : starEach (e :: es) X.env = (false, eval e X.env) :: starEach es X.env) (hpl : (backTo pos (starEach es X.env)).any (·.1) = false) :
    EOk X W (.Call (.Name x p) (e :: es) [] pos) (mFn f ma) :=
  PE_imp (pe_callTy hc hg hm hv ha hn hdb he hpl) fun s H Q ⟨r, t, S, hs, R, h⟩ => rd_A hs R (Aft.bind h) fun r1 us S1 H1 xs e1 R1 hs1 hus ⟨_, _, h1⟩ => ⟨r1, S1, us, R1, hus, aft_ofO h1⟩
theorem e_mt {o e : Expr} {es : List Expr} {mo : SE} {ma : SA} {name : Str} {apos cpos : Pos} {T id : String} {f : OM} (pa : PlainAttrs T) (slot : Slot T name id) (hty : typeOf (.builtin id) = pure (.type "method_descriptor")) (hm : MtOk X id f)
    (ho : EOk X W o mo) (ha : AOk X W (e :: es) ma)
    (hbase : attributeBase o name X.env (eval o X.env) = eval o X.env)
    (hfew : ((backTo cpos (starEach (e :: es) X.env)).all (fun x => !x.1) && (backToKw cpos (keywordEach [] X.env)).all (fun x => x.1.isSome)
      && decide ((e :: es).length + ([] : List Keyword).length + (if ([] : List Keyword).isEmpty then 0 else 1) < 30)) = true)
    (hline : (apos.endLine == cpos.line) = true) (hs : starEach (e :: es) X.env = (false, eval e X.env) :: starEach es X.env) (hplain : (backTo cpos (starEach es X.env)).any (·.1) = false) :
    EOk X W (.Call (.Attribute o name apos) (e :: es) [] cpos) (mMt T f mo ma) :=
  PE_imp (pe_bm pa slot hty hm ho ha hbase hfew hline hs hplain) fun s H Q ⟨r, t, S, hs, R, h⟩ => rd_E hs R (Aft.bind h) fun r1 u S1 H1 x e1 R1 hs1 hu ⟨_, _, h1⟩ => by
    split at h1
    · rename_i hT
      exact ⟨isTy_ok R1 hu hT, rd_A hs1 R1 (Aft.bind h1) fun r2 us S2 H2 xs e2 R2 hs2 hus ⟨_, _, h2⟩ => ⟨r2, S2, u, us, R2, hu.mono R1 e2, hus, aft_ofO h2⟩⟩
    · exact h1.elim
theorem e_mt0 {o : Expr} {mo : SE} {name : Str} {apos cpos : Pos} {T id : String} {f : OM} (pa : PlainAttrs T) (slot : Slot T name id) (hty : typeOf (.builtin id) = pure (.type "method_descriptor")) (hm : MtOk X id f)
    (ho : EOk X W o mo) (hbase : attributeBase o name X.env (eval o X.env) = eval o X.env) (hline : (apos.endLine == cpos.line) = true) :
    EOk X W (.Call (.Attribute o name apos) [] [] cpos) (mMt T f mo mNil) :=
  PE_imp (pe_bm0 pa slot hty hm ho hbase hline) fun s H Q ⟨r, t, S, hs, R, h⟩ => rd_E hs R (Aft.bind h) fun r1 u S1 H1 x e1 R1 hs1 hu ⟨_, _, h1⟩ => by
    split at h1
    · rename_i hT
      exact ⟨isTy_ok R1 hu hT, r1, S1, u, [], R1, hu, .nil, aft_ofO h1⟩
    · exact h1.elim
/-- a def's promise: it hands back what its evaluator tells -/
def spI (K : PySem.W.Frag) (mg : Str → Option Value) (F : FN) (n : Nat) : Sp := fun vs H Q E => vs.length = n ∧ ∃ r S us, Rel K mg r S H ∧ VRs K mg r H us vs ∧ Aft K mg E (F us S) r H (fun r' v _ H' => ∀ w, VR K mg r' H' v w → Q w H')
/-- the def that stands under a name of the module -/
structure DefOk (P : Program) (w : World) (K : PySem.W.Frag) (mg : Str → Option Value) (base : Heap) (x : Str) (F : FN) (n k : Nat) : Prop where
  ex : ∃ f fd ps, mg x = some (.ref f) ∧ PySem.W.keepIn K (.ref f) = true ∧ Binds K fd ps [] ∧ ps.length = n ∧ FnOk P w K mg base (L2N.CX P w) k f fd ps (spI K mg F n)
theorem e_call {x : Str} {F : FN} {n k : Nat} {e : Expr} {es : List Expr} {ma : SA} {p pos : Pos} (D : DefOk X.prog X.w X.K X.mg X.base x F n k) (tk : L2N.Takes X W) (hr : Room k X.A) (hg : Gl X x) (hn : (e :: es).length = n) (ha : AOk X W (e :: es) ma)
    (hdb : (x == ("__debug__" : Str)) = false) (he : starEach (e :: es) X.env = (false, eval e X.env) :: starEach es X.env) (hpl : (backTo pos (starEach es X.env)).any (·.1) = false)
    (hl : ∀ t S xs S', ma t S = .ok xs S' → xs.length = n) :
    EOk X W (.Call (.Name x p) (e :: es) [] pos) (mCall F ma) := by
  obtain ⟨f, fd, ps, hm, hk, hb, hps, G⟩ := D.ex
  refine PE_imp (pe_callS G hr hg hm hk hb (fun σ => L2N.passAt tk σ) ha hdb he hpl) fun s H Q ⟨r, t, S, hs, R, h⟩ => ?_
  refine ⟨r, t, S, hs, R, ?_⟩
  have h' := Aft.bind h
  unfold mCall at h
  cases em : ma t S with
  | no => rw [em] at h'; exact h'
  | ex c fs S' => rw [em] at h'; exact h'
  | ok xs S' =>
    rw [em] at h'
    have hlen := hl t S xs S' em
    intro r1 H1 e1 R1 ws hws
    obtain ⟨_, _, h1⟩ := h' r1 H1 e1 R1
    exact ⟨by rw [← hws.length, hlen], r1, S', xs, R1, hws, h1⟩
theorem e_call0 {x : Str} {F : FN} {k : Nat} {p pos : Pos} (D : DefOk X.prog X.w X.K X.mg X.base x F 0 k) (tk : L2N.Takes X W) (hr : Room k X.A) (hg : Gl X x)
    (hdb : (x == ("__debug__" : Str)) = false) : EOk X W (.Call (.Name x p) [] [] pos) (mCall F mNil) := by
  obtain ⟨f, fd, ps, hm, hk, hb, hps, G⟩ := D.ex
  refine ⟨fun pins s σ H Q I h => ?_⟩
  refine wpAny_Call_Name_kw (ld_glob I hg hm ?_ hdb)
  obtain ⟨r, t, S, hs, R, h⟩ := h
  exact PySem.W.callWith_K0 I.kIn hk (run_fnS (us := []) G hr hb (L2N.passAt tk σ) I .nil ⟨rfl, r, S, [], R, .nil, h⟩)
end
end IP

/-! IPyF: statements, targets, loops, comprehensions. -/
namespace IP
open PySem PySem.Spec PyProof.Rows L2

/-! ### statements -/
def sNil : SS := fun t S => .nx t S
def sSeq (a b : SS) : SS := fun t S => match a t S with
  | .nx t1 S1 => b t1 S1
  | x => x
def sExpr (a : SE) : SS := fun t S => match a t S with
  | .ok _ S1 => .nx t S1
  | .ex c fs S1 => .ex c fs t S1
  | .no => .no
def sRet (a : SE) : SS := fun t S => match a t S with
  | .ok v S1 => .ret v S1
  | .ex c fs S1 => .ex c fs t S1
  | .no => .no
def sRetN : SS := fun _ S => .ret .non S
def sBrk : SS := fun t S => .brk t S
def sCnt : SS := fun t S => .cnt t S
def sIf (c : SB) (a b : SS) : SS := fun t S => match c t S with
  | .ok k S1 => if k then a t S1 else b t S1
  | .ex c fs S1 => .ex c fs t S1
  | .no => .no
/-- targets of names -/
inductive Tg where
  | nm (i : Nat)
  | tu (ts : List Tg)
mutual
def tgSet (S : Sto) : Tg → IV → Slo → Option Slo
  | .nm i, v, t => some (t.set i (some v))
  | .tu ts, v, t => match v with
    | .tup xs => tgSets S ts xs t
    | v => match seqI v S with
      | some xs => tgSets S ts xs t
      | none => none
def tgSets (S : Sto) : List Tg → List IV → Slo → Option Slo
  | [], [], t => some t
  | g :: gs, x :: xs, t => match tgSet S g x t with
    | some t1 => tgSets S gs xs t1
    | none => none
  | _, _, _ => none
end
mutual
def tgOf (K : PySem.W.Frag) : Tg → TG
  | .nm i => gName i
  | .tu ts => fun v σ H Q => gTup K ts.length (tgsOf K ts) v σ H Q ∨ gUnl K ts.length (tgsOf K ts) v σ H Q
def tgsOf (K : PySem.W.Frag) : List Tg → TGs
  | [] => gNil
  | g :: gs => gCons (tgOf K g) (tgsOf K gs)
end
mutual
def tgIn (own : List Nat) : Tg → Bool
  | .nm i => own.contains i
  | .tu ts => tgsIn own ts
def tgsIn (own : List Nat) : List Tg → Bool
  | [] => true
  | g :: gs => tgIn own g && tgsIn own gs
end
def sAsg (g : Tg) (a : SE) : SS := fun t S => match a t S with
  | .ok v S1 => match tgSet S1 g v t with
    | some t1 => .nx t1 S1
    | none => .no
  | .ex c fs S1 => .ex c fs t S1
  | .no => .no
def sAug (f : O2) (i : Nat) (a : SE) : SS := fun t S => match t[i]? with
  | some (some x) => match a t S with
    | .ok y S1 => match f x y S1 with
      | some (z, S2) => .nx (t.set i (some z)) S2
      | none => .no
    | .ex c fs S1 => .ex c fs t S1
    | .no => .no
  | _ => .no
/-- o[i] = v -/
def putO (o i v : IV) (S : Sto) : Option Sto := match lstI o S with
  | some (j, xs) => match i with
    | .int k => (ixN xs.length k).map fun n => S.set j (.lst (xs.set n v))
    | _ => none
  | none => match dctI o S with
    | some (j, kvs) => (keyI i).bind fun key => if kvs.length < 16777216 then some (S.set j (.dct (putI kvs key v))) else none
    | none => none
def sPut (o i a : SE) : SS := fun t S => match (a t S).bind (fun v S1 => (o t S1).bind fun x S2 => (i t S2).bind fun y S3 => match putO x y v S3 with
    | some S4 => .ok () S4
    | none => .no) with
  | .ok _ S1 => .nx t S1
  | .ex c fs S1 => .ex c fs t S1
  | .no => .no

section
variable {X : Cx} {W : WX}
theorem AftS.mono {x : RS} {r r' : List Addr} {H H' : Hp} {D D' : Ends} (h : AftS X W x r H D) (e : Ex r H r' H') (k1 : ∀ s H, D.nx s H → D'.nx s H) (k2 : ∀ v H, D.rt v H → D'.rt v H) (k3 : ∀ s H, D.bk s H → D'.bk s H) (k4 : ∀ s H, D.ct s H → D'.ct s H) :
    AftS X W x r' H' D' := by
  cases x with
  | nx t S => exact fun r2 H2 s2 e2 R2 hs => k1 _ _ (h r2 H2 s2 (e.trans e2) R2 hs)
  | ret v S => exact fun r2 H2 w e2 R2 hs => k2 _ _ (h r2 H2 w (e.trans e2) R2 hs)
  | brk t S => exact fun r2 H2 s2 e2 R2 hs => k3 _ _ (h r2 H2 s2 (e.trans e2) R2 hs)
  | cnt t S => exact fun r2 H2 s2 e2 R2 hs => k4 _ _ (h r2 H2 s2 (e.trans e2) R2 hs)
  | ex c fs t S => exact fun r2 H2 s2 cls d e2 R2 hs => h r2 H2 s2 cls d (e.trans e2) R2 hs
  | no => exact h
theorem AftS.ext {x : RS} {r r' : List Addr} {H H' : Hp} {D : Ends} (h : AftS X W x r H D) (e : Ex r H r' H') : AftS X W x r' H' D := AftS.mono h e (fun _ _ z => z) (fun _ _ z => z) (fun _ _ z => z) fun _ _ z => z
/-- an expression ahead of the rest of a statement -/
theorem rd_SE {m : SE} {s : VSt} {H : Hp} {Q : VK} {r : List Addr} {t : Slo} {S : Sto} (hs : St1 X.K X.mg r X.N.length t s H) (R : Rel X.K X.mg r S H) {k : IV → Sto → RS} {D : Ends}
    (h : AftS X W (match m t S with | .ok v S1 => k v S1 | .ex c fs S1 => .ex c fs t S1 | .no => .no) r H D)
    (kk : ∀ r' v S' H' w, Ex r H r' H' → Rel X.K X.mg r' S' H' → St1 X.K X.mg r' X.N.length t s H' → VR X.K X.mg r' H' v w → AftS X W (k v S') r' H' D → Q w H') : tI X W m s H Q := by
  refine ⟨r, t, S, hs, R, ?_⟩
  cases em : m t S with
  | no => rw [em] at h; exact h
  | ex c fs S1 => rw [em] at h; exact fun r' H' cls d e R' z => h r' H' s cls d e R' (hs.mono R e) z
  | ok v S1 => rw [em] at h; exact fun r' H' e R' w hw => kk r' v S1 H' w e R' (hs.mono R e) hw (h.ext e)
theorem rd_SB {m : SB} {s : VSt} {H : Hp} {Q : Bool → Hp → Prop} {r : List Addr} {t : Slo} {S : Sto} (hs : St1 X.K X.mg r X.N.length t s H) (R : Rel X.K X.mg r S H) {k : Bool → Sto → RS} {D : Ends}
    (h : AftS X W (match m t S with | .ok v S1 => k v S1 | .ex c fs S1 => .ex c fs t S1 | .no => .no) r H D)
    (kk : ∀ r' v S' H', Ex r H r' H' → Rel X.K X.mg r' S' H' → St1 X.K X.mg r' X.N.length t s H' → AftS X W (k v S') r' H' D → Q v H') : tIB X W m s H Q := by
  refine ⟨r, t, S, hs, R, ?_⟩
  cases em : m t S with
  | no => rw [em] at h; exact h
  | ex c fs S1 => rw [em] at h; exact fun r' H' cls d e R' z => h r' H' s cls d e R' (hs.mono R e) z
  | ok v S1 => rw [em] at h; exact fun r' H' e R' => kk r' v S1 H' e R' (hs.mono R e) (h.ext e)

theorem s_nil : SsOk X W [] sNil := PSs_imp pss_nil fun D s H ⟨r, t, S, hs, R, h⟩ => h r H s .refl R hs
theorem s_cons {st : Stmt} {sts : List Stmt} {a b : SS} (h1 : SOk X W st a) (h2 : SsOk X W sts b) : SsOk X W (st :: sts) (sSeq a b) :=
  PSs_imp (pss_cons h1 h2) fun D s H ⟨r, t, S, hs, R, h⟩ => by
    refine ⟨r, t, S, hs, R, ?_⟩
    unfold sSeq at h
    cases ea : a t S with
    | nx t1 S1 => rw [ea] at h; exact fun r' H' s' e R' hs' => ⟨r', t1, S1, hs', R', AftS.ext h e⟩
    | ret v S1 => rw [ea] at h; exact h
    | brk t1 S1 => rw [ea] at h; exact h
    | cnt t1 S1 => rw [ea] at h; exact h
    | ex c fs t1 S1 => rw [ea] at h; exact h
    | no => rw [ea] at h; exact h
theorem s_one {st : Stmt} {a : SS} (h1 : SOk X W st a) : SsOk X W [st] a := pss_one h1
theorem s_pass {pos : Pos} : SOk X W (.Pass pos) sNil := PS_imp ps_pass fun D s H ⟨r, t, S, hs, R, h⟩ => h r H s .refl R hs
theorem s_brk {pos : Pos} : SOk X W (.Break pos) sBrk := PS_imp ps_break fun D s H ⟨r, t, S, hs, R, h⟩ => h r H s .refl R hs
theorem s_cnt {pos : Pos} : SOk X W (.Continue pos) sCnt := PS_imp ps_continue fun D s H ⟨r, t, S, hs, R, h⟩ => h r H s .refl R hs
theorem s_doc {x : Str} {j : Nat} {pos pos' : Pos} : SOk X W (.Expr (.Constant (.str x) j pos) pos') sNil := PS_imp ps_doc fun D s H ⟨r, t, S, hs, R, h⟩ => h r H s .refl R hs
theorem s_expr {e : Expr} {m : SE} {pos : Pos} (he : EOk X W e m) (hsw : swapsWith e none pos.line X.env = pure false) : SOk X W (.Expr e pos) (sExpr m) :=
  PS_imp (ps_expr he hsw) fun D s H ⟨r, t, S, hs, R, h⟩ => rd_SE (D := D) hs R h fun r' v S' H' w e R' hs' hv h' => h' r' H' s .refl R' hs'
theorem s_ret {e : Expr} {m : SE} {pos : Pos} (he : EOk X W e m) : SOk X W (.Return (some e) pos) (sRet m) :=
  PS_imp (ps_ret he) fun D s H ⟨r, t, S, hs, R, h⟩ => rd_SE (D := D) hs R h fun r' v S' H' w e R' hs' hv h' => h' r' H' w .refl R' hv
theorem s_retN {pos : Pos} : SOk X W (.Return none pos) sRetN := PS_imp ps_retN fun D s H ⟨r, t, S, hs, R, h⟩ => h r H .non .refl R .non
theorem s_if {c : Expr} {a b : List Stmt} {mc : SB} {ma mb : SS} {pos : Pos} (hc : BOk X W c mc) (ha : SsOk X W a ma) (hb : SsOk X W b mb) : SOk X W (.If c a b pos) (sIf mc ma mb) :=
  PS_imp (ps_if hc ha hb) fun D s H ⟨r, t, S, hs, R, h⟩ => rd_SB (D := D) hs R h fun r' v S' H' e R' hs' h' => by
    cases v with
    | true => rw [if_pos rfl] at h' ⊢; exact ⟨r', t, S', hs', R', h'⟩
    | false => rw [if_neg (by simp)] at h' ⊢; exact ⟨r', t, S', hs', R', h'⟩

/-! ### targets -/
mutual
theorem tg_run {r : List Addr} {H : Hp} {S : Sto} (R : Rel X.K X.mg r S H) : ∀ (g : Tg) {v : IV} {w : V} {t t' : Slo} {s : VSt} {own : List Nat} {Q : VSt → Hp → Prop}, VR X.K X.mg r H v w → St1 X.K X.mg r X.N.length t s H → tgSet S g v t = some t' →
    (∀ s', St1 X.K X.mg r X.N.length t' s' H → (tgIn own g = true → L2.wipe s' own = L2.wipe s own) → Q s' H) → tgOf X.K g w s H Q
  | .nm i, v, w, t, t', s, own, Q, hv, hs, e, q => by
    simp only [tgSet] at e
    cases e
    refine q _ (hs.set i hv) fun hi => ?_
    simp only [tgIn] at hi
    exact wipe_set (by simpa using hi)
  | .tu ts, v, w, t, t', s, own, Q, hv, hs, e, q => by
    simp only [tgSet] at e
    simp only [tgOf]
    split at e
    · cases hv with | tup q1 q2 => exact .inl ⟨_, _, rfl, q1.t, by rw [← q2.length]; exact tgs_len ts e, tgs_run R ts q2 hs e q⟩
    · split at e
      · rename_i xs hx
        obtain ⟨a, vs, rfl, s1, s2⟩ := R.items hx hv
        exact .inr ⟨_, _, rfl, s1, by rw [← s2.length]; exact tgs_len ts e, tgs_run R ts s2 hs e q⟩
      · cases e
theorem tgs_run {r : List Addr} {H : Hp} {S : Sto} (R : Rel X.K X.mg r S H) : ∀ (gs : List Tg) {vs : List IV} {ws : List V} {t t' : Slo} {s : VSt} {own : List Nat} {Q : VSt → Hp → Prop}, VRs X.K X.mg r H vs ws → St1 X.K X.mg r X.N.length t s H → tgSets S gs vs t = some t' →
    (∀ s', St1 X.K X.mg r X.N.length t' s' H → (tgsIn own gs = true → L2.wipe s' own = L2.wipe s own) → Q s' H) → tgsOf X.K gs ws s H Q
  | [], _, _, t, t', s, own, Q, .nil, hs, e, q => by
    simp only [tgSets] at e
    cases e
    exact ⟨rfl, q s hs fun _ => rfl⟩
  | [], _, _, t, t', s, own, Q, .cons _ _, hs, e, q => by simp only [tgSets] at e; cases e
  | g :: gs, _, _, t, t', s, own, Q, .nil, hs, e, q => by simp only [tgSets] at e; cases e
  | g :: gs, _, _, t, t', s, own, Q, .cons (x := x) (v := v) (xs := xs) (vs := vs) h1 h2, hs, e, q => by
    simp only [tgSets] at e
    split at e
    · rename_i t1 e1
      refine ⟨v, vs, rfl, tg_run R g (own := own) h1 hs e1 fun s1 hs1 hw1 => tgs_run R gs (own := own) h2 hs1 e fun s2 hs2 hw2 => q s2 hs2 fun hi => ?_⟩
      simp only [tgsIn, Bool.and_eq_true] at hi
      rw [hw2 hi.2, hw1 hi.1]
    · cases e
theorem tgs_len {S : Sto} : ∀ (gs : List Tg) {vs : List IV} {t t' : Slo}, tgSets S gs vs t = some t' → vs.length = gs.length
  | [], [], _, _, _ => rfl
  | [], _ :: _, _, _, e => by simp only [tgSets] at e; cases e
  | _ :: _, [], _, _, e => by simp only [tgSets] at e; cases e
  | g :: gs, x :: xs, t, t', e => by
    simp only [tgSets] at e
    split at e
    · rw [List.length_cons, List.length_cons, tgs_len gs e]
    · cases e
theorem wipe_set {s : VSt} {i : Nat} {w : V} : ∀ {own : List Nat}, i ∈ own → L2.wipe (s.set i (some w)) own = L2.wipe s own
  | j :: own, h => by
    simp only [L2.wipe]
    by_cases hj : i ∈ own
    · rw [wipe_set hj]
    · have : i = j := by simpa [hj] using h
      subst this
      exact wipe_set_ne own
theorem wipe_set_ne {s : VSt} {i : Nat} {w : V} : ∀ (own : List Nat), (L2.wipe (s.set i (some w)) own).set i none = (L2.wipe s own).set i none
  | [] => by simp only [L2.wipe, List.set_set]
  | j :: own => by
    simp only [L2.wipe]
    by_cases e : j = i
    · subst e; rw [List.set_set, List.set_set]; exact wipe_set_ne own
    · rw [List.set_comm _ _ e, wipe_set_ne own, List.set_comm _ _ e]
end
abbrev TgOk (X : Cx) (e : Expr) (g : Tg) : Prop := PG X e (tgOf X.K g)
theorem pg_or {e : Expr} {g g' : TG} (h : PG X e g) (h' : PG X e g') : PG X e (fun v σ H Q => g v σ H Q ∨ g' v σ H Q) :=
  ⟨fun pins s σ H v u Q I rv z => z.elim (h.run pins s σ H v u Q I rv) (h'.run pins s σ H v u Q I rv)⟩
theorem s_asg {tg : Expr} {g : Tg} {e : Expr} {m : SE} {pos : Pos} (hg : TgOk X tg g) (he : EOk X W e m) (hsw : swapsWithSole [tg] e pos.line X.env = pure false) (hw : swappedStores [tg] e X.env = pure none) (h1 : (assignEach [tg] X.env).map (·.2) = [assign tg X.env]) : SOk X W (.Assign [tg] e pos) (sAsg g m) :=
  PS_imp (ps_asg he hg hsw hw h1) fun D s H ⟨r, t, S, hs, R, h⟩ => rd_SE (D := D) hs R h fun r' v S' H' w e R' hs' hv h' => by
    split at h'
    · rename_i t1 et
      exact tg_run R' g (own := []) hv hs' et fun s1 hs1 _ => h' r' H' s1 .refl R' hs1
    · exact h'.elim
theorem tg_nm {i : Nat} {x : Str} {pos : Pos} (hN : X.N.Nodup) (hi : X.N[i]? = some x) (hx : Loc X.env.scope x) (hf : X.fn x = true ∨ X.env.scope.names.lookup x = some .local) : TgOk X (.Name x pos) (.nm i) := by
  unfold TgOk tgOf
  exact pg_name hN hi hx hf
abbrev TgsOk (X : Cx) (es : List Expr) (gs : List Tg) : Prop := PGs X es (tgsOf X.K gs)
theorem tgs_nil : TgsOk X [] [] := by unfold TgsOk tgsOf; exact pgs_nil
theorem tgs_cons {e : Expr} {es : List Expr} {g : Tg} {gs : List Tg} (h : TgOk X e g) (hs : TgsOk X es gs) (he : (assignEach (e :: es) X.env).map (·.2) = assign e X.env :: (assignEach es X.env).map (·.2)) : TgsOk X (e :: es) (g :: gs) := by
  unfold TgsOk tgsOf
  exact pgs_cons h hs he
theorem tg_tu {es : List Expr} {gs : List Tg} {k : Nat} {pos : Pos} (hc : X.calm = true) (h : TgsOk X es gs) (hn : (assignEach es X.env).length = gs.length) (hst : (assignEach es X.env).findIdx? (·.1) = none) : TgOk X (.Tuple es k pos) (.tu gs) := by
  unfold TgOk tgOf
  exact pg_or (pg_tup hc h hn hst) (pg_unl hc h hn hst)

/-! ### x op= e, o[i] = e -/
theorem s_aug {i : Nat} {x : Str} {op : Operator} {f : O2} {e : Expr} {m : SE} {pos pos' : Pos} (hN : X.N.Nodup) (hi : X.N[i]? = some x) (hx : Loc X.env.scope x) (hf : X.fn x = true ∨ X.env.scope.names.lookup x = some .local)
    (ho : OpR X (inplaceOp op) (rO2 X f)) (he : EOk X W e m) : SOk X W (.AugAssign (.Name x pos') op e pos) (sAug f i m) :=
  PS_imp (ps_aug (ti := rO2 X f) hN hi hx he ho hf) fun D s H ⟨r, t, S, hs, R, h⟩ => by
    unfold sAug at h
    split at h
    · rename_i u eu
      obtain ⟨w, e1, e2⟩ := hs.at_ i u eu
      refine ⟨w, e1, rd_SE (D := D) hs R h fun r' v S' H' y ex R' hs' hv h' => ?_⟩
      refine ⟨r', S', u, v, R', e2.mono R ex, hv, ?_⟩
      cases ef : f u v S' with
      | none => rw [ef] at h'; exact h'.elim
      | some p =>
        rw [ef] at h'
        exact ⟨p.1, p.2, rfl, fun r2 H2 z e3 R2 hz => h' r2 H2 _ e3 R2 ((hs'.mono R' e3).set i hz)⟩
    · exact h.elim
/-- a[i] = v by values: a list or a dict -/
def rPut (X : Cx) : TSet := fun o i v H Q => ∃ r S a b c S', Rel X.K X.mg r S H ∧ VR X.K X.mg r H a o ∧ VR X.K X.mg r H b i ∧ VR X.K X.mg r H c v ∧ putO a b c S = some S' ∧ ∀ H', Ex r H r H' → Rel X.K X.mg r S' H' → Q H'
theorem setR_by {q : TSet} (h : ∀ o i v H Q, q o i v H Q → ∃ p, PSet X p ∧ p o i v H Q) : PSet X q := fun pins s σ H o i v ov iv u Q I ro ri rv z => by
  obtain ⟨p, k, e⟩ := h o i v H Q z
  exact k pins s σ H o i v ov iv u Q I ro ri rv e
theorem set_dict1 (hu : X.A.units + 1 < cLine) : PSet X (fun o i v H Q => ∃ a H', o = .ref a ∧ DPut H a i v H' ∧ Q H') := fun pins s σ H o i v ov iv u Q I ro ri rv ⟨a, H', e, g, q⟩ => by
  subst e
  obtain rfl : ov = Value.ref a := ro
  exact d_setItem hu I g ri rv fun s' I' => ⟨H', I', q⟩
theorem o_put (hu : X.A.units + 1 < cLine) : PSet X (rPut X) := setR_by fun o i v H Q h => by
  obtain ⟨r, S, a, b, c, S', R, h1, h2, h3, e, q⟩ := h
  unfold putO at e
  split at e
  · rename_i j xs hk
    obtain ⟨a, vs, rfl, q1, s1, s2⟩ := lstI_ok R h1 hk
    split at e
    · rename_i k
      cases h2
      simp only [Option.map_eq_some_iff] at e
      obtain ⟨n, e1, e2⟩ := e
      subst e2
      refine ⟨_, set_list, _, vs, k, n, rfl, rfl, s1, by rw [← s2.length]; exact e1, ?_⟩
      obtain ⟨x, R'⟩ := R.write (u := .lst (vs.set n v)) (o := .lst (xs.set n c)) q1 fun x => ⟨_, upd_same, (s2.mono R x).set n (h3.mono R x)⟩
      exact q _ x R'
    · cases e
  · split at e
    · rename_i j kvs hk
      obtain ⟨a, ws, rfl, q1, s1, s2⟩ := R.dct hk h1
      simp only [Option.bind_eq_some_iff] at e
      obtain ⟨key, e1, e2⟩ := e
      split at e2
      · rename_i hl
        cases e2
        have ek := keyI_ok h2 e1
        refine ⟨_, set_dict1 hu, _, _, rfl, .inl ⟨ws, key, s1, ek, by rw [sl16, ← s2.length]; exact hl, rfl⟩, ?_⟩
        obtain ⟨x, R'⟩ := R.write (u := .dK (putK ws key v)) (o := .dct (putI kvs key c)) q1 fun x => ⟨_, upd_same, (s2.mono R x).put key (h3.mono R x)⟩
        exact q _ x R'
      · cases e2
    · cases e
theorem s_put {o i e : Expr} {mo mi m : SE} {pos pos' : Pos} (hu : X.A.units + 1 < cLine) (ho : EOk X W o mo) (hi : EOk X W i mi) (he : EOk X W e m)
    (hsw : swapsWithSole [.Subscript o i pos'] e pos.line X.env = pure false) (hw : swappedStores [.Subscript o i pos'] e X.env = pure none) (h1 : (assignEach [.Subscript o i pos'] X.env).map (·.2) = [assign (.Subscript o i pos') X.env])
    (ha : ∀ v, assign (.Subscript o i pos') X.env v = (do
      let ov ← holding [v] (eval o X.env)
      let iv ← holding [v, ov] (eval i X.env)
      standAt pos'
      holding [v, ov, iv] (setItem ov iv v)
      release [v, ov, iv] [])) : SOk X W (.Assign [.Subscript o i pos'] e pos) (sPut mo mi m) :=
  PS_imp (ps_asg he (pg_sub ho hi (o_put hu) ha) hsw hw h1) fun D s H ⟨r, t, S, hs, R, h⟩ => by
    have h : Aft X.K X.mg (fun c d H' => W c d s H') ((m t S).bind (fun v S1 => (mo t S1).bind fun x S2 => (mi t S2).bind fun y S3 => match putO x y v S3 with
      | some S4 => .ok () S4
      | none => .no)) r H (fun r' _ S' H' => Rel X.K X.mg r' S' H' → St1 X.K X.mg r' X.N.length t s H' → D.nx s H') := by
      unfold sPut at h
      revert h
      generalize ((m t S).bind _ : IP.R Unit) = z
      intro h
      cases z with
      | ok a S1 => exact fun r' H' e R' R2 hs2 => h r' H' s e R' hs2
      | ex c fs S1 => exact fun r' H' cls d e R' z => h r' H' s cls d e R' (hs.mono R e) z
      | no => exact h
    refine rd_E hs R (Aft.bind h) fun r1 u S1 H1 x e1 R1 hs1 hu1 ⟨_, _, h1⟩ => ?_
    refine rd_E hs1 R1 (Aft.bind h1) fun r2 v S2 H2 y e2 R2 hs2 hv2 ⟨_, _, h2⟩ => ?_
    refine rd_E hs2 R2 (Aft.bind h2) fun r3 k S3 H3 z e3 R3 hs3 hk3 ⟨_, _, h3⟩ => ?_
    split at h3
    · rename_i S4 ep
      exact ⟨r3, S3, v, k, u, S4, R3, hv2.mono R2 e3, hk3, (hu1.mono R1 e2).mono R2 e3, ep, fun H4 e4 R4 => h3 r3 H4 e4 R4 R4 (hs3.mono R3 e4)⟩
    · exact h3.elim
end
end IP

/-! IPyG: loops and comprehensions. -/
namespace IP
open PySem PySem.Spec PyProof.Rows L2

inductive ItS where
  | lst (v : IV)
  | tup (xs : List IV)
  | str (z : Str)
  | rng (lo c : Int) (n : Nat)
  | enum (v : IV)
  | zip (v w : IV)
  | rev (v : IV) (n : Nat)
  | enumS (z : Str)

def nextAt (it : ItS) (n : Nat) (S : Sto) : Option (Option IV) := match it with
  | .lst v => (seqI v S).map fun xs => xs[n]?
  | .tup xs => some xs[n]?
  | .str z => some (z.cps[n]?.map fun c => .str ⟨#[c]⟩)
  | .rng lo c k => some (if n < k then some (.int (lo + n * c)) else none)
  | .enum v => (seqI v S).map fun xs => xs[n]?.map fun x => .tup [.int n, x]
  | .zip v w => match seqI v S, seqI w S with
    | some xs, some ys => some (match xs[n]?, ys[n]? with
      | some x, some y => some (.tup [x, y])
      | _, _ => none)
    | _, _ => none
  | .rev v k => if n < k then (seqI v S).bind fun xs => xs[k - 1 - n]?.map some else some none
  | .enumS z => some (z.cps[n]?.map fun c => .tup [.int n, .str ⟨#[c]⟩])

abbrev SI := Slo → Sto → R ItS

def ItOk (K : PySem.W.Frag) (mg : Str → Option Value) (r0 : List Addr) (H0 : Hp) (it : ItS) (J : It) : Prop :=
  ∀ r S H, Ex r0 H0 r H → Rel K mg r S H → ∀ n, match nextAt it n S with
    | none => True
    | some none => J.stop n H
    | some (some v) => J.go n H ∧ ∀ x H', J.yld n H x H' → Ex r H r H' ∧ Rel K mg r S H' ∧ VR K mg r H' v x
theorem ItOk.mono {K : PySem.W.Frag} {mg : Str → Option Value} {r0 r1 : List Addr} {H0 H1 : Hp} {it : ItS} {J : It} (h : ItOk K mg r0 H0 it J) (e : Ex r0 H0 r1 H1) : ItOk K mg r1 H1 it J :=
  fun r S H e2 R n => h r S H (e.trans e2) R n

def tIt (X : Cx) (W : WX) (m : SI) : TI := fun s H Q => ∃ r t S, St1 X.K X.mg r X.N.length t s H ∧ Rel X.K X.mg r S H ∧
  Aft X.K X.mg (fun c d H' => W c d s H') (m t S) r H (fun r' it _ H' => ∀ J, ItOk X.K X.mg r' H' it J → Q J H')
abbrev IOk (X : Cx) (W : WX) (tg e : Expr) (m : SI) : Prop := PI X tg e (tIt X W m)
theorem PI_imp {X : Cx} {tg e : Expr} {t u : TI} (h : PI X tg e t) (k : ∀ s H Q, u s H Q → t s H Q) : PI X tg e u :=
  ⟨fun pins s σ H Q I q => h.run pins s σ H Q I (k σ H Q q)⟩

section
variable {X : Cx} {W : WX} {tg : Expr}
/-! ### what is walked -/
theorem pi_any {e : Expr} {te : TE} (he : PE X e te) : PI X tg e (fun s H Q => te s H fun x H1 => (∃ a, x = .ref a ∧ (∃ xs, SqL X.K H1 a xs) ∧ Q (Itl X.K a) H1) ∨ (∃ a, x = .ref a ∧ (∃ xs, SqT X.K H1 a xs) ∧ Q (Itt X.K a) H1) ∨ ∃ z, x = .str z ∧ Q (Its z) H1) := by
  refine ⟨fun pins s σ H Q I h => ?_⟩
  refine thn (he.run pins s σ H _ I h) fun v s1 ⟨x, H1, I1, r1, q1⟩ => ?_
  rcases q1 with ⟨a, e, ⟨xs, hq⟩, q⟩ | ⟨a, e, ⟨xs, hq⟩, q⟩ | ⟨z, e, q⟩
  · subst e
    cases r1
    obtain ⟨its, rv, p, hz⟩ := I1.list hq
    refine wpAny_pyIter_list p.isList ?_
    refine ⟨s1.heap.objs.size, [s1.heap.objs.size], _, _, H1, rfl, I1.kept (t' := s1.toks) fun b o e => Heap.get?_push_of_some _ e, turn_list a _, ⟨_, Heap.get?_push_size _ rfl, rfl, rfl⟩, fun b hb => ?_, q⟩
    have e : b = s1.heap.objs.size := by simpa using hb
    subst e
    exact I1.fpOk (Nat.le_refl _) (I1.hok.fresh (Nat.le_refl _))
  · subst e
    cases r1
    obtain ⟨its, rv, p, hz⟩ := I1.tuple hq
    refine wpAny_pyIter_tuple (show s1.heap.IsTuple a its.toArray from p) ?_
    refine ⟨s1.heap.objs.size, [s1.heap.objs.size], _, _, H1, rfl, I1.kept (t' := s1.toks) fun b o e => Heap.get?_push_of_some _ e, turn_tuple a _, ⟨_, Heap.get?_push_size _ rfl, rfl, rfl⟩, fun b hb => ?_, q⟩
    have e : b = s1.heap.objs.size := by simpa using hb
    subst e
    exact I1.fpOk (Nat.le_refl _) (I1.hok.fresh (Nat.le_refl _))
  · subst e
    obtain ⟨t, rfl⟩ := r1
    cases ha : z.cps.all (· < 128)
    · exact wpAny_pyIter_wide ha (pi_one (tk := s1.toks) I1 _ (turn_str _ z t "str_iterator" (.inr rfl)) ⟨_, Heap.get?_push_size _ rfl, rfl, rfl⟩ q)
    · exact wpAny_pyIter_ascii ha (pi_one (tk := s1.toks) I1 _ (turn_str _ z t "str_ascii_iterator" (.inl rfl)) ⟨_, Heap.get?_push_size _ rfl, rfl, rfl⟩ q)

theorem textDraws {prog : Program} {w : World} {A : Around} (hh : A.handled = none) (it : Addr) (x : Str) (t : Tok) : Draws prog w A it [it] x.cps.size (fun i v => ∃ c u, x.cps[i]? = some c ∧ v = .str ⟨#[c]⟩ u) (fun i h => h.IsStrIter it (strIterType x) x t i) := by
  unfold strIterType
  split
  · exact Draws.strAscii hh it x t
  · exact Draws.strWide hh it x t
/-- enumerate of a text -/
def IteS (x : Str) : It := ⟨fun i _ => i < x.cps.size, fun i H v H' => ∃ T c, v = .ref T ∧ H T = none ∧ H' = upd H T (.tup [.int (i : Nat), .str ⟨#[c]⟩]) ∧ x.cps[i]? = some c, fun i _ => x.cps.size ≤ i⟩
theorem turn_enumS {P : Program} {w : World} {K : PySem.W.Frag} {elts : List Expr} {kk : Nat} {tpos : Pos} (x : Str) (t : Tok) (e it : Addr) :
    Turn P w K (.Tuple elts kk tpos) (IteS x) [e, it] e (fun i h => (∃ old, IsEnum h e it ((i : Nat) : Int) old) ∧ h.IsStrIter it (strIterType x) x t i ∧ e ≠ it) where
  mem := by simp
  obj := fun i h st b hb => by
    obtain ⟨⟨old, he⟩, ⟨o, ho, hc, hd⟩, _⟩ := st
    have e' : b = e ∨ b = it := by simpa using hb
    rcases e' with z | z
    · rw [z]; exact ⟨_, he, fun v q => nomatch q⟩
    · rw [z]; exact ⟨o, ho, fun v q => by rw [hd] at q; cases q⟩
  keep := fun i h h' st k => let ⟨⟨old, he⟩, ⟨o, ho, r⟩, hne⟩ := st; ⟨⟨old, k e (by simp) _ he⟩, ⟨o, k it (by simp) o ho, r⟩, hne⟩
  item := by
    intro X hP hw hK hc i pins s σ H E I hf st hg
    subst hP hw hK
    obtain ⟨⟨old, he⟩, hit, hne⟩ := st
    have D := textDraws (prog := X.prog) (w := X.w) (A := X.A.in1) (I.ok.hd hc) it x t
    have hel : e < s.heap.objs.size := Heap.lt_size he
    have hil : it < s.heap.objs.size := by obtain ⟨_, q, _⟩ := hit; exact Heap.lt_size q
    refine wpAny_pyNext_enum_itemD D he hit hg hne (by simp [hne]) fun u h' tk hP ho hit' hT hsz hk => ?_
    obtain ⟨c, tc, hcx, rfl⟩ := hP
    refine ⟨_, rfl, wpAny_letOwnedTupleGo_enum (s := { s with heap := h', toks := tk + 1 }) ho fun h'' he' sb => ?_⟩
    have hT2 : h''.get? s.heap.objs.size = some { cls := .type "tuple", data := .seq #[.int i tk, .str ⟨#[c]⟩ tc] } := (sb.2 _ (Nat.ne_of_gt hel)).trans hT
    have new : ObjOk X.prog X.w (upd H s.heap.objs.size (.tup [.int (i : Nat), .str ⟨#[c]⟩])) h'' s.heap.objs.size (.tup [.int (i : Nat), .str ⟨#[c]⟩]) :=
      ⟨by show 2 ≤ sizeLine; decide, [.int i tk, .str ⟨#[c]⟩ tc], .cons ⟨_, rfl⟩ (.cons ⟨_, rfl⟩ .nil), ⟨_, hT2, rfl, _, rfl⟩⟩
    have I1 : Inv X pins σ (upd H s.heap.objs.size (.tup [.int (i : Nat), .str ⟨#[c]⟩])) { s with heap := h'', toks := tk + 1 } :=
      I.turnedNew (ch := [e, it]) (fun b ob hb q => (sb.2 b (fun z => hb (by simp [z]))).trans (hk b ob (fun z => hb (by simp [z])) (fun z => hb (by simp [z])) q)) hf (Nat.le_refl _) new
    refine ⟨.ref s.heap.objs.size, _, I1, rfl, ⟨_, c, rfl, I.hok.fresh (Nat.le_refl _), rfl, hcx⟩, ⟨⟨.str ⟨#[c]⟩ tc, ?_⟩, D.frame _ _ _ hit' fun b hb o q => (sb.2 b ?_).trans q, hne⟩, fun b hb => ?_⟩
    · have e1 : ((i + 1 : Nat) : Int) = (i : Int) + 1 := by omega
      rw [e1]; exact he'
    · have : b = it := by simpa using hb
      rw [this]; exact Ne.symm hne
    · have hb' : b < s.heap.objs.size := by
        have e' : b = e ∨ b = it := by simpa using hb
        rcases e' with z | z
        · rw [z]; exact hel
        · rw [z]; exact hil
      rw [upd_ne (Nat.ne_of_lt hb')]
      exact (hf b hb).1
  done := by
    intro X hP hw hK hc i pins s σ H E I hf st hg
    subst hP hw hK
    obtain ⟨⟨old, he⟩, hit, hne⟩ := st
    obtain ⟨f0, f1, f2, f3, f4, f5⟩ := hf it (by simp)
    have hx : x.cps[i]? = none := Array.getElem?_eq_none hg
    have hT : s.TypeIs (.ref e) "enumerate" := ⟨_, he, rfl⟩
    have fin : ∀ (s2 : Shared) (h' : Heap) (ex : Addr), s2 = { s with heap := h' } → Heap.ExtBut it s.heap h' → (∃ o, h'.get? ex = some o ∧ o.cls = .type "StopIteration") → True := fun _ _ _ _ _ _ => trivial
    unfold pyNext
    refine wpAny_bind (wpAny_attempt (wpAny_callSpecial?_slot (name := Str.ofString "__next__") hT F.slot_enumerate_next
      (wpAny_call_entry F.slot_enumerate_next hT F.entry_enumerate_next ?_ (F.args_enumerate_next_1 _))))
    show wpAny _ _ (field (.ref e) 2 >>= _) _ _ _
    refine wpAny_bind (wpAny_field he rfl (x := .ref it) rfl ?_)
    have k : ∀ (Q : Value → Shared → Prop) (E' : Value → Shared → Prop), (∀ h' e, Heap.ExtBut it s.heap h' → (∃ o, h'.get? e = some o ∧ o.cls = .type "StopIteration") → E' (.ref e) { s with heap := h' }) → wpAny (model X.prog X.w) X.A.in1 (Builtin.SmallTypes.nextOf (.ref it)) Q E' s := by
      intro Q E' hE
      cases ha : x.cps.all (· < 128)
      · have hit' : s.heap.IsStrIter it "str_iterator" x t i := by simpa [strIterType, ha] using hit
        exact wpAny_nextOf_wide_end (I.ok.hd hc) hit' hx hE
      · have hit' : s.heap.IsStrIter it "str_ascii_iterator" x t i := by simpa [strIterType, ha] using hit
        exact wpAny_nextOf_ascii_end (I.ok.hd hc) hit' hx hE
    refine wpAny_bind (k _ _ fun h' x' he' hx' => ?_)
    obtain ⟨o, ho, hcc⟩ := hx'
    refine wpAny_bind (wpAny_isInstance (T := "StopIteration") (b := true) ⟨o, ho, hcc⟩ isSubtype_stop ?_)
    exact wpAny_pure ⟨rfl, I.turned (t' := s.toks) (fun b o hb q => he' b o hb q) f0 f1 f3 f4 f5⟩
  self := fun A i s Q E st h => let ⟨⟨_, he⟩, _⟩ := st; wpAny_pyIter_enum he h
theorem pi_enumX {e : Expr} {ta : TA} {p pos tpos : Pos} {elts : List Expr} {kk : Nat} (hg : Gl X "enumerate") (hm : X.mg "enumerate" = none) (ha : PA X [e] ta) (hs : starEach [e] X.env = [(false, eval e X.env)]) :
    PI X (.Tuple elts kk tpos) (.Call (.Name "enumerate" p) [e] [] pos) (fun σ H R => ta σ H fun vs H1 => (∃ a xs, vs = [.ref a] ∧ SqL X.K H1 a xs ∧ R (Ite X.K a) H1) ∨ ∃ z, vs = [.str z] ∧ R (IteS z) H1) := by
  refine ⟨fun pins s σ H R I h => ?_⟩
  refine Call_ (ld_blt I hg hm boot_enumerate (PyProof.Rows.callWith_type1 (thn (ha.run pos pins s σ H _ I h) fun us s1 ⟨vs, H1, I1, r1, q1⟩ => ?_) hs rfl))
  rcases q1 with ⟨a, xs, ex, hq, q⟩ | ⟨z, ex, q⟩
  · subst ex
    cases r1 with
    | cons r rr =>
      cases rr
      cases r
      obtain ⟨its, rv, p', hz⟩ := I1.list hq
      refine call_enumerate_list p'.isList fun h' he hit hsz hk => wpAny_pyIter_enum he ?_
      have I2 : Inv X pins σ H1 { s1 with heap := h' } := I1.kept (t' := s1.toks) hk
      refine ⟨s1.heap.objs.size + 1, [s1.heap.objs.size + 1, s1.heap.objs.size], _, _, H1, rfl, I2, turn_enum a (s1.heap.objs.size + 1) s1.heap.objs.size, ⟨⟨.none, he⟩, hit, Nat.succ_ne_self _⟩, fun b hb => ?_, q⟩
      have hle : s1.heap.objs.size ≤ b := by
        have e' : b = s1.heap.objs.size + 1 ∨ b = s1.heap.objs.size := by simpa using hb
        rcases e' with y | y
        · rw [y]; exact Nat.le_succ _
        · rw [y]; exact Nat.le_refl _
      exact I1.fpOk hle (I1.hok.fresh hle)
  · subst ex
    cases r1 with
    | cons r rr =>
      cases rr
      obtain ⟨t, rfl⟩ := r
      refine call_enumerate_str fun h' he hit hsz hk => wpAny_pyIter_enum he ?_
      have I2 : Inv X pins σ H1 { s1 with heap := h' } := I1.kept (t' := s1.toks) hk
      refine ⟨s1.heap.objs.size + 1, [s1.heap.objs.size + 1, s1.heap.objs.size], _, _, H1, rfl, I2, turn_enumS z t (s1.heap.objs.size + 1) s1.heap.objs.size, ⟨⟨.none, he⟩, hit, Nat.succ_ne_self _⟩, fun b hb => ?_, q⟩
      have hle : s1.heap.objs.size ≤ b := by
        have e' : b = s1.heap.objs.size + 1 ∨ b = s1.heap.objs.size := by simpa using hb
        rcases e' with y | y
        · rw [y]; exact Nat.le_succ _
        · rw [y]; exact Nat.le_refl _
      exact I1.fpOk hle (I1.hok.fresh hle)
theorem it_lst {K : PySem.W.Frag} {mg : Str → Option Value} {r : List Addr} {H : Hp} {S0 : Sto} {i : IV} {a : Addr} (R0 : Rel K mg r S0 H) (ha : VR K mg r H i (.ref a)) : ItOk K mg r H (.lst i) (Itl K a) := fun r2 S H2 e R n => by
  simp only [nextAt]
  cases ei : seqI i S with
  | none => trivial
  | some xs =>
    obtain ⟨a', vs, ea, s1, s2⟩ := R.items ei (ha.mono R0 e); cases ea
    simp only [Option.map_some]
    cases ex : xs[n]? with
    | none => exact ⟨vs, s1, by rw [← s2.length]; exact List.getElem?_eq_none_iff.mp ex⟩
    | some x =>
      obtain ⟨w, e1, e2⟩ := s2.get ex
      refine ⟨⟨vs, w, s1, e1⟩, fun y H' hy => ?_⟩
      obtain ⟨rfl, hy⟩ := hy
      have : y = w := Option.some.inj ((hy vs s1).symm.trans e1)
      subst this
      exact ⟨.refl, R, e2⟩
theorem it_tup {K : PySem.W.Frag} {mg : Str → Option Value} {r : List Addr} {S : Sto} {H : Hp} {xs : List IV} {a : Addr} {vs : List V} (R : Rel K mg r S H) (q1 : SqU K H a vs) (q2 : VRs K mg r H xs vs) : ItOk K mg r H (.tup xs) (Itt K a) := fun r2 S2 H2 e R2 n => by
  simp only [nextAt]
  have s1 := (sqU_mono R e q1).t
  have s2 := q2.mono R e
  cases ex : xs[n]? with
  | none => exact ⟨vs, s1, by rw [← s2.length]; exact List.getElem?_eq_none_iff.mp ex⟩
  | some x =>
    obtain ⟨w, e1, e2⟩ := s2.get ex
    refine ⟨⟨vs, w, s1, e1⟩, fun y H' hy => ?_⟩
    obtain ⟨rfl, hy⟩ := hy
    have : y = w := Option.some.inj ((hy vs s1).symm.trans e1)
    subst this
    exact ⟨.refl, R2, e2⟩
theorem it_str {K : PySem.W.Frag} {mg : Str → Option Value} {r : List Addr} {H : Hp} {z : Str} : ItOk K mg r H (.str z) (Its z) := fun r2 S2 H2 e R2 n => by
  simp only [nextAt]
  cases ex : z.cps[n]? with
  | none => exact Array.getElem?_eq_none_iff.mp ex
  | some c =>
    refine ⟨(Array.getElem?_eq_some_iff.mp ex).1, fun y H' hy => ?_⟩
    obtain ⟨rfl, c', h1, rfl⟩ := hy
    rw [ex] at h1
    cases h1
    exact ⟨.refl, R2, .str _⟩
theorem it_rng {K : PySem.W.Frag} {mg : Str → Option Value} {r : List Addr} {H : Hp} {lo c : Int} {k : Nat} : ItOk K mg r H (.rng lo c k) (Itc lo c k) := fun r2 S2 H2 e R2 n => by
  simp only [nextAt]
  by_cases h : n < k
  · rw [if_pos h]
    refine ⟨h, fun y H' hy => ?_⟩
    obtain ⟨rfl, rfl⟩ := hy
    exact ⟨.refl, R2, .int _⟩
  · rw [if_neg h]
    exact Nat.le_of_not_lt h
theorem it_rng1 {K : PySem.W.Frag} {mg : Str → Option Value} {r : List Addr} {H : Hp} {lo : Int} {k : Nat} : ItOk K mg r H (.rng lo 1 k) (Itr lo k) := fun r2 S2 H2 e R2 n => by
  simp only [nextAt]
  by_cases h : n < k
  · rw [if_pos h]
    refine ⟨h, fun y H' hy => ?_⟩
    obtain ⟨rfl, rfl⟩ := hy
    rw [Int.mul_one]
    exact ⟨.refl, R2, .int _⟩
  · rw [if_neg h]
    exact Nat.le_of_not_lt h
theorem it_enum {K : PySem.W.Frag} {mg : Str → Option Value} {r : List Addr} {H : Hp} {S0 : Sto} {i : IV} {a : Addr} (R0 : Rel K mg r S0 H) (ha : VR K mg r H i (.ref a)) : ItOk K mg r H (.enum i) (Ite K a) := fun r2 S H2 e R n => by
  simp only [nextAt]
  cases ei : seqI i S with
  | none => trivial
  | some xs =>
    obtain ⟨a', vs, ea, s1, s2⟩ := R.items ei (ha.mono R0 e); cases ea
    simp only [Option.map_some]
    cases ex : xs[n]? with
    | none => exact ⟨vs, s1, by rw [← s2.length]; exact List.getElem?_eq_none_iff.mp ex⟩
    | some x =>
      obtain ⟨w, e1, e2⟩ := s2.get ex
      refine ⟨⟨vs, w, s1, e1⟩, fun y H' hy => ?_⟩
      obtain ⟨T, x', rfl, hT, rfl, hy⟩ := hy
      have : x' = w := Option.some.inj ((hy vs s1).symm.trans e1)
      subst this
      obtain ⟨x1, R1⟩ := R.beside (u := .tup [.int (n : Nat), x']) hT
      exact ⟨x1, R1, .tup (.inl upd_same) (.cons (.int _) (.cons (e2.mono R x1) .nil))⟩
theorem it_enumS {K : PySem.W.Frag} {mg : Str → Option Value} {r : List Addr} {H : Hp} {z : Str} : ItOk K mg r H (.enumS z) (IteS z) := fun r2 S H2 e R n => by
  simp only [nextAt]
  cases ex : z.cps[n]? with
  | none => exact Array.getElem?_eq_none_iff.mp ex
  | some c =>
    refine ⟨(Array.getElem?_eq_some_iff.mp ex).1, fun y H' hy => ?_⟩
    obtain ⟨T, c', rfl, hT, rfl, hc⟩ := hy
    rw [ex] at hc
    cases hc
    obtain ⟨x1, R1⟩ := R.beside (u := .tup [.int (n : Nat), .str ⟨#[c]⟩]) hT
    exact ⟨x1, R1, .tup (.inl upd_same) (.cons (.int _) (.cons (.str _) .nil))⟩
theorem it_zip {K : PySem.W.Frag} {mg : Str → Option Value} {r : List Addr} {H : Hp} {S0 : Sto} {i j : IV} {a b : Addr} (R0 : Rel K mg r S0 H) (ha : VR K mg r H i (.ref a)) (hb : VR K mg r H j (.ref b)) : ItOk K mg r H (.zip i j) (Itz K a b) := fun r2 S H2 e R n => by
  simp only [nextAt]
  cases ei : seqI i S with
  | none => trivial
  | some xs =>
    cases ej : seqI j S with
    | none => trivial
    | some ys =>
      obtain ⟨a', vs, ea, s1, s2⟩ := R.items ei (ha.mono R0 e); cases ea
      obtain ⟨b', ws, eb, s3, s4⟩ := R.items ej (hb.mono R0 e); cases eb
      simp only
      cases ex : xs[n]? with
      | none => exact ⟨vs, ws, s1, s3, .inl (by rw [← s2.length]; exact List.getElem?_eq_none_iff.mp ex)⟩
      | some x =>
        cases ey : ys[n]? with
        | none => exact ⟨vs, ws, s1, s3, .inr (by rw [← s4.length]; exact List.getElem?_eq_none_iff.mp ey)⟩
        | some y =>
          obtain ⟨w, e1, e2⟩ := s2.get ex
          obtain ⟨w', e3, e4⟩ := s4.get ey
          refine ⟨⟨vs, ws, w, w', s1, s3, e1, e3⟩, fun z H' hz => ?_⟩
          obtain ⟨T, x', y', rfl, hT, rfl, hx, hy⟩ := hz
          have t1 : x' = w := Option.some.inj ((hx vs s1).symm.trans e1)
          have t2 : y' = w' := Option.some.inj ((hy ws s3).symm.trans e3)
          subst t1
          subst t2
          obtain ⟨x1, R1⟩ := R.beside (u := .tup [x', y']) hT
          exact ⟨x1, R1, .tup (.inl upd_same) (.cons (e2.mono R x1) (.cons (e4.mono R x1) .nil))⟩
theorem it_rev {K : PySem.W.Frag} {mg : Str → Option Value} {r : List Addr} {H : Hp} {S0 : Sto} {i : IV} {k : Nat} {a : Addr} (R0 : Rel K mg r S0 H) (ha : VR K mg r H i (.ref a)) : ItOk K mg r H (.rev i k) (Itv K a k) := fun r2 S H2 e R n => by
  simp only [nextAt]
  by_cases h : n < k
  · rw [if_pos h]
    cases ei : seqI i S with
    | none => trivial
    | some xs =>
      obtain ⟨a', vs, ea, s1, s2⟩ := R.items ei (ha.mono R0 e); cases ea
      simp only [Option.bind_some]
      cases ex : xs[k - 1 - n]? with
      | none => trivial
      | some x =>
        obtain ⟨w, e1, e2⟩ := s2.get ex
        refine ⟨⟨h, vs, w, s1, e1⟩, fun y H' hy => ?_⟩
        obtain ⟨rfl, hy⟩ := hy
        have : y = w := Option.some.inj ((hy vs s1).symm.trans e1)
        subst this
        exact ⟨.refl, R, e2⟩
  · rw [if_neg h]
    exact Nat.le_of_not_lt h

def iVal (a : SE) : SI := fun t S => (a t S).bind fun v S1 => match v with
  | .tup xs => .ok (.tup xs) S1
  | .str z => .ok (.str z) S1
  | v => match seqI v S1 with
    | some _ => .ok (.lst v) S1
    | none => .no
theorem i_val {e : Expr} {m : SE} (he : EOk X W e m) : IOk X W tg e (iVal m) :=
  PI_imp (pi_any he) fun s H Q ⟨r, t, S, hs, R, h⟩ => rd_E hs R (Aft.bind h) fun r1 u S1 H1 x e1 R1 hs1 hu ⟨_, _, h1⟩ => by
    split at h1
    · cases hu with | tup q1 q2 => exact .inr (.inl ⟨_, rfl, ⟨_, q1.t⟩, h1 r1 H1 .refl R1 _ (it_tup R1 q1 q2)⟩)
    · cases hu; exact .inr (.inr ⟨_, rfl, h1 r1 H1 .refl R1 _ it_str⟩)
    · split at h1
      · rename_i xs hx
        obtain ⟨a, vs, rfl, s1, s2⟩ := R1.items hx hu
        exact .inl ⟨_, rfl, ⟨vs, s1⟩, h1 r1 H1 .refl R1 _ (it_lst R1 hu)⟩
      · exact h1.elim
def small62 (i : Int) : Bool := decide (-(2 ^ 62) ≤ i ∧ i < 2 ^ 62)
def iRange1 (a : SA) : SI := fun t S => (a t S).bind fun vs S1 => match vs with
  | [.int j] => if small62 j then .ok (.rng 0 1 j.toNat) S1 else .no
  | _ => .no
def iRange2 (a : SA) : SI := fun t S => (a t S).bind fun vs S1 => match vs with
  | [.int i, .int j] => if small62 i && small62 j then .ok (.rng i 1 (j - i).toNat) S1 else .no
  | _ => .no
def iRange3 (a : SA) : SI := fun t S => (a t S).bind fun vs S1 => match vs with
  | [.int i, .int j, .int c] => if small62 i && small62 j && decide (c = -1) then .ok (.rng i (-1) (i - j).toNat) S1 else .no
  | _ => .no
def iEnumS (a : SA) : SI := fun t S => (a t S).bind fun vs S1 => match vs with
  | [v] => match seqI v S1 with
    | some _ => .ok (.enum v) S1
    | none => match v with
      | .str z => .ok (.enumS z) S1
      | _ => .no
  | _ => .no
def iZipS (a : SA) : SI := fun t S => (a t S).bind fun vs S1 => match vs with
  | [v, w] => match seqI v S1, seqI w S1 with
    | some _, some _ => .ok (.zip v w) S1
    | _, _ => .no
  | _ => .no
def iRevS (a : SA) : SI := fun t S => (a t S).bind fun vs S1 => match vs with
  | [v] => match seqI v S1 with
    | some xs => .ok (.rev v xs.length) S1
    | none => .no
  | _ => .no
theorem i_range1 {a : Expr} {ma : SA} {p pos : Pos} (hg : Gl X "range") (hm : X.mg "range" = none) (ha : AOk X W [a] ma) (hs : starEach [a] X.env = [(false, eval a X.env)]) : IOk X W tg (.Call (.Name "range" p) [a] [] pos) (iRange1 ma) :=
  PI_imp (pi_range1 hg hm ha hs) fun s H Q ⟨r, t, S, hs, R, h⟩ => rd_A hs R (Aft.bind h) fun r1 us S1 H1 xs e1 R1 hs1 hus ⟨_, _, h1⟩ => by
    split at h1
    · split at h1
      · rename_i hl
        have hl := of_decide_eq_true hl
        cases hus with | cons k1 k2 =>
        cases k2; cases k1
        exact ⟨_, rfl, hl.1, hl.2, h1 r1 H1 .refl R1 _ it_rng1⟩
      · exact h1.elim
    · exact h1.elim
theorem i_range2 {a b : Expr} {ma : SA} {p pos : Pos} (hg : Gl X "range") (hm : X.mg "range" = none) (ha : AOk X W [a, b] ma) (hs : starEach [a, b] X.env = [(false, eval a X.env), (false, eval b X.env)]) (hs2 : starEach [b] X.env = [(false, eval b X.env)]) :
    IOk X W tg (.Call (.Name "range" p) [a, b] [] pos) (iRange2 ma) :=
  PI_imp (pi_range2 hg hm ha hs hs2) fun s H Q ⟨r, t, S, hs, R, h⟩ => rd_A hs R (Aft.bind h) fun r1 us S1 H1 xs e1 R1 hs1 hus ⟨_, _, h1⟩ => by
    split at h1
    · split at h1
      · rename_i hl
        rw [Bool.and_eq_true] at hl
        have hl1 := of_decide_eq_true hl.1
        have hl2 := of_decide_eq_true hl.2
        cases hus with | cons k1 k2 => cases k2 with | cons k3 k4 =>
        cases k4; cases k3; cases k1
        exact ⟨_, _, rfl, ⟨hl1.1, hl1.2, hl2.1, hl2.2⟩, h1 r1 H1 .refl R1 _ it_rng1⟩
      · exact h1.elim
    · exact h1.elim
theorem i_range3 {a b c : Expr} {ma : SA} {p pos : Pos} (hg : Gl X "range") (hm : X.mg "range" = none) (ha : AOk X W [a, b, c] ma)
    (hs : starEach [a, b, c] X.env = (false, eval a X.env) :: starEach [b, c] X.env) (hpl : (backTo pos (starEach [b, c] X.env)).any (·.1) = false) : IOk X W tg (.Call (.Name "range" p) [a, b, c] [] pos) (iRange3 ma) :=
  PI_imp (pi_range3 hg hm ha hs hpl) fun s H Q ⟨r, t, S, hs, R, h⟩ => rd_A hs R (Aft.bind h) fun r1 us S1 H1 xs e1 R1 hs1 hus ⟨_, _, h1⟩ => by
    split at h1
    · split at h1
      · rename_i hl
        rw [Bool.and_eq_true, Bool.and_eq_true] at hl
        have hl1 := of_decide_eq_true hl.1.1
        have hl2 := of_decide_eq_true hl.1.2
        have hl3 := of_decide_eq_true hl.2
        cases hus with | cons k1 k2 => cases k2 with | cons k3 k4 => cases k4 with | cons k5 k6 =>
        cases k6; cases k5; cases k3; cases k1
        subst hl3
        exact ⟨_, _, _, _, rfl, RgC.neg hl1.1 hl1.2 hl2.1 hl2.2, h1 r1 H1 .refl R1 _ it_rng⟩
      · exact h1.elim
    · exact h1.elim
theorem i_enum {e : Expr} {elts : List Expr} {kk : Nat} {ma : SA} {p pos tpos : Pos} (hg : Gl X "enumerate") (hm : X.mg "enumerate" = none) (ha : AOk X W [e] ma) (hs : starEach [e] X.env = [(false, eval e X.env)]) :
    IOk X W (.Tuple elts kk tpos) (.Call (.Name "enumerate" p) [e] [] pos) (iEnumS ma) :=
  PI_imp (pi_enumX hg hm ha hs) fun s H Q ⟨r, t, S, hs, R, h⟩ => rd_A hs R (Aft.bind h) fun r1 us S1 H1 xs e1 R1 hs1 hus ⟨_, _, h1⟩ => by
    split at h1
    · split at h1
      · rename_i ys hy
        cases hus with | cons k1 k2 =>
        cases k2
        obtain ⟨a, vs, rfl, s1, s2⟩ := R1.items hy k1
        exact .inl ⟨_, vs, rfl, s1, h1 r1 H1 .refl R1 _ (it_enum R1 k1)⟩
      · split at h1
        · cases hus with | cons k1 k2 =>
          cases k2
          cases k1
          exact .inr ⟨_, rfl, h1 r1 H1 .refl R1 _ it_enumS⟩
        · exact h1.elim
    · exact h1.elim
theorem i_zip {e e2 : Expr} {elts : List Expr} {kk : Nat} {ma : SA} {p pos tpos : Pos} (hg : Gl X "zip") (hm : X.mg "zip" = none) (ha : AOk X W [e, e2] ma)
    (hs : starEach [e, e2] X.env = (false, eval e X.env) :: starEach [e2] X.env) (hpl : (backTo pos (starEach [e2] X.env)).any (·.1) = false) :
    IOk X W (.Tuple elts kk tpos) (.Call (.Name "zip" p) [e, e2] [] pos) (iZipS ma) :=
  PI_imp (pi_zip hg hm ha hs hpl) fun s H Q ⟨r, t, S, hs, R, h⟩ => rd_A hs R (Aft.bind h) fun r1 us S1 H1 xs e1 R1 hs1 hus ⟨_, _, h1⟩ => by
    split at h1
    · split at h1
      · rename_i ys zs hy hz
        cases hus with | cons k1 k2 => cases k2 with | cons k3 k4 =>
        cases k4
        obtain ⟨a, vs, rfl, s1, s2⟩ := R1.items hy k1
        obtain ⟨b, ws, rfl, s3, s4⟩ := R1.items hz k3
        exact ⟨_, _, vs, ws, rfl, s1, s3, h1 r1 H1 .refl R1 _ (it_zip R1 k1 k3)⟩
      · exact h1.elim
    · exact h1.elim
theorem i_rev {e : Expr} {ma : SA} {p pos : Pos} (hg : Gl X "reversed") (hm : X.mg "reversed" = none) (ha : AOk X W [e] ma) (hs : starEach [e] X.env = [(false, eval e X.env)]) : IOk X W tg (.Call (.Name "reversed" p) [e] [] pos) (iRevS ma) :=
  PI_imp (pi_reversed hg hm ha hs) fun s H Q ⟨r, t, S, hs, R, h⟩ => rd_A hs R (Aft.bind h) fun r1 us S1 H1 xs e1 R1 hs1 hus ⟨_, _, h1⟩ => by
    split at h1
    · split at h1
      · rename_i ys hy
        cases hus with | cons k1 k2 =>
        cases k2
        obtain ⟨a, vs, rfl, s1, s2⟩ := R1.items hy k1
        refine ⟨_, vs, rfl, s1, ?_⟩
        rw [← s2.length]
        exact h1 r1 H1 .refl R1 _ (it_rev R1 k1)
      · exact h1.elim
    · exact h1.elim

/-! ### for -/
def loopI (g : Tg) (b : SS) (it : ItS) : Nat → Nat → Slo → Sto → RS
  | 0, _, _, _ => .no
  | f + 1, n, t, S => match nextAt it n S with
    | none => .no
    | some none => .nx t S
    | some (some v) => match tgSet S g v t with
      | none => .no
      | some t1 => match b t1 S with
        | .nx t2 S2 => loopI g b it f (n + 1) t2 S2
        | .cnt t2 S2 => loopI g b it f (n + 1) t2 S2
        | .brk t2 S2 => .nx t2 S2
        | x => x
def sFor (g : Tg) (m : SI) (b : SS) : SS := fun t S => match m t S with
  | .ok it S1 => loopI g b it 1000000 0 t S1
  | .ex c fs S1 => .ex c fs t S1
  | .no => .no
theorem s_for {iter : Expr} {g : Tg} {m : SI} {body : List Stmt} {mb : SS} {pos : Pos} (hp : PassesOwn (model X.prog X.w) X.A X.env X.xe) (hc : X.calm = true) (hi : IOk X W tg iter m) (hg : TgOk X tg g) (hb : SsOk X W body mb)
    (hs : ∀ x, foldedSetIterable iter X.env x = pure x) : SOk X W (.For tg iter body [] pos) (sFor g m mb) :=
  PS_imp (ps_for hp hc hi hg hb hs) fun D s H ⟨r, t, S, hs, R, h⟩ => by
    unfold sFor at h
    refine ⟨r, t, S, hs, R, ?_⟩
    cases em : m t S with
    | no => rw [em] at h; exact h
    | ex c fs S1 => rw [em] at h; exact fun r' H' cls d e R' z => h r' H' s cls d e R' (hs.mono R e) z
    | ok it S1 =>
      rw [em] at h
      intro r1 H1 e1 R1 J hJ
      refine ⟨fun i k s H => ∃ r t S, Ex r1 H1 r H ∧ St1 X.K X.mg r X.N.length t s H ∧ Rel X.K X.mg r S H ∧ AftS X W (loopI g mb it k i t S) r H D, ⟨1000000, r1, t, S1, .refl, hs.mono R e1, R1, AftS.ext h e1⟩, ?_⟩
      rintro i k s2 H2 ⟨r2, t2, S2, e2, hs2, R2, h2⟩
      cases k with
      | zero => exact h2.elim
      | succ k =>
        have hj := hJ r2 S2 H2 e2 R2 i
        simp only [loopI] at h2
        cases en : nextAt it i S2 with
        | none => rw [en] at h2; exact h2.elim
        | some o =>
          rw [en] at h2 hj
          cases o with
          | none => exact .inl ⟨hj, h2 r2 H2 s2 .refl R2 hs2⟩
          | some v =>
            obtain ⟨hgo, hy⟩ := hj
            refine .inr ⟨hgo, fun s3 H3 => ∃ r t S, Ex r1 H1 r H3 ∧ St1 X.K X.mg r X.N.length t s3 H3 ∧ Rel X.K X.mg r S H3 ∧ AftS X W (loopI g mb it k (i + 1) t S) r H3 D, fun s3 H3 q => ⟨k, Nat.lt_succ_self _, q⟩, fun x H3 hx => ?_⟩
            obtain ⟨e3, R3, hv⟩ := hy x H3 hx
            simp only at h2
            cases et : tgSet S2 g v t2 with
            | none => rw [et] at h2; exact h2.elim
            | some t3 =>
              rw [et] at h2
              refine tg_run R3 g (own := []) hv (hs2.mono R2 e3) et fun s4 hs4 _ => ?_
              refine ⟨r2, t3, S2, hs4, R3, ?_⟩
              simp only at h2
              have h3 := AftS.ext h2 e3
              cases eb : mb t3 S2 with
              | nx t5 S5 => rw [eb] at h3; exact fun r5 H5 s5 e5 R5 hs5 => ⟨r5, t5, S5, (e2.trans e3).trans e5, hs5, R5, AftS.ext h3 e5⟩
              | cnt t5 S5 => rw [eb] at h3; exact fun r5 H5 s5 e5 R5 hs5 => ⟨r5, t5, S5, (e2.trans e3).trans e5, hs5, R5, AftS.ext h3 e5⟩
              | brk t5 S5 => rw [eb] at h3; exact h3
              | ret v5 S5 => rw [eb] at h3; exact h3
              | ex c fs t5 S5 => rw [eb] at h3; exact h3
              | no => rw [eb] at h3; exact h3

/-! ### while -/
def whileI (c : SB) (b : SS) : Nat → Slo → Sto → RS
  | 0, _, _ => .no
  | f + 1, t, S => match c t S with
    | .ok k S1 => if k then (match b t S1 with
        | .nx t2 S2 => whileI c b f t2 S2
        | .cnt t2 S2 => whileI c b f t2 S2
        | .brk t2 S2 => .nx t2 S2
        | x => x) else .nx t S1
    | .ex x fs S1 => .ex x fs t S1
    | .no => .no
def sWhile (c : SB) (b : SS) : SS := whileI c b 1000000
theorem s_while {c : Expr} {mc : SB} {body : List Stmt} {mb : SS} {pos : Pos} (hp : PassesOwn (model X.prog X.w) X.A X.env X.xe) (hc : BOk X W c mc) (hb : SsOk X W body mb) : SOk X W (.While c body [] pos) (sWhile mc mb) :=
  PS_imp (ps_while hp hc hb) fun D s H ⟨r, t, S, hs, R, h⟩ => by
    unfold sWhile at h
    refine ⟨fun k s H => ∃ r t S, St1 X.K X.mg r X.N.length t s H ∧ Rel X.K X.mg r S H ∧ AftS X W (whileI mc mb k t S) r H D, ⟨1000000, r, t, S, hs, R, h⟩, ?_⟩
    rintro k s2 H2 ⟨r2, t2, S2, hs2, R2, h2⟩
    cases k with
    | zero => exact h2.elim
    | succ k =>
      simp only [whileI] at h2
      refine rd_SB (D := D) hs2 R2 h2 fun r3 v S3 H3 e3 R3 hs3 h3 => ?_
      cases v with
      | false => rw [if_neg (by simp)] at h3 ⊢; exact h3 r3 H3 s2 .refl R3 hs3
      | true =>
        rw [if_pos rfl] at h3 ⊢
        refine ⟨fun s3 H3 => ∃ r t S, St1 X.K X.mg r X.N.length t s3 H3 ∧ Rel X.K X.mg r S H3 ∧ AftS X W (whileI mc mb k t S) r H3 D, fun s3 H3 q => ⟨k, Nat.lt_succ_self _, q⟩, r3, t2, S3, hs3, R3, ?_⟩
        cases eb : mb t2 S3 with
        | nx t5 S5 => rw [eb] at h3; exact fun r5 H5 s5 e5 R5 hs5 => ⟨r5, t5, S5, hs5, R5, AftS.ext h3 e5⟩
        | cnt t5 S5 => rw [eb] at h3; exact fun r5 H5 s5 e5 R5 hs5 => ⟨r5, t5, S5, hs5, R5, AftS.ext h3 e5⟩
        | brk t5 S5 => rw [eb] at h3; exact h3
        | ret v5 S5 => rw [eb] at h3; exact h3
        | ex c fs t5 S5 => rw [eb] at h3; exact h3
        | no => rw [eb] at h3; exact h3
end

/-! ### comprehensions -/
def lcI (own : List Nat) (g : Tg) (c : SB) (e : SE) (it : ItS) (t0 : Slo) (d : Nat) : Nat → Nat → Sto → R IV
  | 0, _, _ => .no
  | f + 1, n, S => match nextAt it n S with
    | none => .no
    | some none => .ok (.ref d) S
    | some (some v) => match tgSet S g v (wipeI t0 own) with
      | none => .no
      | some t1 => (c t1 S).bind fun k S1 => if k then (e t1 S1).bind fun y S2 => (match S2[d]? with
          | some (.lst acc) => if acc.length < 16777216 then lcI own g c e it t0 d f (n + 1) (S2.set d (.lst (acc ++ [y]))) else .no
          | _ => .no)
        else lcI own g c e it t0 d f (n + 1) S1
def R.calm {α : Type} (r : R α) : R α := match r with
  | .ex _ _ _ => .no
  | x => x
def mLc (own : List Nat) (g : Tg) (m : SI) (c : SB) (e : SE) : SE := fun t S => (m t S).bind fun it S1 => (lcI own g c e it t S1.length 1000000 0 (S1 ++ [.lst []])).calm
def bYes : SB := fun _ S => .ok true S

section
variable {X : Cx} {W : WX} {tg : Expr}
theorem Aft.noEx {K : PySem.W.Frag} {mg : Str → Option Value} {α : Type} {x : R α} {r : List Addr} {H : Hp} {W : XK} {Q : List Addr → α → Sto → Hp → Prop} (h : Aft K mg (fun _ _ _ => False) x r H Q) : Aft K mg W x r H Q := by
  cases x with
  | ok a S => exact h
  | ex c fs S => exact fun r' H' cls d e R z => (h r' H' cls d e R z).elim
  | no => exact h
theorem set_wipe {s : VSt} {i : Nat} : ∀ {own : List Nat}, i ∈ own → (L2.wipe s own).set i none = L2.wipe s own
  | j :: own, h => by
    simp only [L2.wipe]
    by_cases e : j = i
    · subst e; rw [List.set_set]
    · rw [List.set_comm _ _ e, set_wipe (by rcases List.mem_cons.mp h with rfl | h; exact absurd rfl e; exact h)]
theorem wipe_wipe_in {s : VSt} {all : List Nat} : ∀ (own : List Nat), (∀ i ∈ own, i ∈ all) → L2.wipe (L2.wipe s all) own = L2.wipe s all
  | [], _ => rfl
  | j :: own, h => by
    simp only [L2.wipe]
    rw [wipe_wipe_in own fun i hi => h i (List.mem_cons_of_mem _ hi), set_wipe (h j List.mem_cons_self)]
theorem wipe_wipe {s : VSt} (own : List Nat) : L2.wipe (L2.wipe s own) own = L2.wipe s own := wipe_wipe_in own fun _ h => h
/-- the reading of a comprehension: its pieces raise nothing -/
theorem rd_lc {own : List Nat} {g : Tg} {m : SI} {c : SB} {e : SE} {s : VSt} {H : Hp} {Q : VK} (hin : tgIn own g = true) (h : tI X W (mLc own g m c e) s H Q) :
    tLc (tIt X W m) (tgOf X.K g) (tIB X (fun _ _ _ _ => False) c) (tI X (fun _ _ _ _ => False) e) own s H Q := by
  obtain ⟨r, t, S, hs, R, h⟩ := h
  have h := Aft.bind h
  refine ⟨r, t, S, hs, R, ?_⟩
  cases em : m t S with
  | no => rw [em] at h; exact h
  | ex c fs S1 => rw [em] at h; exact fun r' H' cls d e R' z => h r' H' cls d e R' z
  | ok it S1 =>
    rw [em] at h
    intro r1 H1 e1 R1 J hJ D hD
    obtain ⟨_, _, h1⟩ := h r1 H1 e1 R1
    have sz : (0 : Nat) < sizeLine := by rw [sl16]; omega
    obtain ⟨xD, RD, atD⟩ := R1.alloc (u := .lst []) (o := .lst []) hD (fun _ => ⟨[], upd_same, .nil⟩)
    let P : List Addr → IV → Sto → Hp → Prop := fun r' v _ H' => ∀ w, VR X.K X.mg r' H' v w → Q w H'
    let Inv2 : Nat → Nat → Hp → Prop := fun i k H2 => ∃ r2 S2, Ex r1 H1 r2 H2 ∧ Rel X.K X.mg r2 S2 H2 ∧ r2[S1.length]? = some D ∧
      Aft X.K X.mg (fun c d H' => W c d s H') (lcI own g c e it t S1.length k i S2).calm r1 H1 P
    have hs1 := hs.mono R e1
    refine ⟨Inv2, ⟨1000000, r1 ++ [D], S1 ++ [.lst []], xD, RD, atD, h1⟩, ?_⟩
    rintro i k H2 ⟨r2, S2, e2, R2, a2, hC⟩
    cases k with
    | zero => exact hC.elim
    | succ k =>
      have hj := hJ r2 S2 H2 e2 R2 i
      simp only [lcI] at hC
      cases en : nextAt it i S2 with
      | none => rw [en] at hC; exact hC.elim
      | some o =>
        rw [en] at hC hj
        cases o with
        | none =>
          refine .inl ⟨hj, ?_⟩
          have hC' : ∀ r' H', Ex r1 H1 r' H' → Rel X.K X.mg r' S2 H' → P r' (.ref S1.length) S2 H' := hC
          exact hC' r2 H2 e2 R2 (.ref D) (.ref a2)
        | some v =>
          obtain ⟨hgo, hy⟩ := hj
          refine .inr ⟨hgo, fun H3 => Inv2 (i + 1) k H3, fun H3 q => ⟨k, Nat.lt_succ_self _, q⟩, fun x H3 hx => ?_⟩
          obtain ⟨e3, R3, hv⟩ := hy x H3 hx
          simp only at hC
          cases et : tgSet S2 g v (wipeI t own) with
          | none => rw [et] at hC; exact hC.elim
          | some t1 =>
            rw [et] at hC
            simp only at hC
            have e23 := e2.trans e3
            refine tg_run R3 g (own := own) hv ((hs1.mono R1 e23).wipe own) et fun s4 hs4 hw4 => ⟨by rw [hw4 hin]; exact wipe_wipe own, ?_⟩
            refine ⟨r2, t1, S2, hs4, R3, ?_⟩
            cases ec : c t1 S2 with
            | no => rw [ec] at hC; exact hC
            | ex x fs S5 => rw [ec] at hC; exact hC.elim
            | ok b S5 =>
              rw [ec] at hC
              intro r5 H5 e5 R5
              have e25 := e23.trans e5
              have a5 := e5.at_ a2
              cases b with
              | false => exact ⟨r5, S5, e25, R5, a5, hC⟩
              | true =>
                dsimp only
                rw [if_pos rfl]
                refine ⟨r5, t1, S5, hs4.mono R3 e5, R5, ?_⟩
                have hC : Aft X.K X.mg (fun c d H' => W c d s H') ((e t1 S5).bind fun y S2 => (match S2[S1.length]? with
                  | some (.lst acc) => if acc.length < 16777216 then lcI own g c e it t S1.length k (i + 1) (S2.set S1.length (.lst (acc ++ [y]))) else .no
                  | _ => .no)).calm r1 H1 P := hC
                cases ee : e t1 S5 with
                | no => rw [ee] at hC; exact hC
                | ex x fs S6 => rw [ee] at hC; exact hC.elim
                | ok y S6 =>
                  rw [ee] at hC
                  intro r6 H6 e6 R6 w hw
                  have a6 := e6.at_ a5
                  simp only [IP.R.bind] at hC
                  split at hC
                  · rename_i acc hk
                    obtain ⟨vs, hD6, hv6⟩ := R6.obj _ _ _ hk a6
                    split at hC
                    · rename_i hl
                      obtain ⟨x7, R7⟩ := R6.write (u := .lst (vs ++ [w])) (o := .lst (acc ++ [y])) a6 (fun x => ⟨vs ++ [w], upd_same, (hv6.mono R6 x).append (.one (hw.mono R6 x))⟩)
                      exact ⟨vs, hD6, by rw [sl16, ← hv6.length]; exact hl, r6, _, (e25.trans e6).trans x7, R7, a6, hC⟩
                    · exact hC.elim
                  · exact hC.elim
theorem bs_nil : PTs X [] (tIB X W bYes) := ⟨fun pins s σ H Q I ⟨r, t, S, hs, R, h⟩ => pts_nil.run pins s σ H Q I (h r H .refl R)⟩
theorem bs_one {c : Expr} {m : SB} (h : BOk X W c m) : PTs X [c] (tIB X W m) := pts_one h
/-- the evaluator's piece is good in the comprehension's block, wherever it runs -/
def EBlk (X : Cx) (scope : Scope) (e : Expr) (m : SE) : Prop := ∀ (s : Shared) (H : Hp) (C : Addr) (cl : List (Str × Addr)) (fp : List Addr), EOk (X.blk s H scope (compEnvC scope cl C X.env) fp) (fun _ _ _ _ => False) e m
def BBlk (X : Cx) (scope : Scope) (ifs : List Expr) (m : SB) : Prop := ∀ (s : Shared) (H : Hp) (C : Addr) (cl : List (Str × Addr)) (fp : List Addr), PTs (X.blk s H scope (compEnvC scope cl C X.env) fp) ifs (tIB (X.blk s H scope (compEnvC scope cl C X.env) fp) (fun _ _ _ _ => False) m)
def GBlk (X : Cx) (scope : Scope) (tg : Expr) (g : Tg) : Prop := ∀ (s : Shared) (H : Hp) (C : Addr) (cl : List (Str × Addr)) (fp : List Addr), TgOk (X.blk s H scope (compEnvC scope cl C X.env) fp) tg g
theorem e_lc {elt iter : Expr} {ifs : List Expr} {scope : Scope} {own : List (Str × Nat)} {pos : Pos} {g : Tg} {m : SI} {c : SB} {e : SE} (hc : X.calm = true) (hN : X.N.Nodup) (hi : IOk X W tg iter m) (ok : BlkOk X.N X.env.scope scope own)
    (hg : GBlk X scope tg g) (ht : BBlk X scope ifs c) (he : EBlk X scope elt e) (hin : tgIn (own.map (·.2)) g = true) (hs : ∀ x, foldedSetIterable iter X.env x = pure x) :
    EOk X W (.ListComp elt [⟨tg, iter, ifs, 0⟩] scope pos) (mLc (own.map (·.2)) g m c e) :=
  PE_imp (pe_lc (g := tgOf X.K g) (tt := tIB X (fun _ _ _ _ => False) c) (te := tI X (fun _ _ _ _ => False) e) hc hN hi ok hg ht he hs) fun s H Q h => rd_lc hin h
theorem s_lc {i : Nat} {y : Str} {py : Pos} {elt iter : Expr} {ifs : List Expr} {scope : Scope} {own : List (Str × Nat)} {pos spos : Pos} {g : Tg} {m : SI} {c : SB} {e : SE} (hc : X.calm = true) (hN : X.N.Nodup) (hy : X.N[i]? = some y) (hyl : X.env.scope.names.lookup y = some .local)
    (hsw : swapsWith (.ListComp elt [⟨tg, iter, ifs, 0⟩] scope pos) (some (.Name y py)) spos.line X.env = pure true) (hi : IOk X W tg iter m) (ok : BlkOk X.N X.env.scope scope own)
    (hg : GBlk X scope tg g) (ht : BBlk X scope ifs c) (he : EBlk X scope elt e) (hin : tgIn (own.map (·.2)) g = true) (hs : ∀ x, foldedSetIterable iter X.env x = pure x) :
    SOk X W (.Assign [.Name y py] (.ListComp elt [⟨tg, iter, ifs, 0⟩] scope pos) spos) (sAsg (.nm i) (mLc (own.map (·.2)) g m c e)) :=
  PS_imp (ps_setLc (g := tgOf X.K g) (tt := tIB X (fun _ _ _ _ => False) c) (te := tI X (fun _ _ _ _ => False) e) hc hN hy hyl hsw hi ok hg ht he hs) fun D s H ⟨r, t, S, hs, R, h⟩ => by
    refine rd_lc hin (rd_SE (D := D) hs R h fun r' v S' H' w e R' hs' hv h' => ?_)
    simp only [tgSet] at h'
    exact h' r' H' _ .refl R' (hs'.set i hv)
end
end IP
namespace IP
open PySem PySem.Spec PyProof.Rows L2
/-! ### written dicts of the module: keys and values are ints and texts -/
def kI : Key → IV
  | .inl i => .int i
  | .inr x => .str x
def dKey : IV → Option Key
  | .int i => some (.inl i)
  | .str x => some (.inr x)
  | _ => none
def dcFind : List (Key × Key) → Key → Option Key
  | [], _ => none
  | (a, v) :: r, k => if a = k then some v else dcFind r k
def dcGet (kvs : List (Key × Key)) : O1 := fun v S => (dKey v).map fun k => (((dcFind kvs k).map kI).getD .non, S)
def dcIn (kvs : List (Key × Key)) : O1 := fun v S => (dKey v).map fun k => (.bl (dcFind kvs k).isSome, S)
def dcNi (kvs : List (Key × Key)) : O1 := fun v S => (dKey v).map fun k => (.bl (!(dcFind kvs k).isSome), S)
def dcIx (kvs : List (Key × Key)) : O1 := fun v S => (dKey v).bind fun k => (dcFind kvs k).map fun z => (kI z, S)
inductive KvC (w : World) : List (Key × Key) → List DictEntry → Prop where
  | nil : KvC w [] []
  | cons {k v : Key} {h : Int} {a b : Value} {kvs : List (Key × Key)} {es : List DictEntry} : RelV (kV k) a → h = keyH w k → RelV (kV v) b → KvC w kvs es → KvC w ((k, v) :: kvs) (⟨h, a, b⟩ :: es)
def DcK (K : PySem.W.Frag) (w : World) (mg : Str → Option Value) (x : Str) (kvs : List (Key × Key)) : Prop :=
  ∃ a l n, mg x = some (.ref a) ∧ (a == sysModules) = false ∧ K.lookup a = some ⟨.type "dict", none, .dict (List.toArray l) n, #[]⟩ ∧ KvC w kvs l
section
variable {P : Program} {w : World} {K : PySem.W.Frag}
theorem KvC.keys {kvs : List (Key × Key)} {l : List DictEntry} (h : KvC w kvs l) : ∀ e ∈ l, ∃ k, (mixKind P w).is k e.key = true ∧ e.hash = (mixKind P w).hash k := by
  induction h with
  | nil => intro e he; cases he
  | cons r1 r2 r3 _ ih =>
    intro e he
    rcases List.mem_cons.mp he with rfl | he
    · exact ⟨_, kV_is r1, r2⟩
    · exact ih e he
theorem KvC.find {kvs : List (Key × Key)} {l : List DictEntry} (h : KvC w kvs l) (k : Key) : match dcFind kvs k with
    | some v => ∃ u, findBy (mixKind P w).is (List.toArray l) k = some u ∧ RelV (kV v) u
    | none => findBy (mixKind P w).is (List.toArray l) k = none := by
  induction h with
  | nil => rfl
  | @cons a v hh p q kvs es r1 r2 r3 _ ih =>
    have e1 : (mixKind P w).is k p = decide (k = a) := (mixKind P w).is_eq_decide (kV_is r1) k
    unfold dcFind
    by_cases hk : a = k
    · rw [if_pos hk]
      refine ⟨q, ?_, r3⟩
      unfold findBy
      rw [List.find?_toArray, List.find?_cons_of_pos (by show (mixKind P w).is k p = true; rw [e1]; simp [hk])]
      rfl
    · rw [if_neg hk]
      have e2 : findBy (mixKind P w).is (List.toArray (⟨hh, p, q⟩ :: es)) k = findBy (mixKind P w).is (List.toArray es) k := by
        unfold findBy
        rw [List.find?_toArray, List.find?_toArray, List.find?_cons_of_neg (by show ¬ (mixKind P w).is k p = true; rw [e1]; simpa using fun z => hk z.symm)]
      rw [e2]
      exact ih
theorem KvC.mapOf {kvs : List (Key × Key)} {l : List DictEntry} {a : Addr} {n : Nat} {h : Heap} (X : K.In h) (hl : K.lookup a = some ⟨.type "dict", none, .dict (List.toArray l) n, #[]⟩) (r : KvC w kvs l) : h.MapOf (mixKind P w) a (fun k => findBy (mixKind P w).is (List.toArray l) k) :=
  ⟨_, _, n, X _ _ hl, ⟨rfl, rfl, rfl⟩, rfl, fun e he => r.keys e (by simpa using he), fun _ => rfl⟩
variable {X : Cx} {W : WX} {x : Str} {kvs : List (Key × Key)}
/-- what a reading of a written dict asks -/
def rDc (a : Addr) (R : Key → VK → Hp → Prop) : R2 := fun x y H Q => ∃ k, x = kV k ∧ y = .ref a ∧ R k Q H
theorem rel_kI {K : PySem.W.Frag} {mg : Str → Option Value} {r : List Addr} {H : Hp} : ∀ z : Key, VR K mg r H (kI z) (kV z)
  | .inl i => .int i
  | .inr y => .str y
theorem dKey_rel {K : PySem.W.Frag} {mg : Str → Option Value} {r : List Addr} {H : Hp} {u : IV} {v : V} {k : Key} (h : VR K mg r H u v) (e : dKey u = some k) : v = kV k := by
  cases h <;> simp only [dKey] at e <;> cases e <;> rfl
theorem rd_dc {f : O1} {m : SE} {s : VSt} {H : Hp} {Q : VK} {a : Addr} {R : Key → VK → Hp → Prop} {g : Key → Option IV} (hf : ∀ u S, f u S = (dKey u).bind fun k => (g k).map fun z => (z, S))
    (hR : ∀ k v H1, g k = some v → (∀ w, (∀ (r' : List Addr) H', VR X.K X.mg r' H' v w) → Q w H1) → R k Q H1) (h : tI X W (mUn f m) s H Q) : tI X W m s H fun x H1 => tC (.ref a) s H1 fun y H2 => rDc a R x y H2 Q := by
  obtain ⟨r, t, S, hs, R0, h⟩ := h
  refine rd_E hs R0 (Aft.bind h) fun r1 u S1 H1 x e1 R1 hs1 hu ⟨_, _, h1⟩ => ?_
  rw [hf] at h1
  cases ek : dKey u with
  | none => rw [ek] at h1; exact h1.elim
  | some k =>
    rw [ek] at h1
    cases eg : g k with
    | none => rw [Option.bind_some, eg] at h1; exact h1.elim
    | some z =>
      rw [Option.bind_some, eg] at h1
      exact ⟨k, dKey_rel hu ek, rfl, hR k z H1 eg fun w hw => h1 r1 H1 .refl R1 w (hw _ _)⟩
def rDcIn (kvs : List (Key × Key)) : Key → VK → Hp → Prop := fun k Q H => Q (.bl (dcFind kvs k).isSome) H
def rDcNi (kvs : List (Key × Key)) : Key → VK → Hp → Prop := fun k Q H => Q (.bl (!(dcFind kvs k).isSome)) H
def rDcIx (kvs : List (Key × Key)) : Key → VK → Hp → Prop := fun k Q H => ∃ z, dcFind kvs k = some z ∧ Q (kV z) H
theorem KvC.some {l : List DictEntry} (h : KvC w kvs l) (k : Key) : (findBy (mixKind P w).is (List.toArray l) k).isSome = (dcFind kvs k).isSome := by
  have f := h.find (P := P) k
  cases e : dcFind kvs k with
  | none => rw [e] at f; rw [f]; rfl
  | some v => rw [e] at f; obtain ⟨u, f, _⟩ := f; rw [f]; rfl
theorem op_dcIn {a : Addr} {l : List DictEntry} {n : Nat} (low : (a == sysModules) = false) (hl : X.K.lookup a = some ⟨.type "dict", none, .dict (List.toArray l) n, #[]⟩) (r : KvC X.w kvs l) : OpR X (compareOp .In) (rDc a (rDcIn kvs)) := by
  intro pins s σ H x y v u Q I rx ry h
  obtain ⟨k, rfl, rfl, q⟩ := h
  cases ry
  refine wpAny_in_of (kV_is rx) low (r.mapOf I.kIn hl) ?_
  rw [r.some]
  exact ⟨.bl _, H, I.tok _, rfl, q⟩
theorem op_dcNi {a : Addr} {l : List DictEntry} {n : Nat} (low : (a == sysModules) = false) (hl : X.K.lookup a = some ⟨.type "dict", none, .dict (List.toArray l) n, #[]⟩) (r : KvC X.w kvs l) : OpR X (compareOp .NotIn) (rDc a (rDcNi kvs)) := by
  intro pins s σ H x y v u Q I rx ry h
  obtain ⟨k, rfl, rfl, q⟩ := h
  cases ry
  refine wpAny_notIn_of (kV_is rx) low (r.mapOf I.kIn hl) ?_
  rw [r.some]
  exact ⟨.bl _, H, I.tok _, rfl, q⟩
theorem ix_dc {a : Addr} {l : List DictEntry} {n : Nat} (hl : X.K.lookup a = some ⟨.type "dict", none, .dict (List.toArray l) n, #[]⟩) (r : KvC X.w kvs l) : IxR X (fun x y H Q => rDc a (rDcIx kvs) y x H Q) := by
  intro value slice pins s σ H x y v u Q I rx ry h hs
  obtain ⟨k, rfl, rfl, z, e, q⟩ := h
  obtain rfl : v = Value.ref a := rx
  have f := r.find (P := X.prog) k
  rw [e] at f
  obtain ⟨u0, f, ru⟩ := f
  have hm := r.mapOf (P := X.prog) I.kIn hl
  exact tail_any hm.typeIs slot_dict_getitem.lookup (wpAny_getItem_of (kV_is ry) hm f ⟨_, H, I.tok _, ru, q⟩) hs
theorem rd_dcIn {m : SE} {s : VSt} {H : Hp} {Q : VK} {a : Addr} (h : tI X W (mUn (dcIn kvs) m) s H Q) : tI X W m s H fun x H1 => tC (.ref a) s H1 fun y H2 => rDc a (rDcIn kvs) x y H2 Q :=
  rd_dc (g := fun k => some (.bl (dcFind kvs k).isSome)) (fun u S => by unfold dcIn; cases dKey u <;> rfl) (fun k v H1 e h => by cases e; exact h _ fun _ _ => .bl _) h
theorem rd_dcNi {m : SE} {s : VSt} {H : Hp} {Q : VK} {a : Addr} (h : tI X W (mUn (dcNi kvs) m) s H Q) : tI X W m s H fun x H1 => tC (.ref a) s H1 fun y H2 => rDc a (rDcNi kvs) x y H2 Q :=
  rd_dc (g := fun k => some (.bl (!(dcFind kvs k).isSome))) (fun u S => by unfold dcNi; cases dKey u <;> rfl) (fun k v H1 e h => by cases e; exact h _ fun _ _ => .bl _) h
theorem e_dcIn {a : Expr} {m : SE} {p pos : Pos} (D : DcK X.K X.w X.mg x kvs) (hg : Gl X x) (hd : (x == ("__debug__" : Str)) = false) (ha : EOk X W a m) : EOk X W (.Compare a [.In] [.Name x p] pos) (mUn (dcIn kvs) m) := by
  obtain ⟨q, l, n, h1, h2, h3, h4⟩ := D
  exact PE_imp (pe_cmpR (op_dcIn h2 h3 h4) ha (pe_glob (v := .ref q) hg h1 rfl hd) rfl) fun s H Q h => rd_dcIn h
theorem e_dcNi {a : Expr} {m : SE} {p pos : Pos} (D : DcK X.K X.w X.mg x kvs) (hg : Gl X x) (hd : (x == ("__debug__" : Str)) = false) (ha : EOk X W a m) : EOk X W (.Compare a [.NotIn] [.Name x p] pos) (mUn (dcNi kvs) m) := by
  obtain ⟨q, l, n, h1, h2, h3, h4⟩ := D
  exact PE_imp (pe_cmpR (op_dcNi h2 h3 h4) ha (pe_glob (v := .ref q) hg h1 rfl hd) rfl) fun s H Q h => rd_dcNi h
theorem b_dcIn {a : Expr} {m : SE} {p pos : Pos} (D : DcK X.K X.w X.mg x kvs) (hg : Gl X x) (hd : (x == ("__debug__" : Str)) = false) (ha : EOk X W a m) : BOk X W (.Compare a [.In] [.Name x p] pos) (mB (mUn (dcIn kvs) m)) := by
  obtain ⟨q, l, n, h1, h2, h3, h4⟩ := D
  exact PT_imp (pt_cmpR (op_dcIn h2 h3 h4) ha (pe_glob (v := .ref q) hg h1 rfl hd) rfl) fun s H Q h => rd_dcIn (b_of h)
theorem b_dcNi {a : Expr} {m : SE} {p pos : Pos} (D : DcK X.K X.w X.mg x kvs) (hg : Gl X x) (hd : (x == ("__debug__" : Str)) = false) (ha : EOk X W a m) : BOk X W (.Compare a [.NotIn] [.Name x p] pos) (mB (mUn (dcNi kvs) m)) := by
  obtain ⟨q, l, n, h1, h2, h3, h4⟩ := D
  exact PT_imp (pt_cmpR (op_dcNi h2 h3 h4) ha (pe_glob (v := .ref q) hg h1 rfl hd) rfl) fun s H Q h => rd_dcNi (b_of h)
theorem e_dcIx {b : Expr} {m : SE} {p pos : Pos} (D : DcK X.K X.w X.mg x kvs) (hg : Gl X x) (hd : (x == ("__debug__" : Str)) = false) (hb : EOk X W b m) (hs : PlainIx b) : EOk X W (.Subscript (.Name x p) b pos) (mUn (dcIx kvs) m) := by
  obtain ⟨q, l, n, h1, h2, h3, h4⟩ := D
  refine PE_imp (pe_ix (ix_dc h3 h4) (pe_glob (v := .ref q) hg h1 rfl hd) hb hs) fun s H Q h => ?_
  exact rd_dc (a := q) (R := rDcIx kvs) (g := fun k => (dcFind kvs k).map kI) (fun u S => by unfold dcIx; cases dKey u with
    | none => rfl
    | some k => simp only [Option.bind_some, Option.map_map]; rfl) (fun k v H1 e h => by
      cases ef : dcFind kvs k with
      | none => rw [ef] at e; cases e
      | some z => rw [ef] at e; cases e; exact ⟨z, ef, h _ fun _ _ => rel_kI z⟩) h
theorem e_dcGet {e : Expr} {m : SE} {p apos cpos : Pos} (D : DcK X.K X.w X.mg x kvs) (hg : Gl X x) (hd : (x == ("__debug__" : Str)) = false) (he : EOk X W e m) (M : M1 X (.Name x p) "get" apos e cpos) : EOk X W (.Call (.Attribute (.Name x p) "get" apos) [e] [] cpos) (mUn (dcGet kvs) m) := by
  obtain ⟨a, l, n, h1, low, hl, r⟩ := D
  refine ⟨fun pins s σ H Q I h => ?_⟩
  have h' : tI X W m σ H fun x H1 => ∃ k, x = kV k ∧ Q (((dcFind kvs k).map kV).getD .non) H1 := by
    obtain ⟨r, t, S, hs, R0, h⟩ := h
    refine rd_E hs R0 (Aft.bind h) fun r1 u S1 H1 x e1 R1 hs1 hu ⟨_, _, h1⟩ => ?_
    unfold dcGet at h1
    cases ek : dKey u with
    | none => rw [ek] at h1; exact h1.elim
    | some k =>
      rw [ek] at h1
      refine ⟨k, dKey_rel hu ek, h1 r1 H1 .refl R1 _ ?_⟩
      cases dcFind kvs k with
      | none => exact .non
      | some z => exact rel_kI z
  refine wpAny_Call_method M.base M.few M.line PySem.F.plainAttrs_dict PySem.F.slot_dict_get PySem.F.type_dict_get (thn ((pe_glob (v := .ref a) hg h1 rfl hd).run pins s σ H (fun v H1 => v = .ref a ∧ H1 = H) I ⟨rfl, rfl⟩) fun u s1 ⟨x, H1, I1, rx, ex, eH⟩ => ?_)
  subst ex eH
  obtain rfl : u = Value.ref a := rx
  have hm := r.mapOf (P := X.prog) I1.kIn hl
  refine ⟨hm.typeIs, hm.noDict, ?_⟩
  rw [M.trees]
  refine Calls.callWith_builtin rfl (Calls.evalArgs_plain (Calls.spliced_cons (thn (he.run pins s1 σ H1 _ I1 h') fun iv s2 ⟨y, H2, I2, ry, k, ey, q2⟩ => Calls.spliced_nil ?_)))
  subst ey
  have hm2 := r.mapOf (P := X.prog) I2.kIn hl
  refine call_meetsIn PySem.F.slot_dict_get hm2.typeIs PySem.F.entry_dict_get (PySem.F.args_dict_get_2 _ _) (meets_dict_get (mixKind X.prog X.w) a (kV_is ry) low) ⟨_, hm2, ?_⟩
  have f := r.find (P := X.prog) k
  cases e : dcFind kvs k with
  | none => rw [e] at f q2; exact ⟨_, H2, I2.tok _, by rw [f]; rfl, q2⟩
  | some z => rw [e] at f q2; obtain ⟨u0, f, ru⟩ := f; exact ⟨_, H2, I2.tok _, by rw [f]; exact ru, q2⟩
end
end IP
namespace IP
open PySem PySem.Spec PyProof.Rows L2
/-! ### {k: v} -/
def dispEnd (i : Nat) (x y : IV) (S : Sto) : Option (IV × Sto) := match dKey x, S[i]? with
  | some k, some (.dct []) => some (.ref i, S.set i (.dct [(k, y)]))
  | _, _ => none
def mDisp1 (a b : SE) : SE := fun t S => (a t (S ++ [.dct []])).bind fun x S1 => (b t S1).bind fun y S2 => R.ofO (dispEnd S.length x y S2)
section
variable {X : Cx} {W : WX}
theorem e_disp1 {ka va : Expr} {mk mv : SE} {pos : Pos} (hk : EOk X W ka mk) (hv : EOk X W va mv) : EOk X W (.Dict [some ka] [va] pos) (mDisp1 mk mv) :=
  PE_imp (pe_disp (pps_cons hk hv pps_nil) rfl rfl (by simp) (by simp)) fun s H Q ⟨r, t, S, hs, R, h⟩ => fun p hp => by
    obtain ⟨x, R', at_⟩ := R.alloc (u := .dK []) (o := .dct []) hp fun x => ⟨[], upd_same, .nil⟩
    have h2 := Aft.mono h x fun r2 a S2 H2 e2 R2 q => q
    refine rd_E (hs.mono R x) R' (Aft.bind h2) fun r1 u S1 H1 w1 e1 R1 hs1 hu ⟨_, _, h3⟩ => ?_
    refine rd_E hs1 R1 (Aft.bind h3) fun r3 y S3 H3 w3 e3 R3 hs3 hy ⟨_, _, h4⟩ => ?_
    unfold dispEnd at h4
    split at h4
    · rename_i k k1 k2
      have a3 : r3[S.length]? = some p := by
        obtain ⟨t1, q1⟩ := e1.pre
        obtain ⟨t3, q3⟩ := e3.pre
        rw [q3, q1]
        have hl := (List.getElem?_eq_some_iff.mp at_).1
        rw [List.getElem?_append_left (by rw [List.length_append]; omega), List.getElem?_append_left hl]
        exact at_
      obtain ⟨ws, d1, d2⟩ := R3.obj S.length (.dct []) p k2 a3
      cases d2
      have hx : w1 = kV k := dKey_rel (hu.mono R1 e3) k1
      subst hx
      refine ⟨d1, [(k, w3)], rfl, by simp, ?_⟩
      exact Gives.setO R3 (aft_ofO h4) a3 (fun x4 => ⟨[(k, w3)], upd_same, .cons (hy.mono R3 x4) .nil⟩) (VR.ref a3)
    · exact h4.elim
end
end IP

/-! IPyH: from the text to the evaluator's pieces, with its soundness. -/
namespace IP
open PySem PySem.Spec PyProof.Rows L2

/-- names by place, their kinds, which cells are made here -/
structure Cc where
  N : List Str
  names : List (Str × NameKind)
  fnc : Str → Bool

/-- what the module's names are: defs (parameters, evaluator), constants, built-ins that no one writes over -/
structure Tb where
  fn : List (Str × Nat × FN)
  gv : List (Str × IV)
  nb : List Str
  dc : List (Str × List (Key × Key))
  hk : (Expr → Option SE) → Cc → Expr → Option SE
  xc : List Str

/-- expressions that are taken as they stand: a rule of its own, where nothing of the evaluator's form serves -/
def HkOk (P : Program) (w : World) (K : PySem.W.Frag) (mg : Str → Option Value) (base : Heap) (k : Nat) (hk : (Expr → Option SE) → Cc → Expr → Option SE) : Prop :=
  ∀ (X : Cx) (W : WX) (cc : Cc) (E : Expr → Option SE) (e : Expr) (m : SE), X.prog = P → X.w = w → X.K = K → X.mg = mg → X.base = base → Gd X W → X.N = cc.N → X.env.scope.names = cc.names → X.env.scope.kind = .function → Room k X.A →
    (∀ x, cc.names.lookup x = some .globalImplicit → Gl X x) → (∀ e m, E e = some m → EOk X W e m) → hk E cc e = some m → EOk X W e m
def hkNo : (Expr → Option SE) → Cc → Expr → Option SE := fun _ _ _ => none

/-- a class of exceptions of the module's own, made with a text and raised -/
def XcK (K : PySem.W.Frag) (mg : Str → Option Value) (x : Str) : Prop := (x == ("__debug__" : Str)) = false ∧ ∃ (C : Addr) (bmB : List Value) (B newId initId : String), ExcBaseFacts B newId initId bmB ∧ PySem.W.excIn K C bmB newId = true ∧ mg x = some (.ref C) ∧
  PySem.W.keepIn K (.ref C) = true ∧ PySem.W.subIn K (.ref C) (.type "BaseException") = some true ∧ PySem.W.typeIn K (.ref C) = some (.type "type")
structure TabOk (P : Program) (w : World) (K : PySem.W.Frag) (mg : Str → Option Value) (base : Heap) (T : Tb) (k : Nat) : Prop where
  fns : ∀ x n F, T.fn.lookup x = some (n, F) → DefOk P w K mg base x F n k
  gvs : ∀ x v, T.gv.lookup x = some v → ∃ u w', mg x = some u ∧ RelV w' u ∧ ∀ r H, VR K mg r H v w'
  nbs : ∀ x, x ∈ T.nb → mg x = none
  dcs : ∀ x kvs, T.dc.lookup x = some kvs → DcK K w mg x kvs
  hks : HkOk P w K mg base k T.hk
  xcs : ∀ x, x ∈ T.xc → XcK K mg x

structure CxOk (T : Tb) (k : Nat) (cc : Cc) (X : Cx) (W : WX) : Prop where
  gd : Gd X W
  n : X.N = cc.N
  nm : X.env.scope.names = cc.names
  kd : X.env.scope.kind = .function
  fc : ∀ x, cc.fnc x = true → X.fn x = true
  rm : Room k X.A
  tb : TabOk X.prog X.w X.K X.mg X.base T k

def ixOf (x : Str) : List Str → Option Nat
  | [] => none
  | y :: ys => if y = x then some 0 else (ixOf x ys).map (· + 1)
theorem ixOf_ok {x : Str} : ∀ {N : List Str} {i : Nat}, ixOf x N = some i → N[i]? = some x
  | [], _, e => by cases e
  | y :: ys, i, e => by
    simp only [ixOf] at e
    split at e
    · rename_i h; cases e; simp [h]
    · simp only [Option.map_eq_some_iff] at e
      obtain ⟨j, e1, e2⟩ := e
      subst e2
      simpa using ixOf_ok e1

def opF : Operator → Option O2
  | .Add => some iAdd | .Sub => some iSub | .Mult => some iMul | .FloorDiv => some iFdiv | .Mod => some iMod | .Pow => some iPow | .LShift => some iShl | .RShift => some iShr | .BitAnd => some iAnd
  | _ => none
theorem opF_ok {X : Cx} {op : Operator} {f : O2} (e : opF op = some f) : Op2Ok X (binaryOp op) f := by
  cases op <;> simp only [opF] at e <;> cases e
  · exact o_add
  · exact o_sub
  · exact o_mul
  · exact o_mod
  · exact o_pow
  · exact o_shl
  · exact o_shr
  · exact o_and
  · exact o_fdiv
def cmpF : CmpOp → O2
  | .Eq => iEq | .NotEq => iNe | .Lt => iLt | .LtE => iLe | .Gt => iGt | .GtE => iGe | .Is => iIs | .IsNot => iIsNot | .In => iIn | .NotIn => iNotIn
theorem cmpF_ok {X : Cx} (hu : X.A.units + 65 < cLine) : ∀ op, Op2Ok X (compareOp op) (cmpF op)
  | .Eq => o_eq (by omega) | .NotEq => o_ne (by omega) | .Lt => o_lt (by omega) | .LtE => o_le | .Gt => o_gt | .GtE => o_ge | .Is => o_is | .IsNot => o_isNot | .In => o_in hu | .NotIn => o_notIn hu

theorem lookup_mem {α : Type} : ∀ {l : List (Str × α)} {x : Str} {v : α}, l.lookup x = some v → (x, v) ∈ l
  | [], _, _, e => by cases e
  | (y, w) :: l, x, v, e => by
    rw [List.lookup_cons] at e
    cases h : x == y with
    | true => rw [h] at e; cases e; rw [beq_iff_eq.mp h]; exact List.mem_cons_self
    | false => rw [h] at e; exact List.mem_cons_of_mem _ (lookup_mem e)
/-- built-in functions: name, whether a type, the name in the model, the evaluator -/
def biL : List (Str × Bool × String × OL) := [("len", false, "len", iLen), ("abs", false, "abs", iAbs), ("max", false, "max", iMax), ("min", false, "min", iMin), ("sum", false, "sum", iSum), ("all", false, "all", iAll), ("any", false, "any", iAny), ("divmod", false, "divmod", iDivmod), ("isinstance", false, "isinstance", iIsinst), ("int", true, "int", iInt), ("str", true, "str", iStr), ("list", true, "list", iList), ("tuple", true, "tuple", iTuple)]
def biF (x : Str) : Option (Bool × String × OL) := biL.lookup x
def BiGood (X : Cx) (x : Str) (b : Bool) (id : String) (f : OL) : Prop :=
  (b = false ∧ CallOk X (.builtin id) f ∧ bootBuiltins x = some (.builtin id) ∨ b = true ∧ CallOk X (.type id) f ∧ bootBuiltins x = some (.type id)) ∧ x ≠ "__name__" ∧ (x == ("__debug__" : Str)) = false
theorem biF_ok {X : Cx} (hc : X.calm = true) (hu0 : X.A.units + 65 < cLine) {x : Str} {b : Bool} {id : String} {f : OL} (e : biF x = some (b, id, f)) : BiGood X x b id f := by
  have h := lookup_mem e
  simp only [biL, List.mem_cons, List.not_mem_nil, or_false, Prod.mk.injEq] at h
  rcases h with ⟨rfl, rfl, rfl, rfl⟩ | ⟨rfl, rfl, rfl, rfl⟩ | ⟨rfl, rfl, rfl, rfl⟩ | ⟨rfl, rfl, rfl, rfl⟩ | ⟨rfl, rfl, rfl, rfl⟩ | ⟨rfl, rfl, rfl, rfl⟩ | ⟨rfl, rfl, rfl, rfl⟩ | ⟨rfl, rfl, rfl, rfl⟩ | ⟨rfl, rfl, rfl, rfl⟩ | ⟨rfl, rfl, rfl, rfl⟩ | ⟨rfl, rfl, rfl, rfl⟩ | ⟨rfl, rfl, rfl, rfl⟩ | ⟨rfl, rfl, rfl, rfl⟩
  · exact ⟨.inl ⟨rfl, c_len, by decide +kernel⟩, by decide, by decide⟩
  · exact ⟨.inl ⟨rfl, c_abs, by decide +kernel⟩, by decide, by decide⟩
  · exact ⟨.inl ⟨rfl, c_max hc, by decide +kernel⟩, by decide, by decide⟩
  · exact ⟨.inl ⟨rfl, c_min hc hu0, by decide +kernel⟩, by decide, by decide⟩
  · exact ⟨.inl ⟨rfl, c_sum hc, by decide +kernel⟩, by decide, by decide⟩
  · exact ⟨.inl ⟨rfl, c_all hc, by decide +kernel⟩, by decide, by decide⟩
  · exact ⟨.inl ⟨rfl, c_any hc, by decide +kernel⟩, by decide, by decide⟩
  · exact ⟨.inl ⟨rfl, c_divmod, by decide +kernel⟩, by decide, by decide⟩
  · exact ⟨.inl ⟨rfl, c_isinst, by decide +kernel⟩, by decide, by decide⟩
  · exact ⟨.inr ⟨rfl, c_int, by decide +kernel⟩, by decide, by decide⟩
  · exact ⟨.inr ⟨rfl, c_str, by decide +kernel⟩, by decide, by decide⟩
  · exact ⟨.inr ⟨rfl, c_list, by decide +kernel⟩, by decide, by decide⟩
  · exact ⟨.inr ⟨rfl, c_tuple, by decide +kernel⟩, by decide, by decide⟩
/-- built-in types as values -/
def tyL : List (Str × String) := [("int", "int"), ("bool", "bool"), ("str", "str"), ("list", "list"), ("tuple", "tuple"), ("dict", "dict")]
def tyF (x : Str) : Option String := tyL.lookup x
theorem tyF_ok {x : Str} {n : String} (e : tyF x = some n) : bootBuiltins x = some (.type n) ∧ x ≠ "__name__" ∧ (x == ("__debug__" : Str)) = false := by
  have h := lookup_mem e
  simp only [tyL, List.mem_cons, List.not_mem_nil, or_false, Prod.mk.injEq] at h
  rcases h with ⟨rfl, rfl⟩ | ⟨rfl, rfl⟩ | ⟨rfl, rfl⟩ | ⟨rfl, rfl⟩ | ⟨rfl, rfl⟩ | ⟨rfl, rfl⟩ <;> exact ⟨by decide +kernel, by decide, by decide⟩

/-- methods of built-in types: type, name in the model, evaluator -/
structure MtD (X : Cx) (name : Str) (T id : String) (f : OM) : Prop where
  pa : PlainAttrs T
  slot : Slot T name id
  hty : typeOf (.builtin id) = pure (.type "method_descriptor")
  hm : MtOk X id f
def mtL : List (Str × String × String × OM) := [("append", "list", "list.append", mAppend), ("extend", "list", "list.extend", mExtend), ("pop", "list", "list.pop", mPop), ("clear", "list", "list.clear", mClear), ("insert", "list", "list.insert", mInsert), ("index", "list", "list.index", mIndex), ("find", "str", "str.find", mFind), ("startswith", "str", "str.startswith", mStartswith), ("endswith", "str", "str.endswith", mEndswith), ("partition", "str", "str.partition", mPartition), ("split", "str", "str.split", mSplit), ("join", "str", "str.join", mJoin), ("upper", "str", "str.upper", mUpper), ("get", "dict", "dict.get", mGet)]
def mtF (x : Str) : Option (String × String × OM) := mtL.lookup x
theorem mtF_ok {X : Cx} (hu : X.A.units + 65 < cLine) {x : Str} {T id : String} {f : OM} (e : mtF x = some (T, id, f)) : MtD X x T id f := by
  have h := lookup_mem e
  simp only [mtL, List.mem_cons, List.not_mem_nil, or_false, Prod.mk.injEq] at h
  rcases h with ⟨rfl, rfl, rfl, rfl⟩ | ⟨rfl, rfl, rfl, rfl⟩ | ⟨rfl, rfl, rfl, rfl⟩ | ⟨rfl, rfl, rfl, rfl⟩ | ⟨rfl, rfl, rfl, rfl⟩ | ⟨rfl, rfl, rfl, rfl⟩ | ⟨rfl, rfl, rfl, rfl⟩ | ⟨rfl, rfl, rfl, rfl⟩ | ⟨rfl, rfl, rfl, rfl⟩ | ⟨rfl, rfl, rfl, rfl⟩ | ⟨rfl, rfl, rfl, rfl⟩ | ⟨rfl, rfl, rfl, rfl⟩ | ⟨rfl, rfl, rfl, rfl⟩ | ⟨rfl, rfl, rfl, rfl⟩
  · exact ⟨F.plainAttrs_list, F.slot_list_append, F.type_list_append, m_append⟩
  · exact ⟨F.plainAttrs_list, F.slot_list_extend, F.type_list_extend, m_extend⟩
  · exact ⟨F.plainAttrs_list, F.slot_list_pop, F.type_list_pop, m_pop⟩
  · exact ⟨F.plainAttrs_list, F.slot_list_clear, F.type_list_clear, m_clear⟩
  · exact ⟨F.plainAttrs_list, F.slot_list_insert, F.type_list_insert, m_insert⟩
  · exact ⟨F.plainAttrs_list, F.slot_list_index, F.type_list_index, m_index⟩
  · exact ⟨F.plainAttrs_str, F.slot_str_find, F.type_str_find, m_find⟩
  · exact ⟨F.plainAttrs_str, F.slot_str_startswith, F.type_str_startswith, m_startswith⟩
  · exact ⟨F.plainAttrs_str, F.slot_str_endswith, F.type_str_endswith, m_endswith⟩
  · exact ⟨F.plainAttrs_str, F.slot_str_partition, F.type_str_partition, m_partition⟩
  · exact ⟨F.plainAttrs_str, F.slot_str_split, F.type_str_split, m_split⟩
  · exact ⟨F.plainAttrs_str, F.slot_str_join, F.type_str_join, m_join⟩
  · exact ⟨F.plainAttrs_str, F.slot_str_upper, F.type_str_upper, m_upper⟩
  · exact ⟨F.plainAttrs_dict, F.slot_dict_get, F.type_dict_get, m_get (by omega)⟩

/-! ### the text's form -/
def noStar : Expr → Bool
  | .Starred _ _ => false
  | _ => true
theorem star_ok {e : Expr} {es : List Expr} {env : Env} (h : noStar e = true) : starEach (e :: es) env = (false, eval e env) :: starEach es env := by
  cases e <;> first | rfl | (simp [noStar] at h)
theorem stars_plain {pos : Pos} {env : Env} : ∀ {es : List Expr}, es.all noStar = true → (backTo pos (starEach es env)).any (·.1) = false
  | [], _ => rfl
  | e :: es, h => by
    rw [List.all_cons, Bool.and_eq_true] at h
    rw [star_ok h.1]
    show (false || (backTo pos (starEach es env)).any (·.1)) = false
    rw [stars_plain h.2]; rfl
theorem stars_few {pos : Pos} {env : Env} : ∀ {es : List Expr}, es.all noStar = true → (backTo pos (starEach es env)).all (fun x => !x.1) = true
  | [], _ => rfl
  | e :: es, h => by
    rw [List.all_cons, Bool.and_eq_true] at h
    rw [star_ok h.1]
    show (!false && (backTo pos (starEach es env)).all (fun x => !x.1)) = true
    rw [stars_few h.2]; rfl
def noSet : Expr → Bool
  | .Set _ _ _ => false
  | _ => true
theorem behind_ok {op : CmpOp} {e : Expr} (h : noSet e = true) : behindInMarks op e = false := by
  cases e <;> first | rfl | (simp [noSet] at h)
theorem folded_ok {e : Expr} {env : Env} (h : noSet e = true) : ∀ x, foldedSetIterable e env x = pure x := fun x => by
  cases e <;> first | rfl | (simp [noSet] at h)
theorem lastm_ok {op op' : CmpOp} {b c : Expr} (h : noSet c = true) : lastMarks [op, op'] [b, c] = false := by
  show behindInMarks op' c = false
  exact behind_ok h
def noSlice : Expr → Bool
  | .Slice _ _ _ _ => false
  | _ => true
theorem plainIx_ok {e : Expr} (h : noSlice e = true) : PlainIx e := fun o i => by
  cases e <;> first | rfl | (simp [noSlice] at h)
/-- nothing like super() -/
def noSuper : Expr → Bool
  | .Call (.Name _ _) [] [] _ => false
  | _ => true
theorem base_ok {o : Expr} {a : Str} {env : Env} {w : Sem Value} (h : noSuper o = true) : attributeBase o a env w = w := by
  unfold attributeBase
  split
  · simp [noSuper] at h
  · rfl
/-- an expression whose test is the truth of its value -/
def truForm : Expr → Bool
  | .UnaryOp .Not _ _ | .BoolOp _ _ _ | .IfExp _ _ _ _ | .Compare _ _ _ _ => false
  | _ => true
theorem tru_form {e : Expr} {env : Env} (h : truForm e = true) : ∀ whole, isTrue e env whole = (do let v ← whole; standAt e.pos; holding [v] (truthy v)) := fun whole => by
  cases e <;> first | rfl | (simp [truForm] at h; done) | skip
  rename_i op x p
  cases op <;> first | rfl | (simp [truForm] at h)
end IP

/-! IPyI: from the text to the evaluator: expressions. -/
namespace IP
open PySem PySem.Spec PyProof.Rows L2

structure Den where
  E : Cc → Expr → Option SE
  B : Cc → Expr → Option SB

def denA (E : Expr → Option SE) : List Expr → Option SA
  | [] => some mNil
  | e :: es => if noStar e then match E e, denA E es with
    | some a, some b => some (mCons a b)
    | _, _ => none else none
def denAnd (E : Expr → Option SE) : List Expr → Option SE
  | [] => none
  | [a] => E a
  | a :: b :: r => match E a, denAnd E (b :: r) with
    | some x, some y => some (mAnd x y)
    | _, _ => none
def denOr (E : Expr → Option SE) : List Expr → Option SE
  | [] => none
  | [a] => E a
  | a :: b :: r => match E a, denOr E (b :: r) with
    | some x, some y => some (mOr x y)
    | _, _ => none
def denAndT (E : Expr → Option SB) : List Expr → Option SB
  | [] => none
  | [a] => E a
  | a :: b :: r => match E a, denAndT E (b :: r) with
    | some x, some y => some (mAndT x y)
    | _, _ => none
def denOrT (E : Expr → Option SB) : List Expr → Option SB
  | [] => none
  | [a] => E a
  | a :: b :: r => match E a, denOrT E (b :: r) with
    | some x, some y => some (mOrT x y)
    | _, _ => none
def denO (E : Expr → Option SE) : Option Expr → Option SO'
  | none => some pNone
  | some e => (E e).map pSome
def denTg (cc : Cc) : Nat → Expr → Option Tg
  | 0, _ => none
  | n + 1, e => match e with
    | .Name x _ => match cc.names.lookup x with
      | some .local => (ixOf x cc.N).map .nm
      | some .cell => if cc.fnc x then (ixOf x cc.N).map .nm else none
      | _ => none
    | .Tuple es _ _ => if es.all noStar then (mapO (denTg cc n) es).map .tu else none
    | _ => none
def denIfs (B : Expr → Option SB) : List Expr → Option SB
  | [] => some bYes
  | [c] => B c
  | _ => none
def glob (T : Tb) (cc : Cc) (x : Str) : Bool := cc.names.lookup x == some .globalImplicit && T.nb.contains x
def isTup : Expr → Bool
  | .Tuple _ _ _ => true
  | _ => false
def denIc (T : Tb) (E : Expr → Option SE) (x : Str) (es : List Expr) (tg : Expr) : Option (Option SI) :=
  if x = "range" then some (match es with
    | [_] => (denA E es).map iRange1
    | [_, _] => (denA E es).map iRange2
    | [_, _, _] => (denA E es).map iRange3
    | _ => none)
  else if x = "enumerate" then some (match es with
    | [_] => if isTup tg then (denA E es).map iEnumS else none
    | _ => none)
  else if x = "zip" then some (match es with
    | [_, _] => if isTup tg then (denA E es).map iZipS else none
    | _ => none)
  else if x = "reversed" then some (match es with
    | [_] => (denA E es).map iRevS
    | _ => none)
  else none
def denI (T : Tb) (E : Expr → Option SE) (cc : Cc) (tg iter : Expr) : Option SI := match iter with
  | .Call (.Name x _) es [] _ => match (if glob T cc x then denIc T E x es tg else none) with
    | some r => r
    | none => (E iter).map iVal
  | _ => (E iter).map iVal
def ownOf (N : List Str) (scope : Scope) : List (Str × Nat) := scope.names.filterMap fun y => match y.2 with
  | .local | .cell => (ixOf y.1 N).map fun i => (y.1, i)
  | _ => none
def relab (scope : Scope) (names : List (Str × NameKind)) : List (Str × NameKind) := scope.names.map fun (n, k) => if (k == .free && names.lookup n == some .cell) then (n, .cell) else (n, k)
def scOf (cc : Cc) : Scope := { kind := .function, names := cc.names, isGenerator := false, isCoroutine := false }
def blkCc (cc : Cc) (scope : Scope) : Cc := ⟨cc.N, relab scope cc.names, fun x => scope.names.lookup x == some .cell⟩
def denLc (T : Tb) (D : Den) (cc : Cc) (elt tg iter : Expr) (ifs : List Expr) (scope : Scope) : Option SE :=
  if blkC cc.N (scOf cc) scope (ownOf cc.N scope) && noSet iter then
    match denI T (D.E cc) cc tg iter, denTg (blkCc cc scope) 10 tg, denIfs (D.B (blkCc cc scope)) ifs, D.E (blkCc cc scope) elt with
    | some m, some g, some c, some e => if tgIn ((ownOf cc.N scope).map (·.2)) g then some (mLc ((ownOf cc.N scope).map (·.2)) g m c e) else none
    | _, _, _, _ => none
  else none
def badName (x : Str) : Bool := x == ("__debug__" : Str) || x == ("__classdict__" : Str)
def denCall (T : Tb) (E : Expr → Option SE) (cc : Cc) (x : Str) (es : List Expr) : Option SE :=
  if cc.names.lookup x == some .globalImplicit && !badName x && es.all noStar then
    match T.fn.lookup x with
    | some (n, F) => if es.length = n then (denA E es).map (mCall F) else none
    | none => if T.nb.contains x && !es.isEmpty then match biF x with
        | some (_, _, f) => (denA E es).map (mFn f)
        | none => none
      else none
  else none
def denMeth (E : Expr → Option SE) (o : Expr) (name : Str) (es : List Expr) (apos cpos : Pos) : Option SE :=
  if noSuper o && apos.endLine == cpos.line && es.all noStar && decide (es.length < 30) then
    match mtF name, E o, denA E es with
    | some (T, _, f), some mo, some ma => some (mMt T f mo ma)
    | _, _, _ => none
  else none
/-- a name of the module that holds a written dict -/
def dcName (T : Tb) (cc : Cc) (e : Expr) : Option (Str × List (Key × Key)) := match e with
  | .Name x _ => if !badName x && cc.names.lookup x == some .globalImplicit then (T.dc.lookup x).map fun kvs => (x, kvs) else none
  | _ => none
def dcOp (T : Tb) (cc : Cc) (op : CmpOp) (b : Expr) : Option O1 := match dcName T cc b with
  | some (_, kvs) => match op with
    | .In => some (dcIn kvs)
    | .NotIn => some (dcNi kvs)
    | _ => none
  | none => none
def dcMt (T : Tb) (cc : Cc) (E : Expr → Option SE) (o : Expr) (name : Str) (es : List Expr) (apos cpos : Pos) : Option (Option SE) := match dcName T cc o with
  | some (_, kvs) => some (match es with
    | [e] => if decide (name = "get") && apos.endLine == cpos.line && noStar e then (E e).map (mUn (dcGet kvs)) else none
    | _ => none)
  | none => none
def stepE0 (T : Tb) (D : Den) (cc : Cc) (e : Expr) : Option SE := match e with
  | .Name x _ => if badName x then none else match cc.names.lookup x with
    | some .globalImplicit => match T.gv.lookup x with
      | some v => some (mC v)
      | none => if T.nb.contains x then (tyF x).map fun n => mC (.ty n) else none
    | some .local => (ixOf x cc.N).map mVar
    | some .cell => (ixOf x cc.N).map mVar
    | some .free => (ixOf x cc.N).map mVar
    | _ => none
  | .Constant c _ _ => match c with
    | .int i => some (mC (.int i))
    | .bool b => some (mC (.bl b))
    | .str x => some (mC (.str x))
    | .none => some (mC .non)
    | _ => none
  | .BinOp a op b _ => match opF op, D.E cc a, D.E cc b with
    | some f, some x, some y => some (mBin f x y)
    | _, _, _ => none
  | .UnaryOp .Not a _ => (D.E cc a).map mNot
  | .UnaryOp .USub a _ => (D.E cc a).map (mUn iNeg)
  | .Compare a [op] [b] _ => match dcOp T cc op b with
    | some f => (D.E cc a).map (mUn f)
    | none => if noSet b then match D.E cc a, D.E cc b with
      | some x, some y => some (mBin (cmpF op) x y)
      | _, _ => none else none
  | .Compare a [op, op'] [b, c] _ => if noSet c then match D.E cc a, D.E cc b, D.E cc c with
    | some x, some y, some z => some (mChain (cmpF op) (cmpF op') x y z)
    | _, _, _ => none else none
  | .BoolOp .And es _ => denAnd (D.E cc) es
  | .BoolOp .Or es _ => denOr (D.E cc) es
  | .IfExp c a b _ => match D.B cc c, D.E cc a, D.E cc b with
    | some x, some y, some z => some (mIf x y z)
    | _, _, _ => none
  | .Tuple es _ _ => (denA (D.E cc) es).map mTup
  | .List es _ => (denA (D.E cc) es).map mLst
  | .Dict [] [] _ => some mDisp0
  | .Dict [some ka] [va] _ => match D.E cc ka, D.E cc va with
    | some x, some y => some (mDisp1 x y)
    | _, _ => none
  | .Subscript a (.Slice lo hi none _) _ => match D.E cc a, denO (D.E cc) lo, denO (D.E cc) hi with
    | some x, some y, some z => some (mSl x y z)
    | _, _, _ => none
  | .Subscript a b _ => if noSlice b then match dcName T cc a with
    | some (_, kvs) => (D.E cc b).map (mUn (dcIx kvs))
    | none => match D.E cc a, D.E cc b with
      | some x, some y => some (mBin iIx x y)
      | _, _ => none else none
  | .Call (.Name x _) es [] _ => denCall T (D.E cc) cc x es
  | .Call (.Attribute o name apos) es [] cpos => match dcMt T cc (D.E cc) o name es apos cpos with
    | some r => r
    | none => denMeth (D.E cc) o name es apos cpos
  | .ListComp elt [⟨tg, iter, ifs, k⟩] scope _ => if k = 0 then denLc T D cc elt tg iter ifs scope else none
  | _ => none
def stepE (T : Tb) (D : Den) (cc : Cc) (e : Expr) : Option SE := match T.hk (D.E cc) cc e with
  | some m => some m
  | none => stepE0 T D cc e
def stepB (T : Tb) (D : Den) (cc : Cc) (e : Expr) : Option SB := match e with
  | .UnaryOp .Not a _ => (D.B cc a).map mNotT
  | .Compare a [op] [b] _ => match dcOp T cc op b with
    | some f => (D.E cc a).map fun x => mB (mUn f x)
    | none => if noSet b then match D.E cc a, D.E cc b with
      | some x, some y => some (mB (mBin (cmpF op) x y))
      | _, _ => none else none
  | .Compare a [op, op'] [b, c] _ => if noSet c then match D.E cc a, D.E cc b, D.E cc c with
    | some x, some y, some z => some (mB (mChain (cmpF op) (cmpF op') x y z))
    | _, _, _ => none else none
  | .BoolOp .And es _ => denAndT (D.B cc) es
  | .BoolOp .Or es _ => denOrT (D.B cc) es
  | e => if truForm e then (D.E cc e).map mTru else none
def den (T : Tb) : Nat → Den
  | 0 => ⟨fun _ _ => none, fun _ _ => none⟩
  | n + 1 => ⟨stepE T (den T n), stepB T (den T n)⟩

structure DenOk (T : Tb) (k : Nat) (D : Den) : Prop where
  E : ∀ {cc X W e m}, CxOk T k cc X W → D.E cc e = some m → EOk X W e m
  B : ∀ {cc X W e m}, CxOk T k cc X W → D.B cc e = some m → BOk X W e m

section
variable {T : Tb} {k : Nat} {D : Den} {cc : Cc} {X : Cx} {W : WX}
theorem denA_ok {E : Expr → Option SE} (hE : ∀ {e m}, E e = some m → EOk X W e m) : ∀ {es : List Expr} {m : SA}, denA E es = some m → AOk X W es m ∧ es.all noStar = true ∧ ∀ t S xs S', m t S = .ok xs S' → xs.length = es.length
  | [], m, h => by
    simp only [denA] at h; cases h
    exact ⟨a_nil, rfl, fun t S xs S' e => by cases e; rfl⟩
  | e :: es, m, h => by
    simp only [denA] at h
    split at h
    · rename_i hn
      split at h
      · rename_i a b ha hb
        cases h
        obtain ⟨h1, h2, h3⟩ := denA_ok hE hb
        refine ⟨a_cons (hE ha) h1 (star_ok hn), by rw [List.all_cons, hn, h2]; rfl, fun t S xs S' e => ?_⟩
        unfold mCons at e
        cases ea : a t S with
        | no => rw [ea] at e; cases e
        | ex c fs S1 => rw [ea] at e; cases e
        | ok v S1 =>
          rw [ea] at e
          cases eb : b t S1 with
          | no => simp only [R.bind, eb] at e; cases e
          | ex c fs S1 => simp only [R.bind, eb] at e; cases e
          | ok vs S2 =>
            simp only [R.bind, eb] at e
            cases e
            rw [List.length_cons, List.length_cons, h3 _ _ _ _ eb]
      · cases h
    · cases h
theorem denAnd_ok {E : Expr → Option SE} (hE : ∀ {e m}, E e = some m → EOk X W e m) {pos : Pos} : ∀ {es : List Expr} {m : SE}, denAnd E es = some m → EOk X W (.BoolOp .And es pos) m
  | [], m, h => by simp only [denAnd] at h; cases h
  | [a], m, h => e_one (hE h)
  | a :: b :: r, m, h => by
    simp only [denAnd] at h
    split at h
    · rename_i x y hx hy; cases h; exact e_and (hE hx) (denAnd_ok hE hy)
    · cases h
theorem denOr_ok {E : Expr → Option SE} (hE : ∀ {e m}, E e = some m → EOk X W e m) {pos : Pos} : ∀ {es : List Expr} {m : SE}, denOr E es = some m → EOk X W (.BoolOp .Or es pos) m
  | [], m, h => by simp only [denOr] at h; cases h
  | [a], m, h => e_one (hE h)
  | a :: b :: r, m, h => by
    simp only [denOr] at h
    split at h
    · rename_i x y hx hy; cases h; exact e_or (hE hx) (denOr_ok hE hy)
    · cases h
theorem denAndT_ok {E : Expr → Option SB} (hE : ∀ {e m}, E e = some m → BOk X W e m) {pos : Pos} : ∀ {es : List Expr} {m : SB}, denAndT E es = some m → PW X (.BoolOp .And es pos) (tIB X W m)
  | [], m, h => by simp only [denAndT] at h; cases h
  | [a], m, h => w_and1 (hE h)
  | a :: b :: r, m, h => by
    simp only [denAndT] at h
    split at h
    · rename_i x y hx hy; cases h; exact w_and (hE hx) (denAndT_ok hE hy)
    · cases h
theorem denOrT_ok {E : Expr → Option SB} (hE : ∀ {e m}, E e = some m → BOk X W e m) {pos : Pos} : ∀ {es : List Expr} {m : SB}, denOrT E es = some m → PW X (.BoolOp .Or es pos) (tIB X W m)
  | [], m, h => by simp only [denOrT] at h; cases h
  | [a], m, h => w_or1 (hE h)
  | a :: b :: r, m, h => by
    simp only [denOrT] at h
    split at h
    · rename_i x y hx hy; cases h; exact w_or (hE hx) (denOrT_ok hE hy)
    · cases h
theorem denO_ok {E : Expr → Option SE} (hE : ∀ {e m}, E e = some m → EOk X W e m) {o : Option Expr} {m : SO'} (h : denO E o = some m) : POk X W o m := by
  cases o with
  | none => simp only [denO] at h; cases h; exact p_none
  | some e =>
    simp only [denO, Option.map_eq_some_iff] at h
    obtain ⟨a, h1, h2⟩ := h
    subst h2
    exact p_some (hE h1)
theorem each_tg {env : Env} {e : Expr} {es : List Expr} (h : noStar e = true) : assignEach (e :: es) env = (false, assign e env) :: assignEach es env := by
  cases e <;> first | rfl | (simp [noStar] at h)
theorem each_find {env : Env} : ∀ {es : List Expr}, es.all noStar = true → (assignEach es env).findIdx? (·.1) = none
  | [], _ => rfl
  | e :: es, h => by
    rw [List.all_cons, Bool.and_eq_true] at h
    rw [each_tg h.1, List.findIdx?_cons, each_find h.2]; rfl
theorem each_len {env : Env} : ∀ {es : List Expr}, es.all noStar = true → (assignEach es env).length = es.length
  | [], _ => rfl
  | e :: es, h => by
    rw [List.all_cons, Bool.and_eq_true] at h
    rw [each_tg h.1, List.length_cons, List.length_cons, each_len h.2]
theorem mapO_len {α β : Type} {f : α → Option β} : ∀ {xs : List α} {ys : List β}, mapO f xs = some ys → ys.length = xs.length
  | [], _, e => by simp only [mapO] at e; cases e; rfl
  | x :: xs, ys, e => by
    simp only [mapO] at e
    split at e
    · cases e
    · split at e
      · cases e
      · rename_i h2; cases e; rw [List.length_cons, List.length_cons, mapO_len h2]
theorem denTgs_ok {f : Expr → Option Tg} (hf : ∀ {e g}, f e = some g → TgOk X e g) : ∀ {es : List Expr} {gs : List Tg}, es.all noStar = true → mapO f es = some gs → TgsOk X es gs
  | [], _, _, e => by simp only [mapO] at e; cases e; exact tgs_nil
  | x :: xs, _, hn, e => by
    rw [List.all_cons, Bool.and_eq_true] at hn
    simp only [mapO] at e
    split at e
    · cases e
    · rename_i y h1
      split at e
      · cases e
      · rename_i ys h2
        cases e
        exact tgs_cons (hf h1) (denTgs_ok hf hn.2 h2) (by rw [each_tg hn.1]; rfl)
theorem denTg_ok (hn : X.N = cc.N) (hm : X.env.scope.names = cc.names) (hf : ∀ x, cc.fnc x = true → X.fn x = true) (nd : X.N.Nodup) (hc : X.calm = true) : ∀ (n : Nat) {e : Expr} {g : Tg}, denTg cc n e = some g → TgOk X e g
  | 0, _, _, h => by simp only [denTg] at h; cases h
  | n + 1, e, g, h => by
    simp only [denTg] at h
    split at h
    · rename_i x p
      split at h
      · rename_i hk
        simp only [Option.map_eq_some_iff] at h
        obtain ⟨i, h1, h2⟩ := h
        subst h2
        exact tg_nm nd (by rw [hn]; exact ixOf_ok h1) (.inl (by rw [hm]; exact hk)) (.inr (by rw [hm]; exact hk))
      · rename_i hk
        split at h
        · rename_i hx
          simp only [Option.map_eq_some_iff] at h
          obtain ⟨i, h1, h2⟩ := h
          subst h2
          exact tg_nm nd (by rw [hn]; exact ixOf_ok h1) (.inr (by rw [hm]; exact hk)) (.inl (hf x hx))
        · cases h
      · cases h
    · split at h
      · rename_i hs
        simp only [Option.map_eq_some_iff] at h
        obtain ⟨gs, h1, h2⟩ := h
        subst h2
        exact tg_tu hc (denTgs_ok (denTg_ok hn hm hf nd hc n) hs h1) (by rw [each_len hs, mapO_len h1]) (each_find hs)
      · cases h
    · cases h
theorem denIfs_ok {B : Expr → Option SB} (hB : ∀ {e m}, B e = some m → BOk X W e m) {es : List Expr} {m : SB} (h : denIfs B es = some m) : PTs X es (tIB X W m) := by
  unfold denIfs at h
  split at h
  · cases h; exact bs_nil
  · exact bs_one (hB h)
  · cases h
theorem CxOk.gl (C : CxOk T k cc X W) {x : Str} (h : cc.names.lookup x = some .globalImplicit) : Gl X x := by
  show X.env.scope.names.lookup x = some .globalImplicit
  rw [C.nm]; exact h
theorem glob_ok (C : CxOk T k cc X W) {x : Str} (h : glob T cc x = true) : Gl X x ∧ X.mg x = none := by
  unfold glob at h
  rw [Bool.and_eq_true, beq_iff_eq] at h
  exact ⟨C.gl h.1, C.tb.nbs x (by simpa using h.2)⟩
theorem isTup_ok {e : Expr} (h : isTup e = true) : ∃ es k p, e = .Tuple es k p := by
  cases e <;> first | (simp [isTup] at h; done) | exact ⟨_, _, _, rfl⟩
theorem denIc_ok {E : Expr → Option SE} (hE : ∀ {e m}, E e = some m → EOk X W e m) {x : Str} {es : List Expr} {tg : Expr} {m : SI} {p pos : Pos} (hg : Gl X x) (hm : X.mg x = none) (h : denIc T E x es tg = some (some m)) : IOk X W tg (.Call (.Name x p) es [] pos) m := by
  unfold denIc at h
  split at h
  · rename_i hx
    subst hx
    simp only [Option.some.injEq] at h
    split at h
    · simp only [Option.map_eq_some_iff] at h
      obtain ⟨a, h1, h2⟩ := h
      subst h2
      obtain ⟨k1, k2, _⟩ := denA_ok hE h1
      simp only [List.all_cons, List.all_nil, Bool.and_true] at k2
      exact i_range1 hg hm k1 (star_ok k2)
    · simp only [Option.map_eq_some_iff] at h
      obtain ⟨a, h1, h2⟩ := h
      subst h2
      obtain ⟨k1, k2, _⟩ := denA_ok hE h1
      simp only [List.all_cons, List.all_nil, Bool.and_true, Bool.and_eq_true] at k2
      exact i_range2 hg hm k1 (by rw [star_ok k2.1, star_ok k2.2]; rfl) (star_ok k2.2)
    · simp only [Option.map_eq_some_iff] at h
      obtain ⟨a, h1, h2⟩ := h
      subst h2
      obtain ⟨k1, k2, _⟩ := denA_ok hE h1
      rw [List.all_cons, Bool.and_eq_true] at k2
      exact i_range3 hg hm k1 (star_ok k2.1) (stars_plain k2.2)
    · cases h
  · split at h
    · rename_i hx
      subst hx
      simp only [Option.some.injEq] at h
      split at h
      · split at h
        · rename_i ht
          obtain ⟨ts, kk, tp, rfl⟩ := isTup_ok ht
          simp only [Option.map_eq_some_iff] at h
          obtain ⟨a, h1, h2⟩ := h
          subst h2
          obtain ⟨k1, k2, _⟩ := denA_ok hE h1
          simp only [List.all_cons, List.all_nil, Bool.and_true] at k2
          exact i_enum hg hm k1 (star_ok k2)
        · cases h
      · cases h
    · split at h
      · rename_i hx
        subst hx
        simp only [Option.some.injEq] at h
        split at h
        · split at h
          · rename_i ht
            obtain ⟨ts, kk, tp, rfl⟩ := isTup_ok ht
            simp only [Option.map_eq_some_iff] at h
            obtain ⟨a, h1, h2⟩ := h
            subst h2
            obtain ⟨k1, k2, _⟩ := denA_ok hE h1
            rw [List.all_cons, Bool.and_eq_true] at k2
            exact i_zip hg hm k1 (star_ok k2.1) (stars_plain k2.2)
          · cases h
        · cases h
      · split at h
        · rename_i hx
          subst hx
          simp only [Option.some.injEq] at h
          split at h
          · simp only [Option.map_eq_some_iff] at h
            obtain ⟨a, h1, h2⟩ := h
            subst h2
            obtain ⟨k1, k2, _⟩ := denA_ok hE h1
            simp only [List.all_cons, List.all_nil, Bool.and_true] at k2
            exact i_rev hg hm k1 (star_ok k2)
          · cases h
        · cases h
theorem denI_ok (C : CxOk T k cc X W) {E : Expr → Option SE} (hE : ∀ {e m}, E e = some m → EOk X W e m) {tg iter : Expr} {m : SI} (h : denI T E cc tg iter = some m) : IOk X W tg iter m := by
  unfold denI at h
  split at h
  · rename_i x p es pos
    split at h
    · rename_i r hr
      split at hr
      · rename_i hx
        obtain ⟨hg, hm⟩ := glob_ok C hx
        rw [h] at hr
        exact denIc_ok hE hg hm hr
      · cases hr
    · simp only [Option.map_eq_some_iff] at h
      obtain ⟨a, h1, h2⟩ := h
      subst h2
      exact i_val (hE h1)
  · simp only [Option.map_eq_some_iff] at h
    obtain ⟨a, h1, h2⟩ := h
    subst h2
    exact i_val (hE h1)
theorem relab_ok (C : CxOk T k cc X W) (scope : Scope) : (relabel scope X.env).names = relab scope cc.names := by
  unfold relabel relab
  have e : ∀ n, X.env.kindOf n = cc.names.lookup n := fun n => by
    show X.env.scope.names.lookup n = _
    rw [C.nm]
  have e2 : (X.env.scope.kind == .function) = true := by rw [C.kd]; rfl
  simp only [e, e2, Bool.and_true]
theorem CxOk.blk (C : CxOk T k cc X W) {scope : Scope} (hk : scope.kind = .function) (s : Shared) (H : Hp) (a : Addr) (cl : List (Str × Addr)) (fp : List Addr) : CxOk T k (blkCc cc scope) (X.blk s H scope (compEnvC scope cl a X.env) fp) (fun _ _ _ _ => False) where
  gd := ⟨C.gd.calm, C.gd.nd, takes0N, C.gd.un⟩
  n := C.n
  nm := relab_ok C scope
  kd := hk
  fc := fun x h => h
  rm := C.rm
  tb := C.tb
theorem blk_of (C : CxOk T k cc X W) {scope : Scope} {own : List (Str × Nat)} (h : blkC cc.N (scOf cc) scope own = true) : BlkOk X.N X.env.scope scope own := by
  have z := blkOk_by h
  rw [← C.n] at z
  exact ⟨z.kind, z.uniq, z.ix, fun y hy e => by rw [C.nm]; exact z.free y hy e, z.own⟩
theorem denLc_ok (D0 : DenOk T k D) (C : CxOk T k cc X W) {elt tg iter : Expr} {ifs : List Expr} {scope : Scope} {pos : Pos} {m : SE} (h : denLc T D cc elt tg iter ifs scope = some m) : EOk X W (.ListComp elt [⟨tg, iter, ifs, 0⟩] scope pos) m ∧
    ∀ {i : Nat} {y : Str} {py spos : Pos}, X.N[i]? = some y → X.env.scope.names.lookup y = some .local → swapsWith (.ListComp elt [⟨tg, iter, ifs, 0⟩] scope pos) (some (.Name y py)) spos.line X.env = pure true →
      SOk X W (.Assign [.Name y py] (.ListComp elt [⟨tg, iter, ifs, 0⟩] scope pos) spos) (sAsg (.nm i) m) := by
  unfold denLc at h
  split at h
  · rename_i hb
    rw [Bool.and_eq_true] at hb
    split at h
    · rename_i mi g mc me h1 h2 h3 h4
      split at h
      · rename_i hin
        cases h
        have B := blk_of C hb.1
        have hi := denI_ok C (fun h => D0.E C h) h1
        have hg : GBlk X scope tg g := fun s H a cl fp => by
          have C' := C.blk B.kind s H a cl fp
          exact denTg_ok C'.n C'.nm C'.fc C'.gd.nd C'.gd.calm 10 h2
        have hc : BBlk X scope ifs mc := fun s H a cl fp => denIfs_ok (fun h => D0.B (C.blk B.kind s H a cl fp) h) h3
        have he : EBlk X scope elt me := fun s H a cl fp => D0.E (C.blk B.kind s H a cl fp) h4
        exact ⟨e_lc C.gd.calm C.gd.nd hi B hg hc he hin (folded_ok hb.2), fun hy hyl hsw => s_lc C.gd.calm C.gd.nd hy hyl hsw hi B hg hc he hin (folded_ok hb.2)⟩
      · cases h
    · cases h
  · cases h
theorem badName_ok {x : Str} (h : badName x = false) : (x == ("__debug__" : Str)) = false ∧ (x == ("__classdict__" : Str)) = false := by
  unfold badName at h
  rw [Bool.or_eq_false_iff] at h
  exact h
theorem denCall_ok (C : CxOk T k cc X W) {E : Expr → Option SE} (hE : ∀ {e m}, E e = some m → EOk X W e m) {x : Str} {es : List Expr} {m : SE} {p pos : Pos} (h : denCall T E cc x es = some m) : EOk X W (.Call (.Name x p) es [] pos) m := by
  unfold denCall at h
  split at h
  · rename_i hx
    rw [Bool.and_eq_true, Bool.and_eq_true, beq_iff_eq] at hx
    obtain ⟨⟨hx1, hx2⟩, hx3⟩ := hx
    have hx2 : badName x = false := by simpa using hx2
    have hg := C.gl hx1
    split at h
    · rename_i n F hF
      split at h
      · rename_i hn
        simp only [Option.map_eq_some_iff] at h
        obtain ⟨a, h1, h2⟩ := h
        subst h2
        obtain ⟨k1, k2, k3⟩ := denA_ok hE h1
        have DD := C.tb.fns x n F hF
        cases es with
        | nil =>
          simp only [denA] at h1
          cases h1
          simp only [List.length_nil] at hn
          subst hn
          exact e_call0 DD C.gd.tk C.rm hg (badName_ok hx2).1
        | cons e es =>
          rw [List.all_cons, Bool.and_eq_true] at hx3
          exact e_call DD C.gd.tk C.rm hg hn k1 (badName_ok hx2).1 (star_ok hx3.1) (stars_plain hx3.2) (fun t S xs S' e => by rw [k3 t S xs S' e]; exact hn)
      · cases h
    · split at h
      · rename_i hb
        rw [Bool.and_eq_true] at hb
        have hm := C.tb.nbs x (by simpa using hb.1)
        split at h
        · rename_i b id f hf
          simp only [Option.map_eq_some_iff] at h
          obtain ⟨a, h1, h2⟩ := h
          subst h2
          obtain ⟨k1, k2, k3⟩ := denA_ok hE h1
          obtain ⟨g1, g2, g3⟩ := biF_ok (X := X) C.gd.calm C.gd.un hf
          cases es with
          | nil => simp at hb
          | cons e es =>
            rw [List.all_cons, Bool.and_eq_true] at hx3
            rcases g1 with ⟨_, g1, g4⟩ | ⟨_, g1, g4⟩
            · exact e_bi g1 hg hm g4 k1 g2 g3 (star_ok hx3.1) (stars_plain hx3.2)
            · exact e_bt g1 hg hm g4 k1 g2 g3 (star_ok hx3.1) (stars_plain hx3.2)
        · cases h
      · cases h
  · cases h
theorem denMeth_ok (C : CxOk T k cc X W) {E : Expr → Option SE} (hE : ∀ {e m}, E e = some m → EOk X W e m) {o : Expr} {name : Str} {es : List Expr} {apos cpos : Pos} {m : SE} (h : denMeth E o name es apos cpos = some m) : EOk X W (.Call (.Attribute o name apos) es [] cpos) m := by
  unfold denMeth at h
  split at h
  · rename_i hx
    rw [Bool.and_eq_true, Bool.and_eq_true, Bool.and_eq_true] at hx
    obtain ⟨⟨⟨x1, x2⟩, x3⟩, x4⟩ := hx
    split at h
    · rename_i T' id f mo ma h1 h2 h3
      cases h
      have M := mtF_ok (X := X) C.gd.un h1
      obtain ⟨k1, k2, k3⟩ := denA_ok hE h3
      cases es with
      | nil =>
        simp only [denA] at h3
        cases h3
        exact e_mt0 M.pa M.slot M.hty M.hm (hE h2) (base_ok x1) x2
      | cons e es =>
        have x3' := x3
        rw [List.all_cons, Bool.and_eq_true] at x3'
        refine e_mt M.pa M.slot M.hty M.hm (hE h2) k1 (base_ok x1) ?_ x2 (star_ok x3'.1) (stars_plain x3'.2)
        rw [stars_few x3]
        have z : (backToKw cpos (keywordEach [] X.env)).all (fun x => x.1.isSome) = true := rfl
        rw [z]
        simpa using x4
    · cases h
  · cases h
theorem dcName_ok (C : CxOk T k cc X W) {e : Expr} {x : Str} {kvs : List (Key × Key)} (h : dcName T cc e = some (x, kvs)) : ∃ p, e = .Name x p ∧ Gl X x ∧ (x == ("__debug__" : Str)) = false ∧ DcK X.K X.w X.mg x kvs := by
  unfold dcName at h
  split at h
  · rename_i y p
    split at h
    · rename_i hc
      simp only [Bool.and_eq_true, Bool.not_eq_true', beq_iff_eq] at hc
      simp only [Option.map_eq_some_iff] at h
      obtain ⟨k0, h1, h2⟩ := h
      cases h2
      exact ⟨p, rfl, C.gl hc.2, (badName_ok hc.1).1, C.tb.dcs _ _ h1⟩
    · cases h
  · cases h
theorem dcOp_ok (C : CxOk T k cc X W) {op : CmpOp} {a b : Expr} {f : O1} {m : SE} {pos : Pos} (h : dcOp T cc op b = some f) (ha : EOk X W a m) : EOk X W (.Compare a [op] [b] pos) (mUn f m) ∧ BOk X W (.Compare a [op] [b] pos) (mB (mUn f m)) := by
  unfold dcOp at h
  split at h
  · rename_i x kvs hd
    obtain ⟨p, rfl, hg, hb, D⟩ := dcName_ok C hd
    split at h
    · cases h; exact ⟨e_dcIn D hg hb ha, b_dcIn D hg hb ha⟩
    · cases h; exact ⟨e_dcNi D hg hb ha, b_dcNi D hg hb ha⟩
    · cases h
  · cases h
theorem dcMt_ok (C : CxOk T k cc X W) {E : Expr → Option SE} (hE : ∀ {e m}, E e = some m → EOk X W e m) {o : Expr} {name : Str} {es : List Expr} {apos cpos : Pos} {m : SE} (h : dcMt T cc E o name es apos cpos = some (some m)) : EOk X W (.Call (.Attribute o name apos) es [] cpos) m := by
  unfold dcMt at h
  split at h
  · rename_i x kvs hd
    obtain ⟨p, rfl, hg, hb, D⟩ := dcName_ok C hd
    simp only [Option.some.injEq] at h
    split at h
    · rename_i e
      split at h
      · rename_i hc
        simp only [Bool.and_eq_true, decide_eq_true_eq] at hc
        obtain ⟨⟨h1, h2⟩, h3⟩ := hc
        subst h1
        simp only [Option.map_eq_some_iff] at h
        obtain ⟨a, h4, h5⟩ := h
        subst h5
        exact e_dcGet D hg hb (hE h4) ⟨base_ok rfl, by rw [star_ok h3]; rfl, h2, by rw [star_ok h3]; rfl⟩
      · cases h
    · cases h
  · cases h
theorem stepE0_ok (D0 : DenOk T k D) (C : CxOk T k cc X W) {e : Expr} {m : SE} (h : stepE0 T D cc e = some m) : EOk X W e m := by
  have hE : ∀ {e m}, D.E cc e = some m → EOk X W e m := fun h => D0.E C h
  unfold stepE0 at h
  split at h
  · rename_i x p
    split at h
    · cases h
    · rename_i hb
      have hb : badName x = false := by simpa using hb
      split at h
      · rename_i hk
        split at h
        · rename_i v hv
          cases h
          obtain ⟨u, w', h1, h2, h3⟩ := C.tb.gvs x v hv
          exact e_glob (C.gl hk) h1 h2 h3 (badName_ok hb).1
        · split at h
          · rename_i hn
            simp only [Option.map_eq_some_iff] at h
            obtain ⟨n, h1, h2⟩ := h
            subst h2
            obtain ⟨g1, g2, g3⟩ := tyF_ok h1
            exact e_bty (C.gl hk) (C.tb.nbs x (by simpa using hn)) g1 g2 g3
          · cases h
      all_goals first | (cases h; done) | skip
      all_goals (rename_i hk; simp only [Option.map_eq_some_iff] at h; obtain ⟨i, h1, h2⟩ := h; subst h2)
      · exact e_var (by rw [C.n]; exact ixOf_ok h1) (.inl (by rw [C.nm]; exact hk)) (badName_ok hb).1 (badName_ok hb).2
      · exact e_var (by rw [C.n]; exact ixOf_ok h1) (.inr (.inl (by rw [C.nm]; exact hk))) (badName_ok hb).1 (badName_ok hb).2
      · exact e_var (by rw [C.n]; exact ixOf_ok h1) (.inr (.inr (by rw [C.nm]; exact hk))) (badName_ok hb).1 (badName_ok hb).2
  · split at h
    · cases h; exact e_int
    · cases h; exact e_bl
    · cases h; exact e_str
    · cases h; exact e_non
    · cases h
  · split at h
    · rename_i f x y h1 h2 h3; cases h; exact e_bin (opF_ok h1) (hE h2) (hE h3)
    · cases h
  · simp only [Option.map_eq_some_iff] at h
    obtain ⟨a, h1, h2⟩ := h
    subst h2
    exact e_not (hE h1)
  · simp only [Option.map_eq_some_iff] at h
    obtain ⟨a, h1, h2⟩ := h
    subst h2
    exact e_un o_neg (hE h1)
  · split at h
    · rename_i f hf
      simp only [Option.map_eq_some_iff] at h
      obtain ⟨x, h1, h2⟩ := h
      subst h2
      exact (dcOp_ok C hf (hE h1)).1
    · split at h
      · rename_i hs
        split at h
        · rename_i x y h1 h2; cases h; exact e_cmp (cmpF_ok C.gd.un _) (hE h1) (hE h2) (behind_ok hs)
        · cases h
      · cases h
  · split at h
    · rename_i hs
      split at h
      · rename_i x y z h1 h2 h3; cases h; exact e_chain (cmpF_ok C.gd.un _) (cmpF_ok C.gd.un _) (hE h1) (hE h2) (hE h3) (lastm_ok hs)
      · cases h
    · cases h
  · exact denAnd_ok hE h
  · exact denOr_ok hE h
  · split at h
    · rename_i x y z h1 h2 h3; cases h; exact e_if (D0.B C h1) (hE h2) (hE h3)
    · cases h
  · simp only [Option.map_eq_some_iff] at h
    obtain ⟨a, h1, h2⟩ := h
    subst h2
    exact e_tup (denA_ok hE h1).1
  · simp only [Option.map_eq_some_iff] at h
    obtain ⟨a, h1, h2⟩ := h
    subst h2
    exact e_lst (denA_ok hE h1).1
  · cases h; exact e_dict0
  · split at h
    · rename_i x y h1 h2; cases h; exact e_disp1 (hE h1) (hE h2)
    · cases h
  · split at h
    · rename_i x y z h1 h2 h3; cases h; exact e_sl (hE h1) (denO_ok hE h2) (denO_ok hE h3)
    · cases h
  · split at h
    · rename_i hs
      split at h
      · rename_i x kvs hd
        obtain ⟨p, rfl, hg, hb, D⟩ := dcName_ok C hd
        simp only [Option.map_eq_some_iff] at h
        obtain ⟨a, h1, h2⟩ := h
        subst h2
        exact e_dcIx D hg hb (hE h1) (plainIx_ok hs)
      · split at h
        · rename_i x y h1 h2; cases h; exact e_ix (by have := C.gd.un; omega) (hE h1) (hE h2) (plainIx_ok hs)
        · cases h
    · cases h
  · exact denCall_ok C hE h
  · split at h
    · rename_i r hr
      rw [h] at hr
      exact dcMt_ok C hE hr
    · exact denMeth_ok C hE h
  · split at h
    · rename_i hk
      subst hk
      exact (denLc_ok D0 C h).1
    · cases h
  · cases h
theorem stepE_ok (D0 : DenOk T k D) (C : CxOk T k cc X W) {e : Expr} {m : SE} (h : stepE T D cc e = some m) : EOk X W e m := by
  unfold stepE at h
  split at h
  · rename_i m' hm
    cases h
    exact C.tb.hks X W cc (D.E cc) e _ rfl rfl rfl rfl rfl C.gd C.n C.nm C.kd C.rm (fun x hx => C.gl hx) (fun e m h => D0.E C h) hm
  · exact stepE0_ok D0 C h
theorem stepB_ok (D0 : DenOk T k D) (C : CxOk T k cc X W) {e : Expr} {m : SB} (h : stepB T D cc e = some m) : BOk X W e m := by
  have hE : ∀ {e m}, D.E cc e = some m → EOk X W e m := fun h => D0.E C h
  have hB : ∀ {e m}, D.B cc e = some m → BOk X W e m := fun h => D0.B C h
  unfold stepB at h
  split at h
  · simp only [Option.map_eq_some_iff] at h
    obtain ⟨a, h1, h2⟩ := h
    subst h2
    exact b_not (hB h1)
  · split at h
    · rename_i f hf
      simp only [Option.map_eq_some_iff] at h
      obtain ⟨x, h1, h2⟩ := h
      subst h2
      exact (dcOp_ok C hf (hE h1)).2
    · split at h
      · rename_i hs
        split at h
        · rename_i x y h1 h2; cases h; exact b_cmp (cmpF_ok C.gd.un _) (hE h1) (hE h2) (behind_ok hs)
        · cases h
      · cases h
  · split at h
    · rename_i hs
      split at h
      · rename_i x y z h1 h2 h3; cases h; exact b_chain (cmpF_ok C.gd.un _) (cmpF_ok C.gd.un _) (hE h1) (hE h2) (hE h3) (lastm_ok hs)
      · cases h
    · cases h
  · exact (denAndT_ok hB h).pt
  · exact (denOrT_ok hB h).pt
  · split at h
    · rename_i ht
      simp only [Option.map_eq_some_iff] at h
      obtain ⟨a, h1, h2⟩ := h
      subst h2
      exact b_tru (hE h1) (tru_form ht)
    · cases h
theorem den_ok : ∀ n, DenOk T k (den T n)
  | 0 => { E := fun _ h => (by cases h), B := fun _ h => (by cases h) }
  | n + 1 => { E := fun C h => stepE_ok (den_ok n) C h, B := fun C h => stepB_ok (den_ok n) C h }
end
end IP

/-! IPyJ: from the text to the evaluator: statements, defs. -/
namespace IP
open PySem PySem.Spec PyProof.Rows L2

/-! ### op= -/
def iAugAdd : O2 := fun u v S => match u, v with
  | .int i, .int j => some (.int (i + j), S)
  | .str a, .str b => if a.length + b.length ≤ 16777216 then some (.str (a ++ b), S) else none
  | _, _ => none
section
variable {X : Cx}
theorem o_augAdd : OpR X (inplaceOp .Add) (rO2 X iAugAdd) := opR_by fun x y H Q h => by
  obtain ⟨r, S, u, v, R, hu, hv, g⟩ := h
  cases hu <;> cases hv <;> simp only [iAugAdd] at g <;> first | exact g.nothing | skip
  case int.int i j => exact ⟨_, iop_add, i, j, rfl, rfl, g.same R (.int _)⟩
  case str.str i j =>
    split at g
    · rename_i hl
      exact ⟨_, iop_add_str, i, j, rfl, rfl, by rw [sl16]; exact hl, g.same R (.str _)⟩
    · exact g.nothing
theorem o_augSub : OpR X (inplaceOp .Sub) (rO2 X iSub) := opR_by fun x y H Q h => by
  obtain ⟨r, S, u, v, R, hu, hv, g⟩ := h
  cases hu <;> cases hv <;> simp only [iSub] at g <;> first | exact g.nothing | skip
  case int.int i j => exact ⟨_, iop_sub, i, j, rfl, rfl, g.same R (.int _)⟩
end
def augF : Operator → Option O2
  | .Add => some iAugAdd
  | .Sub => some iSub
  | _ => none
theorem augF_ok {X : Cx} {op : Operator} {f : O2} (e : augF op = some f) : OpR X (inplaceOp op) (rO2 X f) := by
  cases op <;> simp only [augF] at e <;> cases e
  · exact o_augAdd
  · exact o_augSub

/-! ### the text's form -/
def noComp : Expr → Bool
  | .ListComp _ _ _ _ => false
  | .SetComp _ _ _ _ => false
  | .DictComp _ _ _ _ _ => false
  | _ => true
def isNm : Expr → Bool
  | .Name _ _ => true
  | _ => false
theorem sw_none {e : Expr} {l : Nat} {env : Env} (h : noComp e = true) : swapsWith e none l env = pure false := by
  cases e <;> first | rfl | (simp [noComp] at h)
theorem sw_sole {tg e : Expr} {l : Nat} {env : Env} (h : noComp e = true ∨ isNm tg = false) : swapsWithSole [tg] e l env = pure false := by
  show swapsWith e (some tg) l env = pure false
  rcases h with h | h
  · cases e <;> first | rfl | (simp [noComp] at h)
  · cases tg <;> first | (simp [isNm] at h; done) | (cases e <;> rfl)
def swapsB (cc : Cc) (y : Str) (py pos : Pos) (scope : Scope) : Bool := cc.names.lookup y == some .local && py.line == pos.line && !(scope.names.any fun (n, k) => n == y && (k == .local || k == .cell))
theorem sw_false {elt : Expr} {gs : List Comprehension} {scope : Scope} {pos py : Pos} {y : Str} {l : Nat} {env : Env} {cc : Cc} (hn : env.scope.names = cc.names) (h : swapsB cc y py pos scope = false) :
    swapsWithSole [.Name y py] (.ListComp elt gs scope pos) l env = pure false := by
  show (pure (env.blockKind == .function && env.kindOf y == some .local && py.line == pos.line && !(scope.names.any fun (n, k) => n == y && (k == .local || k == .cell))) : Sem Bool) = pure false
  have e : env.kindOf y = cc.names.lookup y := by
    show env.scope.names.lookup y = _
    rw [hn]
  rw [e]
  unfold swapsB at h
  have z : (env.blockKind == .function && cc.names.lookup y == some .local && py.line == pos.line && !(scope.names.any fun (n, k) => n == y && (k == .local || k == .cell))) = false := by
    rw [Bool.and_assoc, Bool.and_assoc, ← Bool.and_assoc (cc.names.lookup y == some .local), h, Bool.and_false]
  rw [z]
/-- no two displays of several places -/
def noPar (tg e : Expr) : Bool := match tg, e with
  | .Tuple _ _ _, .Tuple _ _ _ => false
  | .List _ _, .Tuple _ _ _ => false
  | _, _ => true
theorem par_ok {tg e : Expr} {env : Env} (h : noPar tg e = true) : swappedStores [tg] e env = pure none := by
  cases tg <;> first | rfl | (cases e <;> first | rfl | (simp [noPar] at h))
theorem one_tg {tg : Expr} {env : Env} (h : noStar tg = true) : (assignEach [tg] env).map (·.2) = [assign tg env] := by
  rw [each_tg h]; rfl
theorem sub_tg {o i : Expr} {pos : Pos} {env : Env} (h : noSlice i = true) : ∀ v, assign (.Subscript o i pos) env v = (do
      let ov ← holding [v] (eval o env)
      let iv ← holding [v, ov] (eval i env)
      standAt pos
      holding [v, ov, iv] (setItem ov iv v)
      release [v, ov, iv] []) := fun v => by
  cases i <;> first | rfl | (simp [noSlice] at h)

/-- raise of an own class's new exception -/
def sRaise (x : Str) : SS := fun t S => .ex x [] t S
theorem s_raise {X : Cx} {W : WX} {x m : Str} {j : Nat} {p p2 pos pos' : Pos} (gd : Gd X W) (hg : Gl X x) (F : XcK X.K X.mg x) : SOk X W (.Raise (some (.Call (.Name x p) [.Constant (.str m) j p2] [] pos)) none pos') (sRaise x) := by
  obtain ⟨hd, C, bmB, B, nw, ini, F, q, gC, kC, hb, ht⟩ := F
  exact PS_imp (L2N.ps_raise gd.calm gd.tk (L2N.pmk_own F q gC kC (raises_own hb ht) hg hd)) fun D s H ⟨r, t, S, hs, R, h⟩ => h r H s (.ref C) none .refl R hs ⟨C, gC, rfl, .inl ⟨rfl, rfl⟩⟩
/-! ### statements -/
def denSs (S : Stmt → Option SS) : List Stmt → Option SS
  | [] => some sNil
  | [a] => S a
  | a :: b :: r => match S a, denSs S (b :: r) with
    | some x, some y => some (sSeq x y)
    | _, _ => none
def denAsg0 (D : Den) (cc : Cc) (tg e : Expr) : Option SS :=
  if noPar tg e && noStar tg then match denTg cc 10 tg, D.E cc e with
    | some g, some m => some (sAsg g m)
    | _, _ => none
  else none
def denAsg (T : Tb) (D : Den) (cc : Cc) (tg e : Expr) : Option SS := match tg with
  | .Subscript o i _ => if noSlice i then match D.E cc o, D.E cc i, D.E cc e with
      | some mo, some mi, some m => some (sPut mo mi m)
      | _, _, _ => none
    else none
  | .Name y py => match e with
    | .ListComp elt [⟨tg', iter, ifs, k⟩] scope pos => if k = 0 then
        if swapsB cc y py pos scope then match denLc T D cc elt tg' iter ifs scope, ixOf y cc.N with
          | some m, some i => some (sAsg (.nm i) m)
          | _, _ => none
        else denAsg0 D cc tg e
      else none
    | e => if noComp e then denAsg0 D cc tg e else none
  | .Tuple _ _ _ => denAsg0 D cc tg e
  | _ => none
def denS (T : Tb) (D : Den) (cc : Cc) : Nat → Stmt → Option SS
  | 0, _ => none
  | n + 1, st => match st with
    | .Expr e _ => match e with
      | .Constant (.str _) _ _ => some sNil
      | e => if noComp e then (D.E cc e).map sExpr else none
    | .Return (some e) _ => (D.E cc e).map sRet
    | .Return none _ => some sRetN
    | .If c a b _ => match D.B cc c, denSs (denS T D cc n) a, denSs (denS T D cc n) b with
      | some x, some y, some z => some (sIf x y z)
      | _, _, _ => none
    | .While c b [] _ => match D.B cc c, denSs (denS T D cc n) b with
      | some x, some y => some (sWhile x y)
      | _, _ => none
    | .For tg it b [] _ => if noSet it then match denTg cc 10 tg, denI T (D.E cc) cc tg it, denSs (denS T D cc n) b with
        | some x, some y, some z => some (sFor x y z)
        | _, _, _ => none
      else none
    | .Assign [tg] e _ => denAsg T D cc tg e
    | .AugAssign (.Name x _) op e _ => if cc.names.lookup x == some .local then match ixOf x cc.N, augF op, D.E cc e with
        | some i, some f, some m => some (sAug f i m)
        | _, _, _ => none
      else none
    | .Pass _ => some sNil
    | .Break _ => some sBrk
    | .Continue _ => some sCnt
    | .Raise (some e) none _ => match e with
      | .Call (.Name x _) [.Constant (.str _) _ _] [] _ => if cc.names.lookup x == some .globalImplicit && T.xc.contains x then some (sRaise x) else none
      | _ => none
    | _ => none

section
variable {T : Tb} {k : Nat} {D : Den} {cc : Cc} {X : Cx} {W : WX}
theorem denSs_ok {S : Stmt → Option SS} (hS : ∀ {st m}, S st = some m → SOk X W st m) : ∀ {sts : List Stmt} {m : SS}, denSs S sts = some m → SsOk X W sts m
  | [], m, h => by simp only [denSs] at h; cases h; exact s_nil
  | [a], m, h => s_one (hS h)
  | a :: b :: r, m, h => by
    simp only [denSs] at h
    split at h
    · rename_i x y h1 h2; cases h; exact s_cons (hS h1) (denSs_ok hS h2)
    · cases h
theorem denAsg0_ok (D0 : DenOk T k D) (C : CxOk T k cc X W) {tg e : Expr} {pos : Pos} {m : SS} (hsw : swapsWithSole [tg] e pos.line X.env = pure false) (h : denAsg0 D cc tg e = some m) : SOk X W (.Assign [tg] e pos) m := by
  unfold denAsg0 at h
  split at h
  · rename_i hp
    rw [Bool.and_eq_true] at hp
    split at h
    · rename_i g m h1 h2
      cases h
      exact s_asg (denTg_ok C.n C.nm C.fc C.gd.nd C.gd.calm 10 h1) (D0.E C h2) hsw (par_ok hp.1) (one_tg hp.2)
    · cases h
  · cases h
theorem denAsg_ok (D0 : DenOk T k D) (C : CxOk T k cc X W) {tg e : Expr} {pos : Pos} {m : SS} (h : denAsg T D cc tg e = some m) : SOk X W (.Assign [tg] e pos) m := by
  unfold denAsg at h
  split at h
  · rename_i o i p
    split at h
    · rename_i hs
      split at h
      · rename_i mo mi m h1 h2 h3
        cases h
        exact s_put (by have := C.gd.un; omega) (D0.E C h1) (D0.E C h2) (D0.E C h3) (sw_sole (.inr rfl)) (par_ok (by cases e <;> rfl)) (one_tg rfl) (sub_tg hs)
      · cases h
    · cases h
  · rename_i y py
    split at h
    · rename_i elt tg' iter ifs kk scope p2
      split at h
      · rename_i hk
        subst hk
        split at h
        · rename_i hb
          split at h
          · rename_i m i h1 h2
            cases h
            unfold swapsB at hb
            rw [Bool.and_eq_true, Bool.and_eq_true, beq_iff_eq] at hb
            obtain ⟨⟨b1, b2⟩, b3⟩ := hb
            have b3 : (scope.names.any fun (n, k) => n == y && (k == .local || k == .cell)) = false := by
              rw [Bool.not_eq_true'] at b3; exact b3
            have hl : X.env.scope.names.lookup y = some .local := by rw [C.nm]; exact b1
            exact (denLc_ok D0 C h1).2 (by rw [C.n]; exact ixOf_ok h2) hl (sw_true C.kd hl b2 b3)
          · cases h
        · rename_i hb
          exact denAsg0_ok D0 C (sw_false C.nm (by simpa using hb)) h
      · cases h
    · split at h
      · rename_i hc
        exact denAsg0_ok D0 C (sw_sole (.inl hc)) h
      · cases h
  · exact denAsg0_ok D0 C (sw_sole (.inr rfl)) h
  · cases h
theorem denS_ok (D0 : DenOk T k D) (C : CxOk T k cc X W) (hp : PassesOwn (model X.prog X.w) X.A X.env X.xe) : ∀ (n : Nat) {st : Stmt} {m : SS}, denS T D cc n st = some m → SOk X W st m
  | 0, _, _, h => by simp only [denS] at h; cases h
  | n + 1, st, m, h => by
    have hE : ∀ {e m}, D.E cc e = some m → EOk X W e m := fun h => D0.E C h
    have hS : ∀ {st m}, denS T D cc n st = some m → SOk X W st m := fun h => denS_ok D0 C hp n h
    simp only [denS] at h
    split at h
    · split at h
      · cases h; exact s_doc
      · split at h
        · rename_i hc
          simp only [Option.map_eq_some_iff] at h
          obtain ⟨a, h1, h2⟩ := h
          subst h2
          exact s_expr (hE h1) (sw_none hc)
        · cases h
    · simp only [Option.map_eq_some_iff] at h
      obtain ⟨a, h1, h2⟩ := h
      subst h2
      exact s_ret (hE h1)
    · cases h; exact s_retN
    · split at h
      · rename_i x y z h1 h2 h3; cases h; exact s_if (D0.B C h1) (denSs_ok hS h2) (denSs_ok hS h3)
      · cases h
    · split at h
      · rename_i x y h1 h2; cases h; exact s_while hp (D0.B C h1) (denSs_ok hS h2)
      · cases h
    · split at h
      · rename_i hs
        split at h
        · rename_i x y z h1 h2 h3
          cases h
          exact s_for hp C.gd.calm (denI_ok C hE h2) (denTg_ok C.n C.nm C.fc C.gd.nd C.gd.calm 10 h1) (denSs_ok hS h3) (folded_ok hs)
        · cases h
      · cases h
    · exact denAsg_ok D0 C h
    · split at h
      · rename_i hl
        have hl := beq_iff_eq.mp hl
        split at h
        · rename_i i f m h1 h2 h3
          cases h
          exact s_aug C.gd.nd (by rw [C.n]; exact ixOf_ok h1) (.inl (by rw [C.nm]; exact hl)) (.inr (by rw [C.nm]; exact hl)) (augF_ok h2) (hE h3)
        · cases h
      · cases h
    · cases h; exact s_pass
    · cases h; exact s_brk
    · cases h; exact s_cnt
    · split at h
      · split at h
        · rename_i hx
          rw [Bool.and_eq_true, beq_iff_eq] at hx
          cases h
          exact s_raise C.gd (C.gl hx.1) (C.tb.xcs _ (by simpa using hx.2))
        · cases h
      · cases h
    · cases h
end

/-! ### defs -/
def startI (N : List Str) (us : List IV) : Slo := us.map some ++ List.replicate (N.length - us.length) none
def mFun (N : List Str) (b : SS) : FN := fun us S => match b (startI N us) S with
  | .nx _ S1 => .ok .non S1
  | .ret v S1 => .ok v S1
  | .ex c fs _ S1 => .ex c fs S1
  | _ => .no
/-- the evaluator's body of a def, out of its text -/
def denDef (T : Tb) (N : List Str) (st : Stmt) : Option SS := denSs (denS T (den T 40) ⟨N, (defScope st).names, fun _ => true⟩ 40) (defBody st)

section
variable {P : Program} {w : World} {K : PySem.W.Frag} {mg : Str → Option Value} {base : Heap} {T : Tb} {k : Nat}
theorem start_ok {r : List Addr} {H : Hp} {N : List Str} {us : List IV} {vs : List V} (h : VRs K mg r H us vs) (hl : vs.length ≤ N.length) : St1 K mg r N.length (startI N us) (L2.start N vs) H := by
  have e := h.length
  refine ⟨?_, ?_, fun i v q => ?_⟩
  · unfold startI; rw [List.length_append, List.length_map, List.length_replicate]; omega
  · unfold L2.start; rw [List.length_append, List.length_map, List.length_replicate]; omega
  · unfold startI at q
    unfold L2.start
    rw [List.getElem?_append] at q
    split at q
    · rename_i hi
      rw [List.length_map] at hi
      rw [List.getElem?_map] at q
      cases hu : us[i]? with
      | none => rw [hu] at q; cases q
      | some u =>
        rw [hu] at q
        cases q
        obtain ⟨w, e1, e2⟩ := h.get hu
        exact ⟨w, by rw [List.getElem?_append_left (by rw [List.length_map]; omega), List.getElem?_map, e1]; rfl, e2⟩
    · rw [List.getElem?_replicate] at q
      split at q <;> cases q
theorem okXN {CX : CXT} {x qual : Str} {st : Stmt} {f : Addr} {fd : FuncData} {N ps : List Str} {k : Nat} {sp : Sp} (F : Fun K x qual st f fd) (S : FnScope N ps (defScope st)) (len : ∀ vs H Q E, sp vs H Q E → vs.length = ps.length)
    (go : ∀ (cdv : Value) (A : Around) (outer : List Env) (s : Shared) (H : Hp) (vs : List V) (Q : VK) (E : XK), Room k (A.deeper (envOfC qual (defScope st) s.heap.objs.size f cdv)) → sp vs H Q E →
      ∃ t, PSs (cxOf CX P w K mg base N qual (defScope st) f cdv A outer s H E) (defBody st) t ∧ t { nx := fun _ H' => Q .non H', rt := Q } (L2.start N vs) H) : FnOk P w K mg base CX (k + 1) f fd ps sp := by
  obtain ⟨_, _, _, _, _, _, cdv, _, _, rfl, lk, hcd⟩ := F.ex
  exact fn_of lk hcd S len fun A outer s H vs Q E => go cdv A outer s H vs Q E
theorem def_fn {x : Str} {st : Stmt} {f : Addr} {fd : FuncData} {N ps : List Str} {b : SS} {n : Nat} (TO : TabOk P w K mg base T k) (F : Fun K x x st f fd) (S : FnScope N ps (defScope st)) (hn : ps.length = n)
    (hd : denDef T N st = some b) : FnOk P w K mg base (L2N.CX P w) (k + 1) f fd ps (spI K mg (mFun N b) n) := by
  refine okXN F S (fun vs H Q E h => by rw [hn]; exact h.1) fun cdv A outer s H vs Q E hr h => ?_
  obtain ⟨hl, r, S0, us, R, hus, h⟩ := h
  have tk : L2N.Takes (cxOf (L2N.CX P w) P w K mg base N x (defScope st) f cdv A outer s H E) (fun cls d _ H => E cls d H) := L2N.takes_of rfl rfl rfl rfl
  have gd : Gd (cxOf (L2N.CX P w) P w K mg base N x (defScope st) f cdv A outer s H E) (fun cls d _ H => E cls d H) := ⟨rfl, S.nd, tk, by have z := hr.un; show (A.deeper (envOfC x (defScope st) s.heap.objs.size f cdv)).units + 65 < cLine; omega⟩
  have C : CxOk T k ⟨N, (defScope st).names, fun _ => true⟩ (cxOf (L2N.CX P w) P w K mg base N x (defScope st) f cdv A outer s H E) (fun cls d _ H => E cls d H) := ⟨gd, rfl, rfl, S.kind, fun _ _ => rfl, hr, TO⟩
  refine ⟨_, denSs_ok (fun h => denS_ok (den_ok 40) C (passes_of rfl) 40 h) hd, r, startI N us, S0, start_ok hus ?_, R, ?_⟩
  · have : (N.take ps.length).length = ps.length := by rw [S.pre]
    rw [List.length_take] at this
    show vs.length ≤ N.length
    rw [hl, ← hn]; omega
  · unfold mFun at h
    cases eb : b (startI N us) S0 with
    | nx t S1 => rw [eb] at h; exact fun r' H' s' e R' hs' => h r' H' e R' _ .non
    | ret v S1 => rw [eb] at h; exact fun r' H' w e R' hw => h r' H' e R' w hw
    | ex c fs t S1 => rw [eb] at h; exact fun r' H' s' cls d e R' hs' z => h r' H' cls d e R' z
    | brk t S1 => rw [eb] at h; exact h.elim
    | cnt t S1 => rw [eb] at h; exact h.elim
    | no => rw [eb] at h; exact h
theorem def_ok {x : Str} {st : Stmt} {f : Addr} {fd : FuncData} {N ps : List Str} {b : SS} {n : Nat} (TO : TabOk P w K mg base T k) (F : Fun K x x st f fd) (hm : mg x = some (.ref f)) (S : FnScope N ps (defScope st)) (hb : Binds K fd ps []) (hn : ps.length = n)
    (hd : denDef T N st = some b) : DefOk P w K mg base x (mFun N b) n (k + 1) := ⟨f, fd, ps, hm, F.kp, hb, hn, def_fn TO F S hn hd⟩
theorem DefOk.mono {x : Str} {F : FN} {n j k : Nat} (D : DefOk P w K mg base x F n j) (h : j ≤ k) : DefOk P w K mg base x F n k := by
  obtain ⟨f, fd, ps, h1, h2, h3, h4, h5⟩ := D.ex
  exact ⟨f, fd, ps, h1, h2, h3, h4, h5.mono h⟩
theorem HkOk.mono {j k : Nat} {hk : (Expr → Option SE) → Cc → Expr → Option SE} (h : HkOk P w K mg base j hk) (hl : j ≤ k) : HkOk P w K mg base k hk := fun X W cc E e m h1 h2 h3 h4 h5 g n nm kd rm gl hE q => h X W cc E e m h1 h2 h3 h4 h5 g n nm kd (rm.mono hl) gl hE q
theorem TabOk.mono {j k : Nat} (TO : TabOk P w K mg base T j) (h : j ≤ k) : TabOk P w K mg base T k := ⟨fun x n F e => (TO.fns x n F e).mono h, TO.gvs, TO.nbs, TO.dcs, TO.hks.mono h, TO.xcs⟩
/-- expressions of a rule of their own -/
theorem TabOk.hook {hk : (Expr → Option SE) → Cc → Expr → Option SE} (TO : TabOk P w K mg base T k) (h : HkOk P w K mg base k hk) : TabOk P w K mg base ⟨T.fn, T.gv, T.nb, T.dc, hk, T.xc⟩ k := ⟨TO.fns, TO.gvs, TO.nbs, TO.dcs, h, TO.xcs⟩
/-- one def more -/
theorem TabOk.def {x : Str} {F : FN} {n : Nat} (TO : TabOk P w K mg base T k) (D : DefOk P w K mg base x F n (k + 1)) : TabOk P w K mg base ⟨(x, n, F) :: T.fn, T.gv, T.nb, T.dc, T.hk, T.xc⟩ (k + 1) := by
  refine ⟨fun y m G e => ?_, TO.gvs, TO.nbs, TO.dcs, TO.hks.mono (Nat.le_succ _), TO.xcs⟩
  rw [List.lookup_cons] at e
  cases h : y == x with
  | true => rw [h] at e; cases e; rw [beq_iff_eq.mp h]; exact D
  | false => rw [h] at e; exact (TO.fns y m G e).mono (Nat.le_succ _)
end
end IP

/-! IPyK: the law's end. -/
namespace IP
open PySem PySem.Spec PyProof.Rows L2

/-- a def of the module, under its name -/
def DefK (K : PySem.W.Frag) (mg : Str → Option Value) (x : Str) (st : Stmt) : Prop := ∃ f fd, Fun K x x st f fd ∧ mg x = some (.ref f)
theorem defK_mk {K : PySem.W.Frag} {h : Heap} {mg : Str → Option Value} {x : Str} {st : Stmt} {f : Addr} {oc : Value} {od an : Option Addr} {osl : Array (Option Value)} {kV doc pm cdv ct : Value} (X : K.In h) (G : h.Ns mainGlobals mg)
    (a : PySem.W.nsIn K mainGlobals x = some (some (.ref f))) (l : K.lookup f = some ⟨oc, od, .func (PySem.W.fnOf x x (defArgs st) (defBody st) (defScope st) .none kV doc pm an cdv ct), osl⟩)
    (c : PySem.W.codeIn K cdv x = true) (k : PySem.W.keepIn K (.ref f) = true) : DefK K mg x st := ⟨f, _, fun_mk l c k, PySem.W.mg_of X G a⟩
/-- how its arguments are bound -/
def BindA (x : Str) (st : Stmt) (ps : List Str) : Prop := ∀ (kV doc pm : Value) (an : Option Addr) (cdv ct : Value) (us : List Value), us.length = ps.length → bindArgs (PySem.W.fnOf x x (defArgs st) (defBody st) (defScope st) .none kV doc pm an cdv ct) ⟨us, []⟩ = pure (ps.zip us)
section
variable {P : Program} {w : World} {K : PySem.W.Frag} {mg : Str → Option Value} {base : Heap} {T : Tb} {k : Nat}
theorem defK_ok {x : Str} {st : Stmt} {N ps : List Str} {b : SS} {n : Nat} (TO : TabOk P w K mg base T k) (F : DefK K mg x st) (S : FnScope N ps (defScope st)) (hb : BindA x st ps) (hn : ps.length = n) (hd : denDef T N st = some b) : DefOk P w K mg base x (mFun N b) n (k + 1) := by
  obtain ⟨f, fd, F, hm⟩ := F
  exact def_ok TO F hm S (F.binds hb) hn hd
/-- a def that calls itself: by fuel -/
def recF (N : List Str) (b : FN → SS) : Nat → FN
  | 0 => fun _ _ => .no
  | j + 1 => mFun N (b (recF N b j))
theorem rec_ok {x : Str} {st : Stmt} {N ps : List Str} {b : FN → SS} {n : Nat} (TO : TabOk P w K mg base T k) (F : DefK K mg x st) (S : FnScope N ps (defScope st)) (hb : BindA x st ps) (hn : ps.length = n)
    (hd : ∀ G, denDef ⟨(x, n, G) :: T.fn, T.gv, T.nb, T.dc, T.hk, T.xc⟩ N st = some (b G)) : ∀ j, DefOk P w K mg base x (recF N b j) n (k + j)
  | 0 => by
    obtain ⟨f, fd, F, hm⟩ := F
    refine ⟨f, fd, ps, hm, F.kp, F.binds hb, hn, ⟨fun vs H Q E h => by rw [hn]; exact h.1, fun A outer s H args us vs Q E _ _ _ _ hs => ?_⟩⟩
    obtain ⟨_, r, S0, us, R, hus, h⟩ := hs
    exact h.elim
  | j + 1 => by
    have D := rec_ok TO F S hb hn hd j
    refine defK_ok (T := ⟨(x, n, recF N b j) :: T.fn, T.gv, T.nb, T.dc, T.hk, T.xc⟩) (k := k + j) ⟨fun y m G e => ?_, TO.gvs, TO.nbs, TO.dcs, TO.hks.mono (Nat.le_add_right _ _), TO.xcs⟩ F S hb hn (hd _)
    rw [List.lookup_cons] at e
    cases h : y == x with
    | true => rw [h] at e; cases e; rw [beq_iff_eq.mp h]; exact D
    | false => rw [h] at e; exact (TO.fns y m G e).mono (Nat.le_add_right _ _)
/-- several levels at once -/
theorem TabOk.defN {x : Str} {F : FN} {n j : Nat} (TO : TabOk P w K mg base T k) (D : DefOk P w K mg base x F n j) (h : k ≤ j) : TabOk P w K mg base ⟨(x, n, F) :: T.fn, T.gv, T.nb, T.dc, T.hk, T.xc⟩ j := by
  refine ⟨fun y m G e => ?_, TO.gvs, TO.nbs, TO.dcs, TO.hks.mono h, TO.xcs⟩
  rw [List.lookup_cons] at e
  cases h' : y == x with
  | true => rw [h'] at e; cases e; rw [beq_iff_eq.mp h']; exact D
  | false => rw [h'] at e; exact (TO.fns y m G e).mono h
def spLaw (K : PySem.W.Frag) : Sp := fun vs H Q _ => ∃ (a : Addr) (ns : List Int), vs = [.ref a] ∧ Only H ∧ SqL K H a (ns.map V.int) ∧ ns.length ≤ 63 ∧ (∀ z ∈ ns, Builtin.Int.intBits z ≤ 1048576) ∧ ∀ H', Q (.bl true) H'
/-! ### names of the module that hold a constant -/
def GvK (K : PySem.W.Frag) (mg : Str → Option Value) (x : Str) (v : IV) : Prop := ∃ u w', mg x = some u ∧ RelV w' u ∧ ∀ r H, VR K mg r H v w'
theorem vrs_ints {r : List Addr} {H : Hp} : ∀ ns : List Int, VRs K mg r H (ns.map IV.int) (ns.map V.int)
  | [] => .nil
  | i :: ns => .cons (.int i) (vrs_ints ns)
theorem law_imp {x : Str} {f : Addr} {fd : FuncData} {F : FN} {CX : CXT} (run : ∀ ns : List Int, ns.length ≤ 63 → (∀ z ∈ ns, Builtin.Int.intBits z ≤ 1048576) → ∃ S, F [.sq (ns.map IV.int)] [] = .ok (.bl true) S)
    (G : FnOk P w K mg base CX k f fd [x] (spI K mg F 1)) : FnOk P w K mg base CX k f fd [x] (spLaw K) := G.imp fun vs H Q E ⟨a, ns, e, O, sq, hl, hz, q⟩ => by
  subst e
  obtain ⟨S, e⟩ := run ns hl hz
  have sf : SqF K [] H a (ns.map V.int) := by
    rcases sq with z | z
    · rcases z with z | ⟨o, z⟩
      · rcases O a with y | ⟨o, xs, y⟩
        · rw [z] at y; cases y
        · rw [z] at y; cases y
      · exact .inl ⟨o, z⟩
    · exact .inr (.inr z)
  refine ⟨rfl, [], [], [.sq (ns.map IV.int)], ⟨rfl, List.nodup_nil, fun i o a h => by cases h⟩, .cons (.sq sf (vrs_ints ns)) .nil, ?_⟩
  rw [e]
  exact fun r' H' _ _ w hw => by cases hw; exact q H'
theorem law_ok {x : Str} {st : Stmt} {f : Addr} {fd : FuncData} {N : List Str} {p : Str} {b : SS} (TO : TabOk P w K mg base T k) (F : Fun K x x st f fd) (S : FnScope N [p] (defScope st)) (hd : denDef T N st = some b)
    (run : ∀ ns : List Int, ns.length ≤ 63 → (∀ z ∈ ns, Builtin.Int.intBits z ≤ 1048576) → ∃ S, mFun N b [.sq (ns.map IV.int)] [] = .ok (.bl true) S) :
    FnOk P w K mg base (L2N.CX P w) (k + 1) f fd [p] (spLaw K) := by
  exact law_imp run (def_fn TO F S rfl hd)
end
end IP
namespace IP
open PySem PySem.Spec PyProof.Rows L2
/-! ### constants of the module -/
section
variable {K : PySem.W.Frag} {mg : Str → Option Value}
def CV (K : PySem.W.Frag) (mg : Str → Option Value) (v : IV) (u : Value) : Prop := ∃ w', RelV w' u ∧ ∀ r H, VR K mg r H v w'
def CVs (K : PySem.W.Frag) (mg : Str → Option Value) (v : List IV) (u : List Value) : Prop := ∃ w', Vals w' u ∧ ∀ r H, VRs K mg r H v w'
theorem gv_mk {h : Heap} {x : Str} {v : IV} {u : Value} (X : K.In h) (G : h.Ns mainGlobals mg) (a : PySem.W.nsIn K mainGlobals x = some (some u)) (c : CV K mg v u) : GvK K mg x v := by
  obtain ⟨w', h1, h2⟩ := c
  exact ⟨u, w', PySem.W.mg_of X G a, h1, h2⟩
theorem cv_int {i : Int} {t : Tok} : CV K mg (.int i) (.int i t) := ⟨.int i, ⟨t, rfl⟩, fun _ _ => .int i⟩
theorem cv_str {x : Str} {t : Tok} : CV K mg (.str x) (.str x t) := ⟨.str x, ⟨t, rfl⟩, fun _ _ => .str x⟩
theorem cv_bl {b : Bool} : CV K mg (.bl b) (.bool b) := ⟨.bl b, rfl, fun _ _ => .bl b⟩
theorem cv_non : CV K mg .non .none := ⟨.non, rfl, fun _ _ => .non⟩
theorem cvs_nil : CVs K mg [] [] := ⟨[], .nil, fun _ _ => .nil⟩
theorem cvs_cons {v : IV} {u : Value} {vs : List IV} {us : List Value} (h : CV K mg v u) (q : CVs K mg vs us) : CVs K mg (v :: vs) (u :: us) := by
  obtain ⟨w', h1, h2⟩ := h
  obtain ⟨ws, h3, h4⟩ := q
  exact ⟨w' :: ws, .cons h1 h3, fun r H => .cons (h2 r H) (h4 r H)⟩
theorem cv_tup {vs : List IV} {us : List Value} {a : Addr} {d : Option Addr} {n : Nat} {sl : Array (Option Value)} (l : K.lookup a = some ⟨.type "tuple", d, .seq us.toArray n, sl⟩) (hl : us.length ≤ sizeLine) (q : CVs K mg vs us) : CV K mg (.tup vs) (.ref a) := by
  obtain ⟨ws, h3, h4⟩ := q
  exact ⟨.ref a, rfl, fun r H => .tup (.inr ⟨_, us.toArray, n, l, rfl, rfl, by simpa using hl, by simpa using h3⟩) (h4 r H)⟩
theorem cv_lst {vs : List IV} {us : List Value} {a : Addr} {n : Nat} {sl : Array (Option Value)} (l : K.lookup a = some ⟨.type "list", none, .seq us.toArray n, sl⟩) (hl : us.length ≤ sizeLine) (q : CVs K mg vs us) : CV K mg (.sq vs) (.ref a) := by
  obtain ⟨ws, h3, h4⟩ := q
  exact ⟨.ref a, rfl, fun r H => .sq (.inr (.inr ⟨_, us.toArray, n, l, rfl, rfl, rfl, by simpa using hl, by simpa using h3⟩)) (h4 r H)⟩
theorem gvs_cons {x : Str} {v : IV} {L : List (Str × IV)} (h : GvK K mg x v) (q : ∀ y v, L.lookup y = some v → GvK K mg y v) : ∀ y u, ((x, v) :: L).lookup y = some u → GvK K mg y u := fun y u e => by
  rw [List.lookup_cons] at e
  cases h' : y == x with
  | true => rw [h'] at e; cases e; rw [beq_iff_eq.mp h']; exact h
  | false => rw [h'] at e; exact q y u e
theorem gvs_nil : ∀ y v, ([] : List (Str × IV)).lookup y = some v → GvK K mg y v := fun _ _ e => by cases e
theorem nbs_cons {x : Str} {L : List Str} (h : mg x = none) (q : ∀ y, y ∈ L → mg y = none) : ∀ y, y ∈ x :: L → mg y = none := fun y e => by
  rcases List.mem_cons.mp e with e | e
  · rw [e]; exact h
  · exact q y e
theorem nbs_nil : ∀ y, y ∈ ([] : List Str) → mg y = none := fun _ e => by cases e
theorem tab0 {P : Program} {w : World} {base : Heap} {gv : List (Str × IV)} {nb : List Str} {dc : List (Str × List (Key × Key))} {xc : List Str} (h : ∀ y v, gv.lookup y = some v → GvK K mg y v) (q : ∀ y, y ∈ nb → mg y = none) (d : ∀ y kvs, dc.lookup y = some kvs → DcK K w mg y kvs) (xh : ∀ x, x ∈ xc → XcK K mg x) : TabOk P w K mg base ⟨[], gv, nb, dc, hkNo, xc⟩ 0 := ⟨fun _ _ _ e => (nomatch e), h, q, d, fun _ _ _ _ _ _ _ _ _ _ _ _ _ _ _ _ _ _ z => (nomatch z), xh⟩
theorem xc_mk {h : Heap} {x : Str} {C : Addr} (X : K.In h) (G : h.Ns mainGlobals mg) (hx : (x == ("__debug__" : Str)) = false) (e : PySem.W.nsIn K mainGlobals x = some (some (.ref C))) (x1 : PySem.W.excIn K C [.type "ValueError", .type "Exception", .type "BaseException", .type "object"] "ValueError.__new__" = true) (k : PySem.W.keepIn K (.ref C) = true)
    (b : PySem.W.subIn K (.ref C) (.type "BaseException") = some true) (t : PySem.W.typeIn K (.ref C) = some (.type "type")) : XcK K mg x := ⟨hx, C, _, _, _, _, PySem.F.excBase_ValueError, x1, PySem.W.mg_of X G e, k, b, t⟩
theorem xcs_nil : ∀ y, y ∈ ([] : List Str) → XcK K mg y := fun _ e => by cases e
theorem xcs_cons {x : Str} {L : List Str} (h : XcK K mg x) (q : ∀ y, y ∈ L → XcK K mg y) : ∀ y, y ∈ x :: L → XcK K mg y := fun y e => by
  rcases List.mem_cons.mp e with e | e
  · rw [e]; exact h
  · exact q y e
theorem dcs_nil {w : World} : ∀ y kvs, ([] : List (Str × List (Key × Key))).lookup y = some kvs → DcK K w mg y kvs := fun _ _ e => by cases e
theorem dcs_cons {w : World} {x : Str} {v : List (Key × Key)} {L : List (Str × List (Key × Key))} (h : DcK K w mg x v) (q : ∀ y kvs, L.lookup y = some kvs → DcK K w mg y kvs) : ∀ y kvs, ((x, v) :: L).lookup y = some kvs → DcK K w mg y kvs := fun y u e => by
  rw [List.lookup_cons] at e
  cases h' : y == x with
  | true => rw [h'] at e; cases e; rw [beq_iff_eq.mp h']; exact h
  | false => rw [h'] at e; exact q y u e
theorem dc_mk {w : World} {h : Heap} {x : Str} {kvs : List (Key × Key)} {a : Addr} {l : List DictEntry} {n : Nat} (X : K.In h) (G : h.Ns mainGlobals mg) (e : PySem.W.nsIn K mainGlobals x = some (some (.ref a))) (low : (a == sysModules) = false) (hl : K.lookup a = some ⟨.type "dict", none, .dict (List.toArray l) n, #[]⟩) (r : KvC w kvs l) : DcK K w mg x kvs := ⟨a, l, n, PySem.W.mg_of X G e, low, hl, r⟩
end
end IP

/-! IPyQ: the second evaluator, over trees with no store: values, and how they stand to the first one's stores. -/
namespace IP
open PySem

/-- how a list, dict or instance within a tree is held: o = by nobody else, s = new and shared, z = anybody's, w = a name's own one, lent for a moment -/
inductive Fl where
  | o | s | z | w
  deriving DecidableEq, Inhabited
inductive Tag where
  | lst | dct (ks : List L2.Key) | ins (C : Str) (fs : List Str)
inductive TV where
  | non | bl (b : Bool) | int (i : Int) | str (x : Str) | ty (n : String) | fn (x : Str) | tup (xs : List TV) | nd (k : Fl) (g : Tag) (xs : List TV)
  deriving Inhabited
mutual
def TV.fl (φ : Fl → Fl) : TV → TV
  | .tup xs => .tup (TV.fls φ xs)
  | .nd k g xs => .nd (φ k) g (TV.fls φ xs)
  | .non => .non
  | .bl b => .bl b
  | .int i => .int i
  | .str x => .str x
  | .ty n => .ty n
  | .fn x => .fn x
def TV.fls (φ : Fl → Fl) : List TV → List TV
  | [] => []
  | x :: xs => TV.fl φ x :: TV.fls φ xs
end
mutual
def TV.all (p : Fl → Bool) : TV → Bool
  | .tup xs => TV.alls p xs
  | .nd k _ xs => p k && TV.alls p xs
  | .non => true
  | .bl _ => true
  | .int _ => true
  | .str _ => true
  | .ty _ => true
  | .fn _ => true
def TV.alls (p : Fl → Bool) : List TV → Bool
  | [] => true
  | x :: xs => TV.all p x && TV.alls p xs
end
theorem TV.fls_eq {φ : Fl → Fl} : ∀ xs : List TV, TV.fls φ xs = xs.map (TV.fl φ)
  | [] => rfl
  | x :: xs => by rw [TV.fls, TV.fls_eq xs]; rfl
theorem TV.alls_eq {p : Fl → Bool} : ∀ xs : List TV, TV.alls p xs = xs.all (TV.all p)
  | [] => rfl
  | x :: xs => by rw [TV.alls, TV.alls_eq xs]; rfl
mutual
theorem TV.fl_id : ∀ v : TV, v.fl (fun k => k) = v
  | .tup xs => by rw [TV.fl, TV.fls_id xs]
  | .nd k g xs => by rw [TV.fl, TV.fls_id xs]
  | .non => rfl
  | .bl _ => rfl
  | .int _ => rfl
  | .str _ => rfl
  | .ty _ => rfl
  | .fn _ => rfl
theorem TV.fls_id : ∀ xs : List TV, TV.fls (fun k => k) xs = xs
  | [] => rfl
  | x :: xs => by rw [TV.fls, TV.fl_id x, TV.fls_id xs]
end
def fSh : Fl → Fl | .o => .s | k => k
def fBo : Fl → Fl | .o => .w | k => k
def fUw : Fl → Fl | .w => .s | k => k
def fFz : Fl → Fl := fun _ => .z
def fNw : Fl → Bool | .w => false | _ => true
def fNz : Fl → Bool | .z => false | _ => true
abbrev TV.sh (v : TV) : TV := v.fl fSh
abbrev TV.bo (v : TV) : TV := v.fl fBo
abbrev TV.uw (v : TV) : TV := v.fl fUw
abbrev TV.fz (v : TV) : TV := v.fl fFz
abbrev TV.nw (v : TV) : Bool := v.all fNw
abbrev TV.nz (v : TV) : Bool := v.all fNz
def keysOf : List L2.Key → List IV → List (L2.Key × IV)
  | k :: ks, x :: xs => (k, x) :: keysOf ks xs
  | _, _ => []
def fldsOf : List Str → List IV → List (Str × IV)
  | k :: ks, x :: xs => (k, x) :: fldsOf ks xs
  | _, _ => []
/-- what stands at a place -/
def mkO : Tag → List IV → SO
  | .lst, xs => .lst xs
  | .dct ks, xs => .dct (keysOf ks xs)
  | .ins C fs, xs => .ins C (fldsOf fs xs)
def okG : Tag → Nat → Prop
  | .lst, _ => True
  | .dct ks, n => ks.length = n ∧ ks.Nodup
  | .ins _ fs, n => fs.length = n
section
variable (S : Sto) (C : Fl → Nat → Prop)
mutual
inductive Rp : IV → TV → List Nat → Prop
  | non : Rp .non .non []
  | bl (b : Bool) : Rp (.bl b) (.bl b) []
  | int (i : Int) : Rp (.int i) (.int i) []
  | str (x : Str) : Rp (.str x) (.str x) []
  | ty (n : String) : Rp (.ty n) (.ty n) []
  | fn (x : Str) : Rp (.fn x) (.fn x) []
  | tup {xs : List IV} {vs : List TV} {L : List Nat} : Rps xs vs L → Rp (.tup xs) (.tup vs) L
  | sq {xs : List IV} {vs : List TV} : Rps xs vs [] → Rp (.sq xs) (.nd .z .lst vs) []
  | own {i : Nat} {g : Tag} {xs : List IV} {vs : List TV} {L : List Nat} : S[i]? = some (mkO g xs) → okG g xs.length → Rps xs vs L → Rp (.ref i) (.nd .o g vs) (i :: L)
  | ref {i : Nat} {k : Fl} {g : Tag} {xs : List IV} {vs : List TV} : k ≠ .o → S[i]? = some (mkO g xs) → okG g xs.length → C k i → Rps xs vs [] → Rp (.ref i) (.nd k g vs) []
inductive Rps : List IV → List TV → List Nat → Prop
  | nil : Rps [] [] []
  | cons {x : IV} {v : TV} {xs : List IV} {vs : List TV} {L M N : List Nat} : Rp x v L → Rps xs vs M → N = L ++ M → Rps (x :: xs) (v :: vs) N
end
end
section
variable {S S' : Sto} {C C' : Fl → Nat → Prop} {φ : Fl → Fl} {p : Fl → Bool}
mutual
/-- the flags otherwise, o stays -/
theorem Rp.gen1 (hz : φ .z = .z) (ho : φ .o = .o) (hn : ∀ k, k ≠ .o → φ k ≠ .o) (hC : ∀ k j o, k ≠ .o → p k = true → C k j → S[j]? = some o → C' (φ k) j ∧ S'[j]? = some o) : ∀ {u : IV} {v : TV} {L : List Nat}, Rp S C u v L → v.all p = true → (∀ j ∈ L, S'[j]? = S[j]?) → Rp S' C' u (v.fl φ) L
  | _, _, _, .non, _, _ => .non
  | _, _, _, .bl b, _, _ => .bl b
  | _, _, _, .int i, _, _ => .int i
  | _, _, _, .str x, _, _ => .str x
  | _, _, _, .ty n, _, _ => .ty n
  | _, _, _, .fn x, _, _ => .fn x
  | _, _, _, .tup h, a, hL => by rw [TV.fl]; rw [TV.all] at a; exact .tup (Rps.gen1 hz ho hn hC h a hL)
  | _, _, _, .sq h, a, hL => by rw [TV.fl, hz]; rw [TV.all, Bool.and_eq_true] at a; exact .sq (Rps.gen1 hz ho hn hC h a.2 hL)
  | _, _, _, .own h g q, a, hL => by
    rw [TV.fl, ho]; rw [TV.all, Bool.and_eq_true] at a
    exact .own (by rw [hL _ List.mem_cons_self]; exact h) g (Rps.gen1 hz ho hn hC q a.2 fun j hj => hL j (List.mem_cons_of_mem _ hj))
  | _, _, _, .ref n h g c q, a, hL => by
    rw [TV.fl]; rw [TV.all, Bool.and_eq_true] at a
    obtain ⟨c1, c2⟩ := hC _ _ _ n a.1 c h
    exact .ref (hn _ n) c2 g c1 (Rps.gen1 hz ho hn hC q a.2 hL)
theorem Rps.gen1 (hz : φ .z = .z) (ho : φ .o = .o) (hn : ∀ k, k ≠ .o → φ k ≠ .o) (hC : ∀ k j o, k ≠ .o → p k = true → C k j → S[j]? = some o → C' (φ k) j ∧ S'[j]? = some o) : ∀ {u : List IV} {v : List TV} {L : List Nat}, Rps S C u v L → TV.alls p v = true → (∀ j ∈ L, S'[j]? = S[j]?) → Rps S' C' u (TV.fls φ v) L
  | _, _, _, .nil, _, _ => .nil
  | _, _, _, .cons h q e, a, hL => by
    rw [TV.fls]; rw [TV.alls, Bool.and_eq_true] at a
    subst e
    exact .cons (Rp.gen1 hz ho hn hC h a.1 fun j hj => hL j (List.mem_append_left _ hj)) (Rps.gen1 hz ho hn hC q a.2 fun j hj => hL j (List.mem_append_right _ hj)) rfl
end
mutual
/-- the flags otherwise, o too -/
theorem Rp.gen2 (hz : φ .z = .z) (hn : ∀ k, φ k ≠ .o) (hC : ∀ k j o, k ≠ .o → C k j → S[j]? = some o → C' (φ k) j ∧ S'[j]? = some o) : ∀ {u : IV} {v : TV} {L : List Nat}, Rp S C u v L → (∀ j o, j ∈ L → S[j]? = some o → C' (φ .o) j ∧ S'[j]? = some o) → Rp S' C' u (v.fl φ) []
  | _, _, _, .non, _ => .non
  | _, _, _, .bl b, _ => .bl b
  | _, _, _, .int i, _ => .int i
  | _, _, _, .str x, _ => .str x
  | _, _, _, .ty n, _ => .ty n
  | _, _, _, .fn x, _ => .fn x
  | _, _, _, .tup h, hL => by rw [TV.fl]; exact .tup (Rps.gen2 hz hn hC h hL)
  | _, _, _, .sq h, hL => by rw [TV.fl, hz]; exact .sq (Rps.gen2 hz hn hC h hL)
  | _, _, _, .own h g q, hL => by
    rw [TV.fl]
    obtain ⟨c1, c2⟩ := hL _ _ List.mem_cons_self h
    exact .ref (hn _) c2 g c1 (Rps.gen2 hz hn hC q fun j o hj => hL j o (List.mem_cons_of_mem _ hj))
  | _, _, _, .ref n h g c q, hL => by
    rw [TV.fl]
    obtain ⟨c1, c2⟩ := hC _ _ _ n c h
    exact .ref (hn _) c2 g c1 (Rps.gen2 hz hn hC q hL)
theorem Rps.gen2 (hz : φ .z = .z) (hn : ∀ k, φ k ≠ .o) (hC : ∀ k j o, k ≠ .o → C k j → S[j]? = some o → C' (φ k) j ∧ S'[j]? = some o) : ∀ {u : List IV} {v : List TV} {L : List Nat}, Rps S C u v L → (∀ j o, j ∈ L → S[j]? = some o → C' (φ .o) j ∧ S'[j]? = some o) → Rps S' C' u (TV.fls φ v) []
  | _, _, _, .nil, _ => .nil
  | _, _, _, .cons h q e, hL => by
    rw [TV.fls]
    subst e
    exact .cons (Rp.gen2 hz hn hC h fun j o hj => hL j o (List.mem_append_left _ hj)) (Rps.gen2 hz hn hC q fun j o hj => hL j o (List.mem_append_right _ hj)) rfl
end
mutual
theorem TV.all_true : ∀ v : TV, v.all (fun _ => true) = true
  | .tup xs => by rw [TV.all, TV.alls_true xs]
  | .nd k g xs => by rw [TV.all, TV.alls_true xs]; rfl
  | .non => rfl
  | .bl _ => rfl
  | .int _ => rfl
  | .str _ => rfl
  | .ty _ => rfl
  | .fn _ => rfl
theorem TV.alls_true : ∀ xs : List TV, TV.alls (fun _ => true) xs = true
  | [] => rfl
  | x :: xs => by rw [TV.alls, TV.all_true x, TV.alls_true xs]; rfl
end
/-- another store, other rules -/
theorem Rp.mono (hC : ∀ k j o, k ≠ .o → C k j → S[j]? = some o → C' k j ∧ S'[j]? = some o) {u : IV} {v : TV} {L : List Nat} (h : Rp S C u v L) (hL : ∀ j ∈ L, S'[j]? = S[j]?) : Rp S' C' u v L := by
  have := Rp.gen1 (φ := fun k => k) (p := fun _ => true) rfl rfl (fun _ h => h) (fun k j o a _ b c => hC k j o a b c) h v.all_true hL
  rwa [TV.fl_id] at this
theorem Rps.mono (hC : ∀ k j o, k ≠ .o → C k j → S[j]? = some o → C' k j ∧ S'[j]? = some o) {u : List IV} {v : List TV} {L : List Nat} (h : Rps S C u v L) (hL : ∀ j ∈ L, S'[j]? = S[j]?) : Rps S' C' u v L := by
  have := Rps.gen1 (φ := fun k => k) (p := fun _ => true) rfl rfl (fun _ h => h) (fun k j o a _ b c => hC k j o a b c) h (TV.alls_true v) hL
  rwa [TV.fls_id] at this
/-- with flags of some sorts alone -/
theorem Rp.monoP (hC : ∀ k j o, k ≠ .o → p k = true → C k j → S[j]? = some o → C' k j ∧ S'[j]? = some o) {u : IV} {v : TV} {L : List Nat} (h : Rp S C u v L) (a : v.all p = true) (hL : ∀ j ∈ L, S'[j]? = S[j]?) : Rp S' C' u v L := by
  have := Rp.gen1 (φ := fun k => k) (p := p) rfl rfl (fun _ h => h) (fun k j o a e b c => hC k j o a e b c) h a hL
  rwa [TV.fl_id] at this
mutual
/-- what is held lies in the store -/
theorem Rp.lt : ∀ {u : IV} {v : TV} {L : List Nat}, Rp S C u v L → ∀ j ∈ L, j < S.length
  | _, _, _, .non, _, h => by cases h
  | _, _, _, .bl _, _, h => by cases h
  | _, _, _, .int _, _, h => by cases h
  | _, _, _, .str _, _, h => by cases h
  | _, _, _, .ty _, _, h => by cases h
  | _, _, _, .fn _, _, h => by cases h
  | _, _, _, .tup q, j, h => Rps.lt q j h
  | _, _, _, .sq _, _, h => by cases h
  | _, _, _, .own e _ q, j, h => by
    rcases List.mem_cons.mp h with rfl | h
    · exact (List.getElem?_eq_some_iff.mp e).1
    · exact Rps.lt q j h
  | _, _, _, .ref _ _ _ _ _, _, h => by cases h
theorem Rps.lt : ∀ {u : List IV} {v : List TV} {L : List Nat}, Rps S C u v L → ∀ j ∈ L, j < S.length
  | _, _, _, .nil, _, h => by cases h
  | _, _, _, .cons q r e, j, h => by
    subst e
    rcases List.mem_append.mp h with h | h
    · exact Rp.lt q j h
    · exact Rps.lt r j h
end
theorem Rps.length : ∀ {u : List IV} {v : List TV} {L : List Nat}, Rps S C u v L → u.length = v.length
  | _, _, _, .nil => rfl
  | _, _, _, .cons _ q _ => by rw [List.length_cons, List.length_cons, Rps.length q]
theorem Rps.append : ∀ {u u' : List IV} {v v' : List TV} {L M : List Nat}, Rps S C u v L → Rps S C u' v' M → Rps S C (u ++ u') (v ++ v') (L ++ M)
  | _, _, _, _, _, _, .nil, h => h
  | _, _, _, _, _, _, .cons h q e, r => .cons h (Rps.append q r) (by rw [e, List.append_assoc])
theorem Rps.one {u : IV} {v : TV} {L : List Nat} (h : Rp S C u v L) : Rps S C [u] [v] L := by
  exact .cons h .nil (List.append_nil L).symm
theorem Rps.cons0 {x : IV} {v : TV} {xs : List IV} {vs : List TV} (h : Rp S C x v []) (q : Rps S C xs vs []) : Rps S C (x :: xs) (v :: vs) [] := .cons h q rfl
theorem Rps.inv0 {xs : List IV} {v : TV} {vs : List TV} : Rps S C xs (v :: vs) [] → ∃ y ys, xs = y :: ys ∧ Rp S C y v [] ∧ Rps S C ys vs []
  | .cons h q e => by
    obtain ⟨rfl, rfl⟩ := List.append_eq_nil_iff.mp e.symm
    exact ⟨_, _, rfl, h, q⟩
theorem Rps.invN {xs : List IV} {L : List Nat} : Rps S C xs [] L → xs = [] ∧ L = []
  | .nil => ⟨rfl, rfl⟩
theorem Rps.get : ∀ {v : List TV} {u : List IV}, Rps S C u v [] → ∀ {i : Nat} {x : TV}, v[i]? = some x → ∃ y, u[i]? = some y ∧ Rp S C y x []
  | [], _, _, i, x, e => by simp at e
  | v :: vs, _, h, i, x, e => by
    obtain ⟨y, ys, rfl, h, q⟩ := h.inv0
    cases i with
    | zero => simp at e; subst e; exact ⟨_, rfl, h⟩
    | succ i =>
      obtain ⟨v, e1, e2⟩ := Rps.get q (i := i) (x := x) (by simpa using e)
      exact ⟨v, by simpa using e1, e2⟩
theorem Rps.take : ∀ {v : List TV} {u : List IV} (n : Nat), Rps S C u v [] → Rps S C (u.take n) (v.take n) []
  | _, _, 0, _ => by rw [List.take_zero, List.take_zero]; exact .nil
  | [], _, _ + 1, h => by obtain ⟨rfl, _⟩ := h.invN; exact .nil
  | v :: vs, _, n + 1, h => by
    obtain ⟨y, ys, rfl, h, q⟩ := h.inv0
    exact .cons0 h (Rps.take n q)
theorem Rps.drop : ∀ {v : List TV} {u : List IV} (n : Nat), Rps S C u v [] → Rps S C (u.drop n) (v.drop n) []
  | _, _, 0, h => h
  | [], _, _ + 1, h => by obtain ⟨rfl, _⟩ := h.invN; exact .nil
  | v :: vs, _, n + 1, h => by
    obtain ⟨y, ys, rfl, h, q⟩ := h.inv0
    exact Rps.drop n q
theorem Rps.app0 {u u' : List IV} {v v' : List TV} (h : Rps S C u v []) (q : Rps S C u' v' []) : Rps S C (u ++ u') (v ++ v') [] := Rps.append h q
theorem Rps.reverse : ∀ {v : List TV} {u : List IV}, Rps S C u v [] → Rps S C u.reverse v.reverse []
  | [], _, h => by obtain ⟨rfl, _⟩ := h.invN; exact .nil
  | v :: vs, _, h => by
    obtain ⟨y, ys, rfl, h, q⟩ := h.inv0
    rw [List.reverse_cons, List.reverse_cons]; exact Rps.app0 (Rps.reverse q) (.one h)
theorem Rps.rep {u : List IV} {v : List TV} (h : Rps S C u v []) : ∀ k : Nat, Rps S C (List.replicate k u).flatten (List.replicate k v).flatten []
  | 0 => .nil
  | k + 1 => by
    rw [List.replicate_succ, List.replicate_succ, List.flatten_cons, List.flatten_cons]
    exact Rps.app0 h (Rps.rep h k)
end
end IP

/-! IPyR: the second evaluator: slots, how they stand to the first one's, the judgement of an expression. -/
namespace IP
open PySem
abbrev Env := List (Option TV)
inductive RV (α : Type) where
  | ok (a : α) (e : Env)
  | ex (c : Str) (fs : List (Str × IV)) (e : Env)
  | no
def RV.bind {α β : Type} (r : RV α) (f : α → Env → RV β) : RV β := match r with
  | .ok a e => f a e
  | .ex c fs e => .ex c fs e
  | .no => .no
def RV.ofO {α : Type} (o : Option α) (e : Env) : RV α := match o with
  | some a => .ok a e
  | none => .no
abbrev VE := Env → RV TV
abbrev VB := Env → RV Bool
abbrev VA := Env → RV (List TV)

abbrev LsT := Nat → List Nat
def Fresh (Ls : LsT) (A : List Nat) (j : Nat) : Prop := (∀ y, j ∉ Ls y) ∧ j ∉ A
def Cst (b : Nat) (N0 : Nat → Prop) (Ls : LsT) (A : List Nat) (W : Nat → Prop) : Fl → Nat → Prop
  | .o, _ => False
  | .s, j => b ≤ j ∧ Fresh Ls A j
  | .z, j => (b ≤ j ∨ N0 j) ∧ Fresh Ls A j
  | .w, j => W j
def Wn (ws : List Nat) (Ls : LsT) (j : Nat) : Prop := ∃ x ∈ ws, j ∈ Ls x
def W0 : Nat → Prop := fun _ => False
structure Inv (b : Nat) (N0 : Nat → Prop) (kp : List Nat) (A : List Nat) (t : Slo) (S : Sto) (env : Env) (Ls : LsT) : Prop where
  lb : b ≤ S.length
  len : env.length = t.length
  at_ : ∀ y v, env[y]? = some (some v) → ∃ u, t[y]? = some (some u) ∧ Rp S (Cst b N0 Ls A W0) u v (Ls y)
  dead : ∀ y, (∀ v, env[y]? ≠ some (some v)) → Ls y = []
  nd : ∀ y, (Ls y).Nodup
  dj : ∀ y z j, j ∈ Ls y → j ∈ Ls z → y = z
  fr : ∀ y j, j ∈ Ls y → b ≤ j ∨ y ∈ kp
  an : A.Nodup
  ad : ∀ j ∈ A, ∀ y, j ∉ Ls y
  al : ∀ j ∈ A, j < S.length
structure Step (S : Sto) (Ls : LsT) (S' : Sto) (Ls' : LsT) : Prop where
  len : S.length ≤ S'.length
  keep : ∀ j, j < S.length → (∀ y, j ∉ Ls y) → S'[j]? = S[j]?
  own : ∀ y j, j ∈ Ls' y → (∃ x, j ∈ Ls x) ∨ S.length ≤ j
theorem Step.refl {S : Sto} {Ls : LsT} : Step S Ls S Ls := ⟨Nat.le_refl _, fun _ _ _ => rfl, fun y j h => .inl ⟨y, h⟩⟩
theorem Step.app {S T : Sto} {Ls : LsT} : Step S Ls (S ++ T) Ls := ⟨by simp, fun j h _ => List.getElem?_append_left h, fun y j h => .inl ⟨y, h⟩⟩
theorem Step.trans {S S1 S2 : Sto} {Ls L1 L2 : LsT} (h : Step S Ls S1 L1) (k : Step S1 L1 S2 L2) : Step S Ls S2 L2 := by
  refine ⟨Nat.le_trans h.len k.len, fun j hj hn => ?_, fun y j hj => ?_⟩
  · rw [k.keep j (Nat.lt_of_lt_of_le hj h.len) fun y hy => ?_, h.keep j hj hn]
    rcases h.own y j hy with ⟨x, hx⟩ | hx
    · exact hn x hx
    · omega
  · rcases k.own y j hj with ⟨x, hx⟩ | hx
    · exact h.own x j hx
    · exact .inr (Nat.le_trans h.len hx)
section
variable {b : Nat} {N0 : Nat → Prop} {kp : List Nat} {A A' : List Nat} {t : Slo} {S S' S1 : Sto} {env env' env1 : Env} {Ls Ls' Ls1 : LsT}
theorem Inv.lt (I : Inv b N0 kp A t S env Ls) {y j : Nat} (h : j ∈ Ls y) : j < S.length := by
  by_cases e : ∃ v, env[y]? = some (some v)
  · obtain ⟨v, e⟩ := e
    obtain ⟨u, _, r⟩ := I.at_ y v e
    exact r.lt j h
  · rw [I.dead y fun v z => e ⟨v, z⟩] at h; cases h
theorem lt_of_some {α : Type} {S : List α} {j : Nat} {o : α} (h : S[j]? = some o) : j < S.length := (List.getElem?_eq_some_iff.mp h).1
/-- more of a store, other places set aside -/
theorem Inv.ext (I : Inv b N0 kp A t S env Ls) (hS : ∀ j, j < S.length → S'[j]? = S[j]?) (hl : S.length ≤ S'.length) (hn : A'.Nodup) (h1 : ∀ j ∈ A', j ∈ A ∨ S.length ≤ j) (h2 : ∀ j ∈ A', j < S'.length) : Inv b N0 kp A' t S' env Ls := by
  have nA : ∀ {j : Nat}, j < S.length → j ∉ A → j ∉ A' := fun {j} hj h m => by
    rcases h1 j m with m | m
    · exact h m
    · omega
  refine ⟨Nat.le_trans I.lb hl, I.len, fun y v e => ?_, I.dead, I.nd, I.dj, I.fr, hn, fun j hj y hy => ?_, h2⟩
  · obtain ⟨u, e1, r⟩ := I.at_ y v e
    refine ⟨u, e1, r.mono (fun k j o _ c hs => ?_) fun j hj => hS j (I.lt hj)⟩
    refine ⟨?_, by rw [hS j (lt_of_some hs)]; exact hs⟩
    cases k with
    | o => exact c
    | s => exact ⟨c.1, c.2.1, nA (lt_of_some hs) c.2.2⟩
    | z => exact ⟨c.1, c.2.1, nA (lt_of_some hs) c.2.2⟩
    | w => exact c
  · rcases h1 j hj with m | m
    · exact I.ad j m y hy
    · have := I.lt hy; omega
theorem Inv.less (I : Inv b N0 kp A t S env Ls) (hn : A'.Nodup) (h1 : ∀ j ∈ A', j ∈ A) : Inv b N0 kp A' t S env Ls :=
  I.ext (fun _ _ => rfl) (Nat.le_refl _) hn (fun j h => .inl (h1 j h)) fun j h => I.al j (h1 j h)
theorem Inv.drop {L : List Nat} (I : Inv b N0 kp (A ++ L) t S env Ls) : Inv b N0 kp A t S env Ls :=
  I.less (List.nodup_append.mp I.an).1 fun j h => List.mem_append_left _ h
theorem Inv.nil (I : Inv b N0 kp A t S env Ls) : Inv b N0 kp (A ++ []) t S env Ls := by rw [List.append_nil]; exact I
/-! ### what holds behind -/
/-- r: by trees, x: by places -/
def Aft2 {α β : Type} (kp : List Nat) (cl : Bool) (b : Nat) (N0 : Nat → Prop) (A : List Nat) (t : Slo) (S : Sto) (env : Env) (Ls : LsT) (r : RV α) (x : R β) (Q : β → α → Sto → LsT → List Nat → Prop) : Prop := match r with
  | .ok v env' => ∃ u S' L Ls', x = .ok u S' ∧ Inv b N0 kp (A ++ L) t S' env' Ls' ∧ Step S Ls S' Ls' ∧ (∀ j ∈ L, S.length ≤ j) ∧ Q u v S' Ls' L ∧ (cl = true → env' = env ∧ Ls' = Ls ∧ ∃ T, S' = S ++ T)
  | .ex c fs env' => ∃ S' Ls', x = .ex c fs S' ∧ Inv b N0 kp A t S' env' Ls' ∧ Step S Ls S' Ls'
  | .no => True
section
variable {α β γ δ : Type} {cl cl' : Bool}
/-- one behind the other -/
theorem Aft2.bind {r : RV α} {x : R β} {Q : β → α → Sto → LsT → List Nat → Prop} {k : α → Env → RV γ} {f : β → Sto → R δ} {Q' : δ → γ → Sto → LsT → List Nat → Prop} (h : Aft2 kp cl b N0 A t S env Ls r x Q)
    (hk : ∀ u v S1 env1 Ls1 L1, Inv b N0 kp (A ++ L1) t S1 env1 Ls1 → Step S Ls S1 Ls1 → (∀ j ∈ L1, S.length ≤ j) → Q u v S1 Ls1 L1 → (cl = true → env1 = env ∧ Ls1 = Ls ∧ ∃ T, S1 = S ++ T) → Aft2 kp cl' b N0 A t S env Ls (k v env1) (f u S1) Q') :
    Aft2 kp cl' b N0 A t S env Ls (r.bind k) (x.bind f) Q' := by
  cases r with
  | ok v env' =>
    obtain ⟨u, S', L, Ls', e, I, st, hL, q, c⟩ := h
    rw [e]
    exact hk u v S' env' Ls' L I st hL q c
  | ex c fs env' =>
    obtain ⟨S', Ls', e, I, st⟩ := h
    rw [e]
    exact ⟨S', Ls', rfl, I, st⟩
  | no => trivial
/-- told from a later place on -/
theorem Aft2.from {r : RV α} {x : R β} {Q Q' : β → α → Sto → LsT → List Nat → Prop} {cl1 cl2 : Bool} {L1 : List Nat} (st : Step S Ls S1 Ls1) (h1 : ∀ j ∈ L1, S.length ≤ j) (h : Aft2 kp cl2 b N0 (A ++ L1) t S1 env1 Ls1 r x Q)
    (c1 : cl1 = true → env1 = env ∧ Ls1 = Ls ∧ ∃ T, S1 = S ++ T)
    (hQ : ∀ u v env2 S2 Ls2 L2, Inv b N0 kp (A ++ L1 ++ L2) t S2 env2 Ls2 → Step S1 Ls1 S2 Ls2 → (∀ j ∈ L2, S1.length ≤ j) → Q u v S2 Ls2 L2 → (cl2 = true → env2 = env1 ∧ Ls2 = Ls1 ∧ ∃ T, S2 = S1 ++ T) → Q' u v S2 Ls2 (L1 ++ L2)) :
    Aft2 kp (cl1 && cl2) b N0 A t S env Ls r x Q' := by
  cases r with
  | ok v env' =>
    obtain ⟨u, S2, L2, Ls2, e, I, st2, hL, q, c⟩ := h
    refine ⟨u, S2, L1 ++ L2, Ls2, e, by rw [← List.append_assoc]; exact I, st.trans st2, fun j hj => ?_, hQ u v env' S2 Ls2 L2 I st2 hL q c, fun z => ?_⟩
    · rcases List.mem_append.mp hj with hj | hj
      · exact h1 j hj
      · exact Nat.le_trans st.len (hL j hj)
    · rw [Bool.and_eq_true] at z
      obtain ⟨a1, a2, T1, a3⟩ := c1 z.1
      obtain ⟨b1, b2, T2, b3⟩ := c z.2
      exact ⟨b1.trans a1, b2.trans a2, T1 ++ T2, by rw [b3, a3, List.append_assoc]⟩
  | ex c fs env' =>
    obtain ⟨S2, Ls2, e, I, st2⟩ := h
    exact ⟨S2, Ls2, e, I.drop, st.trans st2⟩
  | no => trivial
theorem Aft2.weak {r : RV α} {x : R β} {Q Q' : β → α → Sto → LsT → List Nat → Prop} (h : Aft2 kp cl b N0 A t S env Ls r x Q) (hc : cl' = true → cl = true) (hQ : ∀ u v S2 Ls2 L2, Q u v S2 Ls2 L2 → Q' u v S2 Ls2 L2) : Aft2 kp cl' b N0 A t S env Ls r x Q' := by
  cases r with
  | ok v env' =>
    obtain ⟨u, S2, L2, Ls2, e, I, st2, hL, q, c⟩ := h
    exact ⟨u, S2, L2, Ls2, e, I, st2, hL, hQ _ _ _ _ _ q, fun z => c (hc z)⟩
  | ex c fs env' => exact h
  | no => trivial
end
end
/-! ### the judgements -/
def VEok (kp ws : List Nat) (cl : Bool) (m : SE) (w : VE) : Prop := ∀ (b : Nat) (N0 : Nat → Prop) (A : List Nat) (t : Slo) (S : Sto) (env : Env) (Ls : LsT), Inv b N0 kp A t S env Ls →
  Aft2 kp cl b N0 A t S env Ls (w env) (m t S) fun u v S' Ls' L => Rp S' (Cst b N0 Ls' (A ++ L) (Wn ws Ls')) u v L
def VAok (kp ws : List Nat) (cl : Bool) (m : SA) (w : VA) : Prop := ∀ (b : Nat) (N0 : Nat → Prop) (A : List Nat) (t : Slo) (S : Sto) (env : Env) (Ls : LsT), Inv b N0 kp A t S env Ls →
  Aft2 kp cl b N0 A t S env Ls (w env) (m t S) fun u v S' Ls' L => Rps S' (Cst b N0 Ls' (A ++ L) (Wn ws Ls')) u v L
def VBok (kp : List Nat) (cl : Bool) (m : SB) (w : VB) : Prop := ∀ (b : Nat) (N0 : Nat → Prop) (A : List Nat) (t : Slo) (S : Sto) (env : Env) (Ls : LsT), Inv b N0 kp A t S env Ls →
  Aft2 kp cl b N0 A t S env Ls (w env) (m t S) fun u v _ _ L => u = v ∧ L = []
section
variable {b : Nat} {N0 : Nat → Prop} {kp ws ws' : List Nat} {cl cl' : Bool} {A A' L : List Nat} {t : Slo} {S S' S1 : Sto} {env env' env1 : Env} {Ls Ls' Ls1 : LsT} {m : SE} {w : VE}
theorem Inv.lnd (I : Inv b N0 kp (A ++ L) t S env Ls) : L.Nodup := (List.nodup_append.mp I.an).2.1
theorem Inv.lad (I : Inv b N0 kp (A ++ L) t S env Ls) {j : Nat} (h : j ∈ L) : Fresh Ls A j := ⟨I.ad j (List.mem_append_right _ h), fun m => (List.nodup_append.mp I.an).2.2 j m j h rfl⟩
theorem Fresh.less {j : Nat} (h : Fresh Ls (A ++ L) j) : Fresh Ls A j := ⟨h.1, fun m => h.2 (List.mem_append_left _ m)⟩
theorem Cst.less {W : Nat → Prop} {k : Fl} {j : Nat} (h : Cst b N0 Ls (A ++ L) W k j) : Cst b N0 Ls A W k j := by
  cases k with
  | o => exact h
  | s => exact ⟨h.1, h.2.less⟩
  | z => exact ⟨h.1, h.2.less⟩
  | w => exact h
theorem wn_nil {j : Nat} (h : Wn [] Ls j) : False := by obtain ⟨_, h, _⟩ := h; cases h
/-- a value carried over what comes behind -/
theorem Rp.carry {u : IV} {v : TV} {L1 L2 : List Nat} {S2 : Sto} {Ls2 : LsT} (I1 : Inv b N0 kp (A ++ L1) t S1 env1 Ls1) (h : Rp S1 (Cst b N0 Ls1 (A ++ L1) (Wn ws Ls1)) u v L1) (st : Step S1 Ls1 S2 Ls2) (hL : ∀ j ∈ L2, S1.length ≤ j)
    (c : ws = [] ∨ (Ls2 = Ls1 ∧ ∃ T, S2 = S1 ++ T)) : Rp S2 (Cst b N0 Ls2 (A ++ L1 ++ L2) (Wn (ws ++ ws') Ls2)) u v L1 := by
  have fr : ∀ {j : Nat} {o : SO}, S1[j]? = some o → Fresh Ls1 (A ++ L1) j → Fresh Ls2 (A ++ L1 ++ L2) j ∧ S2[j]? = some o := fun {j o} hs hf => by
    have hj := lt_of_some hs
    refine ⟨⟨fun y hy => ?_, fun m => ?_⟩, by rw [st.keep j hj hf.1]; exact hs⟩
    · rcases st.own y j hy with ⟨x, hx⟩ | hx
      · exact hf.1 x hx
      · omega
    · rcases List.mem_append.mp m with m | m
      · exact hf.2 m
      · have := hL j m; omega
  refine h.mono (fun k j o hk hc hs => ?_) fun j hj => ?_
  · cases k with
    | o => exact absurd rfl hk
    | s => obtain ⟨f1, f2⟩ := fr hs hc.2; exact ⟨⟨hc.1, f1⟩, f2⟩
    | z => obtain ⟨f1, f2⟩ := fr hs hc.2; exact ⟨⟨hc.1, f1⟩, f2⟩
    | w =>
      rcases c with rfl | ⟨rfl, T, rfl⟩
      · exact (wn_nil hc).elim
      · obtain ⟨x, hx, hj⟩ := hc
        exact ⟨⟨x, List.mem_append_left _ hx, hj⟩, by rw [List.getElem?_append_left (lt_of_some hs)]; exact hs⟩
  · exact st.keep j (I1.al j (List.mem_append_right _ hj)) (I1.lad hj).1
/-- shared: nothing of it is held alone -/
theorem Rp.share {u : IV} {v : TV} {L1 : List Nat} {W : Nat → Prop} (I1 : Inv b N0 kp (A ++ L1) t S1 env1 Ls1) (hb : ∀ j ∈ L1, b ≤ j) (h : Rp S1 (Cst b N0 Ls1 (A ++ L1) W) u v L1) : Rp S1 (Cst b N0 Ls1 A W) u v.sh [] := by
  refine h.gen2 rfl (fun k => by cases k <;> nofun) (fun k j o hk hc hs => ⟨?_, hs⟩) fun j o hj hs => ⟨⟨hb j hj, I1.lad hj⟩, hs⟩
  cases k with
  | o => exact absurd rfl hk
  | s => exact hc.less
  | z => exact hc.less
  | w => exact hc
theorem Rps.share {u : List IV} {v : List TV} {L1 : List Nat} {W : Nat → Prop} (I1 : Inv b N0 kp (A ++ L1) t S1 env1 Ls1) (hb : ∀ j ∈ L1, b ≤ j) (h : Rps S1 (Cst b N0 Ls1 (A ++ L1) W) u v L1) : Rps S1 (Cst b N0 Ls1 A W) u (TV.fls fSh v) [] := by
  refine h.gen2 rfl (fun k => by cases k <;> nofun) (fun k j o hk hc hs => ⟨?_, hs⟩) fun j o hj hs => ⟨⟨hb j hj, I1.lad hj⟩, hs⟩
  cases k with
  | o => exact absurd rfl hk
  | s => exact hc.less
  | z => exact hc.less
  | w => exact hc
/-- a result: held before, or new -/
inductive Res (S : Sto) (C : Fl → Nat → Prop) : IV → Sto → TV → Prop
  | old {u : IV} {v : TV} : Rp S C u v [] → Res S C u S v
  | new {g : Tag} {xs : List IV} {vs : List TV} : okG g xs.length → Rps S C xs vs [] → Res S C (.ref S.length) (S ++ [mkO g xs]) (.nd .o g vs)
/-- behind a result of what was held -/
theorem Res.aft {u : IV} {v : TV} {L1 : List Nat} {S0 : Sto} {Ls0 : LsT} {env0 : Env} (h : Res S1 (Cst b N0 Ls1 A (Wn ws Ls1)) u S' v) (I : Inv b N0 kp (A ++ L1) t S1 env1 Ls1) (st : Step S0 Ls0 S1 Ls1) (c : cl = true → env1 = env0 ∧ Ls1 = Ls0 ∧ ∃ T, S1 = S0 ++ T) :
    Aft2 kp cl b N0 A t S0 env0 Ls0 (RV.ofO (some v) env1) (R.ok u S') fun u v S' Ls' L => Rp S' (Cst b N0 Ls' (A ++ L) (Wn ws Ls')) u v L := by
  cases h with
  | old r => exact ⟨u, _, [], Ls1, rfl, I.drop.nil, st, (fun j h => by cases h), by show Rp _ (Cst b N0 Ls1 (A ++ []) (Wn ws Ls1)) _ _ _; rw [List.append_nil]; exact r, c⟩
  | new g r =>
    rename_i gg xs vs
    have hne : ∀ {j : Nat} {o : SO}, S1[j]? = some o → j ∉ [S1.length] := fun {j o} hs m => by
      have := lt_of_some hs
      have := List.mem_singleton.mp m
      omega
    have ne : ∀ j ∈ A, j ∉ [S1.length] := fun j hj m => by
      have := I.al j (List.mem_append_left _ hj)
      have := List.mem_singleton.mp m
      omega
    refine ⟨_, _, [S1.length], Ls1, rfl, ?_, st.trans Step.app, fun j h => by rw [List.mem_singleton.mp h]; exact st.len, ?_, fun z => ?_⟩
    · refine I.ext (fun j h => List.getElem?_append_left h) (by simp) ?_ (fun j h => ?_) fun j h => ?_
      · refine List.nodup_append.mpr ⟨(List.nodup_append.mp I.an).1, by simp, fun j h k hk e => ?_⟩
        subst e; exact ne j h hk
      · rcases List.mem_append.mp h with h | h
        · exact .inl (List.mem_append_left _ h)
        · exact .inr (by rw [List.mem_singleton.mp h]; exact Nat.le_refl _)
      · rcases List.mem_append.mp h with h | h
        · have := I.al j (List.mem_append_left _ h); simp; omega
        · rw [List.mem_singleton.mp h]; simp
    · refine .own (L := []) (xs := xs) (by rw [List.getElem?_append_right (Nat.le_refl _), Nat.sub_self]; rfl) g (r.mono (fun k j o hk hc hs => ⟨?_, by rw [List.getElem?_append_left (lt_of_some hs)]; exact hs⟩) fun j h => by cases h)
      have fr : Fresh Ls1 A j → Fresh Ls1 (A ++ [S1.length]) j := fun h => ⟨h.1, fun m => by
        rcases List.mem_append.mp m with m | m
        · exact h.2 m
        · exact hne hs m⟩
      cases k with
      | o => exact hc
      | s => exact ⟨hc.1, fr hc.2⟩
      | z => exact ⟨hc.1, fr hc.2⟩
      | w => exact hc
    · obtain ⟨c1, c2, T, c3⟩ := c z
      exact ⟨c1, c2, T ++ [mkO gg xs], by rw [c3, List.append_assoc]⟩
end
end IP

/-! IPyS: the second evaluator: expressions. -/
namespace IP
open PySem
/-! ### what they are -/
def vVar (i : Nat) : VE := fun e => match e[i]? with
  | some (some v) => .ok v.bo e
  | _ => .no
def vC (v : TV) : VE := fun e => .ok v e
def shEnv (ws : List Nat) (e : Env) : Env := match ws with
  | [] => e
  | x :: xs => let e' := shEnv xs e
    match e'[x]? with
    | some (some v) => e'.set x (some v.sh)
    | _ => e'
/-- behind an expression: nothing lent -/
def vFl (ws : List Nat) (a : VE) : VE := fun e => (a e).bind fun v e1 => if v.nw then .ok v e1 else .ok v.uw (shEnv ws e1)
def vPl (a : VE) : VE := fun e => (a e).bind fun v e1 => if v.nw then .ok v e1 else .no
abbrev T2 := TV → TV → Option TV
abbrev T1 := TV → Option TV
abbrev TL := List TV → Option TV
abbrev TM := TV → List TV → Option TV
def vBin (g : T2) (a b : VE) : VE := fun e => (a e).bind fun x e1 => (b e1).bind fun y e2 => RV.ofO (g x.sh y.sh) e2
def vUn (g : T1) (a : VE) : VE := fun e => (a e).bind fun x e1 => RV.ofO (g x.sh) e1
def vNil : VA := fun e => .ok [] e
def vCons (a : VE) (b : VA) : VA := fun e => (a e).bind fun x e1 => (b e1).bind fun xs e2 => .ok (x :: xs) e2
def vFn (g : TL) (a : VA) : VE := fun e => (a e).bind fun xs e1 => RV.ofO (g (TV.fls fSh xs)) e1
def vTup (a : VA) : VE := fun e => (a e).bind fun xs e1 => if xs.length ≤ 16777216 then .ok (.tup xs) e1 else .no
def vLst (a : VA) : VE := fun e => (a e).bind fun xs e1 => if xs.length ≤ 16777216 then .ok (.nd .o .lst xs) e1 else .no
def vDisp0 : VE := fun e => .ok (.nd .o (.dct []) []) e
def tBl : TV → Option Bool
  | .bl b => some b
  | _ => none
def tTru : TV → Option Bool
  | .non => some false
  | .bl b => some b
  | .int i => some (i != 0)
  | .str y => if y.length ≤ 16777216 then some ((y.length : Int) != 0) else none
  | .tup xs => some (!xs.isEmpty)
  | .nd _ .lst xs => some (!xs.isEmpty)
  | .nd _ (.dct ks) _ => some (!ks.isEmpty)
  | _ => none
def vB (a : VE) : VB := fun e => (a e).bind fun v e1 => RV.ofO (tBl v) e1
def vTru (a : VE) : VB := fun e => (a e).bind fun v e1 => RV.ofO (tTru v) e1
def vAndT (a b : VB) : VB := fun e => (a e).bind fun c e1 => if c then b e1 else .ok false e1
def vOrT (a b : VB) : VB := fun e => (a e).bind fun c e1 => if c then .ok true e1 else b e1
def vNotT (a : VB) : VB := fun e => (a e).bind fun c e1 => .ok (!c) e1
def vAnd (a b : VE) : VE := fun e => (a e).bind fun v e1 => (RV.ofO (tBl v) e1).bind fun c e1 => if c then b e1 else .ok (.bl false) e1
def vOr (a b : VE) : VE := fun e => (a e).bind fun v e1 => (RV.ofO (tBl v) e1).bind fun c e1 => if c then .ok (.bl true) e1 else b e1
def vNot (a : VE) : VE := fun e => (a e).bind fun v e1 => (RV.ofO (tBl v) e1).bind fun c e1 => .ok (.bl (!c)) e1
def vIf (c : VB) (a b : VE) : VE := fun e => (c e).bind fun k e1 => if k then a e1 else b e1
def vChain (f g : T2) (a b c : VE) : VE := fun e => (a e).bind fun x e1 => (b e1).bind fun y e2 => (RV.ofO ((f x.sh y.sh).bind tBl) e2).bind fun k e3 => if k then (c e3).bind fun w e4 => RV.ofO (g y.sh w.sh) e4 else .ok (.bl false) e3
/-! ### when an operation on trees stands for one on places -/
def O2T (f : O2) (g : T2) : Prop := ∀ (S : Sto) (C : Fl → Nat → Prop) (u v : IV) (x y : TV), C .o = (fun _ => False) → Rp S C u x [] → Rp S C v y [] → ∀ z, g x y = some z → ∃ w S', f u v S = some (w, S') ∧ Res S C w S' z
def O1T (f : O1) (g : T1) : Prop := ∀ (S : Sto) (C : Fl → Nat → Prop) (u : IV) (x : TV), C .o = (fun _ => False) → Rp S C u x [] → ∀ z, g x = some z → ∃ w S', f u S = some (w, S') ∧ Res S C w S' z
def OLT (f : OL) (g : TL) : Prop := ∀ (S : Sto) (C : Fl → Nat → Prop) (us : List IV) (xs : List TV), C .o = (fun _ => False) → Rps S C us xs [] → ∀ z, g xs = some z → ∃ w S', f us S = some (w, S') ∧ Res S C w S' z
section
variable {kp ws ws' : List Nat} {cl cl' : Bool} {m m' : SE} {w w' : VE} {mb mb' : SB} {wb wb' : VB} {ma : SA} {wa : VA}
theorem bo_ok {S : Sto} {C C' : Fl → Nat → Prop} {u : IV} {v : TV} {L : List Nat} (h : Rp S C u v L) (hC : ∀ k j, k ≠ .o → C k j → C' k j) (hL : ∀ j ∈ L, C' .w j) : Rp S C' u v.bo [] :=
  h.gen2 rfl (fun k => by cases k <;> nofun) (fun k j o hk hc hs => ⟨by cases k <;> first | exact absurd rfl hk | exact hC _ _ hk hc, hs⟩) fun j o hj hs => ⟨hL j hj, hs⟩
theorem vo_var (i : Nat) : VEok kp [i] true (mVar i) (vVar i) := fun b N0 A t S env Ls I => by
  unfold vVar
  split
  · rename_i v e
    obtain ⟨u, e1, r⟩ := I.at_ i v e
    refine ⟨u, S, [], Ls, by unfold mVar; rw [e1], I.nil, .refl, (fun j h => by cases h), ?_, fun _ => ⟨rfl, rfl, [], (List.append_nil S).symm⟩⟩
    show Rp S (Cst b N0 Ls (A ++ []) (Wn [i] Ls)) _ _ _
    rw [List.append_nil]
    refine bo_ok r (fun k j hk hc => ?_) fun j hj => ⟨i, List.mem_singleton_self i, hj⟩
    cases k with
    | o => exact absurd rfl hk
    | s => exact hc
    | z => exact hc
    | w => exact hc.elim
  · trivial
theorem vo_c {u : IV} {v : TV} (h : ∀ S C, Rp S C u v []) : VEok kp [] true (mC u) (vC v) := fun b N0 A t S env Ls I =>
  ⟨u, S, [], Ls, rfl, I.nil, .refl, (fun j h => by cases h), h _ _, fun _ => ⟨rfl, rfl, [], (List.append_nil S).symm⟩⟩
theorem Inv.set1 {b : Nat} {N0 : Nat → Prop} {A : List Nat} {t : Slo} {S : Sto} {env : Env} {Ls : LsT} (I : Inv b N0 kp A t S env Ls) {x : Nat} {v : TV} (e : env[x]? = some (some v)) (hk : x ∉ kp) : Inv b N0 kp A t S (env.set x (some v.sh)) (fun y => if y = x then [] else Ls y) := by
  have sub : ∀ {y j : Nat}, j ∈ (if y = x then [] else Ls y) → j ∈ Ls y ∧ y ≠ x := fun {y j} h => by
    split at h
    · cases h
    · rename_i n; exact ⟨h, n⟩
  have fr : ∀ {j : Nat}, Fresh Ls A j → Fresh (fun y => if y = x then [] else Ls y) A j := fun {j} h => ⟨fun y m => h.1 y (sub m).1, h.2⟩
  have hx : x < env.length := lt_of_some e
  refine ⟨I.lb, by rw [List.length_set]; exact I.len, fun y v' e' => ?_, fun y hy => ?_, fun y => ?_, fun y z j h1 h2 => I.dj y z j (sub h1).1 (sub h2).1, fun y j h => I.fr y j (sub h).1, I.an, fun j hj y hy => I.ad j hj y (sub hy).1, I.al⟩
  · rw [List.getElem?_set] at e'
    by_cases hxy : x = y
    · subst hxy
      rw [if_pos rfl, if_pos hx] at e'
      cases e'
      obtain ⟨u, e1, r⟩ := I.at_ x v e
      refine ⟨u, e1, ?_⟩
      rw [if_pos rfl]
      refine r.gen2 rfl (fun k => by cases k <;> nofun) (fun k j o hk hc hs => ⟨?_, hs⟩) fun j o hj hs => ⟨⟨(I.fr x j hj).resolve_right hk, fun y m => ?_, fun m => I.ad j m x hj⟩, hs⟩
      · cases k with
        | o => exact absurd rfl hk
        | s => exact ⟨hc.1, fr hc.2⟩
        | z => exact ⟨hc.1, fr hc.2⟩
        | w => exact hc
      · exact (sub m).2 (I.dj y x j (sub m).1 hj)
    · rw [if_neg hxy] at e'
      obtain ⟨u, e1, r⟩ := I.at_ y v' e'
      refine ⟨u, e1, ?_⟩
      rw [if_neg (Ne.symm hxy)]
      refine r.mono (fun k j o hk hc hs => ⟨?_, hs⟩) fun _ _ => rfl
      cases k with
      | o => exact absurd rfl hk
      | s => exact ⟨hc.1, fr hc.2⟩
      | z => exact ⟨hc.1, fr hc.2⟩
      | w => exact hc
  · by_cases hxy : y = x
    · show (if y = x then [] else Ls y) = []
      rw [if_pos hxy]
    · show (if y = x then [] else Ls y) = []
      rw [if_neg hxy]
      refine I.dead y fun v' e' => hy v' ?_
      rw [List.getElem?_set_ne (Ne.symm hxy)]; exact e'
  · show (if y = x then [] else Ls y).Nodup
    split
    · exact List.nodup_nil
    · exact I.nd y
theorem Inv.shs {b : Nat} {N0 : Nat → Prop} {A : List Nat} {t : Slo} {S : Sto} {env : Env} {Ls : LsT} (I : Inv b N0 kp A t S env Ls) : ∀ ws : List Nat, (∀ x ∈ ws, x ∉ kp) → ∃ Ls', Inv b N0 kp A t S (shEnv ws env) Ls' ∧ (∀ y j, j ∈ Ls' y → j ∈ Ls y ∧ y ∉ ws)
  | [], _ => ⟨Ls, I, fun y j h => ⟨h, by simp⟩⟩
  | x :: xs, hk => by
    obtain ⟨Ls', I', h⟩ := Inv.shs I xs fun y hy => hk y (List.mem_cons_of_mem _ hy)
    unfold shEnv
    dsimp only
    split
    · rename_i v e
      refine ⟨_, I'.set1 e (hk x List.mem_cons_self), fun y j hj => ?_⟩
      split at hj
      · cases hj
      · rename_i n
        obtain ⟨h1, h2⟩ := h y j hj
        exact ⟨h1, fun m => by rcases List.mem_cons.mp m with m | m; exact n m; exact h2 m⟩
    · rename_i n
      refine ⟨Ls', I', fun y j hj => ?_⟩
      obtain ⟨h1, h2⟩ := h y j hj
      refine ⟨h1, fun m => ?_⟩
      rcases List.mem_cons.mp m with rfl | m
      · rw [I'.dead y fun v e => n v e] at hj; cases hj
      · exact h2 m
theorem Inv.fresh_le {b : Nat} {N0 : Nat → Prop} {A : List Nat} {t : Slo} {S : Sto} {env : Env} {Ls : LsT} (I : Inv b N0 kp A t S env Ls) {x j : Nat} (h : j ∈ Ls x) (hk : x ∉ kp) : b ≤ j := (I.fr x j h).resolve_right hk
theorem vo_fl (h : VEok kp ws cl m w) (hkp : ∀ x ∈ ws, x ∉ kp) : VEok kp [] false m (vFl ws w) := fun b N0 A t S env Ls I => by
  have h1 := h b N0 A t S env Ls I
  unfold vFl
  generalize hm : m t S = x at h1
  cases hw : w env with
  | ok v env' =>
    rw [hw] at h1
    obtain ⟨u, S', L, Ls', e, I', st, hL, q, _⟩ := h1
    show Aft2 kp false b N0 A t S env Ls (if v.nw then RV.ok v env' else .ok v.uw (shEnv ws env')) x _
    cases hn : v.nw with
    | true =>
      rw [if_pos rfl]
      refine ⟨u, S', L, Ls', e, I', st, hL, ?_, fun z => by cases z⟩
      refine q.monoP (p := fNw) (fun k j o hk hp hc hs => ⟨?_, hs⟩) hn fun _ _ => rfl
      cases k with
      | o => exact absurd rfl hk
      | s => exact hc
      | z => exact hc
      | w => cases hp
    | false =>
      rw [if_neg Bool.false_ne_true]
      obtain ⟨Ls2, I2, hs2⟩ := I'.shs ws hkp
      have fr : ∀ {j : Nat}, Fresh Ls' (A ++ L) j → Fresh Ls2 (A ++ L) j := fun {j} h => ⟨fun y hy => h.1 y (hs2 y j hy).1, h.2⟩
      refine ⟨u, S', L, Ls2, e, I2, ⟨st.len, st.keep, fun y j hj => st.own y j (hs2 y j hj).1⟩, hL, ?_, fun z => by cases z⟩
      refine q.gen1 (p := fun _ => true) rfl rfl (fun k hk => by cases k <;> first | exact absurd rfl hk | nofun) (fun k j o hk _ hc hs => ⟨?_, hs⟩) v.all_true fun _ _ => rfl
      cases k with
      | o => exact absurd rfl hk
      | s => exact ⟨hc.1, fr hc.2⟩
      | z => exact ⟨hc.1, fr hc.2⟩
      | w =>
        obtain ⟨x, hx, hj⟩ := hc
        refine ⟨I'.fresh_le hj (hkp x hx), fun y hy => ?_, fun m => I'.ad j m x hj⟩
        obtain ⟨a1, a2⟩ := hs2 y j hy
        rw [I'.dj y x j a1 hj] at a2
        exact a2 hx
  | ex c fs env' => rw [hw] at h1; exact h1
  | no => trivial
theorem vo_pl (h : VEok kp ws cl m w) : VEok kp [] cl m (vPl w) := fun b N0 A t S env Ls I => by
  have h1 := h b N0 A t S env Ls I
  unfold vPl
  generalize hm : m t S = x at h1
  cases hw : w env with
  | ok v env' =>
    rw [hw] at h1
    obtain ⟨u, S', L, Ls', e, I', st, hL, q, c⟩ := h1
    show Aft2 kp cl b N0 A t S env Ls (if v.nw then RV.ok v env' else .no) x _
    cases hn : v.nw with
    | true =>
      rw [if_pos rfl]
      refine ⟨u, S', L, Ls', e, I', st, hL, ?_, c⟩
      refine q.monoP (p := fNw) (fun k j o hk hp hc hs => ⟨?_, hs⟩) hn fun _ _ => rfl
      cases k with
      | o => exact absurd rfl hk
      | s => exact hc
      | z => exact hc
      | w => cases hp
    | false => rw [if_neg Bool.false_ne_true]; trivial
  | ex c fs env' => rw [hw] at h1; exact h1
  | no => trivial
/-- less is asked -/
theorem vo_cl (h : VEok kp ws cl m w) : VEok kp ws false m w := fun b N0 A t S env Ls I => (h b N0 A t S env Ls I).weak (by intro z; cases z) fun _ _ _ _ _ q => q
theorem va_nil : VAok kp [] true mNil vNil := fun b N0 A t S env Ls I => ⟨[], S, [], Ls, rfl, I.nil, .refl, (fun j h => by cases h), .nil, fun _ => ⟨rfl, rfl, [], (List.append_nil S).symm⟩⟩
theorem cst_ap {b : Nat} {N0 : Nat → Prop} {Ls : LsT} {A L M : List Nat} {W : Nat → Prop} : Cst b N0 Ls (A ++ L ++ M) W = Cst b N0 Ls (A ++ (L ++ M)) W := by rw [List.append_assoc]
theorem wn_r {x : Nat} {Ls : LsT} (h : Wn ws' Ls x) : Wn (ws ++ ws') Ls x := by obtain ⟨y, hy, hj⟩ := h; exact ⟨y, List.mem_append_right _ hy, hj⟩
theorem cst_r {b : Nat} {N0 : Nat → Prop} {Ls : LsT} {A : List Nat} {k : Fl} {j : Nat} (h : Cst b N0 Ls A (Wn ws' Ls) k j) : Cst b N0 Ls A (Wn (ws ++ ws') Ls) k j := by
  cases k with
  | o => exact h
  | s => exact h
  | z => exact h
  | w => exact wn_r h
theorem va_cons (h : VEok kp ws cl m w) (q : VAok kp ws' cl' ma wa) (hc : ws = [] ∨ cl' = true) : VAok kp (ws ++ ws') (cl && cl') (mCons m ma) (vCons w wa) := fun b N0 A t S env Ls I => by
  refine (h b N0 A t S env Ls I).bind fun u v S1 env1 Ls1 L1 I1 st1 hL1 r1 c1 => ?_
  refine Aft2.from (cl1 := cl) (cl2 := cl') st1 hL1 (Q := fun us vs S' Ls' L => ∃ u2 us2, us = u2 :: us2 ∧ ∃ v2 vs2, vs = v2 :: vs2 ∧ u2 = u ∧ v2 = v ∧ (ws = [] ∨ (Ls' = Ls1 ∧ ∃ T, S' = S1 ++ T)) ∧ Rps S' (Cst b N0 Ls' (A ++ L1 ++ L) (Wn ws' Ls')) us2 vs2 L) ?_ c1 fun us vs env2 S2 Ls2 L2 I2 st2 hL2 q2 c2 => ?_
  · have hq := q b N0 (A ++ L1) t S1 env1 Ls1 I1
    generalize ma t S1 = x at hq
    cases hw : wa env1 with
    | ok vs env2 =>
      rw [hw] at hq
      obtain ⟨us, S2, L2, Ls2, e, I2, st2, hL2, r2, c2⟩ := hq
      rw [e]
      refine ⟨u :: us, S2, L2, Ls2, rfl, I2, st2, hL2, ⟨u, us, rfl, v, vs, rfl, rfl, rfl, ?_, r2⟩, c2⟩
      rcases hc with hc | hc
      · exact .inl hc
      · exact .inr (c2 hc).2
    | ex c fs env2 =>
      rw [hw] at hq
      obtain ⟨S2, Ls2, e, I2, st2⟩ := hq
      rw [e]
      exact ⟨S2, Ls2, rfl, I2, st2⟩
    | no => trivial
  · obtain ⟨u2, us2, rfl, v2, vs2, rfl, rfl, rfl, hc2, r2⟩ := q2
    have r1' := r1.carry (ws' := ws') I1 st2 hL2 hc2
    rw [cst_ap] at r1'
    refine .cons r1' ?_ rfl
    rw [← cst_ap]
    exact r2.mono (fun k j o hk hc hs => ⟨cst_r hc, hs⟩) fun _ _ => rfl
theorem va_cl (h : VAok kp ws cl ma wa) : VAok kp ws false ma wa := fun b N0 A t S env Ls I => (h b N0 A t S env Ls I).weak (by intro z; cases z) fun _ _ _ _ _ q => q
theorem cst_o {b : Nat} {N0 : Nat → Prop} {Ls : LsT} {A : List Nat} {W : Nat → Prop} : Cst b N0 Ls A W .o = fun _ => False := rfl
theorem lb_of {b : Nat} {N0 : Nat → Prop} {A L : List Nat} {t : Slo} {S : Sto} {env : Env} {Ls : LsT} (I : Inv b N0 kp A t S env Ls) (hL : ∀ j ∈ L, S.length ≤ j) : ∀ j ∈ L, b ≤ j := fun j hj => Nat.le_trans I.lb (hL j hj)
/-- a built-in function -/
theorem vo_fn {f : OL} {g : TL} (hf : OLT f g) (q : VAok kp ws cl ma wa) : VEok kp ws cl (mFn f ma) (vFn g wa) := fun b N0 A t S env Ls I => by
  refine (q b N0 A t S env Ls I).bind fun us vs S1 env1 Ls1 L1 I1 st1 hL1 r1 c1 => ?_
  have r2 := r1.share I1 (lb_of I hL1)
  cases hg : g (TV.fls fSh vs) with
  | none => trivial
  | some z =>
    obtain ⟨x, S', e, hr⟩ := hf S1 _ us _ cst_o r2 z hg
    rw [e]
    exact hr.aft I1 st1 c1
theorem vo_un {f : O1} {g : T1} (hf : O1T f g) (h : VEok kp ws cl m w) : VEok kp ws cl (mUn f m) (vUn g w) := fun b N0 A t S env Ls I => by
  refine (h b N0 A t S env Ls I).bind fun u v S1 env1 Ls1 L1 I1 st1 hL1 r1 c1 => ?_
  have r2 := r1.share I1 (lb_of I hL1)
  cases hg : g v.sh with
  | none => trivial
  | some z =>
    obtain ⟨x, S', e, hr⟩ := hf S1 _ u _ cst_o r2 z hg
    rw [e]
    exact hr.aft I1 st1 c1
theorem bind_assoc {α β γ : Type} {r : R α} {f : α → Sto → R β} {g : β → Sto → R γ} : (r.bind f).bind g = r.bind fun a S => (f a S).bind g := by cases r <;> rfl
theorem vbind_assoc {α β γ : Type} {r : RV α} {f : α → Env → RV β} {g : β → Env → RV γ} : (r.bind f).bind g = r.bind fun a S => (f a S).bind g := by cases r <;> rfl
/-- two values as a list of them -/
theorem mPair {t : Slo} {S : Sto} {α : Type} {k : IV → IV → Sto → R α} : ((m t S).bind fun x S1 => (m' t S1).bind fun y S2 => k x y S2) = (mCons m (mCons m' mNil) t S).bind fun us S2 => match us with | [x, y] => k x y S2 | _ => .no := by
  unfold mCons mNil
  simp only [bind_assoc]
  congr 1
theorem vPair {e : Env} {α : Type} {k : TV → TV → Env → RV α} : ((w e).bind fun x e1 => (w' e1).bind fun y e2 => k x y e2) = (vCons w (vCons w' vNil) e).bind fun us e2 => match us with | [x, y] => k x y e2 | _ => .no := by
  unfold vCons vNil
  simp only [vbind_assoc]
  congr 1
theorem Rps.inv1 {S : Sto} {C : Fl → Nat → Prop} {us : List IV} {v : TV} (h : Rps S C us [v] []) : ∃ u, us = [u] ∧ Rp S C u v [] := by
  obtain ⟨u, us, rfl, r, q⟩ := h.inv0
  obtain ⟨rfl, _⟩ := q.invN
  exact ⟨u, rfl, r⟩
theorem Rps.inv2 {S : Sto} {C : Fl → Nat → Prop} {us : List IV} {v v' : TV} (h : Rps S C us [v, v'] []) : ∃ u u', us = [u, u'] ∧ Rp S C u v [] ∧ Rp S C u' v' [] := by
  obtain ⟨u, us, rfl, r, q⟩ := h.inv0
  obtain ⟨u', rfl, r'⟩ := q.inv1
  exact ⟨u, u', rfl, r, r'⟩
theorem vo_bin {f : O2} {g : T2} (hf : O2T f g) (h : VEok kp ws cl m w) (q : VEok kp ws' cl' m' w') (hc : ws = [] ∨ cl' = true) : VEok kp (ws ++ ws') (cl && cl') (mBin f m m') (vBin g w w') := fun b N0 A t S env Ls I => by
  have hp := va_cons h (va_cons q va_nil (.inr rfl)) (by rcases hc with hc | hc; exact .inl hc; exact .inr (by rw [hc]; rfl)) b N0 A t S env Ls I
  rw [List.append_nil, Bool.and_true] at hp
  unfold mBin vBin
  rw [mPair (k := fun x y S2 => R.ofO (f x y S2)), vPair (k := fun x y e2 => RV.ofO (g x.sh y.sh) e2)]
  refine hp.bind fun us vs S1 env1 Ls1 L1 I1 st1 hL1 r1 c1 => ?_
  have r2 := r1.share I1 (lb_of I hL1)
  split
  · rename_i x y
    obtain ⟨u, u', rfl, r3, r4⟩ := r2.inv2
    cases hg : g x.sh y.sh with
    | none => trivial
    | some z =>
      obtain ⟨x, S', e, hr⟩ := hf S1 _ u u' _ _ cst_o r3 r4 z hg
      show Aft2 _ _ _ _ _ _ _ _ _ _ (R.ofO (f u u' S1)) _
      rw [e]
      exact hr.aft I1 st1 c1
  · trivial
theorem vo_tup (q : VAok kp ws cl ma wa) : VEok kp ws cl (mTup ma) (vTup wa) := fun b N0 A t S env Ls I => by
  refine (q b N0 A t S env Ls I).bind fun us vs S1 env1 Ls1 L1 I1 st1 hL1 r1 c1 => ?_
  rw [r1.length]
  split
  · exact ⟨_, S1, L1, Ls1, rfl, I1, st1, hL1, .tup r1, c1⟩
  · trivial
/-- a new place is laid -/
theorem Inv.new {b : Nat} {N0 : Nat → Prop} {A L : List Nat} {t : Slo} {S : Sto} {env : Env} {Ls : LsT} (I : Inv b N0 kp (A ++ L) t S env Ls) (o : SO) : Inv b N0 kp (A ++ S.length :: L) t (S ++ [o]) env Ls := by
  obtain ⟨n1, n2, n3⟩ := List.nodup_append.mp I.an
  refine I.ext (fun j h => List.getElem?_append_left h) (by simp) ?_ (fun j h => ?_) fun j h => ?_
  · refine List.nodup_append.mpr ⟨n1, List.nodup_cons.mpr ⟨fun m => ?_, n2⟩, fun j h k hk e => ?_⟩
    · have := I.al _ (List.mem_append_right _ m); omega
    · subst e
      rcases List.mem_cons.mp hk with rfl | hk
      · have := I.al _ (List.mem_append_left _ h); omega
      · exact n3 j h j hk rfl
  · rcases List.mem_append.mp h with h | h
    · exact .inl (List.mem_append_left _ h)
    · rcases List.mem_cons.mp h with rfl | h
      · exact .inr (Nat.le_refl _)
      · exact .inl (List.mem_append_right _ h)
  · rw [List.length_append, List.length_singleton]
    rcases List.mem_append.mp h with h | h
    · have := I.al j (List.mem_append_left _ h); omega
    · rcases List.mem_cons.mp h with rfl | h
      · omega
      · have := I.al j (List.mem_append_right _ h); omega
theorem Cst.new {b : Nat} {N0 : Nat → Prop} {A L : List Nat} {S : Sto} {Ls : LsT} {W : Nat → Prop} {k : Fl} {j : Nat} {o : SO} (h : Cst b N0 Ls (A ++ L) W k j) (hs : S[j]? = some o) : Cst b N0 Ls (A ++ S.length :: L) W k j := by
  have hj := lt_of_some hs
  have fr : Fresh Ls (A ++ L) j → Fresh Ls (A ++ S.length :: L) j := fun h => ⟨h.1, fun m => by
    rcases List.mem_append.mp m with m | m
    · exact h.2 (List.mem_append_left _ m)
    · rcases List.mem_cons.mp m with m | m
      · omega
      · exact h.2 (List.mem_append_right _ m)⟩
  cases k with
  | o => exact h
  | s => exact ⟨h.1, fr h.2⟩
  | z => exact ⟨h.1, fr h.2⟩
  | w => exact h
theorem Rps.new {b : Nat} {N0 : Nat → Prop} {A L : List Nat} {t : Slo} {S : Sto} {env : Env} {Ls : LsT} {W : Nat → Prop} {us : List IV} {vs : List TV} (I : Inv b N0 kp (A ++ L) t S env Ls) (o : SO) (h : Rps S (Cst b N0 Ls (A ++ L) W) us vs L) : Rps (S ++ [o]) (Cst b N0 Ls (A ++ S.length :: L) W) us vs L :=
  h.mono (fun k j o hk hc hs => ⟨hc.new hs, by rw [List.getElem?_append_left (lt_of_some hs)]; exact hs⟩) fun j hj => List.getElem?_append_left (I.al j (List.mem_append_right _ hj))
theorem vo_lst (q : VAok kp ws cl ma wa) : VEok kp ws cl (mLst ma) (vLst wa) := fun b N0 A t S env Ls I => by
  refine (q b N0 A t S env Ls I).bind fun us vs S1 env1 Ls1 L1 I1 st1 hL1 r1 c1 => ?_
  rw [r1.length]
  split
  · refine ⟨_, S1 ++ [.lst us], S1.length :: L1, Ls1, rfl, I1.new _, st1.trans .app, fun j h => ?_, .own (g := .lst) (by rw [List.getElem?_append_right (Nat.le_refl _), Nat.sub_self]; rfl) trivial (Rps.new I1 _ r1), fun z => ?_⟩
    · rcases List.mem_cons.mp h with rfl | h
      · exact st1.len
      · exact hL1 j h
    · obtain ⟨z1, z2, T, z3⟩ := c1 z
      exact ⟨z1, z2, T ++ [.lst us], by rw [z3, List.append_assoc]⟩
  · trivial
theorem vo_disp0 : VEok kp [] true mDisp0 vDisp0 := fun b N0 A t S env Ls I => by
  refine ⟨_, S ++ [.dct []], [S.length], Ls, rfl, I.nil.new _, .app, fun j h => by rw [List.mem_singleton.mp h]; exact Nat.le_refl _, ?_, fun _ => ⟨rfl, rfl, _, rfl⟩⟩
  exact .own (g := .dct []) (L := []) (xs := []) (by rw [List.getElem?_append_right (Nat.le_refl _), Nat.sub_self]; rfl) ⟨rfl, List.nodup_nil⟩ .nil
end
end IP

/-! IPyT: the second evaluator: tests, slices, methods, calls. -/
namespace IP
open PySem
/-! ### what stands at a place -/
section
variable {S : Sto} {C : Fl → Nat → Prop} {u : IV} {L : List Nat}
theorem keysOf_len : ∀ {ks : List L2.Key} {xs : List IV}, ks.length = xs.length → (keysOf ks xs).length = ks.length
  | [], _, _ => by cases ‹List IV› <;> rfl
  | k :: ks, [], h => by cases h
  | k :: ks, x :: xs, h => by simp only [keysOf, List.length_cons] at h ⊢; rw [keysOf_len (by omega)]
/-- a node that is a list -/
theorem Rp.seq {k : Fl} {vs : List TV} (h : Rp S C u (.nd k .lst vs) L) : ∃ xs M, seqI u S = some xs ∧ Rps S C xs vs M ∧ (∀ j ∈ M, j ∈ L) ∧ (L = [] → M = []) ∧ ((∃ i, u = .ref i ∧ S[i]? = some (.lst xs)) ∨ u = .sq xs) := by
  cases h with
  | sq q => exact ⟨_, [], rfl, q, (fun j h => by cases h), fun _ => rfl, .inr rfl⟩
  | own e g q => exact ⟨_, _, by simp only [seqI]; rw [e]; rfl, q, fun j hj => List.mem_cons_of_mem _ hj, (fun h => by cases h), .inl ⟨_, rfl, e⟩⟩
  | ref n e g c q => exact ⟨_, [], by simp only [seqI]; rw [e]; rfl, q, (fun j h => by cases h), fun _ => rfl, .inl ⟨_, rfl, e⟩⟩
theorem Rp.seq0 {k : Fl} {vs : List TV} (h : Rp S C u (.nd k .lst vs) []) : ∃ xs, seqI u S = some xs ∧ dctI u S = none ∧ Rps S C xs vs [] ∧ ((∃ i, u = .ref i ∧ S[i]? = some (.lst xs)) ∨ u = .sq xs) := by
  obtain ⟨xs, M, h1, h2, _, h3, h4⟩ := h.seq
  rw [h3 rfl] at h2
  refine ⟨xs, h1, ?_, h2, h4⟩
  rcases h4 with ⟨i, rfl, e⟩ | rfl
  · simp only [dctI]; rw [e]
  · rfl
theorem Rp.dct0 {k : Fl} {ks : List L2.Key} {vs : List TV} (h : Rp S C u (.nd k (.dct ks) vs) []) : ∃ i xs, u = .ref i ∧ S[i]? = some (.dct (keysOf ks xs)) ∧ ks.length = xs.length ∧ Rps S C xs vs [] := by
  cases h with
  | ref n e g c q => exact ⟨_, _, rfl, e, g.1, q⟩
theorem Rp.dctL {k : Fl} {ks : List L2.Key} {vs : List TV} (h : Rp S C u (.nd k (.dct ks) vs) L) : ∃ i xs, u = .ref i ∧ S[i]? = some (.dct (keysOf ks xs)) ∧ ks.length = xs.length := by
  cases h with
  | ref n e g c q => exact ⟨_, _, rfl, e, g.1⟩
  | own e g q => exact ⟨_, _, rfl, e, g.1⟩
theorem Rp.tup0 {vs : List TV} (h : Rp S C u (.tup vs) L) : ∃ xs, u = .tup xs ∧ Rps S C xs vs L := by cases h with | tup q => exact ⟨_, rfl, q⟩
theorem Rp.int0 {i : Int} (h : Rp S C u (.int i) L) : u = .int i ∧ L = [] := by cases h; exact ⟨rfl, rfl⟩
theorem Rp.bl0 {i : Bool} (h : Rp S C u (.bl i) L) : u = .bl i ∧ L = [] := by cases h; exact ⟨rfl, rfl⟩
theorem Rp.str0 {i : Str} (h : Rp S C u (.str i) L) : u = .str i ∧ L = [] := by cases h; exact ⟨rfl, rfl⟩
theorem Rp.non0 (h : Rp S C u .non L) : u = .non ∧ L = [] := by cases h; exact ⟨rfl, rfl⟩
theorem Rp.ty0 {i : String} (h : Rp S C u (.ty i) L) : u = .ty i ∧ L = [] := by cases h; exact ⟨rfl, rfl⟩
theorem Rp.fn0 {i : Str} (h : Rp S C u (.fn i) L) : u = .fn i ∧ L = [] := by cases h; exact ⟨rfl, rfl⟩
theorem tru_T {v : TV} {b : Bool} (h : Rp S C u v L) (e : tTru v = some b) : truI u S = some b := by
  cases v with
  | non => rw [h.non0.1]; exact e
  | bl c => rw [h.bl0.1]; exact e
  | int i => rw [h.int0.1]; exact e
  | str x => rw [h.str0.1]; exact e
  | ty n => cases e
  | fn n => cases e
  | tup xs =>
    obtain ⟨ys, rfl, q⟩ := h.tup0
    simp only [tTru] at e
    simp only [truI]
    rw [← e]
    have := q.length
    cases xs <;> cases ys <;> first | rfl | simp at this
  | nd k g xs =>
    cases g with
    | lst =>
      obtain ⟨ys, M, h1, q, _, _, h4⟩ := h.seq
      have hd : dctI u S = none := by
        rcases h4 with ⟨i, rfl, e⟩ | rfl
        · simp only [dctI]; rw [e]
        · rfl
      have hl := q.length
      have hb : (!ys.isEmpty) = b := by
        simp only [tTru, Option.some.injEq] at e
        rw [← e]
        cases xs <;> cases ys <;> first | rfl | simp at hl
      rcases h4 with ⟨i, rfl, e'⟩ | rfl
      · simp only [truI, hd, h1, Option.map_some, hb]
      · simp only [truI, hd, h1, Option.map_some, hb]
    | dct ks =>
      obtain ⟨i, ys, rfl, e', hl⟩ := h.dctL
      simp only [tTru, Option.some.injEq] at e
      have hd : dctI (.ref i) S = some (i, keysOf ks ys) := by simp only [dctI]; rw [e']
      simp only [truI, hd, ← e]
      cases ks <;> cases ys <;> first | rfl | simp at hl
    | ins C fs => cases e
end
section
variable {kp ws ws' : List Nat} {cl cl' : Bool} {m m' m2 : SE} {w w' w2 : VE} {mb mb' : SB} {wb wb' : VB} {ma : SA} {wa : VA}
theorem vb_b (h : VEok kp ws cl m w) : VBok kp cl (mB m) (vB w) := fun b N0 A t S env Ls I => by
  refine (h b N0 A t S env Ls I).bind fun u v S1 env1 Ls1 L1 I1 st1 hL1 r1 c1 => ?_
  cases v with
  | bl c =>
    obtain ⟨rfl, rfl⟩ := r1.bl0
    exact ⟨c, S1, [], Ls1, rfl, I1, st1, hL1, ⟨rfl, rfl⟩, c1⟩
  | _ => trivial
theorem vb_tru (h : VEok kp ws cl m w) : VBok kp cl (mTru m) (vTru w) := fun b N0 A t S env Ls I => by
  refine (h b N0 A t S env Ls I).bind fun u v S1 env1 Ls1 L1 I1 st1 hL1 r1 c1 => ?_
  cases e : tTru v with
  | none => trivial
  | some c =>
    rw [tru_T r1 e]
    exact ⟨c, S1, [], Ls1, rfl, I1.drop.nil, st1, (fun j h => by cases h), ⟨rfl, rfl⟩, c1⟩
/-- two tests, or a test and what it leads to -/
theorem aft_then {α β : Type} {b : Nat} {N0 : Nat → Prop} {A : List Nat} {t : Slo} {S S1 : Sto} {env env1 : Env} {Ls Ls1 : LsT} {r : RV α} {x : R β} {Q : β → α → Sto → LsT → List Nat → Prop} (st : Step S Ls S1 Ls1) (c1 : cl = true → env1 = env ∧ Ls1 = Ls ∧ ∃ T, S1 = S ++ T)
    (h : Aft2 kp cl' b N0 A t S1 env1 Ls1 r x Q) : Aft2 kp (cl && cl') b N0 A t S env Ls r x Q := by
  refine Aft2.from (L1 := []) st (fun j h => by cases h) (by rw [List.append_nil]; exact h) c1 fun u v env2 S2 Ls2 L2 I2 st2 hL2 q c2 => ?_
  exact q
theorem vb_and (h : VBok kp cl mb wb) (q : VBok kp cl' mb' wb') : VBok kp (cl && cl') (mAndT mb mb') (vAndT wb wb') := fun b N0 A t S env Ls I => by
  refine (h b N0 A t S env Ls I).bind fun u v S1 env1 Ls1 L1 I1 st1 hL1 r1 c1 => ?_
  obtain ⟨rfl, rfl⟩ := r1
  rw [List.append_nil] at I1
  cases u with
  | true => exact aft_then st1 c1 (q b N0 A t S1 env1 Ls1 I1)
  | false => exact ⟨false, S1, [], Ls1, rfl, I1.nil, st1, (fun j h => by cases h), ⟨rfl, rfl⟩, fun z => by rw [Bool.and_eq_true] at z; exact c1 z.1⟩
theorem vb_or (h : VBok kp cl mb wb) (q : VBok kp cl' mb' wb') : VBok kp (cl && cl') (mOrT mb mb') (vOrT wb wb') := fun b N0 A t S env Ls I => by
  refine (h b N0 A t S env Ls I).bind fun u v S1 env1 Ls1 L1 I1 st1 hL1 r1 c1 => ?_
  obtain ⟨rfl, rfl⟩ := r1
  rw [List.append_nil] at I1
  cases u with
  | false => exact aft_then st1 c1 (q b N0 A t S1 env1 Ls1 I1)
  | true => exact ⟨true, S1, [], Ls1, rfl, I1.nil, st1, (fun j h => by cases h), ⟨rfl, rfl⟩, fun z => by rw [Bool.and_eq_true] at z; exact c1 z.1⟩
theorem vb_not (h : VBok kp cl mb wb) : VBok kp cl (mNotT mb) (vNotT wb) := fun b N0 A t S env Ls I => by
  refine (h b N0 A t S env Ls I).bind fun u v S1 env1 Ls1 L1 I1 st1 hL1 r1 c1 => ?_
  obtain ⟨rfl, rfl⟩ := r1
  exact ⟨_, S1, [], Ls1, rfl, I1, st1, hL1, ⟨rfl, rfl⟩, c1⟩
theorem vb_yes : VBok kp true bYes (fun e => .ok true e) := fun b N0 A t S env Ls I => ⟨true, S, [], Ls, rfl, I.nil, .refl, (fun j h => by cases h), ⟨rfl, rfl⟩, fun _ => ⟨rfl, rfl, [], (List.append_nil S).symm⟩⟩
theorem ve_ws (h : VEok kp ws cl m w) (hs : ∀ x ∈ ws, x ∈ ws') : VEok kp ws' cl m w := fun b N0 A t S env Ls I => (h b N0 A t S env Ls I).weak (fun z => z) fun u v S2 Ls2 L2 r => r.mono (fun k j o hk hc hs' => ⟨by
    cases k with
    | o => exact hc
    | s => exact hc
    | z => exact hc
    | w => obtain ⟨x, hx, hj⟩ := hc; exact ⟨x, hs x hx, hj⟩, hs'⟩) fun _ _ => rfl
theorem vo_if (h : VBok kp cl mb wb) (q : VEok kp ws cl' m w) (q' : VEok kp ws cl' m' w') : VEok kp ws (cl && cl') (mIf mb m m') (vIf wb w w') := fun b N0 A t S env Ls I => by
  refine (h b N0 A t S env Ls I).bind fun u v S1 env1 Ls1 L1 I1 st1 hL1 r1 c1 => ?_
  obtain ⟨rfl, rfl⟩ := r1
  rw [List.append_nil] at I1
  cases u with
  | true => exact aft_then st1 c1 (q b N0 A t S1 env1 Ls1 I1)
  | false => exact aft_then st1 c1 (q' b N0 A t S1 env1 Ls1 I1)
theorem vo_and (h : VEok kp ws cl m w) (q : VEok kp ws' cl' m' w') : VEok kp ws' (cl && cl') (mAnd m m') (vAnd w w') := fun b N0 A t S env Ls I => by
  refine (h b N0 A t S env Ls I).bind fun u v S1 env1 Ls1 L1 I1 st1 hL1 r1 c1 => ?_
  cases v with
  | bl c =>
    obtain ⟨rfl, rfl⟩ := r1.bl0
    rw [List.append_nil] at I1
    cases c with
    | true => exact aft_then st1 c1 (q b N0 A t S1 env1 Ls1 I1)
    | false => exact ⟨_, S1, [], Ls1, rfl, I1.nil, st1, (fun j h => by cases h), .bl _, fun z => by rw [Bool.and_eq_true] at z; exact c1 z.1⟩
  | _ => trivial
theorem vo_or (h : VEok kp ws cl m w) (q : VEok kp ws' cl' m' w') : VEok kp ws' (cl && cl') (mOr m m') (vOr w w') := fun b N0 A t S env Ls I => by
  refine (h b N0 A t S env Ls I).bind fun u v S1 env1 Ls1 L1 I1 st1 hL1 r1 c1 => ?_
  cases v with
  | bl c =>
    obtain ⟨rfl, rfl⟩ := r1.bl0
    rw [List.append_nil] at I1
    cases c with
    | false => exact aft_then st1 c1 (q b N0 A t S1 env1 Ls1 I1)
    | true => exact ⟨_, S1, [], Ls1, rfl, I1.nil, st1, (fun j h => by cases h), .bl _, fun z => by rw [Bool.and_eq_true] at z; exact c1 z.1⟩
  | _ => trivial
theorem vo_not (h : VEok kp ws cl m w) : VEok kp [] cl (mNot m) (vNot w) := fun b N0 A t S env Ls I => by
  refine (h b N0 A t S env Ls I).bind fun u v S1 env1 Ls1 L1 I1 st1 hL1 r1 c1 => ?_
  cases v with
  | bl c =>
    obtain ⟨rfl, rfl⟩ := r1.bl0
    exact ⟨_, S1, [], Ls1, rfl, I1, st1, hL1, .bl _, c1⟩
  | _ => trivial
/-- a comparison tells a truth and leaves the store -/
def Calm2 (f : O2) : Prop := ∀ u v S w S', f u v S = some (w, S') → ∃ k, w = .bl k ∧ S' = S
def chK (f g : O2) (m2 : SE) (t : Slo) (x y : IV) (S2 : Sto) : R IV := (R.ofO (f x y S2)).bind fun z S3 => match z with
  | .bl k => if k then (m2 t S3).bind fun w S4 => R.ofO (g y w S4) else .ok (.bl false) S3
  | _ => .no
theorem mChain_eq {f g : O2} {t : Slo} {S : Sto} : mChain f g m m' m2 t S = (m t S).bind fun x S1 => (m' t S1).bind fun y S2 => chK f g m2 t x y S2 := rfl
/-- chained, of calm parts -/
theorem vo_chain {f g : O2} {tf tg : T2} (hf : O2T f tf) (hg : O2T g tg) (cf : Calm2 f) (cg : Calm2 g) (h : VEok kp ws true m w) (h' : VEok kp ws' true m' w') {w3 : List Nat} (h2 : VEok kp w3 true m2 w2) : VEok kp [] true (mChain f g m m' m2) (vChain tf tg w w' w2) := fun b N0 A t S env Ls I => by
  have hp := va_cons h (va_cons h' va_nil (.inr rfl)) (.inr rfl) b N0 A t S env Ls I
  rw [List.append_nil] at hp
  rw [mChain_eq]
  unfold vChain
  rw [mPair (k := chK f g m2 t), vPair (k := fun x y e2 => (RV.ofO ((tf x.sh y.sh).bind tBl) e2).bind fun k e3 => if k then (w2 e3).bind fun w e4 => RV.ofO (tg y.sh w.sh) e4 else .ok (.bl false) e3)]
  refine hp.bind fun us vs S1 env1 Ls1 L1 I1 st1 hL1 r1 c1 => ?_
  obtain ⟨rfl, rfl, T1, rfl⟩ := c1 rfl
  have r2 := r1.share I1 (lb_of I hL1)
  split
  · rename_i x y
    obtain ⟨u, u', rfl, r3, r4⟩ := r2.inv2
    cases hg1 : tf x.sh y.sh with
    | none => trivial
    | some z =>
      obtain ⟨p, S', e, hr⟩ := hf _ _ u u' _ _ cst_o r3 r4 z hg1
      obtain ⟨k, rfl, rfl⟩ := cf _ _ _ _ _ e
      have hz : z = .bl k := by cases hr with | old r => cases r; rfl
      subst hz
      show Aft2 _ _ _ _ _ _ _ _ _ _ (chK f g m2 t u u' (S ++ T1)) _
      unfold chK
      rw [e]
      have hk : (RV.ofO ((some (TV.bl k)).bind tBl) env1) = .ok k env1 := rfl
      rw [hk]
      show Aft2 _ _ _ _ _ _ _ _ _ (if k then (w2 env1).bind _ else _) (if k then (m2 t (S ++ T1)).bind _ else _) _
      have I1' := I1.drop
      cases k with
      | false => exact ⟨_, _, [], Ls1, rfl, I1'.nil, st1, (fun j h => by cases h), .bl _, fun _ => ⟨rfl, rfl, T1, rfl⟩⟩
      | true =>
        have h3 := h2 b N0 A t (S ++ T1) env1 Ls1 I1'
        simp only [if_true]
        refine Aft2.bind (cl := true) (S := S) (env := env1) (Ls := Ls1) (Q := fun u3 v3 S' Ls' L => ∃ T2, S' = (S ++ T1) ++ T2 ∧ Ls' = Ls1 ∧ Rp S' (Cst b N0 Ls' (A ++ L) (Wn w3 Ls')) u3 v3 L) ?_ fun u3 v3 S3 env3 Ls3 L3 I3 st3 hL3 r3' c3 => ?_
        · generalize m2 t (S ++ T1) = xx at h3
          cases hw : w2 env1 with
          | ok v env' =>
            rw [hw] at h3
            obtain ⟨u, S', L, Ls', e, I', st, hL, q, c⟩ := h3
            obtain ⟨rfl, rfl, T2, rfl⟩ := c rfl
            exact ⟨u, _, L, Ls', e, I', st1.trans st, fun j hj => Nat.le_trans st1.len (hL j hj), ⟨T2, rfl, rfl, q⟩, fun _ => ⟨rfl, rfl, T1 ++ T2, by rw [List.append_assoc]⟩⟩
          | ex c fs env' =>
            rw [hw] at h3
            obtain ⟨S', Ls', e, I', st⟩ := h3
            exact ⟨S', Ls', e, I', st1.trans st⟩
          | no => trivial
        · obtain ⟨T2, rfl, rfl, r5⟩ := r3'
          obtain ⟨rfl, _, _⟩ := c3 rfl
          have r6 := r5.share I3 (lb_of I hL3)
          cases hg2 : tg y.sh v3.sh with
          | none => trivial
          | some z =>
            let W : Nat → Prop := fun j => Wn (ws ++ ws') Ls3 j ∨ Wn w3 Ls3 j
            have up : ∀ {W1 : Nat → Prop}, (∀ j, W1 j → W j) → ∀ {k j}, Cst b N0 Ls3 A W1 k j → Cst b N0 Ls3 A W k j := fun {W1} hw {k j} hc => by
              cases k with
              | o => exact hc
              | s => exact hc
              | z => exact hc
              | w => exact hw j hc
            have a1 : Rp ((S ++ T1) ++ T2) (Cst b N0 Ls3 A W) u' y.sh [] := r4.mono (fun k j o hk hc hs => ⟨up (fun j h => .inl h) hc, by rw [List.getElem?_append_left (lt_of_some hs)]; exact hs⟩) fun j h => by cases h
            have a2 : Rp ((S ++ T1) ++ T2) (Cst b N0 Ls3 A W) u3 v3.sh [] := r6.mono (fun k j o hk hc hs => ⟨up (fun j h => .inr h) hc, hs⟩) fun j h => by cases h
            obtain ⟨p, S', e, hr⟩ := hg _ _ u' u3 _ _ cst_o a1 a2 z hg2
            obtain ⟨k, rfl, rfl⟩ := cg _ _ _ _ _ e
            rw [e]
            have hz : z = .bl k := by cases hr with | old r => cases r; rfl
            subst hz
            exact ⟨_, _, [], Ls3, rfl, I3.drop.nil, st3, (fun j h => by cases h), .bl _, fun _ => ⟨rfl, rfl, T1 ++ T2, by rw [List.append_assoc]⟩⟩
  · trivial
end
end IP

/-! IPyU: the second evaluator: slices, methods, calls. -/
namespace IP
open PySem
abbrev VO := Env → RV (Option Int)
def tInt : TV → Option Int
  | .int i => some i
  | _ => none
def vPNone : VO := fun e => .ok none e
def vPSome (a : VE) : VO := fun e => (a e).bind fun v e1 => RV.ofO ((tInt v).map some) e1
abbrev TS3 := TV → Option Int → Option Int → Option TV
def cutT (xs : List TV) (lo hi : Option Int) : List TV := (xs.drop (HT.sIx xs.length 0 lo)).take (HT.sIx xs.length xs.length hi - HT.sIx xs.length 0 lo)
def tSl : TS3 := fun u lo hi => match u with
  | .str z => if z.length ≤ 16777216 then some (.str (L2.cutS z lo hi)) else none
  | .tup xs => if HT.sIx xs.length 0 lo = 0 ∧ HT.sIx xs.length xs.length hi = xs.length then none else some (.tup (cutT xs lo hi))
  | .nd _ .lst xs => some (.nd .o .lst (cutT xs lo hi))
  | _ => none
def vSl (a : VE) (lo hi : VO) : VE := fun e => (a e).bind fun x e1 => (lo e1).bind fun l e2 => (hi e2).bind fun h e3 => RV.ofO (tSl x.sh l h) e3
def tTy (T : String) : TV → Bool
  | .str _ => T == "str"
  | .int _ => T == "int"
  | .nd _ .lst _ => T == "list"
  | .nd _ (.dct _) _ => T == "dict"
  | _ => false
def vMt (T : String) (g : TM) (o : VE) (a : VA) : VE := fun e => (o e).bind fun x e1 => if tTy T x then (a e1).bind fun xs e2 => RV.ofO (g x.sh (TV.fls fSh xs)) e2 else .no
def OMT (f : OM) (g : TM) : Prop := ∀ (S : Sto) (C : Fl → Nat → Prop) (u : IV) (x : TV) (us : List IV) (xs : List TV), C .o = (fun _ => False) → Rp S C u x [] → Rps S C us xs [] → ∀ z, g x xs = some z → ∃ w S', f u us S = some (w, S') ∧ Res S C w S' z
inductive RD where
  | ok (v : TV)
  | ex (c : Str) (fs : List (Str × IV))
  | no
abbrev VF := List TV → RD
def Ls0 : LsT := fun _ => []
def DefV (F : FN) (W : VF) : Prop := ∀ (N0 : Nat → Prop) (S : Sto) (us : List IV) (vs : List TV), Rps S (fun k j => k = .z ∧ N0 j) us vs [] → match W vs with
  | .ok v => ∃ u T L, F us S = .ok u (S ++ T) ∧ Rp (S ++ T) (Cst S.length N0 Ls0 L W0) u v L ∧ L.Nodup ∧ ∀ j ∈ L, S.length ≤ j
  | .ex c fs => ∃ T, F us S = .ex c fs (S ++ T)
  | .no => True
def RD.go (r : RD) (c : Bool) (nz : TV → Bool) (e : Env) : RV TV := match r with
  | .ok v => if nz v || c then .ok v e else .no
  | .ex c fs => .ex c fs e
  | .no => .no
def vCall (W : VF) (a : VA) : VE := fun e => (a e).bind fun vs e1 => (W (TV.fls fFz vs)).go (TV.alls fNw vs) TV.nz e1
/-! ### defs that change an argument -/
def fSz : Fl → Fl | .s => .z | k => k
def LsP (p : Nat) (L : List Nat) : LsT := fun y => if y = p then L else []
inductive RDI where
  | ok (v v' : TV)
  | ex (c : Str) (fs : List (Str × IV)) (v' : TV)
  | no
abbrev VFI := List TV → RDI
def DefIO (F : FN) (p : Nat) (W : VFI) : Prop := ∀ (N0 : Nat → Prop) (S : Sto) (us : List IV) (vs : List TV) (up : IV) (Lp : List Nat), us[p]? = some up → us.length = vs.length → Lp.Nodup → (∀ y v, vs[y]? = some v → ∃ u, us[y]? = some u ∧ Rp S (Cst S.length N0 (LsP p Lp) [] W0) u v (LsP p Lp y)) → match W vs with
  | .ok v v' => ∃ u S' L Lp', F us S = .ok u S' ∧ Step S (LsP p Lp) S' (LsP p Lp') ∧ Rp S' (Cst S.length N0 (LsP p Lp') L W0) u v L ∧ Rp S' (Cst S.length N0 (LsP p Lp') L W0) up v' Lp' ∧ L.Nodup ∧ Lp'.Nodup ∧ ∀ j ∈ L, S.length ≤ j ∧ j ∉ Lp'
  | .ex c fs v' => ∃ S' Lp', F us S = .ex c fs S' ∧ Step S (LsP p Lp) S' (LsP p Lp') ∧ Rp S' (Cst S.length N0 (LsP p Lp') [] W0) up v' Lp' ∧ Lp'.Nodup
  | .no => True
def RDI.go (r : RDI) (i : Nat) (e : Env) : RV TV := match r with
  | .ok v v' => .ok v (e.set i (some v'))
  | .ex c fs v' => .ex c fs (e.set i (some v'))
  | .no => .no
def vCallIO (W : VFI) (p i : Nat) (a : VA) : VE := fun e => (a e).bind fun vs e1 => match e1[i]? with
  | some (some v) => if TV.alls fNw (vs.eraseIdx p) && decide (p < vs.length) then (W ((TV.fls fFz vs).set p (v.fl fSz))).go i e1 else .no
  | _ => .no
def ArgAt (p i : Nat) (ma : SA) : Prop := ∀ (t : Slo) (S : Sto) (us : List IV) (S1 : Sto), ma t S = .ok us S1 → ∃ u, us[p]? = some u ∧ t[i]? = some (some u)
section
variable {kp ws ws' : List Nat} {cl cl' : Bool} {m m' m2 : SE} {w w' w2 : VE} {mb mb' : SB} {wb wb' : VB} {ma : SA} {wa : VA}
theorem argAt_0 {i : Nat} : ArgAt 0 i (mCons (mVar i) ma) := fun t S us S1 e => by
  unfold mCons mVar at e
  split at e
  · rename_i v hv
    simp only [R.bind] at e
    split at e
    · simp only [R.ok.injEq] at e
      obtain ⟨rfl, _⟩ := e
      exact ⟨v, rfl, hv⟩
    · cases e
    · cases e
  · simp only [R.bind] at e; cases e
theorem argAt_s {p i : Nat} (h : ArgAt p i ma) : ArgAt (p + 1) i (mCons m ma) := fun t S us S1 e => by
  unfold mCons at e
  cases hm : m t S with
  | ok x S2 =>
    rw [hm] at e
    simp only [R.bind] at e
    cases ha : ma t S2 with
    | ok xs S3 =>
      rw [ha] at e
      simp only [R.ok.injEq] at e
      obtain ⟨rfl, _⟩ := e
      obtain ⟨u, h1, h2⟩ := h t S2 xs S3 ha
      exact ⟨u, by simpa using h1, h2⟩
    | ex c fs S3 => rw [ha] at e; cases e
    | no => rw [ha] at e; cases e
  | ex c fs S3 => rw [hm] at e; cases e
  | no => rw [hm] at e; cases e
/-- a value, and scalars behind it -/
theorem aft_val {α : Type} (h : VEok kp ws cl m w) {t : Slo} {x : Sto → R α} {r : Env → RV α} {b : Nat} {N0 : Nat → Prop} {A : List Nat} {S : Sto} {env : Env} {Ls : LsT} (I : Inv b N0 kp A t S env Ls)
    (q : ∀ A S env Ls, Inv b N0 kp A t S env Ls → Aft2 kp cl' b N0 A t S env Ls (r env) (x S) fun u v _ _ L => u = v ∧ L = []) (hc : ws = [] ∨ cl' = true) :
    Aft2 kp (cl && cl') b N0 A t S env Ls ((w env).bind fun v e1 => (r e1).bind fun p e2 => .ok (v, p) e2) ((m t S).bind fun u S1 => (x S1).bind fun p S2 => .ok (u, p) S2) fun u v S' Ls' L => u.2 = v.2 ∧ Rp S' (Cst b N0 Ls' (A ++ L) (Wn ws Ls')) u.1 v.1 L := by
  refine (h b N0 A t S env Ls I).bind fun u v S1 env1 Ls1 L1 I1 st1 hL1 r1 c1 => ?_
  have hq := q (A ++ L1) S1 env1 Ls1 I1
  generalize x S1 = xx at hq
  cases hw : r env1 with
  | ok p env2 =>
    rw [hw] at hq
    obtain ⟨p', S2, L2, Ls2, e, I2, st2, hL2, ⟨rfl, rfl⟩, c2⟩ := hq
    rw [e]
    have r1' := r1.carry (ws' := []) (L2 := []) I1 st2 hL2 (by rcases hc with hc | hc; exact .inl hc; exact .inr (c2 hc).2)
    rw [List.append_nil, List.append_nil] at r1'
    rw [List.append_nil] at I2
    refine ⟨(u, p'), S2, L1, Ls2, rfl, I2, st1.trans st2, hL1, ⟨rfl, r1'⟩, fun z => ?_⟩
    rw [Bool.and_eq_true] at z
    obtain ⟨a1, a2, T1, a3⟩ := c1 z.1
    obtain ⟨b1, b2, T2, b3⟩ := c2 z.2
    exact ⟨b1.trans a1, b2.trans a2, T1 ++ T2, by rw [b3, a3, List.append_assoc]⟩
  | ex c fs env2 =>
    rw [hw] at hq
    obtain ⟨S2, Ls2, e, I2, st2⟩ := hq
    rw [e]
    exact ⟨S2, Ls2, rfl, I2.drop, st1.trans st2⟩
  | no => trivial
def VOok (kp : List Nat) (cl : Bool) (m : SO') (w : VO) : Prop := ∀ (b : Nat) (N0 : Nat → Prop) (A : List Nat) (t : Slo) (S : Sto) (env : Env) (Ls : LsT), Inv b N0 kp A t S env Ls →
  Aft2 kp cl b N0 A t S env Ls (w env) (m t S) fun u v _ _ L => u = v ∧ L = []
theorem vp_none : VOok kp true pNone vPNone := fun b N0 A t S env Ls I => ⟨none, S, [], Ls, rfl, I.nil, .refl, (fun j h => by cases h), ⟨rfl, rfl⟩, fun _ => ⟨rfl, rfl, [], (List.append_nil S).symm⟩⟩
theorem vp_some (h : VEok kp ws cl m w) : VOok kp cl (pSome m) (vPSome w) := fun b N0 A t S env Ls I => by
  refine (h b N0 A t S env Ls I).bind fun u v S1 env1 Ls1 L1 I1 st1 hL1 r1 c1 => ?_
  cases v with
  | int i =>
    obtain ⟨rfl, rfl⟩ := r1.int0
    exact ⟨_, S1, [], Ls1, rfl, I1, st1, hL1, ⟨rfl, rfl⟩, c1⟩
  | _ => trivial
theorem Rps.cut {S : Sto} {C : Fl → Nat → Prop} {u : List IV} {v : List TV} (h : Rps S C u v []) (lo hi : Option Int) : Rps S C (cutI u lo hi) (cutT v lo hi) [] := by
  unfold cutI cutT
  rw [h.length]
  exact (h.drop _).take _
theorem sl_ok {S : Sto} {C : Fl → Nat → Prop} {u : IV} {v z : TV} {lo hi : Option Int} (h : Rp S C u v []) (e : tSl v lo hi = some z) : ∃ w S', iSl u lo hi S = some (w, S') ∧ Res S C w S' z := by
  unfold tSl at e
  split at e
  · rename_i x
    split at e
    · rename_i hl
      cases e
      rw [h.str0.1]
      exact ⟨_, S, by simp only [iSl, if_pos hl], .old (.str _)⟩
    · cases e
  · rename_i xs
    obtain ⟨ys, rfl, q⟩ := h.tup0
    split at e
    · cases e
    · rename_i hn
      cases e
      rw [← q.length] at hn
      exact ⟨_, S, by simp only [iSl, if_neg hn], .old (.tup (q.cut lo hi))⟩
  · rename_i k xs
    cases e
    obtain ⟨ys, h1, h2, q, h4⟩ := h.seq0
    refine ⟨.ref S.length, S ++ [.lst (cutI ys lo hi)], ?_, .new (g := .lst) trivial (q.cut lo hi)⟩
    rcases h4 with ⟨i, rfl, e⟩ | rfl
    · simp only [iSl, h1, Option.map_some]
    · simp only [iSl, h1, Option.map_some]
  · cases e
theorem vo_sl {lo hi : SO'} {wl wh : VO} {cl2 : Bool} (h : VEok kp ws cl m w) (hl : VOok kp cl' lo wl) (hh : VOok kp cl2 hi wh) (hc : ws = [] ∨ (cl' && cl2) = true) : VEok kp ws (cl && (cl' && cl2)) (mSl m lo hi) (vSl w wl wh) := fun b N0 A t S env Ls I => by
  have hv := aft_val (cl' := cl' && cl2) h I (t := t) (r := fun e => (wl e).bind fun l e1 => (wh e1).bind fun h e2 => .ok (l, h) e2) (x := fun S => (lo t S).bind fun l S1 => (hi t S1).bind fun h S2 => .ok (l, h) S2) (fun A S env Ls I => by
    refine (hl b N0 A t S env Ls I).bind fun u v S1 env1 Ls1 L1 I1 st1 hL1 r1 c1 => ?_
    obtain ⟨rfl, rfl⟩ := r1
    rw [List.append_nil] at I1
    refine aft_then (cl' := cl2) st1 c1 ?_ (Q := fun (p : Option Int × Option Int) q _ _ L => p = q ∧ L = [])
    refine (hh b N0 A t S1 env1 Ls1 I1).bind fun u2 v2 S2 env2 Ls2 L2 I2 st2 hL2 r2 c2 => ?_
    obtain ⟨rfl, rfl⟩ := r2
    exact ⟨_, S2, [], Ls2, rfl, I2, st2, hL2, ⟨rfl, rfl⟩, c2⟩) hc
  have e1 : mSl m lo hi t S = ((m t S).bind fun u S1 => ((lo t S1).bind fun l S1 => (hi t S1).bind fun h S2 => .ok (l, h) S2).bind fun p S2 => .ok (u, p) S2).bind fun p S3 => R.ofO (iSl p.1 p.2.1 p.2.2 S3) := by
    unfold mSl; simp only [bind_assoc]; rfl
  have e2 : vSl w wl wh env = ((w env).bind fun u S1 => ((wl S1).bind fun l S1 => (wh S1).bind fun h S2 => .ok (l, h) S2).bind fun p S2 => .ok (u, p) S2).bind fun p S3 => RV.ofO (tSl p.1.sh p.2.1 p.2.2) S3 := by
    unfold vSl; simp only [vbind_assoc]; rfl
  rw [e1, e2]
  refine hv.bind fun u v S1 env1 Ls1 L1 I1 st1 hL1 r1 c1 => ?_
  obtain ⟨u, l, hh'⟩ := u
  obtain ⟨v, l', hh2⟩ := v
  obtain ⟨z, r1⟩ := r1
  cases z
  have r2 := Rp.share I1 (lb_of I hL1) r1
  dsimp only
  cases hg : tSl v.sh l hh' with
  | none => trivial
  | some z =>
    obtain ⟨x, S', e, hr⟩ := sl_ok r2 hg
    rw [e]
    exact hr.aft I1 st1 c1
theorem ty_T {S : Sto} {C : Fl → Nat → Prop} {T : String} {u : IV} {v : TV} {L : List Nat} (h : Rp S C u v L) (e : tTy T v = true) : isTy T u S = true := by
  cases v with
  | str x => rw [h.str0.1]; exact e
  | int x => rw [h.int0.1]; exact e
  | nd k g xs =>
    cases g with
    | lst =>
      obtain ⟨ys, M, _, _, _, _, h4⟩ := h.seq
      rcases h4 with ⟨i, rfl, e'⟩ | rfl
      · simp only [isTy]; rw [e']; exact e
      · exact e
    | dct ks =>
      obtain ⟨i, ys, rfl, e', _⟩ := h.dctL
      simp only [isTy]; rw [e']; exact e
    | ins C fs => cases e
  | _ => cases e
theorem vo_mt {f : OM} {g : TM} {T : String} (hf : OMT f g) (h : VEok kp ws cl m w) (q : VAok kp ws' cl' ma wa) (hc : ws = [] ∨ cl' = true) : VEok kp (ws ++ ws') (cl && cl') (mMt T f m ma) (vMt T g w wa) := fun b N0 A t S env Ls I => by
  have h1 := h b N0 A t S env Ls I
  have hp := va_cons h q hc b N0 A t S env Ls I
  unfold vMt mMt
  unfold vCons mCons at hp
  cases hw : w env with
  | ok v env1 =>
    rw [hw] at h1 hp
    obtain ⟨u, S1, L1, Ls1, e, I1, st1, hL1, r1, _⟩ := h1
    rw [e] at hp ⊢
    show Aft2 _ _ _ _ _ _ _ _ _ (if tTy T v then (wa env1).bind fun xs e2 => RV.ofO (g v.sh (TV.fls fSh xs)) e2 else .no) (if isTy T u S1 then (ma t S1).bind fun xs S2 => R.ofO (f u xs S2) else .no) _
    cases ht : tTy T v with
    | false => rw [if_neg Bool.false_ne_true]; trivial
    | true =>
      rw [if_pos rfl, if_pos (ty_T r1 ht)]
      have e1 : ((wa env1).bind fun xs e2 => RV.ofO (g v.sh (TV.fls fSh xs)) e2) = ((wa env1).bind fun xs e2 => RV.ok (v :: xs) e2).bind fun us e2 => match us with | v :: vs => RV.ofO (g v.sh (TV.fls fSh vs)) e2 | [] => .no := by rw [vbind_assoc]; rfl
      have e2 : ((ma t S1).bind fun xs S2 => R.ofO (f u xs S2)) = ((ma t S1).bind fun xs e2 => R.ok (u :: xs) e2).bind fun us e2 => match us with | v :: vs => R.ofO (f v vs e2) | [] => .no := by rw [bind_assoc]; rfl
      rw [e1, e2]
      refine hp.bind fun us vs S2 env2 Ls2 L2 I2 st2 hL2 r2 c2 => ?_
      have r3 := r2.share I2 (lb_of I hL2)
      cases vs with
      | nil => obtain ⟨rfl, _⟩ := r2.invN; trivial
      | cons v' vs =>
        obtain ⟨u', us', rfl, r4, r5⟩ := r3.inv0
        dsimp only
        cases hg : g v'.sh (TV.fls fSh vs) with
        | none => trivial
        | some z =>
          obtain ⟨x, S', e', hr⟩ := hf _ _ u' _ us' _ cst_o r4 r5 z hg
          rw [e']
          exact hr.aft I2 st2 c2
  | ex c fs env1 =>
    rw [hw] at h1
    obtain ⟨S1, Ls1, e, I1, st1⟩ := h1
    rw [e]
    exact ⟨S1, Ls1, rfl, I1, st1⟩
  | no => trivial
theorem W0_not {j : Nat} (h : W0 j) : False := h
theorem Rps.nwZ {b : Nat} {N0 : Nat → Prop} {A : List Nat} {S : Sto} {Ls : LsT} {W : Nat → Prop} {us : List IV} {vs : List TV} (h : Rps S (Cst b N0 Ls A W) us vs []) (hn : TV.alls fNw vs = true) : Rps S (fun k j => k = .z ∧ ((b ≤ j ∨ N0 j) ∧ Fresh Ls A j)) us (TV.fls fFz vs) [] := by
  have h2 := Rps.gen1 (φ := fun k => k) (p := fNw) (S' := S) (C' := fun k j => k ≠ .o ∧ (b ≤ j ∨ N0 j) ∧ Fresh Ls A j) rfl rfl (fun _ h => h) (fun k j o hk hp hc hs => ⟨⟨hk, by
    cases k with
    | o => exact absurd rfl hk
    | s => exact ⟨.inl hc.1, hc.2⟩
    | z => exact hc
    | w => cases hp⟩, hs⟩) h hn (fun _ _ => rfl)
  rw [TV.fls_id] at h2
  exact h2.gen2 (φ := fFz) rfl (fun k => by nofun) (fun k j o hk hc hs => ⟨⟨rfl, hc.2⟩, hs⟩) fun j o hj => by cases hj
theorem TV.fls_fls {φ ψ χ : Fl → Fl} (h : ∀ k, φ (ψ k) = χ k) : (∀ v : TV, (v.fl ψ).fl φ = v.fl χ) ∧ ∀ vs : List TV, TV.fls φ (TV.fls ψ vs) = TV.fls χ vs := by
  have : ∀ n : Nat, (∀ v : TV, sizeOf v < n → (v.fl ψ).fl φ = v.fl χ) ∧ ∀ vs : List TV, sizeOf vs < n → TV.fls φ (TV.fls ψ vs) = TV.fls χ vs := by
    intro n
    induction n with
    | zero => exact ⟨fun _ h => by omega, fun _ h => by omega⟩
    | succ n ih =>
      have l : ∀ vs : List TV, sizeOf vs < n + 1 → TV.fls φ (TV.fls ψ vs) = TV.fls χ vs := fun vs hv => by
        cases vs with
        | nil => rfl
        | cons v vs => simp only [List.cons.sizeOf_spec] at hv; rw [TV.fls, TV.fls, TV.fls, ih.1 v (by omega), ih.2 vs (by omega)]
      refine ⟨fun v hv => ?_, l⟩
      cases v <;> try rfl
      case tup xs => rw [TV.fl, TV.fl, TV.fl, l xs (by simp at hv; omega)]
      case nd k g xs => rw [TV.fl, TV.fl, TV.fl, h, l xs (by simp at hv; omega)]
  exact ⟨fun v => (this (sizeOf v + 1)).1 v (by omega), fun vs => (this (sizeOf vs + 1)).2 vs (by omega)⟩
theorem nw_sh : (∀ v : TV, v.sh.nw = v.nw) ∧ ∀ vs : List TV, TV.alls fNw (TV.fls fSh vs) = TV.alls fNw vs := by
  have : ∀ n : Nat, (∀ v : TV, sizeOf v < n → v.sh.nw = v.nw) ∧ ∀ vs : List TV, sizeOf vs < n → TV.alls fNw (TV.fls fSh vs) = TV.alls fNw vs := by
    intro n
    induction n with
    | zero => exact ⟨fun _ h => by omega, fun _ h => by omega⟩
    | succ n ih =>
      have l : ∀ vs : List TV, sizeOf vs < n + 1 → TV.alls fNw (TV.fls fSh vs) = TV.alls fNw vs := fun vs hv => by
        cases vs with
        | nil => rfl
        | cons v vs => simp only [List.cons.sizeOf_spec] at hv; rw [TV.fls, TV.alls, TV.alls, show TV.all fNw (TV.fl fSh v) = TV.all fNw v from ih.1 v (by omega), ih.2 vs (by omega)]
      refine ⟨fun v hv => ?_, l⟩
      cases v <;> try rfl
      case tup xs => show TV.all fNw (TV.fl fSh _) = _; rw [TV.fl, TV.all, l xs (by simp at hv; omega)]; rfl
      case nd k g xs => show TV.all fNw (TV.fl fSh _) = _; rw [TV.fl, TV.all, l xs (by simp at hv; omega)]; cases k <;> rfl
  exact ⟨fun v => (this (sizeOf v + 1)).1 v (by omega), fun vs => (this (sizeOf vs + 1)).2 vs (by omega)⟩
/-- a call -/
theorem vo_call {F : FN} {W : VF} (hF : DefV F W) (q : VAok kp ws cl ma wa) : VEok kp [] cl (mCall F ma) (vCall W wa) := fun b N0 A t S env Ls I => by
  refine (q b N0 A t S env Ls I).bind fun us vs S1 env1 Ls1 L1 I1 st1 hL1 r1 c1 => ?_
  have r2 := r1.share I1 (lb_of I hL1)
  have ez : TV.fls fFz (TV.fls fSh vs) = TV.fls fFz vs := (TV.fls_fls (fun k => rfl)).2 vs
  have rz : Rps S1 (fun k j => k = .z ∧ True) us (TV.fls fFz vs) [] := by
    rw [← ez]
    exact r2.gen2 (φ := fFz) rfl (fun k => by nofun) (fun k j o hk hc hs => ⟨⟨rfl, trivial⟩, hs⟩) fun j o hj => by cases hj
  have fin : ∀ {u : IV} {v : TV} {T : Sto} {L : List Nat} {N1 : Nat → Prop}, Rp (S1 ++ T) (Cst S1.length N1 Ls0 L W0) u v L → L.Nodup → (∀ j ∈ L, S1.length ≤ j) → (v.nz = true ∨ ∀ j, N1 j → (b ≤ j ∨ N0 j) ∧ Fresh Ls1 A j) →
      Aft2 kp cl b N0 A t S env Ls (.ok v env1) (.ok u (S1 ++ T)) fun u v S' Ls' L => Rp S' (Cst b N0 Ls' (A ++ L) (Wn [] Ls')) u v L := fun {u v T L N1} hr hn hl hz => by
    have lt : ∀ j ∈ L, j < (S1 ++ T).length := fun j hj => hr.lt j hj
    have fr : ∀ {j : Nat}, S1.length ≤ j → Fresh Ls0 L j → Fresh Ls1 (A ++ L) j := fun {j} h1 h2 => ⟨fun y hy => by have := I1.lt hy; omega, fun m => by
      rcases List.mem_append.mp m with m | m
      · have := I1.al j (List.mem_append_left _ m); omega
      · exact h2.2 m⟩
    refine ⟨u, S1 ++ T, L, Ls1, rfl, I1.ext (fun j h => List.getElem?_append_left h) (by simp) ?_ (fun j h => ?_) (fun j h => ?_), st1.trans .app, fun j hj => Nat.le_trans st1.len (hl j hj), ?_, fun z => ?_⟩
    · refine List.nodup_append.mpr ⟨(List.nodup_append.mp I1.an).1, hn, fun j hj k hk e => ?_⟩
      subst e
      have := I1.al j (List.mem_append_left _ hj)
      have := hl j hk
      omega
    · rcases List.mem_append.mp h with h | h
      · exact .inl (List.mem_append_left _ h)
      · exact .inr (hl j h)
    · rcases List.mem_append.mp h with h | h
      · have := I1.al j (List.mem_append_left _ h); rw [List.length_append]; omega
      · exact lt j h
    · have lb : b ≤ S1.length := I1.lb
      rcases hz with hz | hz
      · refine hr.monoP (p := fNz) (fun k j o hk hp hc hs => ⟨?_, hs⟩) hz fun _ _ => rfl
        cases k with
        | o => exact hc
        | s => exact ⟨Nat.le_trans lb hc.1, fr hc.1 hc.2⟩
        | z => cases hp
        | w => exact hc.elim
      · refine hr.mono (fun k j o hk hc hs => ⟨?_, hs⟩) fun _ _ => rfl
        cases k with
        | o => exact hc
        | s => exact ⟨Nat.le_trans lb hc.1, fr hc.1 hc.2⟩
        | z =>
          rcases hc.1 with h1 | h1
          · exact ⟨.inl (Nat.le_trans lb h1), fr h1 hc.2⟩
          · obtain ⟨h2, h3⟩ := hz j h1
            exact ⟨h2, h3.1, fun m => by
              rcases List.mem_append.mp m with m | m
              · exact h3.2 m
              · exact hc.2.2 m⟩
        | w => exact hc.elim
    · obtain ⟨z1, z2, T0, z3⟩ := c1 z
      exact ⟨z1, z2, T0 ++ T, by rw [z3, List.append_assoc]⟩
  cases hW : W (TV.fls fFz vs) with
  | ok v =>
    show Aft2 _ _ _ _ _ _ _ _ _ (if v.nz || TV.alls fNw vs then RV.ok v env1 else .no) _ _
    cases hz : v.nz with
    | true =>
      have h1 := hF _ S1 us _ rz
      rw [hW] at h1
      obtain ⟨u, T, L, e, hr, hn, hl⟩ := h1
      rw [e]
      exact fin hr hn hl (.inl hz)
    | false =>
      cases hw : TV.alls fNw vs with
      | false => trivial
      | true =>
        have h2 := r2.nwZ (by rw [nw_sh.2]; exact hw)
        rw [ez] at h2
        have h1 := hF _ S1 us _ h2
        rw [hW] at h1
        obtain ⟨u, T, L, e, hr, hn, hl⟩ := h1
        rw [e]
        exact fin hr hn hl (.inr fun j h => h)
  | ex c fs =>
    have h1 := hF _ S1 us _ rz
    rw [hW] at h1
    obtain ⟨T, e⟩ := h1
    rw [e]
    exact ⟨S1 ++ T, Ls1, rfl, I1.drop.ext (fun j h => List.getElem?_append_left h) (by simp) I1.drop.an (fun j h => .inl h) fun j h => by have := I1.drop.al j h; rw [List.length_append]; omega, st1.trans .app⟩
  | no => trivial
end
end IP

/-! IPyV: the second evaluator: calls that change an argument, targets, what is gone through, comprehensions. -/
namespace IP
open PySem
section
variable {kp ws ws' : List Nat} {cl cl' : Bool} {m m' m2 : SE} {w w' w2 : VE} {mb mb' : SB} {wb wb' : VB} {ma : SA} {wa : VA}
theorem Rps.at_ {S : Sto} {C : Fl → Nat → Prop} : ∀ {vs : List TV} {us : List IV}, Rps S C us vs [] → ∀ {y : Nat} {v : TV}, vs[y]? = some v → ∃ u, us[y]? = some u ∧ Rp S C u v [] := fun h => fun e => Rps.get h e
theorem nwsE {vs : List TV} {p y : Nat} {v : TV} (h : TV.alls fNw (vs.eraseIdx p) = true) (e : vs[y]? = some v) (hy : y ≠ p) : v.nw = true := by
  rw [TV.alls_eq, List.all_eq_true] at h
  refine h v ?_
  rw [List.mem_eraseIdx_iff_getElem?]
  exact ⟨y, hy, e⟩
theorem lsP_at {p y : Nat} {L : List Nat} {j : Nat} (h : j ∈ LsP p L y) : y = p ∧ j ∈ L := by
  unfold LsP at h
  split at h
  · exact ⟨‹_›, h⟩
  · cases h
theorem vo_callIO {F : FN} {p i : Nat} {W : VFI} (hF : DefIO F p W) (ha : ArgAt p i ma) (q : VAok kp ws cl ma wa) : VEok kp [] false (mCall F ma) (vCallIO W p i wa) := fun b N0 A t S env Ls I => by
  have hq := q b N0 A t S env Ls I
  unfold vCallIO mCall
  cases hw : wa env with
  | ex c fs env1 =>
    rw [hw] at hq
    obtain ⟨S1, Ls1, e, I1, st1⟩ := hq
    rw [e]
    exact ⟨S1, Ls1, rfl, I1, st1⟩
  | no => trivial
  | ok vs env1 =>
    rw [hw] at hq
    obtain ⟨us, S1, L1, Ls1, e, I1, st1, hL1, r1, c1⟩ := hq
    obtain ⟨up, hup, htp⟩ := ha t S us S1 e
    rw [e]
    show Aft2 _ _ _ _ _ _ _ _ _ (match env1[i]? with
      | some (some v) => if TV.alls fNw (vs.eraseIdx p) && decide (p < vs.length) then (W ((TV.fls fFz vs).set p (v.fl fSz))).go i env1 else .no
      | _ => .no) (F us S1) _
    split
    · rename_i v he
      split
      · rename_i hcond
        rw [Bool.and_eq_true, decide_eq_true_eq] at hcond
        obtain ⟨hnw, hp⟩ := hcond
        obtain ⟨u', ht', ri⟩ := I1.at_ i v he
        rw [htp] at ht'; cases ht'
        have r2 := r1.share I1 (lb_of I hL1)
        let N1 : Nat → Prop := fun j => (b ≤ j ∨ N0 j) ∧ Fresh Ls1 A j
        have hlen : us.length = ((TV.fls fFz vs).set p (v.fl fSz)).length := by rw [List.length_set, TV.fls_eq, List.length_map]; exact r1.length
        have args : ∀ y v', ((TV.fls fFz vs).set p (v.fl fSz))[y]? = some v' → ∃ u, us[y]? = some u ∧ Rp S1 (Cst S1.length N1 (LsP p (Ls1 i)) [] W0) u v' (LsP p (Ls1 i) y) := fun y v' hy => by
          rw [List.getElem?_set] at hy
          by_cases hyp : p = y
          · subst hyp
            rw [if_pos rfl] at hy
            split at hy
            · cases hy
              refine ⟨up, hup, ?_⟩
              have : LsP p (Ls1 i) p = Ls1 i := if_pos rfl
              rw [this]
              refine ri.gen1 (φ := fSz) (p := fun _ => true) rfl rfl (fun k hk => by cases k <;> first | exact absurd rfl hk | nofun) (fun k j o hk _ hc hs => ⟨?_, hs⟩) v.all_true fun _ _ => rfl
              have fr : Fresh Ls1 (A ++ L1) j → (∀ y, j ∉ LsP p (Ls1 i) y) ∧ j ∉ [] := fun h => ⟨fun y m => h.1 i (lsP_at m).2, by simp⟩
              cases k with
              | o => exact absurd rfl hk
              | s => exact ⟨.inr ⟨.inl hc.1, hc.2.less⟩, fr hc.2⟩
              | z => exact ⟨.inr ⟨hc.1, hc.2.less⟩, fr hc.2⟩
              | w => exact hc.elim
            · cases hy
          · rw [if_neg hyp, TV.fls_eq, List.getElem?_map, Option.map_eq_some_iff] at hy
            obtain ⟨x, hx, rfl⟩ := hy
            have hxs : (TV.fls fSh vs)[y]? = some x.sh := by rw [TV.fls_eq, List.getElem?_map, hx]; rfl
            obtain ⟨u, hu, r3⟩ := r2.get hxs
            refine ⟨u, hu, ?_⟩
            have nx := nwsE hnw hx (Ne.symm hyp)
            have el : LsP p (Ls1 i) y = [] := if_neg (Ne.symm hyp)
            rw [el]
            have nx' : TV.all fNw (TV.fl fSh x) = true := by rw [show TV.all fNw (TV.fl fSh x) = TV.all fNw x from nw_sh.1 x]; exact nx
            have r4 := r3.monoP (p := fNw) (S' := S1) (C' := fun k j => N1 j) (fun k j o hk hpk hc hs => (show N1 j from by
              cases k with
              | o => exact absurd rfl hk
              | s => exact ⟨.inl hc.1, hc.2⟩
              | z => exact hc
              | w => cases hpk) |> fun h => ⟨h, hs⟩) nx' fun j hj => by cases hj
            have r5 := r4.gen2 (φ := fFz) (S' := S1) (C' := Cst S1.length N1 (LsP p (Ls1 i)) [] W0) rfl (fun k => by nofun) (fun k j o hk hc hs => ⟨⟨.inr hc, ⟨fun y m => hc.2.1 i (lsP_at m).2, by simp⟩⟩, hs⟩) fun j o hj => by cases hj
            rw [(TV.fls_fls (φ := fFz) (ψ := fSh) (χ := fFz) (fun k => rfl)).1 x] at r5
            exact r5
        have h1 := hF N1 S1 us _ up (Ls1 i) hup hlen (I1.nd i) args
        -- what holds behind
        have fin : ∀ {S2 : Sto} {L Lp' : List Nat} {v' : TV}, Step S1 (LsP p (Ls1 i)) S2 (LsP p Lp') → Rp S2 (Cst S1.length N1 (LsP p Lp') L W0) up v' Lp' → L.Nodup → Lp'.Nodup → (∀ j ∈ L, S1.length ≤ j ∧ j ∉ Lp') → (∀ j ∈ L, j < S2.length) →
            Inv b N0 kp (A ++ L) t S2 (env1.set i (some v')) (fun y => if y = i then Lp' else Ls1 y) ∧ Step S1 Ls1 S2 (fun y => if y = i then Lp' else Ls1 y) ∧ ∀ k j, k ≠ .o → Cst S1.length N1 (LsP p Lp') L W0 k j → Cst b N0 (fun y => if y = i then Lp' else Ls1 y) (A ++ L) W0 k j := fun {S2 L Lp' v'} st2 rp' n1 n2 n3 n4 => by
          have lb : b ≤ S1.length := I1.lb
          have own : ∀ {j : Nat}, j ∈ Lp' → j ∈ Ls1 i ∨ S1.length ≤ j := fun {j} hj => by
            rcases st2.own p j (by unfold LsP; rw [if_pos rfl]; exact hj) with ⟨x, hx⟩ | hx
            · exact .inl (lsP_at hx).2
            · exact .inr hx
          have keep : ∀ {j : Nat}, j < S1.length → j ∉ Ls1 i → S2[j]? = S1[j]? := fun {j} h1 h2 => st2.keep j h1 fun y m => h2 (lsP_at m).2
          have frA : ∀ {j : Nat}, Fresh (LsP p Lp') L j → (S1.length ≤ j ∨ Fresh Ls1 A j) → Fresh (fun y => if y = i then Lp' else Ls1 y) (A ++ L) j := fun {j} h1 h2 => by
            refine ⟨fun y hy => ?_, fun m => ?_⟩
            · dsimp only at hy
              split at hy
              · exact h1.1 p (by unfold LsP; rw [if_pos rfl]; exact hy)
              · rcases h2 with h2 | h2
                · have := I1.lt hy; omega
                · exact h2.1 y hy
            · rcases List.mem_append.mp m with m | m
              · rcases h2 with h2 | h2
                · have := I1.al j (List.mem_append_left _ m); omega
                · exact h2.2 m
              · exact h1.2 m
          have cst : ∀ k j, k ≠ .o → Cst S1.length N1 (LsP p Lp') L W0 k j → Cst b N0 (fun y => if y = i then Lp' else Ls1 y) (A ++ L) W0 k j := fun k j hk hc => by
            cases k with
            | o => exact absurd rfl hk
            | s => exact ⟨Nat.le_trans lb hc.1, frA hc.2 (.inl hc.1)⟩
            | z =>
              rcases hc.1 with h | h
              · exact ⟨.inl (Nat.le_trans lb h), frA hc.2 (.inl h)⟩
              · exact ⟨h.1, frA hc.2 (.inr h.2)⟩
            | w => exact hc
          have hi : i < env1.length := lt_of_some he
          refine ⟨⟨Nat.le_trans lb st2.len, by rw [List.length_set]; exact I1.len, fun y v2 e2 => ?_, fun y hy => ?_, fun y => ?_, fun y z j h1 h2 => ?_, fun y j h => ?_, ?_, fun j hj y hy => ?_, fun j hj => ?_⟩, ⟨st2.len, fun j h1 h2 => keep h1 (h2 i), fun y j hj => ?_⟩, cst⟩
          · rw [List.getElem?_set] at e2
            by_cases hyi : i = y
            · subst hyi
              rw [if_pos rfl, if_pos hi] at e2
              cases e2
              exact ⟨up, htp, by rw [if_pos rfl]; exact rp'.mono (fun k j o hk hc hs => ⟨cst k j hk hc, hs⟩) fun _ _ => rfl⟩
            · rw [if_neg hyi] at e2
              obtain ⟨u3, e3, r3⟩ := I1.at_ y v2 e2
              refine ⟨u3, e3, ?_⟩
              rw [if_neg (Ne.symm hyi)]
              refine r3.mono (fun k j o hk hc hs => ?_) fun j hj => keep (I1.lt hj) fun m => hyi (I1.dj i y j m hj)
              have hj := lt_of_some hs
              have fr : Fresh Ls1 (A ++ L1) j → Fresh (fun y => if y = i then Lp' else Ls1 y) (A ++ L) j ∧ S2[j]? = some o := fun h => by
                refine ⟨⟨fun y hy => ?_, fun m => ?_⟩, by rw [keep hj (h.1 i)]; exact hs⟩
                · dsimp only at hy
                  split at hy
                  · rcases own hy with m | m
                    · exact h.1 i m
                    · omega
                  · exact h.1 y hy
                · rcases List.mem_append.mp m with m | m
                  · exact h.less.2 m
                  · have := (n3 j m).1; omega
              cases k with
              | o => exact absurd rfl hk
              | s => obtain ⟨f1, f2⟩ := fr hc.2; exact ⟨⟨hc.1, f1⟩, f2⟩
              | z => obtain ⟨f1, f2⟩ := fr hc.2; exact ⟨⟨hc.1, f1⟩, f2⟩
              | w => exact hc.elim
          · by_cases hyi : y = i
            · exfalso
              subst hyi
              exact hy v' (by rw [List.getElem?_set, if_pos rfl, if_pos hi])
            · show (if y = i then Lp' else Ls1 y) = []
              rw [if_neg hyi]
              exact I1.dead y fun v2 e2 => hy v2 (by rw [List.getElem?_set_ne (Ne.symm hyi)]; exact e2)
          · show (if y = i then Lp' else Ls1 y).Nodup
            split
            · exact n2
            · exact I1.nd y
          · split at h1 <;> split at h2
            · rename_i a1 a2; rw [a1, a2]
            · rename_i a1 a2
              rcases own h1 with m | m
              · exact a1.trans (I1.dj i z j m h2)
              · have := I1.lt h2; omega
            · rename_i a1 a2
              rcases own h2 with m | m
              · exact (I1.dj y i j h1 m).trans a2.symm
              · have := I1.lt h1; omega
            · exact I1.dj y z j h1 h2
          · split at h
            · rename_i a1
              rcases own h with m | m
              · rw [a1]; exact I1.fr i j m
              · exact .inl (Nat.le_trans lb m)
            · exact I1.fr y j h
          · refine List.nodup_append.mpr ⟨(List.nodup_append.mp I1.an).1, n1, fun j hj k hk e => ?_⟩
            subst e
            have := I1.al j (List.mem_append_left _ hj)
            have := (n3 j hk).1
            omega
          · rcases List.mem_append.mp hj with hj | hj
            · have hlt := I1.al j (List.mem_append_left _ hj)
              split at hy
              · rcases own hy with m | m
                · exact I1.ad j (List.mem_append_left _ hj) i m
                · omega
              · exact I1.ad j (List.mem_append_left _ hj) y hy
            · obtain ⟨a1, a2⟩ := n3 j hj
              split at hy
              · exact a2 hy
              · have := I1.lt hy; omega
          · rcases List.mem_append.mp hj with hj | hj
            · have := I1.al j (List.mem_append_left _ hj); have := st2.len; omega
            · exact n4 j hj
          · split at hj
            · rcases own hj with m | m
              · exact .inl ⟨i, m⟩
              · exact .inr m
            · exact .inl ⟨y, hj⟩
        cases hW : W ((TV.fls fFz vs).set p (v.fl fSz)) with
        | no => trivial
        | ex c fs v' =>
          rw [hW] at h1
          obtain ⟨S2, Lp', e2, st2, rp', n2⟩ := h1
          rw [e2]
          obtain ⟨a1, a2, _⟩ := fin (L := []) st2 rp' List.nodup_nil n2 (fun j h => by cases h) (fun j h => by cases h)
          rw [List.append_nil] at a1
          exact ⟨S2, _, rfl, a1, st1.trans a2⟩
        | ok z v' =>
          rw [hW] at h1
          obtain ⟨u, S2, L, Lp', e2, st2, rz, rp', n1, n2, n3⟩ := h1
          rw [e2]
          obtain ⟨a1, a2, a3⟩ := fin st2 rp' n1 n2 n3 fun j hj => rz.lt j hj
          refine ⟨u, S2, L, _, rfl, a1, st1.trans a2, fun j hj => Nat.le_trans st1.len (n3 j hj).1, rz.mono (fun k j o hk hc hs => ⟨?_, hs⟩) (fun _ _ => rfl), fun z => by cases z⟩
          have := a3 k j hk hc
          cases k with
          | o => exact absurd rfl hk
          | s => exact this
          | z => exact this
          | w => exact this.elim
      · trivial
    · trivial
end
end IP

/-! IPyW: the second evaluator: targets, what is gone through, statements. -/
namespace IP
open PySem
mutual
def tgT : Tg → TV → Env → Option Env
  | .nm i, v, e => some (e.set i (some v))
  | .tu ts, v, e => match v.sh with
    | .tup xs => tgTs ts xs e
    | .nd _ .lst xs => tgTs ts xs e
    | _ => none
def tgTs : List Tg → List TV → Env → Option Env
  | [], [], e => some e
  | g :: gs, x :: xs, e => match tgT g x e with
    | some e1 => tgTs gs xs e1
    | none => none
  | _, _, _ => none
end
mutual
def tgOut (kp : List Nat) : Tg → Bool
  | .nm i => !kp.contains i
  | .tu ts => tgsOut kp ts
def tgsOut (kp : List Nat) : List Tg → Bool
  | [] => true
  | g :: gs => tgOut kp g && tgsOut kp gs
end
def Kept (kp : List Nat) (t t' : Slo) : Prop := ∀ k ∈ kp, t'[k]? = t[k]?
theorem Kept.refl {kp : List Nat} {t : Slo} : Kept kp t t := fun _ _ => rfl
theorem Kept.trans {kp : List Nat} {t t1 t2 : Slo} (h : Kept kp t t1) (q : Kept kp t1 t2) : Kept kp t t2 := fun k hk => (q k hk).trans (h k hk)
theorem seqI_ref {S : Sto} {i : Nat} {xs : List IV} (h : S[i]? = some (.lst xs)) : seqI (.ref i) S = some xs := by simp only [seqI]; rw [h]
section
variable {b : Nat} {N0 : Nat → Prop} {kp ws ws' : List Nat} {cl cl' : Bool} {A A' L : List Nat} {t t' : Slo} {S S' S1 : Sto} {env env' env1 : Env} {Ls Ls' Ls1 : LsT}
/-- a slot is given a value -/
theorem Inv.put (I : Inv b N0 kp (A ++ L) t S env Ls) {u : IV} {v : TV} (r : Rp S (Cst b N0 Ls (A ++ L) W0) u v L) (hL : ∀ j ∈ L, b ≤ j) {i : Nat} (hk : i ∉ kp) :
    Inv b N0 kp A (t.set i (some u)) S (env.set i (some v)) (fun y => if y = i then (if i < env.length then L else []) else Ls y) := by
  by_cases hi : i < env.length
  · rw [if_pos hi]
    have hit : i < t.length := I.len ▸ hi
    have sub : ∀ {j y : Nat}, j ∈ (if y = i then L else Ls y) → j ∈ L ∨ j ∈ Ls y := fun {j y} h => by
      split at h
      · exact .inl h
      · exact .inr h
    have fr : ∀ {j : Nat}, Fresh Ls (A ++ L) j → Fresh (fun y => if y = i then L else Ls y) A j := fun {j} h => ⟨fun y m => by
      rcases sub m with m | m
      · exact h.2 (List.mem_append_right _ m)
      · exact h.1 y m, fun m => h.2 (List.mem_append_left _ m)⟩
    have cst : ∀ k j, k ≠ .o → Cst b N0 Ls (A ++ L) W0 k j → Cst b N0 (fun y => if y = i then L else Ls y) A W0 k j := fun k j hk hc => by
      cases k with
      | o => exact absurd rfl hk
      | s => exact ⟨hc.1, fr hc.2⟩
      | z => exact ⟨hc.1, fr hc.2⟩
      | w => exact hc
    refine ⟨I.lb, by rw [List.length_set, List.length_set]; exact I.len, fun y v2 e => ?_, fun y hy => ?_, fun y => ?_, fun y z j h1 h2 => ?_, fun y j h => ?_, (List.nodup_append.mp I.an).1, fun j hj y hy => ?_, fun j hj => I.al j (List.mem_append_left _ hj)⟩
    · rw [List.getElem?_set] at e
      by_cases hyi : i = y
      · subst hyi
        rw [if_pos rfl, if_pos hi] at e
        cases e
        refine ⟨u, by rw [List.getElem?_set, if_pos rfl, if_pos hit], ?_⟩
        rw [if_pos rfl]
        exact r.mono (fun k j o hk hc hs => ⟨cst k j hk hc, hs⟩) fun _ _ => rfl
      · rw [if_neg hyi] at e
        obtain ⟨u2, e2, r2⟩ := I.at_ y v2 e
        refine ⟨u2, by rw [List.getElem?_set_ne hyi]; exact e2, ?_⟩
        rw [if_neg (Ne.symm hyi)]
        exact r2.mono (fun k j o hk hc hs => ⟨cst k j hk hc, hs⟩) fun _ _ => rfl
    · by_cases hyi : y = i
      · exfalso
        subst hyi
        exact hy v (by rw [List.getElem?_set, if_pos rfl, if_pos hi])
      · show (if y = i then L else Ls y) = []
        rw [if_neg hyi]
        exact I.dead y fun v2 e2 => hy v2 (by rw [List.getElem?_set_ne (Ne.symm hyi)]; exact e2)
    · show (if y = i then L else Ls y).Nodup
      split
      · exact I.lnd
      · exact I.nd y
    · split at h1 <;> split at h2
      · rename_i a1 a2; rw [a1, a2]
      · exact ((I.lad h1).1 z h2).elim
      · exact ((I.lad h2).1 y h1).elim
      · exact I.dj y z j h1 h2
    · split at h
      · exact .inl (hL j h)
      · exact I.fr y j h
    · rcases sub hy with m | m
      · exact (I.lad m).2 hj
      · exact I.ad j (List.mem_append_left _ hj) y m
  · have len := I.len
    rw [if_neg hi, List.set_eq_of_length_le (by omega), List.set_eq_of_length_le (by have := I.len; omega)]
    have sub : ∀ {j y : Nat}, j ∈ (if y = i then [] else Ls y) → j ∈ Ls y := fun {j y} h => by
      split at h
      · cases h
      · exact h
    have e : (fun y => if y = i then [] else Ls y) = Ls := by
      funext y
      split
      · rename_i h
        subst h
        exact (I.dead y fun v e => by rw [List.getElem?_eq_none (by omega)] at e; cases e).symm
      · rfl
    rw [e]
    exact I.drop
theorem put_own (I : Inv b N0 kp (A ++ L) t S env Ls) {i : Nat} (hs : ∀ j ∈ L, S1.length ≤ j) : ∀ y j, j ∈ (fun y => if y = i then (if i < env.length then L else []) else Ls y) y → (∃ x, j ∈ Ls x) ∨ S1.length ≤ j := fun y j h => by
  dsimp only at h
  split at h
  · split at h
    · exact .inr (hs j h)
    · cases h
  · exact .inl ⟨y, h⟩
theorem kept_set {kp : List Nat} {t : Slo} {i : Nat} {x : Option IV} (h : i ∉ kp) : Kept kp t (t.set i x) := fun k hk => List.getElem?_set_ne fun e => h (by rw [e]; exact hk)
/-- what is told of targets, of values that nobody holds alone -/
structure TgR (out : Nat → Bool) (b : Nat) (N0 : Nat → Prop) (kp A : List Nat) (t : Slo) (S : Sto) (env : Env) (Ls : LsT) (t' : Slo) (env' : Env) (Ls' : LsT) : Prop where
  inv : Inv b N0 kp A t' S env' Ls'
  own : ∀ y j, j ∈ Ls' y → j ∈ Ls y
  off : ∀ y, out y = true → Ls' y = Ls y ∧ t'[y]? = t[y]? ∧ env'[y]? = env[y]?
theorem TgR.rps {out : Nat → Bool} {us : List IV} {vs : List TV} (h : TgR out b N0 kp A t S env Ls t' env' Ls') (r : Rps S (Cst b N0 Ls A W0) us vs []) : Rps S (Cst b N0 Ls' A W0) us vs [] := r.mono (fun k j o hk hc hs => ⟨by
  have fr : Fresh Ls A j → Fresh Ls' A j := fun f => ⟨fun y m => f.1 y (h.own y j m), f.2⟩
  cases k with
  | o => exact absurd rfl hk
  | s => exact ⟨hc.1, fr hc.2⟩
  | z => exact ⟨hc.1, fr hc.2⟩
  | w => exact hc, hs⟩) fun _ _ => rfl
mutual
theorem tg_ok0 : ∀ {g : Tg} {u : IV} {v : TV} {t : Slo} {env env' : Env} {Ls : LsT}, Inv b N0 kp A t S env Ls → Rp S (Cst b N0 Ls A W0) u v [] → tgOut kp g = true → tgT g v env = some env' → ∃ t' Ls', tgSet S g u t = some t' ∧ TgR (fun y => tgOut [y] g) b N0 kp A t S env Ls t' env' Ls'
  | .nm i, u, v, t, env, env', Ls, I, r, hk, e => by
    simp only [tgT, Option.some.injEq] at e
    subst e
    simp only [tgOut, Bool.not_eq_true', List.contains_eq_mem, decide_eq_false_iff_not] at hk
    refine ⟨t.set i (some u), _, by simp only [tgSet], (I.nil).put (L := []) (by rw [List.append_nil]; exact r) (fun j h => by cases h) hk, fun y j h => ?_, fun y hy => ?_⟩
    · split at h
      · split at h <;> cases h
      · exact h
    · simp only [tgOut, Bool.not_eq_true', List.contains_eq_mem, decide_eq_false_iff_not, List.mem_singleton] at hy
      exact ⟨if_neg (Ne.symm hy), List.getElem?_set_ne hy, List.getElem?_set_ne hy⟩
  | .tu gs, u, v, t, env, env', Ls, I, r, hk, e => by
    simp only [tgOut] at hk
    have rs : Rp S (Cst b N0 Ls A W0) u v.sh [] := r.gen2 rfl (fun k => by cases k <;> nofun) (fun k j o hk hc hs => ⟨by cases k <;> first | exact absurd rfl hk | exact hc, hs⟩) fun j o hj => by cases hj
    simp only [tgT] at e
    split at e
    · rename_i xs hx
      rw [hx] at rs
      obtain ⟨ys, rfl, q⟩ := rs.tup0
      obtain ⟨t', Ls', e1, h⟩ := tgs_ok0 I q hk e
      exact ⟨t', Ls', by simp only [tgSet]; exact e1, h.inv, h.own, fun y hy => h.off y (by simpa only [tgOut] using hy)⟩
    · rename_i k xs hx
      rw [hx] at rs
      obtain ⟨ys, e2, _, q, h4⟩ := rs.seq0
      obtain ⟨t', Ls', e1, h⟩ := tgs_ok0 I q hk e
      refine ⟨t', Ls', ?_, h.inv, h.own, fun y hy => h.off y (by simpa only [tgOut] using hy)⟩
      rcases h4 with ⟨i, rfl, e'⟩ | rfl
      · simp only [tgSet, e2]; exact e1
      · simp only [tgSet, e2]; exact e1
    · cases e
theorem tgs_ok0 : ∀ {g : List Tg} {u : List IV} {v : List TV} {t : Slo} {env env' : Env} {Ls : LsT}, Inv b N0 kp A t S env Ls → Rps S (Cst b N0 Ls A W0) u v [] → tgsOut kp g = true → tgTs g v env = some env' → ∃ t' Ls', tgSets S g u t = some t' ∧ TgR (fun y => tgsOut [y] g) b N0 kp A t S env Ls t' env' Ls'
  | [], u, [], t, env, env', Ls, I, r, hk, e => by
    simp only [tgTs, Option.some.injEq] at e
    subst e
    obtain ⟨rfl, _⟩ := r.invN
    exact ⟨t, Ls, by simp only [tgSets], I, fun _ _ h => h, fun _ _ => ⟨rfl, rfl, rfl⟩⟩
  | [], u, _ :: _, t, env, env', Ls, I, r, hk, e => by simp only [tgTs] at e; cases e
  | _ :: _, u, [], t, env, env', Ls, I, r, hk, e => by simp only [tgTs] at e; cases e
  | g :: gs, u, v :: vs, t, env, env', Ls, I, r, hk, e => by
    obtain ⟨x, xs, rfl, r1, r2⟩ := r.inv0
    simp only [tgsOut, Bool.and_eq_true] at hk
    simp only [tgTs] at e
    cases e1 : tgT g v env with
    | none => rw [e1] at e; cases e
    | some env1 =>
      rw [e1] at e
      obtain ⟨t1, Ls1, a1, h1⟩ := tg_ok0 I r1 hk.1 e1
      obtain ⟨t2, Ls2, a2, h2⟩ := tgs_ok0 h1.inv (h1.rps r2) hk.2 e
      exact ⟨t2, Ls2, by simp only [tgSets, a1]; exact a2, h2.inv, fun y j m => h1.own y j (h2.own y j m), fun y hy => by
      simp only [tgsOut, Bool.and_eq_true] at hy
      obtain ⟨a, b, c⟩ := h1.off y hy.1
      obtain ⟨a', b', c'⟩ := h2.off y hy.2
      exact ⟨a'.trans a, b'.trans b, c'.trans c⟩⟩
end
end
mutual
theorem out_of {kp : List Nat} {y : Nat} (hy : y ∈ kp) : ∀ {g : Tg}, tgOut kp g = true → tgOut [y] g = true
  | .nm i, h => by
    simp only [tgOut, Bool.not_eq_true', List.contains_eq_mem, decide_eq_false_iff_not, List.mem_singleton] at h ⊢
    exact fun e => h (e ▸ hy)
  | .tu ts, h => by simp only [tgOut] at h ⊢; exact outs_of hy h
theorem outs_of {kp : List Nat} {y : Nat} (hy : y ∈ kp) : ∀ {g : List Tg}, tgsOut kp g = true → tgsOut [y] g = true
  | [], _ => rfl
  | g :: gs, h => by
    simp only [tgsOut, Bool.and_eq_true] at h ⊢
    exact ⟨out_of hy h.1, outs_of hy h.2⟩
end
mutual
theorem out_in {own : List Nat} {y : Nat} (hy : y ∉ own) : ∀ {g : Tg}, tgIn own g = true → tgOut [y] g = true
  | .nm i, h => by
    simp only [tgIn, List.contains_eq_mem, decide_eq_true_eq] at h
    simp only [tgOut, Bool.not_eq_true', List.contains_eq_mem, decide_eq_false_iff_not, List.mem_singleton]
    exact fun e => hy (e ▸ h)
  | .tu ts, h => by simp only [tgIn] at h; simp only [tgOut]; exact outs_in hy h
theorem outs_in {own : List Nat} {y : Nat} (hy : y ∉ own) : ∀ {g : List Tg}, tgsIn own g = true → tgsOut [y] g = true
  | [], _ => rfl
  | g :: gs, h => by
    simp only [tgsIn, Bool.and_eq_true] at h
    simp only [tgsOut, Bool.and_eq_true]
    exact ⟨out_in hy h.1, outs_in hy h.2⟩
end
/-! ### what is gone through -/
inductive IK where
  | lst | tup | str (z : Str) | rng (lo c : Int) (n : Nat) | enum | zip | rev (n : Nat) | enumS (z : Str)
def itMk : IK → List IV → ItS
  | .lst, us => .lst (us.headD .non)
  | .tup, us => .tup us
  | .str z, _ => .str z
  | .rng lo c n, _ => .rng lo c n
  | .enum, us => .enum (us.headD .non)
  | .zip, us => .zip (us.headD .non) (us.tail.headD .non)
  | .rev n, us => .rev (us.headD .non) n
  | .enumS z, _ => .enumS z
def enumT : Nat → List TV → List TV
  | _, [] => []
  | k, x :: xs => .tup [.int k, x] :: enumT (k + 1) xs
def zipT : List TV → List TV → List TV
  | x :: xs, y :: ys => .tup [x, y] :: zipT xs ys
  | _, _ => []
def rngT (lo c : Int) (n : Nat) : List TV := (List.range n).map fun i : Nat => TV.int (lo + (i : Int) * c)
def strT (z : Str) : List TV := z.cps.toList.map fun c => TV.str ⟨#[c]⟩
def itemsT : IK → List TV → Option (List TV)
  | .lst, [.nd _ .lst xs] => some xs
  | .tup, xs => some xs
  | .str z, [] => some (strT z)
  | .rng lo c n, [] => some (rngT lo c n)
  | .enum, [.nd _ .lst xs] => some (enumT 0 xs)
  | .zip, [.nd _ .lst xs, .nd _ .lst ys] => some (zipT xs ys)
  | .rev n, [.nd _ .lst xs] => if n = xs.length then some xs.reverse else none
  | .enumS z, [] => some (enumT 0 (strT z))
  | _, _ => none
section
variable {S : Sto} {C : Fl → Nat → Prop}
def enumI : Nat → List IV → List IV
  | _, [] => []
  | k, x :: xs => .tup [.int k, x] :: enumI (k + 1) xs
def zipI : List IV → List IV → List IV
  | x :: xs, y :: ys => .tup [x, y] :: zipI xs ys
  | _, _ => []
theorem enumI_get : ∀ {xs : List IV} {k n : Nat}, (enumI k xs)[n]? = xs[n]?.map fun x => .tup [.int ((k + n : Nat) : Int), x]
  | [], k, n => by simp [enumI]
  | x :: xs, k, 0 => by simp [enumI]
  | x :: xs, k, n + 1 => by
    simp only [enumI, List.getElem?_cons_succ]
    rw [enumI_get]
    have : k + 1 + n = k + (n + 1) := by omega
    rw [this]
theorem zipI_get : ∀ {xs ys : List IV} {n : Nat}, (zipI xs ys)[n]? = (match xs[n]?, ys[n]? with
    | some x, some y => some (.tup [x, y])
    | _, _ => none)
  | [], ys, n => by simp [zipI]
  | x :: xs, [], n => by simp [zipI]
  | x :: xs, y :: ys, 0 => by simp [zipI]
  | x :: xs, y :: ys, n + 1 => by simp only [zipI, List.getElem?_cons_succ]; exact zipI_get
theorem enum_rps : ∀ {vs : List TV} {us : List IV} {k : Nat}, Rps S C us vs [] → Rps S C (enumI k us) (enumT k vs) []
  | [], _, k, h => by obtain ⟨rfl, _⟩ := h.invN; exact .nil
  | v :: vs, _, k, h => by
    obtain ⟨y, ys, rfl, h, q⟩ := h.inv0
    exact .cons0 (.tup (.cons0 (.int _) (.cons0 h .nil))) (enum_rps q)
theorem zip_rps : ∀ {vs vs' : List TV} {us us' : List IV}, Rps S C us vs [] → Rps S C us' vs' [] → Rps S C (zipI us us') (zipT vs vs') []
  | [], vs', _, us', h, h' => by obtain ⟨rfl, _⟩ := h.invN; exact .nil
  | v :: vs, [], us, us', h, h' => by obtain ⟨rfl, _⟩ := h'.invN; obtain ⟨y, ys, rfl, h, q⟩ := h.inv0; exact .nil
  | v :: vs, v' :: vs', us, us', h, h' => by
    obtain ⟨y, ys, rfl, h, q⟩ := h.inv0
    obtain ⟨y', ys', rfl, h', q'⟩ := h'.inv0
    exact .cons0 (.tup (.cons0 h (.cons0 h' .nil))) (zip_rps q q')
theorem rng_rps (lo c : Int) : ∀ l : List Nat, Rps S C (l.map fun i : Nat => IV.int (lo + (i : Int) * c)) (l.map fun i : Nat => TV.int (lo + (i : Int) * c)) []
  | [] => .nil
  | x :: xs => .cons0 (.int _) (rng_rps lo c xs)
theorem str_rps : ∀ l : List Nat, Rps S C (l.map fun c => IV.str ⟨#[c]⟩) (l.map fun c => TV.str ⟨#[c]⟩) []
  | [] => .nil
  | x :: xs => .cons0 (.str _) (str_rps xs)
theorem items_ok {k : IK} {us : List IV} {vs xs : List TV} (h : Rps S C us vs []) (e : itemsT k vs = some xs) : ∃ ys, (∀ n, nextAt (itMk k us) n S = some ys[n]?) ∧ Rps S C ys xs [] := by
  unfold itemsT at e
  split at e
  · rename_i kk zs
    cases e
    obtain ⟨u, rfl, r⟩ := h.inv1
    obtain ⟨ys, e1, _, q, _⟩ := r.seq0
    exact ⟨ys, fun n => by simp only [itMk, List.headD_cons, nextAt, e1, Option.map_some], q⟩
  · cases e
    exact ⟨us, fun n => rfl, h⟩
  · cases e
    refine ⟨_, fun n => ?_, str_rps _⟩
    simp only [itMk, nextAt, List.getElem?_map, Array.getElem?_toList]
  · cases e
    refine ⟨_, fun n => ?_, rng_rps _ _ _⟩
    rename_i lo c k
    simp only [itMk, nextAt, List.getElem?_map]
    by_cases hn : n < k
    · rw [if_pos hn, List.getElem?_range hn]; rfl
    · rw [if_neg hn, List.getElem?_eq_none (by simp; omega)]; rfl
  · rename_i kk zs
    cases e
    obtain ⟨u, rfl, r⟩ := h.inv1
    obtain ⟨ys, e1, _, q, _⟩ := r.seq0
    refine ⟨enumI 0 ys, fun n => ?_, enum_rps q⟩
    simp only [itMk, List.headD_cons, nextAt, e1, Option.map_some]
    rw [enumI_get, Nat.zero_add]
  · rename_i kk zs kk2 zs2
    cases e
    obtain ⟨u, u', rfl, r, r'⟩ := h.inv2
    obtain ⟨ys, e1, _, q, _⟩ := r.seq0
    obtain ⟨ys', e1', _, q', _⟩ := r'.seq0
    refine ⟨zipI ys ys', fun n => ?_, zip_rps q q'⟩
    simp only [itMk, List.headD_cons, List.tail_cons, nextAt, e1, e1']
    rw [zipI_get]
    all_goals (cases ys[n]? <;> cases ys'[n]? <;> rfl)
  · rename_i nn kk zs
    split at e
    · rename_i hl
      cases e
      obtain ⟨u, rfl, r⟩ := h.inv1
      obtain ⟨ys, e1, _, q, _⟩ := r.seq0
      refine ⟨ys.reverse, fun n => ?_, q.reverse⟩
      have hly := q.length
      simp only [itMk, List.headD_cons, nextAt, e1, Option.bind_some]
      split
      · rename_i hn
        rw [List.getElem?_reverse (by omega), show ys.length - 1 - n = nn - 1 - n by omega, List.getElem?_eq_getElem (by omega)]
        rfl
      · rw [List.getElem?_eq_none (by simp; omega)]
    · cases e
  · cases e
    refine ⟨_, fun n => ?_, enum_rps (str_rps _)⟩
    simp only [itMk, nextAt]
    rw [enumI_get, Nat.zero_add]
    simp only [List.getElem?_map, Array.getElem?_toList, Option.map_map]
    rfl
  · cases e
end
abbrev VI := Env → RV (IK × List TV)
def vIVal (a : VE) : VI := fun e => (a e).bind fun v e1 => match v with
  | .tup xs => .ok (.tup, xs) e1
  | .str z => .ok (.str z, []) e1
  | .nd k .lst xs => .ok (.lst, [.nd k .lst xs]) e1
  | _ => .no
def tR1 : List TV → Option IK
  | [.int j] => if small62 j then some (.rng 0 1 j.toNat) else none
  | _ => none
def tR2 : List TV → Option IK
  | [.int i, .int j] => if small62 i && small62 j then some (.rng i 1 (j - i).toNat) else none
  | _ => none
def tR3 : List TV → Option IK
  | [.int i, .int j, .int c] => if small62 i && small62 j && decide (c = -1) then some (.rng i (-1) (i - j).toNat) else none
  | _ => none
def vRange (f : List TV → Option IK) (a : VA) : VI := fun e => (a e).bind fun vs e1 => (RV.ofO (f vs) e1).bind fun k e2 => .ok (k, []) e2
def vEnum (a : VA) : VI := fun e => (a e).bind fun vs e1 => match vs with
  | [.nd k .lst xs] => .ok (.enum, [.nd k .lst xs]) e1
  | [.str z] => .ok (.enumS z, []) e1
  | _ => .no
def vZip (a : VA) : VI := fun e => (a e).bind fun vs e1 => match vs with
  | [.nd k .lst xs, .nd k' .lst ys] => .ok (.zip, [.nd k .lst xs, .nd k' .lst ys]) e1
  | _ => .no
def vRev (a : VA) : VI := fun e => (a e).bind fun vs e1 => match vs with
  | [.nd k .lst xs] => .ok (.rev xs.length, [.nd k .lst xs]) e1
  | _ => .no
def VIok (kp ws : List Nat) (cl : Bool) (m : SI) (w : VI) : Prop := ∀ (b : Nat) (N0 : Nat → Prop) (A : List Nat) (t : Slo) (S : Sto) (env : Env) (Ls : LsT), Inv b N0 kp A t S env Ls →
  Aft2 kp cl b N0 A t S env Ls (w env) (m t S) fun it kv S' Ls' L => ∃ us, it = itMk kv.1 us ∧ Rps S' (Cst b N0 Ls' (A ++ L) (Wn ws Ls')) us kv.2 L
section
variable {kp ws ws' : List Nat} {cl cl' : Bool} {m m' m2 : SE} {w w' w2 : VE} {ma : SA} {wa : VA}
theorem vi_val (h : VEok kp ws cl m w) : VIok kp ws cl (iVal m) (vIVal w) := fun b N0 A t S env Ls I => by
  refine (h b N0 A t S env Ls I).bind fun u v S1 env1 Ls1 L1 I1 st1 hL1 r1 c1 => ?_
  split
  · obtain ⟨ys, rfl, q⟩ := r1.tup0
    exact ⟨_, S1, L1, Ls1, rfl, I1, st1, hL1, ⟨ys, rfl, q⟩, c1⟩
  · obtain ⟨rfl, rfl⟩ := r1.str0
    exact ⟨_, S1, [], Ls1, rfl, I1, st1, hL1, ⟨[], rfl, .nil⟩, c1⟩
  · obtain ⟨ys, M, h1, _, _, _, h4⟩ := r1.seq
    refine ⟨.lst u, S1, L1, Ls1, ?_, I1, st1, hL1, ⟨[u], rfl, .one r1⟩, c1⟩
    rcases h4 with ⟨i, rfl, e'⟩ | rfl
    · simp only [h1]
    · simp only [h1]
  · trivial
theorem rng_fin {b : Nat} {N0 : Nat → Prop} {A : List Nat} {t : Slo} {S S1 : Sto} {env env1 : Env} {Ls Ls1 : LsT} {L1 : List Nat} (I1 : Inv b N0 kp (A ++ L1) t S1 env1 Ls1) (st1 : Step S Ls S1 Ls1) (c1 : cl = true → env1 = env ∧ Ls1 = Ls ∧ ∃ T, S1 = S ++ T) (k : IK) {it : ItS} (e : it = itMk k []) :
    Aft2 kp cl b N0 A t S env Ls (.ok (k, []) env1) (.ok it S1) fun it (kv : IK × List TV) S' Ls' L => ∃ us, it = itMk kv.1 us ∧ Rps S' (Cst b N0 Ls' (A ++ L) (Wn [] Ls')) us kv.2 L :=
  ⟨_, S1, [], Ls1, rfl, I1.drop.nil, st1, (fun j h => by cases h), ⟨[], e, .nil⟩, c1⟩
theorem vi_range1 (q : VAok kp ws cl ma wa) : VIok kp [] cl (iRange1 ma) (vRange tR1 wa) := fun b N0 A t S env Ls I => by
  unfold iRange1
  refine (q b N0 A t S env Ls I).bind fun us vs S1 env1 Ls1 L1 I1 st1 hL1 r1 c1 => ?_
  cases e : tR1 vs with
  | none => trivial
  | some k =>
    show Aft2 _ _ _ _ _ _ _ _ _ (.ok (k, []) env1) _ _
    unfold tR1 at e
    split at e
    · split at e
      · rename_i hs
        cases e
        cases r1 with | cons h q eq =>
        obtain ⟨rfl, _⟩ := h.int0
        obtain ⟨rfl, _⟩ := q.invN
        dsimp only
        rw [if_pos hs]
        exact rng_fin I1 st1 c1 _ rfl
      · cases e
    · cases e
theorem vi_range2 (q : VAok kp ws cl ma wa) : VIok kp [] cl (iRange2 ma) (vRange tR2 wa) := fun b N0 A t S env Ls I => by
  unfold iRange2
  refine (q b N0 A t S env Ls I).bind fun us vs S1 env1 Ls1 L1 I1 st1 hL1 r1 c1 => ?_
  cases e : tR2 vs with
  | none => trivial
  | some k =>
    show Aft2 _ _ _ _ _ _ _ _ _ (.ok (k, []) env1) _ _
    unfold tR2 at e
    split at e
    · split at e
      · rename_i hs
        cases e
        cases r1 with | cons h q eq =>
        obtain ⟨rfl, _⟩ := h.int0
        cases q with | cons h q eq =>
        obtain ⟨rfl, _⟩ := h.int0
        obtain ⟨rfl, _⟩ := q.invN
        dsimp only
        rw [if_pos hs]
        exact rng_fin I1 st1 c1 _ rfl
      · cases e
    · cases e
theorem vi_range3 (q : VAok kp ws cl ma wa) : VIok kp [] cl (iRange3 ma) (vRange tR3 wa) := fun b N0 A t S env Ls I => by
  unfold iRange3
  refine (q b N0 A t S env Ls I).bind fun us vs S1 env1 Ls1 L1 I1 st1 hL1 r1 c1 => ?_
  cases e : tR3 vs with
  | none => trivial
  | some k =>
    show Aft2 _ _ _ _ _ _ _ _ _ (.ok (k, []) env1) _ _
    unfold tR3 at e
    split at e
    · split at e
      · rename_i hs
        cases e
        cases r1 with | cons h q eq =>
        obtain ⟨rfl, _⟩ := h.int0
        cases q with | cons h q eq =>
        obtain ⟨rfl, _⟩ := h.int0
        cases q with | cons h q eq =>
        obtain ⟨rfl, _⟩ := h.int0
        obtain ⟨rfl, _⟩ := q.invN
        dsimp only
        rw [if_pos hs]
        exact rng_fin I1 st1 c1 _ rfl
      · cases e
    · cases e
theorem vi_enum (q : VAok kp ws cl ma wa) : VIok kp ws cl (iEnumS ma) (vEnum wa) := fun b N0 A t S env Ls I => by
  refine (q b N0 A t S env Ls I).bind fun us vs S1 env1 Ls1 L1 I1 st1 hL1 r1 c1 => ?_
  split
  · cases r1 with | cons h q eq =>
    obtain ⟨rfl, rfl⟩ := q.invN
    rw [List.append_nil] at eq
    subst eq
    obtain ⟨ys, M, h1, _⟩ := h.seq
    exact ⟨_, S1, _, Ls1, by simp only [h1]; rfl, I1, st1, hL1, ⟨[_], rfl, .one h⟩, c1⟩
  · cases r1 with | cons h q eq =>
    obtain ⟨rfl, rfl⟩ := q.invN
    obtain ⟨rfl, rfl⟩ := h.str0
    subst eq
    exact ⟨_, S1, _, Ls1, rfl, I1, st1, hL1, ⟨[], rfl, .nil⟩, c1⟩
  · trivial
theorem vi_rev (q : VAok kp ws cl ma wa) : VIok kp ws cl (iRevS ma) (vRev wa) := fun b N0 A t S env Ls I => by
  refine (q b N0 A t S env Ls I).bind fun us vs S1 env1 Ls1 L1 I1 st1 hL1 r1 c1 => ?_
  split
  · cases r1 with | cons h q eq =>
    obtain ⟨rfl, rfl⟩ := q.invN
    rw [List.append_nil] at eq
    subst eq
    obtain ⟨ys, M, h1, h2, _⟩ := h.seq
    exact ⟨_, S1, _, Ls1, by simp only [h1, h2.length]; rfl, I1, st1, hL1, ⟨[_], rfl, .one h⟩, c1⟩
  · trivial
theorem vi_zip (q : VAok kp ws cl ma wa) : VIok kp ws cl (iZipS ma) (vZip wa) := fun b N0 A t S env Ls I => by
  refine (q b N0 A t S env Ls I).bind fun us vs S1 env1 Ls1 L1 I1 st1 hL1 r1 c1 => ?_
  split
  · have r0 := r1
    cases r1 with | cons h q eq =>
    cases q with | cons h' q eq' =>
    obtain ⟨rfl, rfl⟩ := q.invN
    obtain ⟨ys, M, h1, _⟩ := h.seq
    obtain ⟨ys', M', h1', _⟩ := h'.seq
    exact ⟨_, S1, _, Ls1, by simp only [h1, h1']; rfl, I1, st1, hL1, ⟨[_, _], rfl, r0⟩, c1⟩
  · trivial
end
end IP

/-! IPyX: the second evaluator: comprehensions. -/
namespace IP
open PySem
def wipeT (e : Env) : List Nat → Env
  | [] => e
  | v :: vs => (wipeT e vs).set v none
def restT (e0 : Env) : List Nat → Env → Env
  | [], e => e
  | i :: is, e => match e0[i]? with
    | some v => (restT e0 is e).set i v
    | none => restT e0 is e
def fNo : Fl → Bool | .o => false | _ => true
def noO (e : Env) : List Nat → Bool
  | [] => true
  | i :: is => (match e[i]? with
    | some (some v) => v.all fNo
    | _ => true) && noO e is
def RV.calm {α : Type} (r : RV α) : RV α := match r with
  | .ex _ _ _ => .no
  | x => x
def vlc (own : List Nat) (g : Tg) (c : VB) (el : VE) : List TV → List TV → Env → RV (List TV)
  | [], acc, e => .ok acc e
  | x :: xs, acc, e => match tgT g x (wipeT e own) with
    | some e1 => (c e1).bind fun k e2 => if k then (el e2).bind fun y e3 => vlc own g c el xs (acc ++ [y]) (restT e own e3) else vlc own g c el xs acc (restT e own e2)
    | none => .no
def vLc (own : List Nat) (g : Tg) (wi : VI) (c : VB) (el : VE) : VE := fun e => (wi e).bind fun kv e1 => match itemsT kv.1 (TV.fls fSh kv.2) with
  | some xs => if xs.length < 1000000 ∧ (TV.alls fNw xs && noO e1 own) = true then ((vlc own g c el xs [] e1).bind fun acc e2 => .ok (.nd .o .lst acc) e2).calm else .no
  | none => .no
mutual
theorem Rp.noL {S : Sto} {C : Fl → Nat → Prop} : ∀ {u : IV} {v : TV} {L : List Nat}, Rp S C u v L → v.all fNo = true → L = []
  | _, _, _, .non, _ => rfl
  | _, _, _, .bl _, _ => rfl
  | _, _, _, .int _, _ => rfl
  | _, _, _, .str _, _ => rfl
  | _, _, _, .ty _, _ => rfl
  | _, _, _, .fn _, _ => rfl
  | _, _, _, .tup q, a => by rw [TV.all] at a; exact Rps.noL q a
  | _, _, _, .sq _, _ => rfl
  | _, _, _, .own e _ q, a => by rw [TV.all, Bool.and_eq_true] at a; cases a.1
  | _, _, _, .ref _ _ _ _ _, _ => rfl
theorem Rps.noL {S : Sto} {C : Fl → Nat → Prop} : ∀ {u : List IV} {v : List TV} {L : List Nat}, Rps S C u v L → TV.alls fNo v = true → L = []
  | _, _, _, .nil, _ => rfl
  | _, _, _, .cons h q e, a => by
    rw [TV.alls, Bool.and_eq_true] at a
    rw [e, Rp.noL h a.1, Rps.noL q a.2]; rfl
end
section
variable {b : Nat} {N0 : Nat → Prop} {kp ws ws' wse own : List Nat} {cl clc cle : Bool} {A A' L : List Nat} {t t' t1 : Slo} {S S' S1 S2 S3 : Sto} {env env' env1 env3 : Env} {Ls Ls' Ls1 Ls3 : LsT}
theorem noO_at : ∀ {own : List Nat} {y : Nat}, noO env own = true → y ∈ own → ∀ v, env[y]? = some (some v) → v.all fNo = true
  | i :: is, y, h, hy, v, e => by
    simp only [noO, Bool.and_eq_true] at h
    rcases List.mem_cons.mp hy with rfl | hy
    · rw [e] at h; exact h.1
    · exact noO_at h.2 hy v e
theorem Inv.noL (I : Inv b N0 kp A t S env Ls) (h : noO env own = true) {y : Nat} (hy : y ∈ own) : Ls y = [] := by
  by_cases e : ∃ v, env[y]? = some (some v)
  · obtain ⟨v, e⟩ := e
    obtain ⟨u, _, r⟩ := I.at_ y v e
    exact r.noL (noO_at h hy v e)
  · exact I.dead y fun v z => e ⟨v, z⟩
theorem wipeT_len : ∀ {own : List Nat}, (wipeT env own).length = env.length
  | [] => rfl
  | i :: is => by simp only [wipeT, List.length_set, wipeT_len]
theorem wipeI_len : ∀ {own : List Nat}, (wipeI t own).length = t.length
  | [] => rfl
  | i :: is => by simp only [wipeI, List.length_set, wipeI_len]
theorem wipeT_get : ∀ {own : List Nat} {y : Nat}, (wipeT env own)[y]? = if y ∈ own ∧ y < env.length then some none else env[y]?
  | [], y => by simp [wipeT]
  | i :: is, y => by
    simp only [wipeT, List.getElem?_set, wipeT_len, wipeT_get, List.mem_cons]
    by_cases h : i = y
    · subst h
      simp only [if_true, true_or, true_and]
      split
      · rfl
      · rw [List.getElem?_eq_none (by omega)]
    · rw [if_neg h]
      simp [Ne.symm h]
theorem wipeI_get : ∀ {own : List Nat} {y : Nat}, (wipeI t own)[y]? = if y ∈ own ∧ y < t.length then some none else t[y]?
  | [], y => by simp [wipeI]
  | i :: is, y => by
    simp only [wipeI, List.getElem?_set, wipeI_len, wipeI_get, List.mem_cons]
    by_cases h : i = y
    · subst h
      simp only [if_true, true_or, true_and]
      split
      · rfl
      · rw [List.getElem?_eq_none (by omega)]
    · rw [if_neg h]
      simp [Ne.symm h]
theorem restT_len {e0 : Env} : ∀ {own : List Nat}, (restT e0 own env).length = env.length
  | [] => rfl
  | i :: is => by
    simp only [restT]
    split
    · rw [List.length_set, restT_len]
    · exact restT_len
theorem restT_get {e0 : Env} (hl : e0.length = env.length) : ∀ {own : List Nat} {y : Nat}, (restT e0 own env)[y]? = if y ∈ own then e0[y]? else env[y]?
  | [], y => by simp [restT]
  | i :: is, y => by
    simp only [restT, List.mem_cons]
    split
    · rename_i v hv
      rw [List.getElem?_set, restT_len, restT_get hl]
      by_cases h : i = y
      · subst h
        rw [if_pos rfl, if_pos (by have := lt_of_some hv; omega), if_pos (.inl rfl), hv]
      · rw [if_neg h]
        simp [Ne.symm h]
    · rename_i hv
      rw [restT_get hl]
      by_cases h : i = y
      · subst h
        have := List.getElem?_eq_none_iff.mp hv
        rw [if_pos (Or.inl rfl)]
        split
        · rfl
        · rw [hv, List.getElem?_eq_none (by omega)]
      · simp [Ne.symm h]
theorem Inv.wipe (I : Inv b N0 kp A t S env Ls) (h : ∀ y ∈ own, Ls y = []) : Inv b N0 kp A (wipeI t own) S (wipeT env own) Ls := by
  refine ⟨I.lb, by rw [wipeT_len, wipeI_len]; exact I.len, fun y v e => ?_, fun y hy => ?_, I.nd, I.dj, I.fr, I.an, I.ad, I.al⟩
  · rw [wipeT_get] at e
    split at e
    · cases e
    · rename_i hn
      obtain ⟨u, e1, r⟩ := I.at_ y v e
      refine ⟨u, ?_, r⟩
      rw [wipeI_get, if_neg (by rw [← I.len]; exact hn)]
      exact e1
  · by_cases hm : y ∈ own
    · exact h y hm
    · refine I.dead y fun v e => hy v ?_
      rw [wipeT_get, if_neg (fun z => hm z.1)]
      exact e
/-- behind an item: the names of the comprehension as they were -/
theorem Inv.rest (I0 : Inv b N0 kp A t S env Ls) (h0 : ∀ y ∈ own, Ls y = []) (I3 : Inv b N0 kp (A ++ L) t1 S3 env3 Ls3) (st : Step S Ls S3 Ls3) (hL : ∀ j ∈ L, S.length ≤ j) (ht : ∀ y, y ∉ own → t1[y]? = t[y]?) (hl : env3.length = env.length) :
    Inv b N0 kp (A ++ L) t S3 (restT env own env3) (fun y => if y ∈ own then [] else Ls3 y) := by
  have sub : ∀ {j y : Nat}, j ∈ (if y ∈ own then [] else Ls3 y) → j ∈ Ls3 y ∧ y ∉ own := fun {j y} h => by
    split at h
    · cases h
    · rename_i n; exact ⟨h, n⟩
  have fr : ∀ {j : Nat}, Fresh Ls3 (A ++ L) j → Fresh (fun y => if y ∈ own then [] else Ls3 y) (A ++ L) j := fun {j} h => ⟨fun y m => h.1 y (sub m).1, h.2⟩
  have cst : ∀ k j, k ≠ .o → Cst b N0 Ls3 (A ++ L) W0 k j → Cst b N0 (fun y => if y ∈ own then [] else Ls3 y) (A ++ L) W0 k j := fun k j hk hc => by
    cases k with
    | o => exact absurd rfl hk
    | s => exact ⟨hc.1, fr hc.2⟩
    | z => exact ⟨hc.1, fr hc.2⟩
    | w => exact hc
  refine ⟨I3.lb, by rw [restT_len, hl]; exact I0.len, fun y v e => ?_, fun y hy => ?_, fun y => ?_, fun y z j h1 h2 => I3.dj y z j (sub h1).1 (sub h2).1, fun y j h => I3.fr y j (sub h).1, I3.an, fun j hj y hy => I3.ad j hj y (sub hy).1, I3.al⟩
  · rw [restT_get hl.symm] at e
    by_cases hm : y ∈ own
    · rw [if_pos hm] at e
      obtain ⟨u, e1, r⟩ := I0.at_ y v e
      refine ⟨u, e1, ?_⟩
      rw [if_pos hm]
      rw [h0 y hm] at r
      have r0 : Rp S (Cst b N0 Ls (A ++ []) (Wn [] Ls)) u v [] := by
        rw [List.append_nil]
        exact r.mono (fun k j o hk hc hs => ⟨by cases k <;> first | exact absurd rfl hk | exact hc | exact hc.elim, hs⟩) fun _ _ => rfl
      have r1 := r0.carry (ws' := []) I0.nil st hL (.inl rfl)
      rw [List.append_nil] at r1
      refine r1.mono (fun k j o hk hc hs => ⟨?_, hs⟩) fun _ _ => rfl
      cases k with
      | o => exact absurd rfl hk
      | s => exact ⟨hc.1, fr hc.2⟩
      | z => exact ⟨hc.1, fr hc.2⟩
      | w => exact (wn_nil hc).elim
    · rw [if_neg hm] at e
      obtain ⟨u, e1, r⟩ := I3.at_ y v e
      refine ⟨u, by rw [← ht y hm]; exact e1, ?_⟩
      rw [if_neg hm]
      exact r.mono (fun k j o hk hc hs => ⟨cst k j hk hc, hs⟩) fun _ _ => rfl
  · by_cases hm : y ∈ own
    · exact if_pos hm
    · show (if y ∈ own then [] else Ls3 y) = []
      rw [if_neg hm]
      refine I3.dead y fun v e => hy v ?_
      rw [restT_get hl.symm, if_neg hm]
      exact e
  · show (if y ∈ own then [] else Ls3 y).Nodup
    split
    · exact List.nodup_nil
    · exact I3.nd y
/-- a place set aside is written -/
theorem Inv.setA (I : Inv b N0 kp A t S env Ls) {d : Nat} (hd : d ∈ A) (o : SO) : Inv b N0 kp A t (S.set d o) env Ls := by
  refine ⟨by rw [List.length_set]; exact I.lb, I.len, fun y v e => ?_, I.dead, I.nd, I.dj, I.fr, I.an, I.ad, fun j hj => by rw [List.length_set]; exact I.al j hj⟩
  obtain ⟨u, e1, r⟩ := I.at_ y v e
  refine ⟨u, e1, r.mono (fun k j o' hk hc hs => ⟨hc, ?_⟩) fun j hj => List.getElem?_set_ne fun e => I.ad d hd y (by rw [e]; exact hj)⟩
  rw [List.getElem?_set_ne]
  · exact hs
  · intro e
    subst e
    cases k with
    | o => exact hk rfl
    | s => exact hc.2.2 hd
    | z => exact hc.2.2 hd
    | w => exact hc
theorem Rps.setA {us : List IV} {vs : List TV} (I : Inv b N0 kp A t S env Ls) {d : Nat} (hd : d ∈ A) (o : SO) (h : Rps S (Cst b N0 Ls A (Wn ws Ls)) us vs L) (hL : d ∉ L) : Rps (S.set d o) (Cst b N0 Ls A (Wn ws Ls)) us vs L :=
  h.mono (fun k j o' hk hc hs => ⟨hc, by
    rw [List.getElem?_set_ne]
    · exact hs
    · intro e
      subst e
      cases k with
      | o => exact hk rfl
      | s => exact hc.2.2 hd
      | z => exact hc.2.2 hd
      | w => obtain ⟨x, _, hx⟩ := hc; exact I.ad d hd x hx⟩) fun j hj => List.getElem?_set_ne fun e => hL (by rw [e]; exact hj)
theorem Rps.carry {u : List IV} {v : List TV} {L1 L2 : List Nat} {S2 : Sto} {Ls2 : LsT} (I1 : Inv b N0 kp (A ++ L1) t S1 env1 Ls1) (h : Rps S1 (Cst b N0 Ls1 (A ++ L1) (Wn ws Ls1)) u v L1) (st : Step S1 Ls1 S2 Ls2) (hL : ∀ j ∈ L2, S1.length ≤ j)
    (c : ws = [] ∨ (Ls2 = Ls1 ∧ ∃ T, S2 = S1 ++ T)) : Rps S2 (Cst b N0 Ls2 (A ++ L1 ++ L2) (Wn ws Ls2)) u v L1 := by
  have h1 := Rp.carry (ws' := []) (u := .tup u) (v := .tup v) I1 (.tup h) st hL c
  rw [List.append_nil] at h1
  cases h1 with | tup h => exact h
theorem tg_len : (∀ {g : Tg} {x : TV} {e e' : Env}, tgT g x e = some e' → e'.length = e.length) ∧ (∀ {g : List Tg} {x : List TV} {e e' : Env}, tgTs g x e = some e' → e'.length = e.length) := by
  have : ∀ n : Nat, (∀ {g : Tg} {x : TV} {e e' : Env}, sizeOf g < n → tgT g x e = some e' → e'.length = e.length) ∧ (∀ {g : List Tg} {x : List TV} {e e' : Env}, sizeOf g < n → tgTs g x e = some e' → e'.length = e.length) := by
    intro n
    induction n with
    | zero => exact ⟨fun h => by omega, fun h => by omega⟩
    | succ n ih =>
      have l : ∀ {g : List Tg} {x : List TV} {e e' : Env}, sizeOf g < n + 1 → tgTs g x e = some e' → e'.length = e.length := fun {g x e e'} hn h => by
        cases g with
        | nil =>
          cases x with
          | nil => simp only [tgTs, Option.some.injEq] at h; rw [h]
          | cons y ys => simp only [tgTs] at h; cases h
        | cons g gs =>
          cases x with
          | nil => simp only [tgTs] at h; cases h
          | cons y ys =>
            simp only [List.cons.sizeOf_spec] at hn
            simp only [tgTs] at h
            cases e1 : tgT g y e with
            | none => rw [e1] at h; cases h
            | some e2 => rw [e1] at h; rw [ih.2 (by omega) h, ih.1 (by omega) e1]
      refine ⟨fun {g x e e'} hn h => ?_, l⟩
      cases g with
      | nm i => simp only [tgT, Option.some.injEq] at h; rw [← h, List.length_set]
      | tu ts =>
        have hn : sizeOf ts < n + 1 := by simp at hn; omega
        simp only [tgT] at h
        split at h
        · exact l hn h
        · exact l hn h
        · cases h
  exact ⟨fun {g x e e'} h => (this (sizeOf g + 1)).1 (by omega) h, fun {g x e e'} h => (this (sizeOf g + 1)).2 (by omega) h⟩
/-- the loop of a comprehension -/
theorem lc_ok {g : Tg} {mc : SB} {wc : VB} {me : SE} {we : VE} {k : IK} {us : List IV} {vs all : List TV} {d : Nat} {S0 : Sto} {Ls0 : LsT} (hd : S0.length = d) (hc : VBok kp clc mc wc) (he : VEok kp wse cle me we) (hcl : cl = (clc && cle)) (hws : (wse = [] ∧ ws = []) ∨ cl = true)
    (hg : tgOut kp g = true) (hgo : tgIn own g = true) (hall : itemsT k vs = some all) (env0 : Env) :
    ∀ (xs acc : List TV) (env : Env) (S : Sto) (Ls : LsT) (Lacc : List Nat) (accI : List IV) (fuel n : Nat), Inv b N0 kp (A ++ d :: Lacc) t S env Ls → Step S0 Ls0 S Ls → S[d]? = some (.lst accI) → Rps S (Cst b N0 Ls (A ++ d :: Lacc) (Wn wse Ls)) accI acc Lacc →
      Rps S (Cst b N0 Ls (A ++ d :: Lacc) (Wn ws Ls)) us vs [] → all.drop n = xs → TV.alls fNw xs = true → acc.length + xs.length < 16777216 → xs.length < fuel → (∀ y ∈ own, Ls y = []) → (cl = true → env = env0 ∧ Ls = Ls0 ∧ ∃ T, S = S0 ++ T) → (∀ j ∈ Lacc, d ≤ j) → noO env own = true →
      match vlc own g wc we xs acc env with
      | .ok acc' env' => ∃ S' L' Ls' accI', lcI own g mc me (itMk k us) t d fuel n S = .ok (.ref d) S' ∧ Inv b N0 kp (A ++ d :: L') t S' env' Ls' ∧ Step S0 Ls0 S' Ls' ∧ S'[d]? = some (.lst accI') ∧ Rps S' (Cst b N0 Ls' (A ++ d :: L') (Wn wse Ls')) accI' acc' L' ∧ (cl = true → env' = env0 ∧ Ls' = Ls0 ∧ ∃ T, S' = S0 ++ T) ∧ (∀ j ∈ L', d ≤ j)
      | .ex _ _ _ => True
      | .no => True
  | [], acc, env, S, Ls, Lacc, accI, fuel, n, I, st, hS, ra, ru, hx, _, _, hf, _, hcalm, hla, _ => by
    cases fuel with
    | zero => simp at hf
    | succ f =>
      obtain ⟨ys, hn, q⟩ := items_ok ru hall
      have hlen := q.length
      have : all.length ≤ n := by
        have := congrArg List.length hx
        simp at this; omega
      simp only [vlc, lcI, hn n]
      rw [List.getElem?_eq_none (by omega)]
      exact ⟨S, Lacc, Ls, accI, rfl, I, st, hS, ra, hcalm, hla⟩
  | x :: xs, acc, env, S, Ls, Lacc, accI, fuel, n, I, st, hS, ra, ru, hx, hnw, hsz, hf, hown, hcalm, hla, hno => by
    cases fuel with
    | zero => simp at hf
    | succ f =>
      obtain ⟨ys, hn, q⟩ := items_ok ru hall
      have ex : all[n]? = some x := by
        have := congrArg (fun l => l[0]?) hx
        simpa [List.getElem?_drop] using this
      obtain ⟨y, ey, rx⟩ := q.get ex
      simp only [vlc, lcI, hn n, ey]
      rw [TV.alls, Bool.and_eq_true] at hnw
      have rx0 : Rp S (Cst b N0 Ls (A ++ d :: Lacc) W0) y x [] := rx.monoP (p := fNw) (fun k j o hk hp hc hs => ⟨(by cases k <;> first | exact absurd rfl hk | exact hc | cases hp), hs⟩) hnw.1 fun _ _ => rfl
      cases et : tgT g x (wipeT env own) with
      | none => trivial
      | some e1 =>
        obtain ⟨t1, Ls1, a1, T1⟩ := tg_ok0 (I.wipe hown) rx0 hg et
        have e1len := tg_len.1 et
        rw [wipeT_len] at e1len
        have own1 : ∀ y ∈ own, Ls1 y = [] := fun y hy => List.eq_nil_iff_forall_not_mem.mpr fun j hj => by have := T1.own y j hj; rw [hown y hy] at this; cases this
        have st01 : Step S Ls S Ls1 := ⟨Nat.le_refl _, fun _ _ _ => rfl, fun y j h => .inl ⟨y, T1.own y j h⟩⟩
        rw [a1]
        have tw : ∀ y, y ∉ own → t1[y]? = t[y]? := fun y hy => by
          rw [(T1.off y (out_in hy hgo)).2.1, wipeI_get, if_neg fun z => hy z.1]
        have off1 : ∀ y, y ∉ own → Ls1 y = Ls y := fun y hy => (T1.off y (out_in hy hgo)).1
        have eoff : ∀ y, y ∉ own → e1[y]? = env[y]? := fun y hy => by
          rw [(T1.off y (out_in hy hgo)).2.2, wipeT_get, if_neg fun z => hy z.1]
        have hb := hc b N0 (A ++ d :: Lacc) t1 S e1 Ls1 T1.inv
        -- from a state behind an item on
        have back : ∀ {env3 : Env} {S3 : Sto} {Ls3 : LsT} {L3 : List Nat} {accI3 : List IV} {acc3 : List TV} {Lc : List Nat} {cl3 : Bool}, Inv b N0 kp (A ++ d :: Lacc ++ L3) t1 S3 env3 Ls3 → Step S Ls1 S3 Ls3 → (∀ j ∈ L3, S.length ≤ j) → (cl = true → env3 = e1 ∧ Ls3 = Ls1 ∧ ∃ T, S3 = S ++ T) →
            Inv b N0 kp (A ++ d :: (Lacc ++ L3)) t S3 (restT env own env3) (fun y => if y ∈ own then [] else Ls3 y) ∧ Step S0 Ls0 S3 (fun y => if y ∈ own then [] else Ls3 y) ∧ (∀ y ∈ own, (fun y => if y ∈ own then [] else Ls3 y) y = []) ∧ (cl = true → restT env own env3 = env0 ∧ (fun y => if y ∈ own then [] else Ls3 y) = Ls0 ∧ ∃ T, S3 = S0 ++ T) ∧ noO (restT env own env3) own = true ∧ True := fun {env3 S3 Ls3 L3 accI3 acc3 Lc cl3} I3 st3 hL3 c3 => by
          have len3 : env3.length = env.length := by
            have h1 := I3.len
            have h2 := T1.inv.len
            omega
          have I4 := Inv.rest I hown I3 (st01.trans st3) hL3 tw len3
          rw [List.append_assoc, List.cons_append] at I4
          refine ⟨I4, ?_, fun y hy => if_pos hy, fun z => ?_, ?_, trivial⟩
          · have := st.trans (st01.trans st3)
            exact ⟨this.len, this.keep, fun y j hj => this.own y j (by
              split at hj
              · cases hj
              · exact hj)⟩
          · obtain ⟨z1, z2, T, z3⟩ := c3 z
            obtain ⟨y1, y2, T2, y3⟩ := hcalm z
            refine ⟨?_, ?_, T2 ++ T, by rw [z3, y3, List.append_assoc]⟩
            · rw [← y1]
              refine List.ext_getElem? fun y => ?_
              rw [restT_get len3.symm]
              split
              · rfl
              · rename_i hy; rw [z1]; exact eoff y hy
            · rw [← y2]
              funext y
              split
              · rename_i hy; exact (hown y hy).symm
              · rename_i hy; rw [z2]; exact off1 y hy
          · have : ∀ is : List Nat, (∀ i ∈ is, i ∈ own) → noO env is = true → noO (restT env own env3) is = true := fun is => by
              induction is with
              | nil => intro _ _; rfl
              | cons i is ih =>
                intro hi h
                simp only [noO, Bool.and_eq_true] at h ⊢
                refine ⟨?_, ih (fun j hj => hi j (List.mem_cons_of_mem _ hj)) h.2⟩
                rw [restT_get len3.symm, if_pos (hi i List.mem_cons_self)]
                exact h.1
            exact this own (fun i h => h) hno
        dsimp only
        cases hw : wc e1 with
        | ex c fs e2 => trivial
        | no => trivial
        | ok kk e2 =>
          rw [hw] at hb
          obtain ⟨kb, S2, L2, Ls2, eb, I2, st2, hL2, ⟨rfl, rfl⟩, c2⟩ := hb
          rw [eb]
          have carryAcc : ∀ {S3 : Sto} {Ls3 : LsT} {L3 : List Nat}, Step S Ls1 S3 Ls3 → (∀ j ∈ L3, S.length ≤ j) → (cl = true → Ls3 = Ls1 ∧ ∃ T, S3 = S ++ T) → Rps S3 (Cst b N0 Ls3 (A ++ d :: Lacc ++ L3) (Wn wse Ls3)) accI acc Lacc ∧ Rps S3 (Cst b N0 Ls3 (A ++ d :: Lacc ++ L3) (Wn ws Ls3)) us vs [] := fun {S3 Ls3 L3} st3 hL3 c3 => by
            have Ia : Inv b N0 kp ((A ++ [d]) ++ Lacc) t S env Ls := by rw [List.append_assoc]; exact I
            have ra' : Rps S (Cst b N0 Ls ((A ++ [d]) ++ Lacc) (Wn wse Ls)) accI acc Lacc := by rw [List.append_assoc]; exact ra
            have Ib : Inv b N0 kp ((A ++ d :: Lacc) ++ []) t S env Ls := I.nil
            have ru' : Rps S (Cst b N0 Ls ((A ++ d :: Lacc) ++ []) (Wn ws Ls)) us vs [] := by rw [List.append_nil]; exact ru
            have cc : ∀ {w1 : List Nat}, (w1 = [] ∨ cl = true) → (w1 = [] ∨ (Ls3 = Ls ∧ ∃ T, S3 = S ++ T)) := fun {w1} h => h.imp id fun z => by
              obtain ⟨z1, z2⟩ := c3 z
              refine ⟨?_, z2⟩
              rw [z1]
              funext y
              by_cases hy : y ∈ own
              · rw [own1 y hy, hown y hy]
              · exact off1 y hy
            have r1 := ra'.carry Ia (st01.trans st3) hL3 (cc (hws.imp (fun h => h.1) id))
            have r2 := ru'.carry Ib (st01.trans st3) hL3 (cc (hws.imp (fun h => h.2) id))
            have q1 : A ++ [d] ++ Lacc ++ L3 = A ++ d :: Lacc ++ L3 := by simp
            rw [q1] at r1
            rw [List.append_nil] at r2
            exact ⟨r1, r2⟩
          have fix : ∀ {S3 : Sto} {Ls3 : LsT} {A3 : List Nat} {w1 : List Nat} {us1 : List IV} {vs1 : List TV} {M : List Nat}, (cl = true → Ls3 = Ls1) → (w1 = [] ∨ cl = true) → Rps S3 (Cst b N0 Ls3 A3 (Wn w1 Ls3)) us1 vs1 M → Rps S3 (Cst b N0 (fun y => if y ∈ own then [] else Ls3 y) A3 (Wn w1 (fun y => if y ∈ own then [] else Ls3 y))) us1 vs1 M := fun {S3 Ls3 A3 w1 us1 vs1 M} z h r => r.mono (fun k j o hk hc hs => ⟨by
            have fr : Fresh Ls3 A3 j → Fresh (fun y => if y ∈ own then [] else Ls3 y) A3 j := fun h => ⟨fun y m => by
              dsimp only at m
              split at m
              · cases m
              · exact h.1 y m, h.2⟩
            cases k with
            | o => exact absurd rfl hk
            | s => exact ⟨hc.1, fr hc.2⟩
            | z => exact ⟨hc.1, fr hc.2⟩
            | w =>
              obtain ⟨x, hx, hj⟩ := hc
              refine ⟨x, hx, ?_⟩
              show j ∈ (if x ∈ own then [] else Ls3 x)
              split
              · rename_i hy
                rcases h with h | h
                · subst h; cases hx
                · rw [z h, own1 x hy] at hj; cases hj
              · exact hj, hs⟩) fun _ _ => rfl
          have hsz' : acc.length + xs.length + 1 < 16777216 := by simp only [List.length_cons] at hsz; omega
          have hf' : xs.length < f := by simp only [List.length_cons] at hf; omega
          have hxs : all.drop (n + 1) = xs := by
            rw [← List.drop_drop, hx]; rfl
          cases kb with
          | false =>
            simp only [RV.bind, R.bind, if_neg Bool.false_ne_true]
            obtain ⟨b1, b2, b3, b4, b5, _⟩ := back (accI3 := []) (acc3 := []) (Lc := []) (cl3 := true) I2 st2 hL2 fun z => by
              rw [hcl, Bool.and_eq_true] at z
              exact c2 z.1
            rw [List.append_nil] at b1
            have cz : cl = true → Ls2 = Ls1 ∧ ∃ T, S2 = S ++ T := fun z => by
              rw [hcl, Bool.and_eq_true] at z
              exact (c2 z.1).2
            obtain ⟨r1, r2⟩ := carryAcc (L3 := []) st2 hL2 cz
            rw [List.append_nil] at r1 r2
            have hSd : S2[d]? = some (.lst accI) := by
              rw [st2.keep d (lt_of_some hS) fun y hy => I.ad d (by simp) y (T1.own y d hy)]
              exact hS
            exact lc_ok hd hc he hcl hws hg hgo hall env0 xs acc _ S2 _ Lacc accI f (n + 1) b1 b2 hSd (fix (fun z => (cz z).1) (hws.imp (fun h => h.1) id) r1) (fix (fun z => (cz z).1) (hws.imp (fun h => h.2) id) r2) hxs hnw.2 (by omega) hf' b3 b4 hla b5
          | true =>
            rw [List.append_nil] at I2
            have h3 := he b N0 (A ++ d :: Lacc) t1 S2 e2 Ls2 I2
            simp only [RV.bind, R.bind, if_true]
            cases hw2 : we e2 with
            | ex c fs e3 => trivial
            | no => trivial
            | ok v e3 =>
              rw [hw2] at h3
              obtain ⟨u, S3, L3, Ls3, e3', I3, st3, hL3, r3, c3⟩ := h3
              rw [e3']
              have st13 := st2.trans st3
              have hL3' : ∀ j ∈ L3, S.length ≤ j := fun j hj => Nat.le_trans st2.len (hL3 j hj)
              have cz : cl = true → e3 = e1 ∧ Ls3 = Ls1 ∧ ∃ T, S3 = S ++ T := fun z => by
                rw [hcl, Bool.and_eq_true] at z
                obtain ⟨p1, p2, T, p3⟩ := c2 z.1
                obtain ⟨q1, q2, T2, q3⟩ := c3 z.2
                exact ⟨q1.trans p1, q2.trans p2, T ++ T2, by rw [q3, p3, List.append_assoc]⟩
              obtain ⟨b1, b2, b3, b4, b5, _⟩ := back (accI3 := []) (acc3 := []) (Lc := []) (cl3 := true) I3 st13 hL3' cz
              obtain ⟨r1, r2⟩ := carryAcc (L3 := L3) st13 hL3' fun z => (cz z).2
              have hSd : S3[d]? = some (.lst accI) := by
                rw [st13.keep d (lt_of_some hS) fun y hy => I.ad d (by simp) y (T1.own y d hy)]
                exact hS
              have hla3 : accI.length < 16777216 := by rw [ra.length]; omega
              simp only [hSd, if_pos hla3]
              have ap : A ++ d :: Lacc ++ L3 = A ++ d :: (Lacc ++ L3) := by rw [List.append_assoc, List.cons_append]
              rw [ap] at r1 r2 r3
              have hdA : d ∈ A ++ d :: (Lacc ++ L3) := by simp
              have dn : d ∉ Lacc ++ L3 := by
                have := (List.nodup_append.mp b1.an).2.1
                exact (List.nodup_cons.mp this).1
              have rr : Rps S3 (Cst b N0 (fun y => if y ∈ own then [] else Ls3 y) (A ++ d :: (Lacc ++ L3)) (Wn wse (fun y => if y ∈ own then [] else Ls3 y))) (accI ++ [u]) (acc ++ [v]) (Lacc ++ L3) :=
                fix (fun z => (cz z).2.1) (hws.imp (fun h => h.1) id) (Rps.append r1 (.one r3))
              have I5 := b1.setA hdA (.lst (accI ++ [u]))
              have hdS : d < S3.length := lt_of_some hSd
              refine lc_ok hd hc he hcl hws hg hgo hall env0 xs (acc ++ [v]) _ (S3.set d (.lst (accI ++ [u]))) _ (Lacc ++ L3) (accI ++ [u]) f (n + 1) I5 ⟨by rw [List.length_set]; exact b2.len, fun j hj hj2 => ?_, fun y j hj => ?_⟩ (by rw [List.getElem?_set, if_pos rfl, if_pos hdS]) (rr.setA b1 hdA _ dn) ((fix (fun z => (cz z).2.1) (hws.imp (fun h => h.2) id) r2).setA b1 hdA _ (by simp)) hxs hnw.2 (by rw [List.length_append, List.length_singleton]; omega) hf' b3 (fun z => ?_) (fun j hj => ?_) b5
              · rw [List.getElem?_set_ne (by omega)]; exact b2.keep j hj hj2
              · exact b2.own y j hj
              · obtain ⟨z1, z2, T, z3⟩ := b4 z
                refine ⟨z1, z2, T.set 0 (.lst (accI ++ [u])), ?_⟩
                rw [z3, ← hd, List.set_append_right _ _ (Nat.le_refl _), Nat.sub_self]
              · rcases List.mem_append.mp hj with hj | hj
                · exact hla j hj
                · have := hL3' j hj
                  have := lt_of_some hS
                  omega
end
end IP

/-! IPyY: the second evaluator: statements, defs. -/
namespace IP
open PySem
inductive RVS where
  | nx (e : Env)
  | ret (v : TV) (e : Env)
  | brk (e : Env)
  | cnt (e : Env)
  | ex (c : Str) (fs : List (Str × IV)) (e : Env)
  | no
abbrev VS := Env → RVS
def RVS.go (r : RVS) (f : VS) : RVS := match r with
  | .nx e => f e
  | x => x
def RV.st {α : Type} (r : RV α) (k : α → Env → RVS) : RVS := match r with
  | .ok a e => k a e
  | .ex c fs e => .ex c fs e
  | .no => .no
def wNil : VS := fun e => .nx e
def wSeq (a b : VS) : VS := fun e => (a e).go b
def wExpr (a : VE) : VS := fun e => (a e).st fun _ e1 => .nx e1
def wRet (a : VE) : VS := fun e => (a e).st fun v e1 => .ret v e1
def wRetV (i : Nat) : VS := fun e => match e[i]? with
  | some (some v) => .ret v (e.set i none)
  | _ => .no
def wRetN : VS := fun e => .ret .non e
def wBrk : VS := fun e => .brk e
def wCnt : VS := fun e => .cnt e
def wIf (c : VB) (a b : VS) : VS := fun e => (c e).st fun k e1 => if k then a e1 else b e1
def wAsg (g : Tg) (a : VE) : VS := fun e => (a e).st fun v e1 => match tgT g v e1 with
  | some e2 => .nx e2
  | none => .no
def wAug (g : T2) (i : Nat) (a : VE) : VS := fun e => match e[i]? with
  | some (some _) => (a e).st fun y e1 => match e1[i]? with
    | some (some x) => match g x.bo y.sh with
      | some z => if z.nw then .nx (e1.set i (some z)) else .no
      | none => .no
    | _ => .no
  | _ => .no
def vloop (g : Tg) (b : VS) : List TV → Env → RVS
  | [], e => .nx e
  | x :: xs, e => match tgT g x e with
    | some e1 => match b e1 with
      | .nx e2 => vloop g b xs e2
      | .cnt e2 => vloop g b xs e2
      | .brk e2 => .nx e2
      | r => r
    | none => .no
def wFor (g : Tg) (wi : VI) (b : VS) : VS := fun e => (wi e).st fun kv e1 => match itemsT kv.1 (TV.fls fSh kv.2) with
  | some xs => if xs.length < 1000000 then vloop g b xs e1 else .no
  | none => .no
def vwhile (c : VB) (b : VS) : Nat → Env → RVS
  | 0, _ => .no
  | f + 1, e => (c e).st fun k e1 => if k then (match b e1 with
    | .nx e2 => vwhile c b f e2
    | .cnt e2 => vwhile c b f e2
    | .brk e2 => .nx e2
    | r => r) else .nx e1
def wWhile (c : VB) (b : VS) (f : Nat) : VS := vwhile c b f
/-- what holds behind a statement -/
structure Nx (b : Nat) (N0 : Nat → Prop) (kp A : List Nat) (t : Slo) (S : Sto) (Ls : LsT) (t' : Slo) (S' : Sto) (env' : Env) (Ls' : LsT) : Prop where
  inv : Inv b N0 kp A t' S' env' Ls'
  step : Step S Ls S' Ls'
  kept : Kept kp t t'
def AftV (b : Nat) (N0 : Nat → Prop) (kp A : List Nat) (t : Slo) (S : Sto) (Ls : LsT) (r : RVS) (x : RS) : Prop := match r with
  | .nx e => ∃ t' S' Ls', x = .nx t' S' ∧ Nx b N0 kp A t S Ls t' S' e Ls'
  | .brk e => ∃ t' S' Ls', x = .brk t' S' ∧ Nx b N0 kp A t S Ls t' S' e Ls'
  | .cnt e => ∃ t' S' Ls', x = .cnt t' S' ∧ Nx b N0 kp A t S Ls t' S' e Ls'
  | .ex c fs e => ∃ t' S' Ls', x = .ex c fs t' S' ∧ Nx b N0 kp A t S Ls t' S' e Ls'
  | .ret v e => ∃ u t' S' Ls' L, x = .ret u S' ∧ Nx b N0 kp (A ++ L) t S Ls t' S' e Ls' ∧ Rp S' (Cst b N0 Ls' (A ++ L) W0) u v L ∧ ∀ j ∈ L, b ≤ j
  | .no => True
def VSok (kp : List Nat) (m : SS) (w : VS) : Prop := ∀ (b : Nat) (N0 : Nat → Prop) (A : List Nat) (t : Slo) (S : Sto) (env : Env) (Ls : LsT), Inv b N0 kp A t S env Ls → AftV b N0 kp A t S Ls (w env) (m t S)
section
variable {b : Nat} {N0 : Nat → Prop} {kp ws ws' wse own : List Nat} {cl cl' cli clc cle : Bool} {A A' L : List Nat} {t t' t1 : Slo} {S S' S1 S2 S3 : Sto} {env env' env1 env3 : Env} {Ls Ls' Ls1 Ls3 : LsT}
  {m m' : SE} {w w' : VE} {mb : SB} {wb : VB} {ms ms' : SS} {wst wst' : VS} {mi : SI} {wi : VI}
theorem Nx.trans {t2 : Slo} {S2 : Sto} {env2 : Env} {Ls2 : LsT} (h : Nx b N0 kp A t S Ls t1 S1 env1 Ls1) (q : Nx b N0 kp A' t1 S1 Ls1 t2 S2 env2 Ls2) : Nx b N0 kp A' t S Ls t2 S2 env2 Ls2 := ⟨q.inv, h.step.trans q.step, h.kept.trans q.kept⟩
theorem AftV.from {r : RVS} {x : RS} (h : Nx b N0 kp A t S Ls t1 S1 env1 Ls1) (q : AftV b N0 kp A t1 S1 Ls1 r x) : AftV b N0 kp A t S Ls r x := by
  cases r with
  | nx e => obtain ⟨t', S', Ls', e1, n⟩ := q; exact ⟨t', S', Ls', e1, h.trans n⟩
  | brk e => obtain ⟨t', S', Ls', e1, n⟩ := q; exact ⟨t', S', Ls', e1, h.trans n⟩
  | cnt e => obtain ⟨t', S', Ls', e1, n⟩ := q; exact ⟨t', S', Ls', e1, h.trans n⟩
  | ex c fs e => obtain ⟨t', S', Ls', e1, n⟩ := q; exact ⟨t', S', Ls', e1, h.trans n⟩
  | ret v e => obtain ⟨u, t', S', Ls', L, e1, n, r, hl⟩ := q; exact ⟨u, t', S', Ls', L, e1, h.trans n, r, hl⟩
  | no => trivial
def R.stK {α : Type} (x : R α) (t : Slo) (F : α → Sto → RS) : RS := match x with
  | .ok a S1 => F a S1
  | .ex c fs S1 => .ex c fs t S1
  | .no => .no
/-- an expression, then a statement -/
theorem aft_st {α β : Type} {r : RV α} {x : R β} {Q : β → α → Sto → LsT → List Nat → Prop} {k : α → Env → RVS} {f : RS} {F : β → Sto → RS} (h : Aft2 kp cl b N0 A t S env Ls r x Q) (hf : f = x.stK t F)
    (hk : ∀ u v S1 env1 Ls1 L1, Inv b N0 kp (A ++ L1) t S1 env1 Ls1 → Step S Ls S1 Ls1 → (∀ j ∈ L1, S.length ≤ j) → Q u v S1 Ls1 L1 → AftV b N0 kp A t S Ls (k v env1) (F u S1)) : AftV b N0 kp A t S Ls (r.st k) f := by
  cases r with
  | ok v env' =>
    obtain ⟨u, S', L, Ls', e, I, st, hL, q, _⟩ := h
    rw [hf, e]
    exact hk u v S' env' Ls' L I st hL q
  | ex c fs env' =>
    obtain ⟨S', Ls', e, I, st⟩ := h
    rw [hf, e]
    exact ⟨t, S', Ls', rfl, I, st, .refl⟩
  | no => trivial
theorem ws_nil : VSok kp sNil wNil := fun b N0 A t S env Ls I => ⟨t, S, Ls, rfl, I, .refl, .refl⟩
theorem ws_seq (h : VSok kp ms wst) (q : VSok kp ms' wst') : VSok kp (sSeq ms ms') (wSeq wst wst') := fun b N0 A t S env Ls I => by
  have h1 := h b N0 A t S env Ls I
  unfold wSeq sSeq
  cases hw : wst env with
  | nx e =>
    rw [hw] at h1
    obtain ⟨t', S', Ls', e1, n⟩ := h1
    rw [e1]
    exact AftV.from n (q b N0 A t' S' e Ls' n.inv)
  | brk e => rw [hw] at h1; obtain ⟨t', S', Ls', e1, n⟩ := h1; rw [e1]; exact ⟨t', S', Ls', rfl, n⟩
  | cnt e => rw [hw] at h1; obtain ⟨t', S', Ls', e1, n⟩ := h1; rw [e1]; exact ⟨t', S', Ls', rfl, n⟩
  | ex c fs e => rw [hw] at h1; obtain ⟨t', S', Ls', e1, n⟩ := h1; rw [e1]; exact ⟨t', S', Ls', rfl, n⟩
  | ret v e => rw [hw] at h1; obtain ⟨u, t', S', Ls', L, e1, n, r⟩ := h1; rw [e1]; exact ⟨u, t', S', Ls', L, rfl, n, r⟩
  | no => trivial
theorem ws_expr (h : VEok kp ws cl m w) : VSok kp (sExpr m) (wExpr w) := fun b N0 A t S env Ls I =>
  aft_st (F := fun _ S1 => .nx t S1) (h b N0 A t S env Ls I) (by unfold sExpr; cases m t S <;> rfl) fun u v S1 env1 Ls1 L1 I1 st1 hL1 r1 => ⟨t, S1, Ls1, rfl, I1.drop, st1, .refl⟩
theorem ws_ret (h : VEok kp [] cl m w) : VSok kp (sRet m) (wRet w) := fun b N0 A t S env Ls I =>
  aft_st (F := fun v S1 => .ret v S1) (h b N0 A t S env Ls I) (by unfold sRet; cases m t S <;> rfl) fun u v S1 env1 Ls1 L1 I1 st1 hL1 r1 => ⟨u, t, S1, Ls1, L1, rfl, ⟨I1, st1, .refl⟩, r1.mono (fun k j o hk hc hs => ⟨by
    cases k with
    | o => exact hc
    | s => exact hc
    | z => exact hc
    | w => exact (wn_nil hc).elim, hs⟩) (fun _ _ => rfl), lb_of I hL1⟩
theorem ws_retN : VSok kp sRetN wRetN := fun b N0 A t S env Ls I => ⟨.non, t, S, Ls, [], rfl, ⟨I.nil, .refl, .refl⟩, .non, fun j h => by cases h⟩
theorem ws_brk : VSok kp sBrk wBrk := fun b N0 A t S env Ls I => ⟨t, S, Ls, rfl, I, .refl, .refl⟩
theorem ws_cnt : VSok kp sCnt wCnt := fun b N0 A t S env Ls I => ⟨t, S, Ls, rfl, I, .refl, .refl⟩
/-- a slot is given up, with what it alone held -/
theorem Inv.kill (I : Inv b N0 kp A t S env Ls) {i : Nat} : Inv b N0 kp (A ++ Ls i) t S (env.set i none) (fun y => if y = i then [] else Ls y) := by
  have sub : ∀ {j y : Nat}, j ∈ (if y = i then [] else Ls y) → j ∈ Ls y ∧ y ≠ i := fun {j y} h => by
    split at h
    · cases h
    · rename_i n; exact ⟨h, n⟩
  have fr : ∀ {j : Nat}, Fresh Ls A j → Fresh (fun y => if y = i then [] else Ls y) (A ++ Ls i) j := fun {j} h => ⟨fun y m => h.1 y (sub m).1, fun m => by
    rcases List.mem_append.mp m with m | m
    · exact h.2 m
    · exact h.1 i m⟩
  refine ⟨I.lb, by rw [List.length_set]; exact I.len, fun y v e => ?_, fun y hy => ?_, fun y => ?_, fun y z j h1 h2 => I.dj y z j (sub h1).1 (sub h2).1, fun y j h => I.fr y j (sub h).1, ?_, fun j hj y hy => ?_, fun j hj => ?_⟩
  · rw [List.getElem?_set] at e
    by_cases hyi : i = y
    · subst hyi
      rw [if_pos rfl] at e
      split at e <;> cases e
    · rw [if_neg hyi] at e
      obtain ⟨u, e1, r⟩ := I.at_ y v e
      refine ⟨u, e1, ?_⟩
      rw [if_neg (Ne.symm hyi)]
      exact r.mono (fun k j o hk hc hs => ⟨by
        cases k with
        | o => exact absurd rfl hk
        | s => exact ⟨hc.1, fr hc.2⟩
        | z => exact ⟨hc.1, fr hc.2⟩
        | w => exact hc, hs⟩) fun _ _ => rfl
  · by_cases hyi : y = i
    · exact if_pos hyi
    · show (if y = i then [] else Ls y) = []
      rw [if_neg hyi]
      exact I.dead y fun v e => hy v (by rw [List.getElem?_set_ne (Ne.symm hyi)]; exact e)
  · show (if y = i then [] else Ls y).Nodup
    split
    · exact List.nodup_nil
    · exact I.nd y
  · exact List.nodup_append.mpr ⟨I.an, I.nd i, fun j hj k hk e => I.ad j hj i (e ▸ hk)⟩
  · rcases List.mem_append.mp hj with hj | hj
    · exact I.ad j hj y (sub hy).1
    · exact (sub hy).2 (I.dj y i j (sub hy).1 hj)
  · rcases List.mem_append.mp hj with hj | hj
    · exact I.al j hj
    · exact I.lt hj
theorem ws_retV {i : Nat} (hk : i ∉ kp) : VSok kp (sRet (mVar i)) (wRetV i) := fun b N0 A t S env Ls I => by
  unfold wRetV
  split
  · rename_i v e
    obtain ⟨u, e1, r⟩ := I.at_ i v e
    have I2 := I.kill (i := i)
    refine ⟨u, t, S, _, Ls i, by unfold sRet mVar; rw [e1], ⟨I2, ⟨Nat.le_refl _, fun _ _ _ => rfl, fun y j h => ?_⟩, .refl⟩, ?_, fun j hj => (I.fr i j hj).resolve_right hk⟩
    · split at h
      · cases h
      · exact .inl ⟨y, h⟩
    · have fr : ∀ {j : Nat}, Fresh Ls A j → Fresh (fun y => if y = i then [] else Ls y) (A ++ Ls i) j := fun {j} h => ⟨fun y m => by
        dsimp only at m
        split at m
        · cases m
        · exact h.1 y m, fun m => by
        rcases List.mem_append.mp m with m | m
        · exact h.2 m
        · exact h.1 i m⟩
      exact r.mono (fun k j o hk hc hs => ⟨by
        cases k with
        | o => exact absurd rfl hk
        | s => exact ⟨hc.1, fr hc.2⟩
        | z => exact ⟨hc.1, fr hc.2⟩
        | w => exact hc, hs⟩) fun _ _ => rfl
  · trivial
theorem ws_if (h : VBok kp cl mb wb) (q : VSok kp ms wst) (q' : VSok kp ms' wst') : VSok kp (sIf mb ms ms') (wIf wb wst wst') := fun b N0 A t S env Ls I =>
  aft_st (F := fun k S1 => if k then ms t S1 else ms' t S1) (h b N0 A t S env Ls I) (by unfold sIf; cases mb t S <;> rfl) fun u v S1 env1 Ls1 L1 I1 st1 hL1 r1 => by
    obtain ⟨rfl, rfl⟩ := r1
    rw [List.append_nil] at I1
    cases u with
    | true => exact AftV.from ⟨I1, st1, .refl⟩ (q b N0 A t S1 env1 Ls1 I1)
    | false => exact AftV.from ⟨I1, st1, .refl⟩ (q' b N0 A t S1 env1 Ls1 I1)
theorem w0_of {k : Fl} {j : Nat} (h : Cst b N0 Ls A (Wn [] Ls) k j) : Cst b N0 Ls A W0 k j := by
  cases k with
  | o => exact h
  | s => exact h
  | z => exact h
  | w => exact (wn_nil h).elim
theorem tgo_kp {g : Tg} (h : tgOut kp g = true) : ∀ y ∈ kp, tgOut [y] g = true := fun y hy => out_of hy h
theorem ws_asg {g : Tg} (hg : tgOut kp g = true) (h : VEok kp [] cl m w) : VSok kp (sAsg g m) (wAsg g w) := fun b N0 A t S env Ls I =>
  aft_st (F := fun v S1 => match tgSet S1 g v t with
    | some t1 => .nx t1 S1
    | none => .no) (h b N0 A t S env Ls I) (by unfold sAsg; cases m t S <;> rfl) fun u v S1 env1 Ls1 L1 I1 st1 hL1 r1 => by
    have r2 : Rp S1 (Cst b N0 Ls1 (A ++ L1) W0) u v L1 := r1.mono (fun k j o hk hc hs => ⟨w0_of hc, hs⟩) fun _ _ => rfl
    cases g with
    | nm i =>
      have hi : i ∉ kp := by simpa [tgOut] using hg
      simp only [tgT, tgSet]
      refine ⟨_, S1, _, rfl, I1.put r2 (lb_of I hL1) hi, ⟨st1.len, st1.keep, fun y j hj => ?_⟩, kept_set hi⟩
      split at hj
      · split at hj
        · exact .inr (hL1 j hj)
        · cases hj
      · exact st1.own y j hj
    | tu gs =>
      have r3 := r2.share I1 (lb_of I hL1)
      cases et : tgT (.tu gs) v env1 with
      | none => trivial
      | some e2 =>
        have et' : tgT (.tu gs) v.sh env1 = some e2 := by
          rw [← et]
          have e0 : (TV.fl fSh v).sh = v.sh := (TV.fls_fls (φ := fSh) (ψ := fSh) (χ := fSh) (fun k => by cases k <;> rfl)).1 v
          simp only [tgT]
          rw [e0]
      -- (φ := fSh) (ψ := fSh) (χ := fSh) (fun k => by cases k <;> rfl)).1 v]
        obtain ⟨t', Ls', a1, T⟩ := tg_ok0 I1.drop r3 hg et'
        show AftV _ _ _ _ _ _ _ (.nx e2) (match tgSet S1 (.tu gs) u t with
          | some t1 => .nx t1 S1
          | none => .no)
        rw [a1]
        exact ⟨t', S1, Ls', rfl, T.inv, ⟨st1.len, st1.keep, fun y j hj => st1.own y j (T.own y j hj)⟩, fun k hk => (T.off k (out_of hk hg)).2.1⟩
theorem ws_aug {f : O2} {g : T2} {i : Nat} (hf : O2T f g) (hi : i ∉ kp) (h : VEok kp [] cl m w) : VSok kp (sAug f i m) (wAug g i w) := fun b N0 A t S env Ls I => by
  have h1 := h b N0 A t S env Ls I
  unfold wAug sAug
  split
  case h_2 => trivial
  rename_i v0 hv0
  obtain ⟨u0, hu0, _⟩ := I.at_ i v0 hv0
  cases hw : w env with
  | no => trivial
  | ex c fs e1 =>
    rw [hw] at h1
    obtain ⟨S', Ls', e, I', st⟩ := h1
    simp only [hu0, e]
    exact ⟨t, S', Ls', rfl, I', st, .refl⟩
  | ok y e1 =>
    rw [hw] at h1
    obtain ⟨u, S1, L1, Ls1, e, I1, st1, hL1, r1, _⟩ := h1
    show AftV _ _ _ _ _ _ _ (match e1[i]? with
      | some (some x) => match g x.bo y.sh with
        | some z => if z.nw then .nx (e1.set i (some z)) else .no
        | none => .no
      | _ => .no) _
    split
    · rename_i x hx
      obtain ⟨ux, hux, rx⟩ := I1.at_ i x hx
      split
      · rename_i z hz
        split
        · rename_i hn
          simp only [hux, e]
          have ry := r1.share I1 (lb_of I hL1)
          have rx1 : Rp S1 (Cst b N0 Ls1 A (Wn [i] Ls1)) ux x.bo [] := bo_ok rx (fun k j hk hc => by
            cases k with
            | o => exact absurd rfl hk
            | s => exact ⟨hc.1, hc.2.less⟩
            | z => exact ⟨hc.1, hc.2.less⟩
            | w => exact hc.elim) fun j hj => ⟨i, List.mem_singleton_self i, hj⟩
          have ry1 : Rp S1 (Cst b N0 Ls1 A (Wn [i] Ls1)) u y.sh [] := ry.mono (fun k j o hk hc hs => ⟨by
            cases k with
            | o => exact absurd rfl hk
            | s => exact hc
            | z => exact hc
            | w => exact (wn_nil hc).elim, hs⟩) fun _ _ => rfl
          obtain ⟨p, S2, e2, hr⟩ := hf S1 _ ux u _ _ cst_o rx1 ry1 z hz
          simp only [e2]
          have ha := hr.aft (cl := false) (env0 := e1) I1 (Step.refl) (fun z => by cases z)
          obtain ⟨p', S', L, Ls', e3, I3, st3, hL3, r3, _⟩ := ha
          cases e3
          have r4 : Rp S2 (Cst b N0 Ls' (A ++ L) W0) p z L := r3.monoP (p := fNw) (fun k j o hk hp hc hs => ⟨(by cases k <;> first | exact absurd rfl hk | exact hc | cases hp), hs⟩) hn fun _ _ => rfl
          refine ⟨_, S2, _, rfl, I3.put r4 (fun j hj => Nat.le_trans I1.lb (hL3 j hj)) hi, ⟨(st1.trans st3).len, (st1.trans st3).keep, fun y j hj => ?_⟩, kept_set hi⟩
          split at hj
          · split at hj
            · exact .inr (Nat.le_trans st1.len (hL3 j hj))
            · cases hj
          · exact (st1.trans st3).own y j hj
        · trivial
      · trivial
    · trivial
/-- a list of values that nobody holds alone, over a step -/
theorem Rps.carry0 {us : List IV} {vs : List TV} (r : Rps S (Cst b N0 Ls A W0) us vs []) (st : Step S Ls S1 Ls1) : Rps S1 (Cst b N0 Ls1 A W0) us vs [] := by
  refine r.mono (fun k j o hk hc hs => ?_) fun j hj => by cases hj
  have hj := lt_of_some hs
  have fr : Fresh Ls A j → Fresh Ls1 A j ∧ S1[j]? = some o := fun h => ⟨⟨fun y hy => by
    rcases st.own y j hy with ⟨x, hx⟩ | hx
    · exact h.1 x hx
    · omega, h.2⟩, by rw [st.keep j hj h.1]; exact hs⟩
  cases k with
  | o => exact absurd rfl hk
  | s => obtain ⟨f1, f2⟩ := fr hc.2; exact ⟨⟨hc.1, f1⟩, f2⟩
  | z => obtain ⟨f1, f2⟩ := fr hc.2; exact ⟨⟨hc.1, f1⟩, f2⟩
  | w => exact hc.elim
theorem loop_ok {g : Tg} {k : IK} {us : List IV} {vs all : List TV} (hg : tgOut kp g = true) (hb : VSok kp ms wst) (hall : itemsT k vs = some all) :
    ∀ (xs : List TV) (env : Env) (t : Slo) (S : Sto) (Ls : LsT) (fuel n : Nat), Inv b N0 kp A t S env Ls → Rps S (Cst b N0 Ls A W0) us vs [] → all.drop n = xs → xs.length < fuel → AftV b N0 kp A t S Ls (vloop g wst xs env) (loopI g ms (itMk k us) fuel n t S)
  | [], env, t, S, Ls, fuel, n, I, ru, hx, hf => by
    cases fuel with
    | zero => simp at hf
    | succ f =>
      obtain ⟨ys, hn, q⟩ := items_ok ru hall
      have hlen := q.length
      have : all.length ≤ n := by
        have := congrArg List.length hx
        simp at this; omega
      simp only [vloop, loopI, hn n]
      rw [List.getElem?_eq_none (by omega)]
      exact ⟨t, S, Ls, rfl, I, .refl, .refl⟩
  | x :: xs, env, t, S, Ls, fuel, n, I, ru, hx, hf => by
    cases fuel with
    | zero => simp at hf
    | succ f =>
      obtain ⟨ys, hn, q⟩ := items_ok ru hall
      have ex : all[n]? = some x := by
        have := congrArg (fun l => l[0]?) hx
        simpa [List.getElem?_drop] using this
      have hxs : all.drop (n + 1) = xs := by
        rw [← List.drop_drop, hx]; rfl
      have hf' : xs.length < f := by simp only [List.length_cons] at hf; omega
      obtain ⟨y, ey, rx⟩ := q.get ex
      simp only [vloop, loopI, hn n, ey]
      cases et : tgT g x env with
      | none => trivial
      | some e1 =>
        obtain ⟨t1, Ls1, a1, T1⟩ := tg_ok0 I rx hg et
        have n1 : Nx b N0 kp A t S Ls t1 S e1 Ls1 := ⟨T1.inv, ⟨Nat.le_refl _, fun _ _ _ => rfl, fun y j h => .inl ⟨y, T1.own y j h⟩⟩, fun k hk => (T1.off k (out_of hk hg)).2.1⟩
        simp only [a1]
        have h1 := hb b N0 A t1 S e1 Ls1 T1.inv
        cases hw : wst e1 with
        | nx e => rw [hw] at h1; obtain ⟨t', S', Ls', e2, n2⟩ := h1; rw [e2]; exact AftV.from (n1.trans n2) (loop_ok hg hb hall xs e t' S' Ls' f (n + 1) n2.inv (ru.carry0 (n1.step.trans n2.step)) hxs hf')
        | cnt e => rw [hw] at h1; obtain ⟨t', S', Ls', e2, n2⟩ := h1; rw [e2]; exact AftV.from (n1.trans n2) (loop_ok hg hb hall xs e t' S' Ls' f (n + 1) n2.inv (ru.carry0 (n1.step.trans n2.step)) hxs hf')
        | brk e => rw [hw] at h1; obtain ⟨t', S', Ls', e2, n2⟩ := h1; rw [e2]; exact ⟨t', S', Ls', rfl, n1.trans n2⟩
        | ex c fs e => rw [hw] at h1; obtain ⟨t', S', Ls', e2, n2⟩ := h1; rw [e2]; exact ⟨t', S', Ls', rfl, n1.trans n2⟩
        | ret v e => rw [hw] at h1; obtain ⟨u, t', S', Ls', L, e2, n2, r⟩ := h1; rw [e2]; exact ⟨u, t', S', Ls', L, rfl, n1.trans n2, r⟩
        | no => trivial
theorem ws_for {g : Tg} (hg : tgOut kp g = true) (hi : VIok kp [] cl mi wi) (hb : VSok kp ms wst) : VSok kp (sFor g mi ms) (wFor g wi wst) := fun b N0 A t S env Ls I =>
  aft_st (F := fun it S1 => loopI g ms it 1000000 0 t S1) (hi b N0 A t S env Ls I) (by unfold sFor; cases mi t S <;> rfl) fun it kv S1 env1 Ls1 L1 I1 st1 hL1 r1 => by
    obtain ⟨us, rfl, r1⟩ := r1
    have r2 := r1.share I1 (lb_of I hL1)
    have r3 : Rps S1 (Cst b N0 Ls1 A W0) us (TV.fls fSh kv.2) [] := r2.mono (fun k j o hk hc hs => ⟨w0_of hc, hs⟩) fun _ _ => rfl
    cases hall : itemsT kv.1 (TV.fls fSh kv.2) with
    | none => trivial
    | some all =>
      show AftV _ _ _ _ _ _ _ (if all.length < 1000000 then vloop g wst all env1 else .no) _
      split
      · rename_i hl
        exact AftV.from ⟨I1.drop, st1, .refl⟩ (loop_ok hg hb hall all env1 t S1 Ls1 1000000 0 I1.drop r3 rfl hl)
      · trivial
theorem while_ok (hc : VBok kp cl mb wb) (hb : VSok kp ms wst) : ∀ (f F : Nat) (env : Env) (t : Slo) (S : Sto) (Ls : LsT), f ≤ F → Inv b N0 kp A t S env Ls → AftV b N0 kp A t S Ls (vwhile wb wst f env) (whileI mb ms F t S)
  | 0, _, _, _, _, _, _, _ => trivial
  | f + 1, 0, _, _, _, _, h, _ => by omega
  | f + 1, F + 1, env, t, S, Ls, h, I => by
    refine aft_st (F := fun k S1 => if k then (match ms t S1 with
        | .nx t2 S2 => whileI mb ms F t2 S2
        | .cnt t2 S2 => whileI mb ms F t2 S2
        | .brk t2 S2 => .nx t2 S2
        | x => x) else .nx t S1) (hc b N0 A t S env Ls I) (by simp only [whileI]; cases mb t S <;> rfl) fun u v S1 env1 Ls1 L1 I1 st1 hL1 r1 => ?_
    obtain ⟨rfl, rfl⟩ := r1
    rw [List.append_nil] at I1
    have n1 : Nx b N0 kp A t S Ls t S1 env1 Ls1 := ⟨I1, st1, .refl⟩
    cases u with
    | false => exact ⟨t, S1, Ls1, rfl, n1⟩
    | true =>
      simp only [if_true]
      have h1 := hb b N0 A t S1 env1 Ls1 I1
      cases hw : wst env1 with
      | nx e => rw [hw] at h1; obtain ⟨t', S', Ls', e2, n2⟩ := h1; rw [e2]; exact AftV.from (n1.trans n2) (while_ok hc hb f F e t' S' Ls' (by omega) n2.inv)
      | cnt e => rw [hw] at h1; obtain ⟨t', S', Ls', e2, n2⟩ := h1; rw [e2]; exact AftV.from (n1.trans n2) (while_ok hc hb f F e t' S' Ls' (by omega) n2.inv)
      | brk e => rw [hw] at h1; obtain ⟨t', S', Ls', e2, n2⟩ := h1; rw [e2]; exact ⟨t', S', Ls', rfl, n1.trans n2⟩
      | ex c fs e => rw [hw] at h1; obtain ⟨t', S', Ls', e2, n2⟩ := h1; rw [e2]; exact ⟨t', S', Ls', rfl, n1.trans n2⟩
      | ret v e => rw [hw] at h1; obtain ⟨u, t', S', Ls', L, e2, n2, r⟩ := h1; rw [e2]; exact ⟨u, t', S', Ls', L, rfl, n1.trans n2, r⟩
      | no => trivial
theorem ws_while {f : Nat} (hf : f ≤ 1000000) (hc : VBok kp cl mb wb) (hb : VSok kp ms wst) : VSok kp (sWhile mb ms) (wWhile wb wst f) := fun b N0 A t S env Ls I => while_ok hc hb f 1000000 env t S Ls hf I
theorem vo_lc {g : Tg} {mc : SB} {wc : VB} {me : SE} {we : VE} (hi : VIok kp ws cli mi wi) (hc : VBok kp clc mc wc) (he : VEok kp wse cle me we) (hws : (wse = [] ∧ ws = []) ∨ (clc && cle) = true) (hg : tgOut kp g = true) (hgo : tgIn own g = true) :
    VEok kp wse (cli && (clc && cle)) (mLc own g mi mc me) (vLc own g wi wc we) := fun b N0 A t S env Ls I => by
  refine (hi b N0 A t S env Ls I).bind fun it kv S1 env1 Ls1 L1 I1 st1 hL1 r1 c1 => ?_
  obtain ⟨us, rfl, r1⟩ := r1
  have r2 := r1.share I1 (lb_of I hL1)
  cases hall : itemsT kv.1 (TV.fls fSh kv.2) with
  | none => trivial
  | some all =>
    dsimp only
    split
    · rename_i hcond
      obtain ⟨hl, hcond⟩ := hcond
      rw [Bool.and_eq_true] at hcond
      have I2 := I1.drop.nil.new (.lst [])
      have r3 := Rps.new I1.drop.nil (.lst []) (by rw [List.append_nil]; exact r2)
      have hS : (S1 ++ [SO.lst []])[S1.length]? = some (.lst []) := by rw [List.getElem?_append_right (Nat.le_refl _), Nat.sub_self]; rfl
      have h := lc_ok (d := S1.length) (S0 := S1) (Ls0 := Ls1) (own := own) rfl hc he rfl hws hg hgo hall env1 all [] env1 (S1 ++ [.lst []]) Ls1 [] [] 1000000 0 I2 .app hS .nil r3 rfl hcond.1 (by simp only [List.length_nil]; omega) hl (fun y hy => I1.noL hcond.2 hy) (fun _ => ⟨rfl, rfl, _, rfl⟩) (fun j hj => by cases hj) hcond.2
      cases hv : vlc own g wc we all [] env1 with
      | ok acc' env' =>
        rw [hv] at h
        obtain ⟨S', L', Ls', accI', e, I', st', hS', ra, cc, hla⟩ := h
        rw [e]
        refine ⟨.ref S1.length, S', S1.length :: L', Ls', rfl, I', st1.trans st', fun j hj => ?_, .own hS' trivial ra, fun z => ?_⟩
        · rcases List.mem_cons.mp hj with rfl | hj
          · exact st1.len
          · exact Nat.le_trans st1.len (hla j hj)
        · rw [Bool.and_eq_true] at z
          obtain ⟨a1, a2, T, a3⟩ := c1 z.1
          obtain ⟨b1, b2, T2, b3⟩ := cc z.2
          exact ⟨b1.trans a1, b2.trans a2, T ++ T2, by rw [b3, a3, List.append_assoc]⟩
      | ex c fs e => trivial
      | no => trivial
    · trivial
end
end IP

/-! IPyZ: the second evaluator: what changes a list or dict of a name's own; defs; the law. -/
namespace IP
open PySem
abbrev TMut := Tag → List TV → List TV → Option (TV × Tag × List TV)
def vMutGo (op : TMut) (i : Nat) (xs : List TV) (e1 : Env) : RV TV := match e1[i]? with
  | some (some (.nd .o g vs)) => match op g vs xs with
    | some (r, g', vs') => .ok r.sh (e1.set i (some (.nd .o g' vs')))
    | none => .no
  | _ => .no
def vMut (T : String) (op : TMut) (i : Nat) (a : VA) : VE := fun e => match e[i]? with
  | some (some (.nd .o g0 vs0)) => if tTy T (.nd .o g0 vs0) then (a e).bind fun xs e1 => vMutGo op i xs e1 else .no
  | _ => .no
def wPut (op : TMut) (i : Nat) (mi a : VE) : VS := fun e => match e[i]? with
  | some (some _) => (vCons a (vCons mi vNil) e).st fun xs e1 => (vMutGo op i xs e1).st fun _ e2 => .nx e2
  | _ => .no
def MutOk (f : List IV → IV → Sto → Option (IV × Sto)) (op : TMut) : Prop := ∀ (S : Sto) (C : Fl → Nat → Prop) (j : Nat) (g g' : Tag) (xs us : List IV) (vs as vs' : List TV) (r : TV) (Lc La : List Nat), S[j]? = some (mkO g xs) → okG g xs.length → Rps S C xs vs Lc → Rps S C us as La → op g vs as = some (r, g', vs') →
  ∃ ur xs' Lr Lc' M, f us (.ref j) S = some (ur, S.set j (mkO g' xs')) ∧ okG g' xs'.length ∧ Rps S C xs' vs' Lc' ∧ Rp S C ur r Lr ∧ (Lc' ++ (Lr ++ M)).Perm (Lc ++ La)
section
variable {b : Nat} {N0 : Nat → Prop} {kp ws ws' wse own : List Nat} {cl cl' cli clc cle : Bool} {A A' L : List Nat} {t t' t1 : Slo} {S S' S1 S2 S3 : Sto} {env env' env1 env3 : Env} {Ls Ls' Ls1 Ls3 : LsT}
  {m m' : SE} {w w' : VE} {mb : SB} {wb : VB} {ms ms' : SS} {wst wst' : VS} {mi : SI} {wi : VI} {ma : SA} {wa : VA}
def QuietR (op : TMut) : Prop := ∀ g vs as r g' vs', op g vs as = some (r, g', vs') → r = .non
theorem mut_fin {f : List IV → IV → Sto → Option (IV × Sto)} {op : TMut} (hf : MutOk f op) {i : Nat} (hik : i ∉ kp ∨ QuietR op) {us : List IV} {xs : List TV} {L1 : List Nat} (I1 : Inv b N0 kp (A ++ L1) t S1 env1 Ls1) (hL : ∀ j ∈ L1, b ≤ j) (r1 : Rps S1 (Cst b N0 Ls1 (A ++ L1) W0) us xs L1)
    {r : TV} {e2 : Env} (h : vMutGo op i xs env1 = .ok r e2) : ∃ u ur S2 Ls2, t[i]? = some (some u) ∧ f us u S1 = some (ur, S2) ∧ Inv b N0 kp A t S2 e2 Ls2 ∧ (S2.length = S1.length ∧ (∀ p, p ∉ Ls1 i → S2[p]? = S1[p]?) ∧ ∀ y p, p ∈ Ls2 y → p ∈ Ls1 y ∨ p ∈ L1) ∧ Rp S2 (Cst b N0 Ls2 A W0) ur r [] := by
  unfold vMutGo at h
  split at h
  · rename_i g vs he
    split at h
    · rename_i r0 g' vs' ho
      simp only [RV.ok.injEq] at h
      obtain ⟨rfl, rfl⟩ := h
      obtain ⟨u, hu, ri⟩ := I1.at_ i _ he
      generalize hLi : Ls1 i = Li at ri
      cases ri with
      | ref n _ _ _ _ => exact absurd rfl n
      | own e og rc =>
        rename_i j xs0 Lc
        obtain ⟨ur, xs', Lr, Lc', M, ef, og', rx, rr, hp⟩ := hf _ _ j g g' _ us vs xs vs' r0 _ _ e og rc r1 ho
        have nLi := I1.nd i
        rw [hLi] at nLi
        obtain ⟨nj, nLc⟩ := List.nodup_cons.mp nLi
        have nL1 := I1.lnd
        have dis : ∀ p, p ∈ L1 → p ∉ j :: Lc := fun p hp hq => (I1.lad hp).1 i (by rw [hLi]; exact hq)
        have ndall : (Lc' ++ (Lr ++ M)).Nodup := hp.nodup_iff.mpr (List.nodup_append.mpr ⟨nLc, nL1, fun p hp q hq e => by subst e; exact dis p hq (List.mem_cons_of_mem _ hp)⟩)
        have memc : ∀ p, p ∈ Lc' → p ∈ Lc ∨ p ∈ L1 := fun p h => List.mem_append.mp (hp.mem_iff.mp (List.mem_append_left _ h))
        have memr : ∀ p, p ∈ Lr → p ∈ Lc ∨ p ∈ L1 := fun p h => List.mem_append.mp (hp.mem_iff.mp (List.mem_append_right _ (List.mem_append_left _ h)))
        have jLc' : j ∉ Lc' := fun m => by
          rcases memc j m with m | m
          · exact nj m
          · exact dis j m List.mem_cons_self
        have hjS : j < S1.length := lt_of_some e
        let Ls2 : LsT := fun y => if y = i then j :: Lc' else Ls1 y
        have sub2 : ∀ {p y : Nat}, p ∈ Ls2 y → p ∈ Ls1 y ∨ (y = i ∧ p ∈ L1) := fun {p y} h => by
          show _ ∨ _
          simp only [Ls2] at h
          split at h
          · rename_i hy
            subst hy
            rw [hLi]
            rcases List.mem_cons.mp h with rfl | h
            · exact .inl List.mem_cons_self
            · exact (memc p h).imp (List.mem_cons_of_mem _) fun h => ⟨rfl, h⟩
          · exact .inl h
        have fr : ∀ {p : Nat}, Fresh Ls1 (A ++ L1) p → Fresh Ls2 A p := fun {p} h => ⟨fun y m => by
          rcases sub2 m with m | m
          · exact h.1 y m
          · exact h.2 (List.mem_append_right _ m.2), h.less.2⟩
        have nej : ∀ {p : Nat}, Fresh Ls1 (A ++ L1) p → p ≠ j := fun {p} h e => h.1 i (by rw [hLi, e]; exact List.mem_cons_self)
        have keep : ∀ {p : Nat}, p ≠ j → (S1.set j (mkO g' xs'))[p]? = S1[p]? := fun {p} h => List.getElem?_set_ne (Ne.symm h)
        have conv : ∀ k p o, k ≠ .o → Cst b N0 Ls1 (A ++ L1) W0 k p → S1[p]? = some o → Cst b N0 Ls2 A W0 k p ∧ (S1.set j (mkO g' xs'))[p]? = some o := fun k p o hk hc hs => by
          cases k with
          | o => exact absurd rfl hk
          | s => exact ⟨⟨hc.1, fr hc.2⟩, by rw [keep (nej hc.2)]; exact hs⟩
          | z => exact ⟨⟨hc.1, fr hc.2⟩, by rw [keep (nej hc.2)]; exact hs⟩
          | w => exact hc.elim
        have hi : i < env1.length := lt_of_some he
        refine ⟨_, ur, S1.set j (mkO g' xs'), Ls2, hu, ef, ⟨by rw [List.length_set]; exact I1.lb, by rw [List.length_set]; exact I1.len, fun y v2 e2 => ?_, fun y hy => ?_, fun y => ?_, fun y z p h1 h2 => ?_, fun y p h => ?_, (List.nodup_append.mp I1.an).1, fun p hp y hy => ?_, fun p hp => by rw [List.length_set]; exact I1.al p (List.mem_append_left _ hp)⟩, ⟨by rw [List.length_set], fun p hp => keep fun e => hp (by rw [e]; first | exact List.mem_cons_self | (rw [hLi]; exact List.mem_cons_self)), fun y p h => (sub2 h).imp id fun h => h.2⟩, ?_⟩
        · rw [List.getElem?_set] at e2
          by_cases hyi : i = y
          · subst hyi
            rw [if_pos rfl, if_pos hi] at e2
            cases e2
            refine ⟨.ref j, hu, ?_⟩
            have : Ls2 i = j :: Lc' := if_pos rfl
            rw [this]
            refine .own (by rw [List.getElem?_set, if_pos rfl, if_pos hjS]) og' (rx.mono conv fun p hp => keep fun e => jLc' (e ▸ hp))
          · rw [if_neg hyi] at e2
            obtain ⟨u3, e3, r3⟩ := I1.at_ y v2 e2
            refine ⟨u3, e3, ?_⟩
            have : Ls2 y = Ls1 y := if_neg (Ne.symm hyi)
            rw [this]
            exact r3.mono conv fun p hp => keep fun e => hyi (I1.dj i y j (by rw [hLi]; exact List.mem_cons_self) (e ▸ hp))
        · by_cases hyi : y = i
          · exfalso
            subst hyi
            exact hy _ (by rw [List.getElem?_set, if_pos rfl, if_pos hi])
          · show (if y = i then _ else Ls1 y) = []
            rw [if_neg hyi]
            exact I1.dead y fun v2 e2 => hy v2 (by rw [List.getElem?_set_ne (Ne.symm hyi)]; exact e2)
        · show (if y = i then j :: Lc' else Ls1 y).Nodup
          split
          · exact List.nodup_cons.mpr ⟨jLc', (List.nodup_append.mp ndall).1⟩
          · exact I1.nd y
        · rcases sub2 h1 with a1 | ⟨a1, a1'⟩ <;> rcases sub2 h2 with a2 | ⟨a2, a2'⟩
          · exact I1.dj y z p a1 a2
          · exact ((I1.lad a2').1 y a1).elim
          · exact ((I1.lad a1').1 z a2).elim
          · rw [a1, a2]
        · rcases sub2 h with a | ⟨_, a⟩
          · exact I1.fr y p a
          · exact .inl (hL p a)
        · rcases sub2 hy with a | ⟨_, a⟩
          · exact I1.ad p (List.mem_append_left _ hp) y a
          · exact (I1.lad a).2 hp
        · refine rr.gen2 rfl (fun k => by cases k <;> nofun) (fun k p o hk hc hs => ?_) fun p o hp hs => ?_
          · obtain ⟨c1, c2⟩ := conv k p o hk hc hs
            exact ⟨by cases k <;> first | exact absurd rfl hk | exact c1, c2⟩
          · have pj : p ≠ j := fun e => by
              subst e
              rcases memr p hp with m | m
              · exact nj m
              · exact dis p m List.mem_cons_self
            refine ⟨⟨?_, ⟨fun y m => ?_, fun m => ?_⟩⟩, by rw [keep pj]; exact hs⟩
            · rcases memr p hp with m | m
              · rcases hik with hik | hik
                · exact (I1.fr i p (by rw [hLi]; exact List.mem_cons_of_mem _ m)).resolve_right hik
                · rw [hik _ _ _ _ _ _ ho] at rr
                  rw [rr.non0.2] at hp
                  cases hp
              · exact hL p m
            · simp only [Ls2] at m
              split at m
              · rcases List.mem_cons.mp m with m | m
                · exact pj m
                · exact (List.nodup_append.mp ndall).2.2 p m p (List.mem_append_left _ hp) rfl
              · rename_i hyi
                rcases memr p hp with q | q
                · exact hyi (I1.dj y i p m (by rw [hLi]; exact List.mem_cons_of_mem _ q))
                · exact (I1.lad q).1 y m
            · rcases memr p hp with q | q
              · exact I1.ad p (List.mem_append_left _ m) i (by rw [hLi]; exact List.mem_cons_of_mem _ q)
              · exact (I1.lad q).2 m
    · cases h
  · cases h
theorem mut_ex {op : TMut} {i : Nat} {xs : List TV} {c : Str} {fs : List (Str × IV)} {e2 : Env} (h : vMutGo op i xs env1 = .ex c fs e2) : False := by
  unfold vMutGo at h
  split at h
  · split at h <;> cases h
  · cases h
theorem step_mut {S2 : Sto} {Ls2 : LsT} {L1 : List Nat} {i : Nat} (st : Step S Ls S1 Ls1) (hL : ∀ j ∈ L1, S.length ≤ j) (h : S2.length = S1.length ∧ (∀ p, p ∉ Ls1 i → S2[p]? = S1[p]?) ∧ ∀ y p, p ∈ Ls2 y → p ∈ Ls1 y ∨ p ∈ L1) : Step S Ls S2 Ls2 := by
  refine ⟨by rw [h.1]; exact st.len, fun j hj hn => ?_, fun y j hj => ?_⟩
  · rw [h.2.1 j fun m => ?_]
    · exact st.keep j hj hn
    · rcases st.own i j m with ⟨x, hx⟩ | hx
      · exact hn x hx
      · omega
  · rcases h.2.2 y j hj with m | m
    · exact st.own y j m
    · exact .inr (hL j m)
theorem vo_mut {f : OM} {op : TMut} {T : String} {i : Nat} (hf : MutOk (fun us u S => f u us S) op) (hik : i ∉ kp ∨ QuietR op) (q : VAok kp [] cl ma wa) : VEok kp [] false (mMt T f (mVar i) ma) (vMut T op i wa) := fun b N0 A t S env Ls I => by
  unfold vMut mMt
  split
  · rename_i g0 vs0 he
    obtain ⟨u, hu, ri⟩ := I.at_ i _ he
    split
    · rename_i ht
      have e1 : mVar i t S = .ok u S := by unfold mVar; rw [hu]
      rw [e1]
      show Aft2 _ _ _ _ _ _ _ _ _ _ (if isTy T u S then (ma t S).bind fun xs S2 => R.ofO (f u xs S2) else .no) _
      rw [if_pos (ty_T ri ht)]
      refine (q b N0 A t S env Ls I).bind fun us xs S1 env1 Ls1 L1 I1 st1 hL1 r1 c1 => ?_
      have r2 : Rps S1 (Cst b N0 Ls1 (A ++ L1) W0) us xs L1 := r1.mono (fun k j o hk hc hs => ⟨w0_of hc, hs⟩) fun _ _ => rfl
      cases hv : vMutGo op i xs env1 with
      | no => trivial
      | ex c fs e2 => exact (mut_ex hv).elim
      | ok r e2 =>
        obtain ⟨u', ur, S2, Ls2, hu', ef, I2, hst, rr⟩ := mut_fin hf hik I1 (lb_of I hL1) r2 hv
        rw [hu] at hu'; cases hu'
        rw [show f u us S1 = some (ur, S2) from ef]
        refine ⟨ur, S2, [], Ls2, rfl, I2.nil, step_mut st1 hL1 hst, (fun j h => by cases h), ?_, fun z => by cases z⟩
        show Rp S2 (Cst b N0 Ls2 (A ++ []) (Wn [] Ls2)) _ _ _
        rw [List.append_nil]
        exact rr.mono (fun k j o hk hc hs => ⟨by
          cases k with
          | o => exact hc
          | s => exact hc
          | z => exact hc
          | w => exact hc.elim, hs⟩) fun _ _ => rfl
    · trivial
  · trivial
def putF (us : List IV) (u : IV) (S : Sto) : Option (IV × Sto) := match us with
  | [v, k] => (putO u k v S).map fun S' => (.non, S')
  | _ => none
theorem ws_put {op : TMut} {i : Nat} {m : SE} {w : VE} {mx : SE} {wx : VE} (hf : MutOk putF op) (hq : QuietR op) (h : VEok kp [] cl m w) (hx : VEok kp [] cl' mx wx) : VSok kp (sPut (mVar i) mx m) (wPut op i wx w) := fun b N0 A t S env Ls I => by
  unfold wPut
  split
  case h_2 => trivial
  rename_i v0 he
  obtain ⟨u, hu, _⟩ := I.at_ i _ he
  have e1 : ∀ S, mVar i t S = .ok u S := fun S => by unfold mVar; rw [hu]
  have ex : sPut (mVar i) mx m t S = (mCons m (mCons mx mNil) t S).stK t fun us S3 => match us with
    | [v, y] => (match putO u y v S3 with
      | some S4 => .nx t S4
      | none => .no)
    | _ => .no := by
    unfold sPut mCons mNil
    simp only [e1, R.bind]
    cases m t S with
    | ok v S1 =>
      simp only [R.stK]
      cases mx t S1 with
      | ok y S2 =>
        simp only []
        cases putO u y v S2 <;> rfl
      | ex c fs S2 => rfl
      | no => rfl
    | ex c fs S1 => rfl
    | no => rfl
  refine aft_st (va_cons h (va_cons hx va_nil (.inr rfl)) (.inl rfl) b N0 A t S env Ls I) ex fun us xs S1 env1 Ls1 L1 I1 st1 hL1 r1 => ?_
  have r2 : Rps S1 (Cst b N0 Ls1 (A ++ L1) W0) us xs L1 := r1.mono (fun k j o hk hc hs => ⟨w0_of hc, hs⟩) fun _ _ => rfl
  cases hv : vMutGo op i xs env1 with
  | no => trivial
  | ex c fs e2 => exact (mut_ex hv).elim
  | ok r e2 =>
    obtain ⟨u', ur, S2, Ls2, hu', ef, I2, hst, rr⟩ := mut_fin hf (.inr hq) I1 (lb_of I hL1) r2 hv
    rw [hu] at hu'; cases hu'
    unfold putF at ef
    split at ef
    · rename_i v k
      rw [Option.map_eq_some_iff] at ef
      obtain ⟨S4, e4, e5⟩ := ef
      cases e5
      rw [e4]
      exact ⟨t, S2, Ls2, rfl, I2, step_mut st1 hL1 hst, .refl⟩
    · cases ef
/-! ### defs -/
def vFun (N : List Str) (n : Nat) (w : VS) : VF := fun vs => if vs.length = n then match w (vs.map some ++ List.replicate (N.length - n) none) with
  | .nx _ => .ok .non
  | .ret v _ => .ok v
  | .ex c fs _ => .ex c fs
  | _ => .no else .no
def ioV (p : Nat) (v : TV) (e : Env) : RDI := match e[p]? with
  | some (some v') => .ok v v'
  | _ => .no
def ioX (p : Nat) (c : Str) (fs : List (Str × IV)) (e : Env) : RDI := match e[p]? with
  | some (some v') => .ex c fs v'
  | _ => .no
def vFunIO (N : List Str) (n p : Nat) (w : VS) : VFI := fun vs => if vs.length = n ∧ p < n then match w (vs.map some ++ List.replicate (N.length - n) none) with
  | .nx e => ioV p .non e
  | .ret v e => ioV p v e
  | .ex c fs e => ioX p c fs e
  | _ => .no else .no
theorem step_app {T : LsT} (h : Step S Ls0 S' T) : ∃ T, S' = S ++ T := by
  refine ⟨S'.drop S.length, ?_⟩
  refine List.ext_getElem? fun j => ?_
  by_cases hj : j < S.length
  · rw [List.getElem?_append_left hj, h.keep j hj fun y hy => by cases hy]
  · rw [List.getElem?_append_right (by omega), List.getElem?_drop]
    congr 1; omega
theorem start_get {us : List IV} {N : List Str} {y : Nat} {u : IV} (h : us[y]? = some u) : (startI N us)[y]? = some (some u) := by
  unfold startI
  rw [List.getElem?_append_left (by rw [List.length_map]; exact lt_of_some h), List.getElem?_map, h]; rfl
theorem env_get {vs : List TV} {k y : Nat} {v : TV} (h : (vs.map some ++ List.replicate k none)[y]? = some (some v)) : vs[y]? = some v := by
  rw [List.getElem?_append] at h
  split at h
  · rw [List.getElem?_map, Option.map_eq_some_iff] at h
    obtain ⟨x, h1, h2⟩ := h
    cases h2; exact h1
  · rw [List.getElem?_replicate] at h
    split at h <;> cases h
theorem def_v {N : List Str} {n : Nat} (h : VSok [] ms wst) : DefV (mFun N ms) (vFun N n wst) := fun N0 S us vs r => by
  by_cases hn : vs.length = n
  · simp only [vFun, if_pos hn]
    have hlen := r.length
    have I : Inv S.length N0 [] [] (startI N us) S (vs.map some ++ List.replicate (N.length - n) none) Ls0 := by
      refine ⟨Nat.le_refl _, by unfold startI; simp only [List.length_append, List.length_map, List.length_replicate]; omega, fun y v e => ?_, fun y _ => rfl, fun y => List.nodup_nil, (fun y z j h => by cases h), (fun y j h => by cases h), List.nodup_nil, (fun j h => by cases h), fun j h => by cases h⟩
      obtain ⟨u, hu, ru⟩ := r.get (env_get e)
      exact ⟨u, start_get hu, ru.mono (fun k j o hk hc hs => ⟨by obtain ⟨rfl, hc⟩ := hc; exact ⟨.inr hc, (fun y m => by cases m), by simp⟩, hs⟩) fun _ _ => rfl⟩
    have h1 := h _ _ _ _ _ _ _ I
    unfold mFun
    cases hw : wst (vs.map some ++ List.replicate (N.length - n) none) with
    | nx e =>
      rw [hw] at h1
      obtain ⟨t', S', Ls', e1, n1⟩ := h1
      obtain ⟨T, rfl⟩ := step_app n1.step
      rw [e1]
      exact ⟨.non, T, [], rfl, .non, List.nodup_nil, fun j h => by cases h⟩
    | ret v e =>
      rw [hw] at h1
      obtain ⟨u, t', S', Ls', L, e1, n1, ru, hl⟩ := h1
      obtain ⟨T, rfl⟩ := step_app n1.step
      rw [e1]
      exact ⟨u, T, L, rfl, ru.mono (fun k j o hk hc hs => ⟨by
        have fr : Fresh Ls' ([] ++ L) j → Fresh Ls0 L j := fun h => ⟨(fun y m => by cases m), h.2⟩
        cases k with
        | o => exact hc
        | s => exact ⟨hc.1, fr hc.2⟩
        | z => exact ⟨hc.1, fr hc.2⟩
        | w => exact hc, hs⟩) (fun _ _ => rfl), n1.inv.lnd, hl⟩
    | ex c fs e =>
      rw [hw] at h1
      obtain ⟨t', S', Ls', e1, n1⟩ := h1
      obtain ⟨T, rfl⟩ := step_app n1.step
      rw [e1]
      exact ⟨T, rfl⟩
    | brk e => trivial
    | cnt e => trivial
    | no => trivial
  · simp only [vFun, if_neg hn]
def vrec (N : List Str) (n : Nat) (w : VF → VS) : Nat → VF
  | 0 => fun _ => .no
  | j + 1 => vFun N n (w (vrec N n w j))
theorem def_rec {N : List Str} {n : Nat} {bb : FN → SS} {wf : VF → VS} (h : ∀ F W, DefV F W → VSok [] (bb F) (wf W)) : ∀ j, DefV (recF N bb j) (vrec N n wf j)
  | 0 => fun _ _ _ _ _ => trivial
  | j + 1 => def_v (h _ _ (def_rec h j))
theorem def_io {N : List Str} {n p : Nat} (h : VSok [p] ms wst) : DefIO (mFun N ms) p (vFunIO N n p wst) := fun N0 S us vs up Lp hup hlen hnd r => by
  by_cases hn : vs.length = n ∧ p < n
  · simp only [vFunIO, if_pos hn]
    obtain ⟨hn, hp⟩ := hn
    have I : Inv S.length N0 [p] [] (startI N us) S (vs.map some ++ List.replicate (N.length - n) none) (LsP p Lp) := by
      refine ⟨Nat.le_refl _, by unfold startI; simp only [List.length_append, List.length_map, List.length_replicate]; omega, fun y v e => ?_, fun y hy => ?_, fun y => ?_, fun y z j h1 h2 => (lsP_at h1).1.trans (lsP_at h2).1.symm, fun y j h => .inr (by rw [(lsP_at h).1]; exact List.mem_singleton_self p), List.nodup_nil, (fun j h => by cases h), fun j h => by cases h⟩
      · obtain ⟨u, hu, ru⟩ := r y v (env_get e)
        exact ⟨u, start_get hu, ru⟩
      · unfold LsP
        split
        · rename_i hyp
          subst hyp
          exfalso
          have : y < vs.length := by omega
          exact hy vs[y] (by rw [List.getElem?_append_left (by rw [List.length_map]; exact this), List.getElem?_map, List.getElem?_eq_getElem this]; rfl)
        · rfl
      · unfold LsP
        split
        · exact hnd
        · exact List.nodup_nil
    have h1 := h _ _ _ _ _ _ _ I
    have hst : (startI N us)[p]? = some (some up) := start_get hup
    have own : ∀ {S' : Sto} {Ls' : LsT}, Step S (LsP p Lp) S' Ls' → Step S (LsP p Lp) S' (LsP p (Ls' p)) := fun {S' Ls'} st => ⟨st.len, st.keep, fun y j hj => st.own p j (lsP_at hj).2⟩
    have conv : ∀ {Ls' : LsT} {L : List Nat} {S' : Sto} {u : IV} {v : TV} {M : List Nat}, Rp S' (Cst S.length N0 Ls' L W0) u v M → Rp S' (Cst S.length N0 (LsP p (Ls' p)) L W0) u v M := fun {Ls' L S' u v M} r => r.mono (fun k j o hk hc hs => ⟨by
      have fr : Fresh Ls' L j → Fresh (LsP p (Ls' p)) L j := fun h => ⟨fun y m => h.1 p (lsP_at m).2, h.2⟩
      cases k with
      | o => exact hc
      | s => exact ⟨hc.1, fr hc.2⟩
      | z => exact ⟨hc.1, fr hc.2⟩
      | w => exact hc, hs⟩) fun _ _ => rfl
    unfold mFun
    cases hw : wst (vs.map some ++ List.replicate (N.length - n) none) with
    | nx e =>
      rw [hw] at h1
      obtain ⟨t', S', Ls', e1, n1⟩ := h1
      rw [e1]
      by_cases hz : ∃ v', e[p]? = some (some v')
      · obtain ⟨v', hv'⟩ := hz
        simp only [ioV, hv']
        obtain ⟨u', hu', r'⟩ := n1.inv.at_ p v' hv'
        rw [n1.kept p (List.mem_singleton_self p), hst] at hu'
        cases hu'
        exact ⟨.non, S', [], Ls' p, rfl, own n1.step, .non, conv r', List.nodup_nil, n1.inv.nd p, fun j h => by cases h⟩
      · have : ioV p .non e = .no := by
          unfold ioV; split
          · rename_i v' h; exact absurd ⟨v', h⟩ hz
          · rfl
        simp only [this]
    | ret v e =>
      rw [hw] at h1
      obtain ⟨u, t', S', Ls', L, e1, n1, ru, hl⟩ := h1
      rw [e1]
      by_cases hz : ∃ v', e[p]? = some (some v')
      · obtain ⟨v', hv'⟩ := hz
        simp only [ioV, hv']
        obtain ⟨u', hu', r'⟩ := n1.inv.at_ p v' hv'
        rw [n1.kept p (List.mem_singleton_self p), hst] at hu'
        cases hu'
        rw [List.nil_append] at ru r'
        exact ⟨u, S', L, Ls' p, rfl, own n1.step, conv ru, conv r', n1.inv.lnd, n1.inv.nd p, fun j hj => ⟨hl j hj, (n1.inv.lad hj).1 p⟩⟩
      · have : ioV p v e = .no := by
          unfold ioV; split
          · rename_i v' h; exact absurd ⟨v', h⟩ hz
          · rfl
        simp only [this]
    | ex c fs e =>
      rw [hw] at h1
      obtain ⟨t', S', Ls', e1, n1⟩ := h1
      rw [e1]
      by_cases hz : ∃ v', e[p]? = some (some v')
      · obtain ⟨v', hv'⟩ := hz
        simp only [ioX, hv']
        obtain ⟨u', hu', r'⟩ := n1.inv.at_ p v' hv'
        rw [n1.kept p (List.mem_singleton_self p), hst] at hu'
        cases hu'
        exact ⟨S', Ls' p, rfl, own n1.step, conv r', n1.inv.nd p⟩
      · have : ioX p c fs e = .no := by
          unfold ioX; split
          · rename_i v' h; exact absurd ⟨v', h⟩ hz
          · rfl
        simp only [this]
    | brk e => trivial
    | cnt e => trivial
    | no => trivial
  · simp only [vFunIO, if_neg hn]
/-- numbers as trees -/
def nI (ns : List Int) : List TV := ns.map TV.int
theorem nI_rps {C : Fl → Nat → Prop} : ∀ ns : List Int, Rps S C (ns.map IV.int) (nI ns) []
  | [] => .nil
  | n :: ns => .cons0 (.int n) (nI_rps ns)
theorem run_of {F : FN} {W : VF} (h : DefV F W) {ns : List Int} (r : W [.nd .z .lst (nI ns)] = .ok (.bl true)) : ∃ S, F [.sq (ns.map IV.int)] [] = .ok (.bl true) S := by
  have h1 := h (fun _ => True) [] [.sq (ns.map IV.int)] _ (.one (.sq (nI_rps ns)))
  rw [r] at h1
  obtain ⟨u, T, L, e, ru, _⟩ := h1
  rw [ru.bl0.1] at e
  exact ⟨_, e⟩
end
end IP

/-! IPOa: operations on trees. -/
namespace IP
open PySem
def tAdd : T2 := fun u v => match u, v with
  | .int i, .int j => some (.int (i + j))
  | .int i, .bl b => some (.int (i + PyProof.Rows.b2i b))
  | .str a, .str b => if a.length + b.length ≤ 16777216 then some (.str (a ++ b)) else none
  | .tup xs, .tup ys => if xs.isEmpty || decide (16777216 < xs.length + ys.length) then none else some (.tup (xs ++ ys))
  | .nd _ .lst xs, .nd _ .lst ys => if xs.length + ys.length ≤ 16777216 then some (.nd .o .lst (xs ++ ys)) else none
  | _, _ => none
def tSub : T2 := fun u v => match u, v with
  | .int i, .int j => some (.int (i - j))
  | _, _ => none
def tMul : T2 := fun u v => match u, v with
  | .int i, .int j => if okMul i j then some (.int (i * j)) else none
  | .str x, .int n => if decide (x.length ≤ 1000000 ∧ -1000000 ≤ n ∧ n ≤ 1000000 ∧ x.length * n.toNat ≤ 16777216) then some (.str (Txt.mul x n)) else none
  | .nd _ .lst xs, .int k => if decide (-(2 ^ 63) ≤ k ∧ k < 2 ^ 63 ∧ xs.length * k.toNat ≤ 16777216) then some (.nd .o .lst (List.replicate k.toNat xs).flatten) else none
  | _, _ => none
def tFdiv : T2 := fun u v => match u, v with
  | .int i, .int j => if decide (0 < j ∧ j < 1073741824) then some (.int (i / j)) else none
  | _, _ => none
def tMod : T2 := fun u v => match u, v with
  | .int i, .int j => if decide (0 < j) then some (.int (i % j)) else none
  | _, _ => none
def tPow : T2 := fun u v => match u, v with
  | .int i, .int j => if decide (0 ≤ j ∧ j ≤ 1000000 ∧ i.natAbs < 2 ^ 64) then some (.int (i ^ j.toNat)) else none
  | _, _ => none
def tShl : T2 := fun u v => match u, v with
  | .int i, .int j => if decide (0 ≤ j ∧ j ≤ 1000000 ∧ i.natAbs < 2 ^ 64) then some (.int (i * 2 ^ j.toNat)) else none
  | _, _ => none
def tShr : T2 := fun u v => match u, v with
  | .int i, .int j => if decide (0 ≤ j) then some (.int (i / 2 ^ j.toNat)) else none
  | _, _ => none
def tAnd : T2 := fun u v => match u, v with
  | .int i, .int j => some (.int (Builtin.bitAnd i j))
  | _, _ => none
def tNeg : T1 := fun u => match u with
  | .int i => some (.int (-i))
  | _ => none
def tAugAdd : T2 := fun u v => match u, v with
  | .int i, .int j => some (.int (i + j))
  | .str a, .str b => if a.length + b.length ≤ 16777216 then some (.str (a ++ b)) else none
  | _, _ => none
/-! as data -/
def dT : Nat → TV → Option PyData
  | 0, _ => none
  | n + 1, v => match v with
    | .non => some .none
    | .bl b => some (.bool b)
    | .int i => some (.int i)
    | .str x => some (.str x)
    | .tup xs => (mapO (dT n) xs).map .tuple
    | .nd _ .lst xs => (mapO (dT n) xs).map .list
    | _ => none
def tLt : T2 := fun u v => match u, v with
  | .int i, .int j => some (.bl (decide (i < j)))
  | u, v => (ltD (dT 20 u) (dT 20 v)).map .bl
def lenNeT : TV → TV → Bool
  | .nd _ .lst xs, .nd _ .lst ys => xs.length != ys.length
  | _, _ => false
def eqT (u v : TV) : Option Bool := match u, v with
  | .int i, .int j => some (decide (i = j))
  | .str x, .str y => some (decide (x = y))
  | .bl x, .bl y => some (decide (x = y))
  | .non, .non => some true
  | _, _ => if lenNeT u v then some false else match dT 20 u, dT 20 v with
    | some d, some e => if SeqAt.shaped d && SeqAt.shaped e then some (PyData.eqv d e) else none
    | _, _ => none
def tEq : T2 := fun u v => (eqT u v).map .bl
def tNe : T2 := fun u v => (eqT u v).map fun b => .bl (!b)
def tLe : T2 := fun u v => match u, v with
  | .int i, .int j => some (.bl (decide (i ≤ j)))
  | _, _ => none
def tGt : T2 := fun u v => match u, v with
  | .int i, .int j => some (.bl (decide (j < i)))
  | _, _ => none
def tGe : T2 := fun u v => match u, v with
  | .int i, .int j => some (.bl (decide (j ≤ i)))
  | _, _ => none
def isT (u v : TV) : Option Bool := match u, v with
  | .non, .non => some true
  | .bl a, .bl b => some (decide (a = b))
  | .nd _ _ _, .non => some false
  | .int _, .non => some false
  | .str _, .non => some false
  | .bl _, .non => some false
  | .tup _, .non => some false
  | .nd _ _ _, .bl _ => some false
  | .int _, .bl _ => some false
  | .str _, .bl _ => some false
  | .non, .bl _ => some false
  | .tup _, .bl _ => some false
  | _, _ => none
def tIs : T2 := fun u v => (isT u v).map .bl
def tIsNot : T2 := fun u v => (isT u v).map fun b => .bl (!b)
def keyT : TV → Option L2.Key
  | .int i => some (.inl i)
  | .str x => some (.inr x)
  | _ => none
def kIx (ks : List L2.Key) (k : L2.Key) : Option Nat := match ks with
  | [] => none
  | j :: js => if j = k then some 0 else (kIx js k).map (· + 1)
def valT (ks : List L2.Key) (vs : List TV) (k : L2.Key) : Option TV := (kIx ks k).bind fun m => vs[m]?
def tIx : T2 := fun u v => match u, v with
  | .tup xs, .int i => L2.atI xs i
  | .str z, .int i => if z.length ≤ 16777216 then (L2.atI z.cps.toList i).map fun c => .str ⟨#[c]⟩ else none
  | .nd _ (.dct ks) vs, k => (keyT k).bind fun key => valT ks vs key
  | .nd _ .lst xs, .int i => L2.atI xs i
  | _, _ => none
def flatT : TV → Bool
  | .non | .bl _ | .int _ | .str _ => true
  | _ => false
def eqFT : TV → TV → Bool
  | .non, .non => true
  | .bl a, .bl b => a == b
  | .bl a, .int b => (if a then 1 else 0) == b
  | .int a, .bl b => a == (if b then 1 else 0)
  | .int a, .int b => a == b
  | .str a, .str b => a == b
  | _, _ => false
def inT (u v : TV) : Option Bool := match u, v with
  | .str x, .str z => match x.cps.toList with
    | [c] => some (decide (c ∈ z.cps.toList))
    | _ => some (!(Builtin.Str.occurrences z x 0 z.length 1).isEmpty)
  | u, .tup xs => if flatT u && xs.all flatT then some (xs.any fun y => eqFT y u) else none
  | u, .nd _ (.dct ks) _ => (keyT u).map fun key => (kIx ks key).isSome
  | u, .nd _ .lst xs => if flatT u && xs.all flatT then some (xs.any fun y => eqFT y u) else
      match dT 20 u, (mapO (dT 19) xs).map PyData.list with
        | some d, some (.list ds) => if SeqAt.shaped d && SeqAt.shaped (.list ds) then some (ds.any fun z => PyData.eqv z d) else none
        | _, _ => none
  | _, _ => none
def tIn : T2 := fun u v => (inT u v).map .bl
def tNotIn : T2 := fun u v => (inT u v).map fun b => .bl (!b)
section
variable {S : Sto} {C : Fl → Nat → Prop} {u u' : IV} {v v' z : TV} {L : List Nat}
theorem R0 {u : IV} {v : TV} (h : Rp S C u v []) {w : IV} (e : u = w) (k : Rp S C w v []) : Rp S C w v [] := k
theorem dTs_of {f : IV → Option PyData} {g : TV → Option PyData} (hf : ∀ u v L d, Rp S C u v L → g v = some d → f u = some d) : ∀ (v : List TV) (u : List IV) (L : List Nat) (ds : List PyData), Rps S C u v L → mapO g v = some ds → mapO f u = some ds
  | [], _, _, _, h, e => by obtain ⟨rfl, _⟩ := h.invN; exact e
  | v :: vs, _, _, ds, .cons h q _, e => by
    simp only [mapO] at e ⊢
    cases e1 : g v with
    | none => rw [e1] at e; cases e
    | some d =>
      rw [e1] at e
      cases e2 : mapO g vs with
      | none => rw [e2] at e; cases e
      | some ds' => rw [e2] at e; rw [hf _ _ _ _ h e1, dTs_of hf vs _ _ _ q e2]; exact e
theorem dT_of : ∀ (n : Nat) (u : IV) (v : TV) (L : List Nat) (d : PyData), Rp S C u v L → dT n v = some d → toD S n u = some d
  | 0, _, _, _, _, _, e => by simp only [dT] at e; cases e
  | n + 1, u, v, L, d, h, e => by
    cases v with
    | non => rw [h.non0.1]; exact e
    | bl c => rw [h.bl0.1]; exact e
    | int i => rw [h.int0.1]; exact e
    | str x => rw [h.str0.1]; exact e
    | ty x => simp only [dT] at e; cases e
    | fn x => simp only [dT] at e; cases e
    | tup xs =>
      obtain ⟨ys, rfl, q⟩ := h.tup0
      simp only [dT, Option.map_eq_some_iff] at e
      obtain ⟨ds, e1, rfl⟩ := e
      simp only [toD]
      rw [dTs_of (dT_of n) _ _ _ _ q e1]; rfl
    | nd k g xs =>
      cases g with
      | lst =>
        obtain ⟨ys, M, h1, q, _, _, h4⟩ := h.seq
        simp only [dT, Option.map_eq_some_iff] at e
        obtain ⟨ds, e1, rfl⟩ := e
        rcases h4 with ⟨i, rfl, _⟩ | rfl
        · simp only [toD, h1]; rw [dTs_of (dT_of n) _ _ _ _ q e1]; rfl
        · simp only [toD, h1]; rw [dTs_of (dT_of n) _ _ _ _ q e1]; rfl
      | dct ks => simp only [dT] at e; cases e
      | ins C fs => simp only [dT] at e; cases e
theorem lenNe_T (h : Rp S C u v []) (q : Rp S C u' v' []) : lenNe u u' S = lenNeT v v' ∨ (lenNeT v v' = false ∧ (dT 20 v = none ∨ dT 20 v' = none ∨ lenNe u u' S = false)) := by
  cases v <;> try (right; refine ⟨rfl, ?_⟩)
  case non => right; right; rw [h.non0.1]; rfl
  case bl => right; right; rw [h.bl0.1]; rfl
  case int => right; right; rw [h.int0.1]; rfl
  case str => right; right; rw [h.str0.1]; rfl
  case ty => right; right; rw [h.ty0.1]; rfl
  case fn => right; right; rw [h.fn0.1]; rfl
  case tup => right; right; obtain ⟨ys, rfl, _⟩ := h.tup0; rfl
  case nd k g xs =>
    cases g with
    | lst =>
      obtain ⟨ys, h1, h2, q1, _⟩ := h.seq0
      cases v' <;> try (right; refine ⟨rfl, ?_⟩)
      case non => right; right; rw [q.non0.1]; unfold lenNe; rw [h1]; rfl
      case bl => right; right; rw [q.bl0.1]; unfold lenNe; rw [h1]; rfl
      case int => right; right; rw [q.int0.1]; unfold lenNe; rw [h1]; rfl
      case str => right; right; rw [q.str0.1]; unfold lenNe; rw [h1]; rfl
      case ty => right; right; rw [q.ty0.1]; unfold lenNe; rw [h1]; rfl
      case fn => right; right; rw [q.fn0.1]; unfold lenNe; rw [h1]; rfl
      case tup => right; right; obtain ⟨ys', rfl, _⟩ := q.tup0; unfold lenNe; rw [h1]; rfl
      case nd k' g' xs' =>
        cases g' with
        | lst =>
          left
          obtain ⟨ys', h1', h2', q1', _⟩ := q.seq0
          unfold lenNe lenNeT
          rw [h1, h1']
          simp only [q1.length, q1'.length]
        | dct ks => right; refine ⟨rfl, .inr (.inl rfl)⟩
        | ins C fs => right; refine ⟨rfl, .inr (.inl rfl)⟩
    | dct ks => right; refine ⟨rfl, .inl rfl⟩
    | ins C fs => right; refine ⟨rfl, .inl rfl⟩
theorem eq_gen {f : Option Bool} (b : Bool) (h : Rp S C u v []) (q : Rp S C u' v' []) (e : (if lenNeT v v' then some false else match dT 20 v, dT 20 v' with
    | some d, some e => if SeqAt.shaped d && SeqAt.shaped e then some (PyData.eqv d e) else none
    | _, _ => none) = some b) : (if lenNe u u' S then some false else match toD S 20 u, toD S 20 u' with
    | some d, some e => if SeqAt.shaped d && SeqAt.shaped e then some (PyData.eqv d e) else none
    | _, _ => none) = some b := by
  have hl : lenNe u u' S = lenNeT v v' := by
    rcases lenNe_T h q with z | ⟨z1, z2 | z2 | z2⟩
    · exact z
    · rw [z1, if_neg Bool.false_ne_true, z2] at e; cases e
    · rw [z1, if_neg Bool.false_ne_true, z2] at e
      cases e1 : dT 20 v <;> rw [e1] at e <;> cases e
    · rw [z1, z2]
  rw [hl]
  split at e
  · rename_i h1; rw [if_pos h1]; exact e
  · rename_i h1
    rw [if_neg h1]
    cases e1 : dT 20 v with
    | none => rw [e1] at e; cases e
    | some d =>
      cases e2 : dT 20 v' with
      | none => rw [e1, e2] at e; cases e
      | some d' =>
        rw [e1, e2] at e
        rw [dT_of _ _ _ _ _ h e1, dT_of _ _ _ _ _ q e2]
        exact e
theorem eq_T {b : Bool} (h : Rp S C u v []) (q : Rp S C u' v' []) (e : eqT v v' = some b) : eqI u u' S = some b := by
  have key := eq_gen (f := none) b h q
  cases v with
  | int i =>
    rw [h.int0.1] at key ⊢
    cases v' with
    | int j => rw [q.int0.1]; exact e
    | non => rw [q.non0.1] at key ⊢; exact key e
    | bl c => rw [q.bl0.1] at key ⊢; exact key e
    | str c => rw [q.str0.1] at key ⊢; exact key e
    | ty c => rw [q.ty0.1] at key ⊢; exact key e
    | fn c => rw [q.fn0.1] at key ⊢; exact key e
    | tup c => obtain ⟨ys, rfl, _⟩ := q.tup0; exact key e
    | nd k g xs =>
      have := key e
      cases q <;> exact this
  | str i =>
    rw [h.str0.1] at key ⊢
    cases v' with
    | int j => rw [q.int0.1] at key ⊢; exact key e
    | non => rw [q.non0.1] at key ⊢; exact key e
    | bl c => rw [q.bl0.1] at key ⊢; exact key e
    | str c => rw [q.str0.1]; exact e
    | ty c => rw [q.ty0.1] at key ⊢; exact key e
    | fn c => rw [q.fn0.1] at key ⊢; exact key e
    | tup c => obtain ⟨ys, rfl, _⟩ := q.tup0; exact key e
    | nd k g xs =>
      have := key e
      cases q <;> exact this
  | bl i =>
    rw [h.bl0.1] at key ⊢
    cases v' with
    | int j => rw [q.int0.1] at key ⊢; exact key e
    | non => rw [q.non0.1] at key ⊢; exact key e
    | bl c => rw [q.bl0.1]; exact e
    | str c => rw [q.str0.1] at key ⊢; exact key e
    | ty c => rw [q.ty0.1] at key ⊢; exact key e
    | fn c => rw [q.fn0.1] at key ⊢; exact key e
    | tup c => obtain ⟨ys, rfl, _⟩ := q.tup0; exact key e
    | nd k g xs =>
      have := key e
      cases q <;> exact this
  | non =>
    rw [h.non0.1] at key ⊢
    cases v' with
    | int j => rw [q.int0.1] at key ⊢; exact key e
    | non => rw [q.non0.1]; exact e
    | bl c => rw [q.bl0.1] at key ⊢; exact key e
    | str c => rw [q.str0.1] at key ⊢; exact key e
    | ty c => rw [q.ty0.1] at key ⊢; exact key e
    | fn c => rw [q.fn0.1] at key ⊢; exact key e
    | tup c => obtain ⟨ys, rfl, _⟩ := q.tup0; exact key e
    | nd k g xs =>
      have := key e
      cases q <;> exact this
  | ty i => simp only [eqT, lenNeT, if_neg Bool.false_ne_true, dT] at e; cases e
  | fn i => simp only [eqT, lenNeT, if_neg Bool.false_ne_true, dT] at e; cases e
  | tup xs =>
    obtain ⟨ys, rfl, _⟩ := h.tup0
    have e' : eqT (.tup xs) v' = (if lenNeT (.tup xs) v' then some false else match dT 20 (.tup xs), dT 20 v' with
      | some d, some e => if SeqAt.shaped d && SeqAt.shaped e then some (PyData.eqv d e) else none
      | _, _ => none) := by cases v' <;> rfl
    rw [e'] at e
    have := key e
    cases u' <;> exact this
  | nd k g xs =>
    have e' : eqT (.nd k g xs) v' = (if lenNeT (.nd k g xs) v' then some false else match dT 20 (.nd k g xs), dT 20 v' with
      | some d, some e => if SeqAt.shaped d && SeqAt.shaped e then some (PyData.eqv d e) else none
      | _, _ => none) := by cases v' <;> rfl
    rw [e'] at e
    have := key e
    cases h <;> cases u' <;> exact this
theorem o2_old {f : O2} {g : T2} (h : ∀ (S : Sto) (C : Fl → Nat → Prop) (u v : IV) (x y z : TV), Rp S C u x [] → Rp S C v y [] → g x y = some z → ∃ w, f u v S = some (w, S) ∧ Rp S C w z []) : O2T f g := fun S C u v x y _ h1 h2 z e => by
  obtain ⟨w, e1, r⟩ := h S C u v x y z h1 h2 e
  exact ⟨w, S, e1, .old r⟩
theorem x_eq : O2T iEq tEq := o2_old fun S C u v x y z h1 h2 e => by
  simp only [tEq, Option.map_eq_some_iff] at e
  obtain ⟨b, e, rfl⟩ := e
  exact ⟨.bl b, by simp only [iEq, eq_T h1 h2 e, Option.map_some], .bl b⟩
theorem x_ne : O2T iNe tNe := o2_old fun S C u v x y z h1 h2 e => by
  simp only [tNe, Option.map_eq_some_iff] at e
  obtain ⟨b, e, rfl⟩ := e
  exact ⟨.bl (!b), by simp only [iNe, eq_T h1 h2 e, Option.map_some], .bl _⟩
theorem x_sub : O2T iSub tSub := o2_old fun S C u v x y z h1 h2 e => by
  unfold tSub at e; split at e <;> cases e
  rw [h1.int0.1, h2.int0.1]; exact ⟨_, rfl, .int _⟩
theorem x_lt : O2T iLt tLt := o2_old fun S C u v x y z h1 h2 e => by
  unfold tLt at e
  split at e
  · cases e
    rw [h1.int0.1, h2.int0.1]; exact ⟨_, rfl, .bl _⟩
  · rename_i hno
    rw [Option.map_eq_some_iff] at e
    obtain ⟨b, e1, rfl⟩ := e
    refine ⟨.bl b, ?_, .bl _⟩
    have e2 : ltD (toD S 20 u) (toD S 20 v) = some b := by
      cases k1 : dT 20 x with
      | none => rw [k1] at e1; cases e1
      | some d =>
        cases k2 : dT 20 y with
        | none => rw [k1, k2] at e1; cases e1
        | some d2 => rw [dT_of 20 _ _ _ _ h1 k1, dT_of 20 _ _ _ _ h2 k2, ← k1, ← k2]; exact e1
    unfold iLt
    split
    · cases h1; cases h2; exact (hno _ _ rfl rfl).elim
    · rw [e2]; rfl
theorem x_le : O2T iLe tLe := o2_old fun S C u v x y z h1 h2 e => by
  unfold tLe at e; split at e <;> cases e
  rw [h1.int0.1, h2.int0.1]; exact ⟨_, rfl, .bl _⟩
theorem x_gt : O2T iGt tGt := o2_old fun S C u v x y z h1 h2 e => by
  unfold tGt at e; split at e <;> cases e
  rw [h1.int0.1, h2.int0.1]; exact ⟨_, rfl, .bl _⟩
theorem x_ge : O2T iGe tGe := o2_old fun S C u v x y z h1 h2 e => by
  unfold tGe at e; split at e <;> cases e
  rw [h1.int0.1, h2.int0.1]; exact ⟨_, rfl, .bl _⟩
theorem x_and : O2T iAnd tAnd := o2_old fun S C u v x y z h1 h2 e => by
  unfold tAnd at e; split at e <;> cases e
  rw [h1.int0.1, h2.int0.1]; exact ⟨_, rfl, .int _⟩
theorem x_fdiv : O2T iFdiv tFdiv := o2_old fun S C u v x y z h1 h2 e => by
  unfold tFdiv at e
  split at e
  · split at e
    · rename_i hc; cases e; rw [h1.int0.1, h2.int0.1]; exact ⟨_, by simp only [iFdiv, if_pos hc], .int _⟩
    · cases e
  · cases e
theorem x_mod : O2T iMod tMod := o2_old fun S C u v x y z h1 h2 e => by
  unfold tMod at e
  split at e
  · split at e
    · rename_i hc; cases e; rw [h1.int0.1, h2.int0.1]; exact ⟨_, by simp only [iMod, if_pos hc], .int _⟩
    · cases e
  · cases e
theorem x_pow : O2T iPow tPow := o2_old fun S C u v x y z h1 h2 e => by
  unfold tPow at e
  split at e
  · split at e
    · rename_i hc; cases e; rw [h1.int0.1, h2.int0.1]; exact ⟨_, by simp only [iPow, if_pos hc], .int _⟩
    · cases e
  · cases e
theorem x_shl : O2T iShl tShl := o2_old fun S C u v x y z h1 h2 e => by
  unfold tShl at e
  split at e
  · split at e
    · rename_i hc; cases e; rw [h1.int0.1, h2.int0.1]; exact ⟨_, by simp only [iShl, if_pos hc], .int _⟩
    · cases e
  · cases e
theorem x_shr : O2T iShr tShr := o2_old fun S C u v x y z h1 h2 e => by
  unfold tShr at e
  split at e
  · split at e
    · rename_i hc; cases e; rw [h1.int0.1, h2.int0.1]; exact ⟨_, by simp only [iShr, if_pos hc], .int _⟩
    · cases e
  · cases e
theorem x_neg : O1T iNeg tNeg := fun S C u x _ h z e => by
  unfold tNeg at e
  split at e
  · cases e; rw [h.int0.1]; exact ⟨_, S, rfl, .old (.int _)⟩
  · cases e
theorem x_add : O2T iAdd tAdd := fun S C u v x y _ h1 h2 z e => by
  unfold tAdd at e
  split at e
  · cases e; rw [h1.int0.1, h2.int0.1]; exact ⟨_, S, rfl, .old (.int _)⟩
  · cases e; rw [h1.int0.1, h2.bl0.1]; exact ⟨_, S, rfl, .old (.int _)⟩
  · split at e
    · rename_i hc; cases e; rw [h1.str0.1, h2.str0.1]; exact ⟨_, S, by simp only [iAdd, if_pos hc], .old (.str _)⟩
    · cases e
  · split at e
    · cases e
    · rename_i xs ys hc
      cases e
      obtain ⟨us, rfl, q1⟩ := h1.tup0
      obtain ⟨us', rfl, q2⟩ := h2.tup0
      have hc' : ¬ (us.isEmpty || decide (16777216 < us.length + us'.length)) = true := by
        rw [q1.length, q2.length]
        have : us.isEmpty = xs.isEmpty := by
          have := q1.length
          cases us <;> cases xs <;> first | rfl | simp at this
        rw [this]; exact hc
      exact ⟨_, S, by simp only [iAdd, if_neg hc'], .old (.tup (q1.app0 q2))⟩
  · split at e
    · rename_i k xs k' ys hc
      cases e
      obtain ⟨us, a1, _, q1, a4⟩ := h1.seq0
      obtain ⟨us', b1, _, q2, b4⟩ := h2.seq0
      have hc' : us.length + us'.length ≤ 16777216 := by rw [q1.length, q2.length]; exact hc
      refine ⟨.ref S.length, S ++ [.lst (us ++ us')], ?_, .new (g := .lst) trivial (q1.app0 q2)⟩
      rcases a4 with ⟨i, rfl, _⟩ | rfl <;> rcases b4 with ⟨j, rfl, _⟩ | rfl <;> simp only [iAdd, a1, b1, if_pos hc']
    · cases e
  · cases e
theorem x_augAdd : O2T iAugAdd tAugAdd := o2_old fun S C u v x y z h1 h2 e => by
  unfold tAugAdd at e
  split at e
  · cases e; rw [h1.int0.1, h2.int0.1]; exact ⟨_, rfl, .int _⟩
  · split at e
    · rename_i hc; cases e; rw [h1.str0.1, h2.str0.1]; exact ⟨_, by simp only [iAugAdd, if_pos hc], .str _⟩
    · cases e
  · cases e
theorem x_mul : O2T iMul tMul := fun S C u v x y _ h1 h2 z e => by
  unfold tMul at e
  split at e
  · split at e
    · rename_i hc; cases e; rw [h1.int0.1, h2.int0.1]; exact ⟨_, S, by simp only [iMul, if_pos hc], .old (.int _)⟩
    · cases e
  · split at e
    · rename_i hc; cases e; rw [h1.str0.1, h2.int0.1]; exact ⟨_, S, by simp only [iMul, if_pos hc], .old (.str _)⟩
    · cases e
  · split at e
    · rename_i k xs n hc
      cases e
      obtain ⟨us, a1, _, q1, a4⟩ := h1.seq0
      rw [h2.int0.1]
      rw [← q1.length] at hc
      refine ⟨.ref S.length, S ++ [.lst (List.replicate n.toNat us).flatten], ?_, .new (g := .lst) trivial (q1.rep _)⟩
      rcases a4 with ⟨i, rfl, _⟩ | rfl <;> simp only [iMul, a1, if_pos hc]
    · cases e
  · cases e
theorem is_T {b : Bool} (h1 : Rp S C u v []) (h2 : Rp S C u' v' []) (e : isT v v' = some b) : isI u u' = some b := by
  unfold isT at e
  split at e <;> cases e
  · rw [h1.non0.1, h2.non0.1]; rfl
  · rw [h1.bl0.1, h2.bl0.1]; rfl
  · rw [h2.non0.1]; cases h1 <;> rfl
  · rw [h1.int0.1, h2.non0.1]; rfl
  · rw [h1.str0.1, h2.non0.1]; rfl
  · rw [h1.bl0.1, h2.non0.1]; rfl
  · obtain ⟨ys, rfl, _⟩ := h1.tup0; rw [h2.non0.1]; rfl
  · rw [h2.bl0.1]; cases h1 <;> rfl
  · rw [h1.int0.1, h2.bl0.1]; rfl
  · rw [h1.str0.1, h2.bl0.1]; rfl
  · rw [h1.non0.1, h2.bl0.1]; rfl
  · obtain ⟨ys, rfl, _⟩ := h1.tup0; rw [h2.bl0.1]; rfl
theorem x_is : O2T iIs tIs := o2_old fun S C u v x y z h1 h2 e => by
  simp only [tIs, Option.map_eq_some_iff] at e
  obtain ⟨b, e, rfl⟩ := e
  exact ⟨.bl b, by simp only [iIs, is_T h1 h2 e, Option.map_some], .bl b⟩
theorem x_isNot : O2T iIsNot tIsNot := o2_old fun S C u v x y z h1 h2 e => by
  simp only [tIsNot, Option.map_eq_some_iff] at e
  obtain ⟨b, e, rfl⟩ := e
  exact ⟨.bl (!b), by simp only [iIsNot, is_T h1 h2 e, Option.map_some], .bl _⟩
/-! dicts -/
theorem valI_keys {key : L2.Key} : ∀ {ks : List L2.Key} {xs : List IV}, ks.length = xs.length → valI (keysOf ks xs) key = (kIx ks key).bind fun m => xs[m]?
  | [], [], _ => rfl
  | k :: ks, x :: xs, h => by
    have ih := valI_keys (key := key) (ks := ks) (xs := xs) (by simpa using h)
    simp only [keysOf, kIx, valI, List.find?_cons]
    by_cases hk : k = key
    · simp [hk]
    · simp only [decide_eq_false hk, if_neg hk]
      unfold valI at ih
      rw [ih]
      cases kIx ks key <;> simp
theorem keyT_of {k : L2.Key} (h : Rp S C u v []) (e : keyT v = some k) : keyI u = some k := by
  unfold keyT at e
  split at e <;> cases e
  · rw [h.int0.1]; rfl
  · rw [h.str0.1]; rfl
theorem atI_T {us : List IV} {vs : List TV} {i : Int} {x : TV} (h : Rps S C us vs []) (e : L2.atI vs i = some x) : ∃ y, L2.atI us i = some y ∧ Rp S C y x [] := by
  unfold L2.atI at e ⊢
  rw [h.length]
  cases hk : L2.ixN vs.length i with
  | none => rw [hk] at e; cases e
  | some j => rw [hk] at e; exact h.get e
theorem val_T {ks : List L2.Key} {key : L2.Key} {us : List IV} {vs : List TV} {x : TV} (hl : ks.length = us.length) (h : Rps S C us vs []) (e : valT ks vs key = some x) : ∃ y, valI (keysOf ks us) key = some y ∧ Rp S C y x [] := by
  rw [valI_keys hl]
  unfold valT at e
  cases hk : kIx ks key with
  | none => rw [hk] at e; cases e
  | some m => rw [hk] at e; exact h.get e
theorem ix_T : ∀ (S : Sto) (C : Fl → Nat → Prop) (u v : IV) (x y z : TV), Rp S C u x [] → Rp S C v y [] → tIx x y = some z → ∃ w, iIx u v S = some (w, S) ∧ Rp S C w z [] := fun S C u v x y z h1 h2 e => by
  unfold tIx at e
  split at e
  · obtain ⟨us, rfl, q⟩ := h1.tup0
    rw [h2.int0.1]
    obtain ⟨w, e1, r⟩ := atI_T q e
    exact ⟨w, by simp only [iIx, ixI, e1, Option.map_some], r⟩
  · split at e
    · rename_i hc
      rw [Option.map_eq_some_iff] at e
      obtain ⟨c, e1, rfl⟩ := e
      rw [h1.str0.1, h2.int0.1]
      exact ⟨.str ⟨#[c]⟩, by simp only [iIx, ixI, if_pos hc, e1, Option.map_some], .str _⟩
    · cases e
  · rename_i kf ks vs
    rw [Option.bind_eq_some_iff] at e
    obtain ⟨key, e1, e2⟩ := e
    obtain ⟨i, xs, rfl, e', hl, q⟩ := h1.dct0
    obtain ⟨w, e3, r⟩ := val_T hl q e2
    have hd : dctI (.ref i) S = some (i, keysOf ks xs) := by simp only [dctI]; rw [e']
    refine ⟨w, ?_, r⟩
    simp only [iIx]
    have : ixI (.ref i) v S = some w := by
      simp only [ixI, hd, keyT_of h2 e1, Option.bind_some, e3]
    rw [this]; rfl
  · obtain ⟨us, a1, a2, q, a4⟩ := h1.seq0
    rw [h2.int0.1]
    obtain ⟨w, e1, r⟩ := atI_T q e
    refine ⟨w, ?_, r⟩
    rcases a4 with ⟨i, rfl, _⟩ | rfl <;> simp only [iIx, ixI, a2, a1, e1, Option.map_some]
  · cases e
theorem x_ix : O2T iIx tIx := o2_old ix_T
theorem flat_T {u : IV} {v : TV} {L : List Nat} (h : Rp S C u v L) (e : flatT v = true) : flatI u = true ∧ (∀ w : IV, True) := by
  cases v <;> simp only [flatT] at e <;> try (cases e; done)
  · rw [h.non0.1]; exact ⟨rfl, fun _ => trivial⟩
  · rw [h.bl0.1]; exact ⟨rfl, fun _ => trivial⟩
  · rw [h.int0.1]; exact ⟨rfl, fun _ => trivial⟩
  · rw [h.str0.1]; exact ⟨rfl, fun _ => trivial⟩
theorem eqF_T (h : Rp S C u v []) (q : Rp S C u' v' []) (f1 : flatT v = true) (f2 : flatT v' = true) : eqF u u' = eqFT v v' := by
  cases v <;> simp only [flatT] at f1 <;> (try (cases f1; done)) <;> cases v' <;> simp only [flatT] at f2 <;> try (cases f2; done)
  all_goals (cases h; cases q; rfl)
theorem any_T : ∀ {vs : List TV} {us : List IV}, Rps S C us vs [] → vs.all flatT = true → ∀ {u : IV} {v : TV}, Rp S C u v [] → flatT v = true → us.all flatI = true ∧ (us.any fun y => eqF y u) = vs.any fun y => eqFT y v
  | [], _, h, _, _, _, _, _ => by obtain ⟨rfl, _⟩ := h.invN; exact ⟨rfl, rfl⟩
  | v :: vs, _, h, a, u, w, r, f => by
    obtain ⟨y, ys, rfl, h1, h2⟩ := h.inv0
    simp only [List.all_cons, Bool.and_eq_true] at a
    obtain ⟨i1, i2⟩ := any_T h2 a.2 r f
    simp only [List.all_cons, List.any_cons, i1, i2, (flat_T h1 a.1).1, eqF_T h1 r a.1 f, Bool.and_self, and_self]
theorem flats_of : ∀ {vs : List TV} {us : List IV}, Rps S C us vs [] → us.all flatI = true → vs.all flatT = true
  | [], _, _, _ => rfl
  | v :: vs, _, h, a => by
    obtain ⟨y, ys, rfl, h1, h2⟩ := h.inv0
    simp only [List.all_cons, Bool.and_eq_true] at a ⊢
    refine ⟨?_, flats_of h2 a.2⟩
    cases h1 <;> first | rfl | (cases a.1; done)
theorem flat_of (h : Rp S C u v []) (a : flatI u = true) : flatT v = true := by
  cases h <;> first | rfl | (cases a; done)
theorem kIx_any {key : L2.Key} : ∀ {ks : List L2.Key} {xs : List IV}, ks.length = xs.length → (valI (keysOf ks xs) key).isSome = (kIx ks key).isSome
  | ks, xs, h => by
    rw [valI_keys h]
    cases hk : kIx ks key with
    | none => rfl
    | some m =>
      have : ∀ {ks : List L2.Key} {m : Nat}, kIx ks key = some m → m < ks.length := fun {ks} => by
        induction ks with
        | nil => intro m h; cases h
        | cons k ks ih =>
          intro m h
          simp only [kIx] at h
          split at h
          · cases h; simp
          · rw [Option.map_eq_some_iff] at h
            obtain ⟨m', h1, rfl⟩ := h
            have := ih h1
            simp; omega
      have := this hk
      simp only [Option.bind_some, Option.isSome_some]
      rw [List.getElem?_eq_getElem (by omega)]; rfl
theorem in_T {b : Bool} (h : Rp S C u v []) (q : Rp S C u' v' []) (e : inT v v' = some b) : inI u u' S = some b := by
  unfold inT at e
  split at e
  · rw [h.str0.1, q.str0.1]; exact e
  · obtain ⟨us, rfl, q1⟩ := q.tup0
    split at e
    · rename_i hc
      rw [Bool.and_eq_true] at hc
      obtain ⟨i1, i2⟩ := any_T q1 hc.2 h hc.1
      cases e
      have hu := (flat_T h hc.1).1
      have : inI u (.tup us) S = if flatI u && us.all flatI then some (us.any fun y => eqF y u) else none := by cases u <;> rfl
      rw [this, hu, i1, i2]; rfl
    · cases e
  · rename_i kf ks vs0
    rw [Option.map_eq_some_iff] at e
    obtain ⟨key, e1, rfl⟩ := e
    obtain ⟨i, xs, rfl, e', hl, q1⟩ := q.dct0
    have hd : dctI (.ref i) S = some (i, keysOf ks xs) := by simp only [dctI]; rw [e']
    have : inI u (.ref i) S = (keyI u).map fun key => (valI (keysOf ks xs) key).isSome := by
      cases u <;> simp only [inI, hd]
    rw [this, keyT_of h e1, Option.map_some, kIx_any hl]
  · rename_i kf xs
    obtain ⟨us, a1, a2, q1, a4⟩ := q.seq0
    have : inI u u' S = if flatI u && us.all flatI then some (us.any fun y => eqF y u) else
        match toD S 20 u, toD S 20 u' with
        | some d, some (.list ds) => if SeqAt.shaped d && SeqAt.shaped (.list ds) then some (ds.any fun z => PyData.eqv z d) else none
        | _, _ => none := by
      rcases a4 with ⟨i, rfl, _⟩ | rfl <;> cases u <;> simp only [inI, a2, a1] <;> rfl
    rw [this]
    split at e
    · rename_i hc
      rw [Bool.and_eq_true] at hc
      obtain ⟨i1, i2⟩ := any_T q1 hc.2 h hc.1
      rw [(flat_T h hc.1).1, i1, i2]; exact e
    · rename_i hc
      have hc' : ¬ (flatI u && us.all flatI) = true := fun z => by
        rw [Bool.and_eq_true] at z
        exact hc (by rw [flat_of h z.1, flats_of q1 z.2]; rfl)
      rw [if_neg hc']
      split at e
      · rename_i d ds h1 h2
        have h3 : dT 20 (.nd kf .lst xs) = some (.list ds) := h2
        rw [dT_of _ _ _ _ _ h h1, dT_of _ _ _ _ _ q h3]
        exact e
      · cases e
  · cases e
theorem x_in : O2T iIn tIn := o2_old fun S C u v x y z h1 h2 e => by
  simp only [tIn, Option.map_eq_some_iff] at e
  obtain ⟨b, e, rfl⟩ := e
  exact ⟨.bl b, by simp only [iIn, in_T h1 h2 e, Option.map_some], .bl b⟩
theorem x_notIn : O2T iNotIn tNotIn := o2_old fun S C u v x y z h1 h2 e => by
  simp only [tNotIn, Option.map_eq_some_iff] at e
  obtain ⟨b, e, rfl⟩ := e
  exact ⟨.bl (!b), by simp only [iNotIn, in_T h1 h2 e, Option.map_some], .bl _⟩
/-! comparisons leave the store -/
theorem c_lt : Calm2 iLt := fun u v S w S' e => by
  unfold iLt at e
  split at e
  · cases e; exact ⟨_, rfl, rfl⟩
  · rw [Option.map_eq_some_iff] at e; obtain ⟨b, _, e⟩ := e; cases e; exact ⟨_, rfl, rfl⟩
theorem c_le : Calm2 iLe := fun u v S w S' e => by unfold iLe at e; split at e <;> cases e; exact ⟨_, rfl, rfl⟩
theorem c_gt : Calm2 iGt := fun u v S w S' e => by unfold iGt at e; split at e <;> cases e; exact ⟨_, rfl, rfl⟩
theorem c_ge : Calm2 iGe := fun u v S w S' e => by unfold iGe at e; split at e <;> cases e; exact ⟨_, rfl, rfl⟩
theorem c_eq : Calm2 iEq := fun u v S w S' e => by simp only [iEq, Option.map_eq_some_iff] at e; obtain ⟨b, _, e⟩ := e; cases e; exact ⟨_, rfl, rfl⟩
theorem c_ne : Calm2 iNe := fun u v S w S' e => by simp only [iNe, Option.map_eq_some_iff] at e; obtain ⟨b, _, e⟩ := e; cases e; exact ⟨_, rfl, rfl⟩
end
end IP
namespace IP
open PySem L2
/-! ### written dicts of the module -/
def kT : Key → TV
  | .inl i => .int i
  | .inr x => .str x
def dKeyT : TV → Option Key
  | .int i => some (.inl i)
  | .str x => some (.inr x)
  | _ => none
def uDcGet (kvs : List (Key × Key)) : T1 := fun v => (dKeyT v).map fun k => ((dcFind kvs k).map kT).getD .non
def uDcIn (kvs : List (Key × Key)) : T1 := fun v => (dKeyT v).map fun k => .bl (dcFind kvs k).isSome
def uDcNi (kvs : List (Key × Key)) : T1 := fun v => (dKeyT v).map fun k => .bl (!(dcFind kvs k).isSome)
def uDcIx (kvs : List (Key × Key)) : T1 := fun v => (dKeyT v).bind fun k => (dcFind kvs k).map kT
section
variable {kvs : List (Key × Key)}
theorem dKeyT_rel {S : Sto} {C : Fl → Nat → Prop} {u : IV} {x : TV} {k : Key} (h : Rp S C u x []) (e : dKeyT x = some k) : dKey u = some k := by
  unfold dKeyT at e
  split at e
  · cases e; rw [h.int0.1]; rfl
  · cases e; rw [h.str0.1]; rfl
  · cases e
theorem rp_kT {S : Sto} {C : Fl → Nat → Prop} : ∀ z : Key, Rp S C (kI z) (kT z) []
  | .inl i => .int i
  | .inr x => .str x
theorem xd_Get : O1T (dcGet kvs) (uDcGet kvs) := fun S C u x _ h z e => by
  unfold uDcGet at e
  simp only [Option.map_eq_some_iff] at e
  obtain ⟨k, e1, e2⟩ := e
  subst e2
  unfold dcGet
  rw [dKeyT_rel h e1]
  refine ⟨_, S, rfl, .old ?_⟩
  cases dcFind kvs k with
  | none => exact .non
  | some v => exact rp_kT v
theorem xd_In : O1T (dcIn kvs) (uDcIn kvs) := fun S C u x _ h z e => by
  unfold uDcIn at e
  simp only [Option.map_eq_some_iff] at e
  obtain ⟨k, e1, e2⟩ := e
  subst e2
  unfold dcIn
  rw [dKeyT_rel h e1]
  exact ⟨_, S, rfl, .old (.bl _)⟩
theorem xd_Ni : O1T (dcNi kvs) (uDcNi kvs) := fun S C u x _ h z e => by
  unfold uDcNi at e
  simp only [Option.map_eq_some_iff] at e
  obtain ⟨k, e1, e2⟩ := e
  subst e2
  unfold dcNi
  rw [dKeyT_rel h e1]
  exact ⟨_, S, rfl, .old (.bl _)⟩
theorem xd_Ix : O1T (dcIx kvs) (uDcIx kvs) := fun S C u x _ h z e => by
  unfold uDcIx at e
  simp only [Option.bind_eq_some_iff, Option.map_eq_some_iff] at e
  obtain ⟨k, e1, v, e2, e3⟩ := e
  subst e3
  unfold dcIx
  rw [dKeyT_rel h e1, Option.bind_some, e2]
  exact ⟨_, S, rfl, .old (rp_kT v)⟩
end
end IP
namespace IP
open PySem L2
/-! ### {k: v}, or of values -/
def vDisp1 (a b : VE) : VE := fun e => match a e with
  | .ok x e1 => match b e1 with
    | .ok y e2 => match dKeyT x with
      | some k => .ok (.nd .o (.dct [k]) [y]) e2
      | none => .no
    | _ => .no
  | _ => .no
section
variable {kp ws : List Nat} {cl cl' : Bool} {m m' : SE} {w w' : VE}
theorem dKeyT_L {S : Sto} {C : Fl → Nat → Prop} {u : IV} {x : TV} {k : Key} {L : List Nat} (h : Rp S C u x L) (e : dKeyT x = some k) : dKey u = some k ∧ L = [] := by
  unfold dKeyT at e
  split at e
  · cases e; rw [h.int0.1]; exact ⟨rfl, h.int0.2⟩
  · cases e; rw [h.str0.1]; exact ⟨rfl, h.str0.2⟩
  · cases e
theorem vo_disp1 (h : VEok kp ws cl m w) (q : VEok kp [] cl' m' w') : VEok kp [] false (mDisp1 m m') (vDisp1 w w') := fun b N0 A t S env Ls I => by
  unfold vDisp1
  have I0 := I.nil.new (.dct [])
  have hS0 : (S ++ [SO.dct []])[S.length]? = some (.dct []) := by rw [List.getElem?_append_right (Nat.le_refl _), Nat.sub_self]; rfl
  have H1 := h b N0 (A ++ [S.length]) t (S ++ [.dct []]) env Ls I0
  cases hw : w env with
  | ex c fs e => trivial
  | no => trivial
  | ok x e1 =>
    rw [hw] at H1
    obtain ⟨u, S1, L1, Ls1, em, I1, st1, hL1, r1, c1⟩ := H1
    dsimp only
    cases hw2 : w' e1 with
    | ex c fs e => trivial
    | no => trivial
    | ok y e2 =>
      dsimp only
      cases hk : dKeyT x with
      | none => trivial
      | some k =>
        obtain ⟨ku, rfl⟩ := dKeyT_L r1 hk
        rw [List.append_nil] at I1
        have H2 := q b N0 (A ++ [S.length]) t S1 e1 Ls1 I1
        rw [hw2] at H2
        obtain ⟨u2, S2, L2, Ls2, em2, I2, st2, hL2, r2, c2⟩ := H2
        have hm : S.length ∈ A ++ [S.length] := List.mem_append_right _ List.mem_cons_self
        have d1 : S1[S.length]? = some (.dct []) := by rw [st1.keep _ (lt_of_some hS0) (fun y => I0.ad _ hm y)]; exact hS0
        have d2 : S2[S.length]? = some (.dct []) := by rw [st2.keep _ (lt_of_some d1) (fun y => I1.ad _ hm y)]; exact d1
        rw [List.append_assoc] at I2 r2
        have hd : S.length ∈ A ++ (S.length :: L2) := List.mem_append_right _ List.mem_cons_self
        have nd2 : S.length ∉ L2 := (List.nodup_cons.mp (List.nodup_append.mp I2.an).2.1).1
        have st := st1.trans st2
        refine ⟨.ref S.length, S2.set S.length (.dct [(k, u2)]), S.length :: L2, Ls2, ?_, Inv.setA I2 hd _, ⟨?_, fun j hj hn => ?_, fun y j hj => ?_⟩, fun j hj => ?_, ?_, fun z => by cases z⟩
        · unfold mDisp1
          rw [em]
          simp only [R.bind]
          rw [em2]
          simp only [R.bind, dispEnd, ku, d2, R.ofO]
        · rw [List.length_set]
          have := st.len
          rw [List.length_append] at this
          omega
        · rw [List.getElem?_set_ne (by omega), st.keep j (by rw [List.length_append]; omega) hn, List.getElem?_append_left hj]
        · rcases st.own y j hj with k | k
          · exact .inl k
          · rw [List.length_append] at k
            exact .inr (by omega)
        · rcases List.mem_cons.mp hj with rfl | hj
          · exact Nat.le_refl _
          · have k1 := hL2 j hj
            have k2 := lt_of_some d1
            omega
        · have r3 : Rps S2 (Cst b N0 Ls2 (A ++ S.length :: L2) (Wn [] Ls2)) [u2] [y] L2 := .cons r2 .nil (by simp)
          have r4 := Rps.setA I2 hd (.dct [(k, u2)]) r3 nd2
          exact .own (g := .dct [k]) (xs := [u2]) (by rw [List.getElem?_set_self (lt_of_some d2)]; rfl) ⟨rfl, by simp⟩ r4
end
end IP
namespace IP
open PySem L2
/-! ### a variable's item: its items are shared from then on, the variable keeps its own place -/
def ixS (i : Nat) (k : TV) (e1 : Env) (o : Option (Option TV)) : RV TV := match o with
  | some (some (.nd .o g vs)) => match dKeyT k, tIx (.nd .w g (TV.fls fSh vs)) k with
    | some _, some z => if z.all fNw then .ok z (e1.set i (some (.nd .o g (TV.fls fSh vs)))) else .no
    | _, _ => .no
  | _ => .no
def ixK (i : Nat) (r : RV TV) : RV TV := match r with
  | .ok k e1 => ixS i k e1 e1[i]?
  | _ => .no
def vIxS (i : Nat) (b : VE) : VE := fun e => ixK i (b e)
section
variable {b : Nat} {N0 : Nat → Prop} {kp ws : List Nat} {A : List Nat} {t : Slo} {S : Sto} {env : Env} {Ls : LsT} {cl : Bool} {mb : SE} {wb : VE}
theorem Inv.setC (I : Inv b N0 kp A t S env Ls) {x : Nat} {g : Tag} {vs : List TV} (e : env[x]? = some (some (.nd .o g vs))) (hk : x ∉ kp) : ∃ p xs, t[x]? = some (some (.ref p)) ∧ S[p]? = some (mkO g xs) ∧ okG g xs.length ∧
    Inv b N0 kp A t S (env.set x (some (.nd .o g (TV.fls fSh vs)))) (fun y => if y = x then [p] else Ls y) ∧ Rps S (Cst b N0 (fun y => if y = x then [p] else Ls y) A W0) xs (TV.fls fSh vs) [] := by
  obtain ⟨u, e1, r⟩ := I.at_ x _ e
  have ndx := I.nd x
  generalize hL : Ls x = L0 at r ndx
  cases r with
  | ref h => exact absurd rfl h
  | own h1 h2 h3 =>
    rename_i p xs M
    have hp : p ∈ Ls x := by rw [hL]; exact List.mem_cons_self
    have hM : ∀ j ∈ M, j ∈ Ls x := fun j hj => by rw [hL]; exact List.mem_cons_of_mem _ hj
    have npM : p ∉ M := (List.nodup_cons.mp ndx).1
    have sub : ∀ {y j : Nat}, j ∈ (if y = x then [p] else Ls y) → j ∈ Ls y := fun {y j} h => by
      split at h
      · rename_i n; rw [n, List.mem_singleton.mp h]; exact hp
      · exact h
    have fr : ∀ {j : Nat}, Fresh Ls A j → Fresh (fun y => if y = x then [p] else Ls y) A j := fun {j} h => ⟨fun y m => h.1 y (sub m), h.2⟩
    have hx : x < env.length := lt_of_some e
    have rs : Rps S (Cst b N0 (fun y => if y = x then [p] else Ls y) A W0) xs (TV.fls fSh vs) [] := by
      refine h3.gen2 rfl (fun k => by cases k <;> nofun) (fun k j o hk hc hs => ⟨?_, hs⟩) fun j o hj hs => ⟨⟨(I.fr x j (hM j hj)).resolve_right hk, fun y m => ?_, fun m => I.ad j m x (hM j hj)⟩, hs⟩
      · cases k with
        | o => exact absurd rfl hk
        | s => exact ⟨hc.1, fr hc.2⟩
        | z => exact ⟨hc.1, fr hc.2⟩
        | w => exact hc
      · have hyx : y = x := I.dj y x j (sub m) (hM j hj)
        have m' : j ∈ (if y = x then [p] else Ls y) := m
        rw [if_pos hyx] at m'
        rw [List.mem_singleton.mp m'] at hj
        exact npM hj
    refine ⟨p, xs, e1, h1, h2, ⟨I.lb, by rw [List.length_set]; exact I.len, fun y v' e' => ?_, fun y hy => ?_, fun y => ?_, fun y z j h1 h2 => I.dj y z j (sub h1) (sub h2), fun y j h => I.fr y j (sub h), I.an, fun j hj y hy => I.ad j hj y (sub hy), I.al⟩, rs⟩
    · rw [List.getElem?_set] at e'
      by_cases hxy : x = y
      · subst hxy
        rw [if_pos rfl, if_pos hx] at e'
        cases e'
        refine ⟨.ref p, e1, ?_⟩
        show Rp S _ _ _ (if x = x then [p] else Ls x)
        rw [if_pos rfl]
        exact .own h1 h2 rs
      · rw [if_neg hxy] at e'
        obtain ⟨u, e1, r⟩ := I.at_ y v' e'
        refine ⟨u, e1, ?_⟩
        show Rp S _ _ _ (if y = x then [p] else Ls y)
        rw [if_neg (Ne.symm hxy)]
        refine r.mono (fun k j o hk hc hs => ⟨?_, hs⟩) fun _ _ => rfl
        cases k with
        | o => exact absurd rfl hk
        | s => exact ⟨hc.1, fr hc.2⟩
        | z => exact ⟨hc.1, fr hc.2⟩
        | w => exact hc
    · by_cases hxy : y = x
      · subst hxy
        exact (hy _ (List.getElem?_set_self hx)).elim
      · show (if y = x then [p] else Ls y) = []
        rw [if_neg hxy]
        refine I.dead y fun v' e' => hy v' ?_
        rw [List.getElem?_set_ne (Ne.symm hxy)]; exact e'
    · show (if y = x then [p] else Ls y).Nodup
      split
      · exact List.nodup_cons.mpr ⟨List.not_mem_nil, List.nodup_nil⟩
      · exact I.nd y
theorem rp_key {C' : Fl → Nat → Prop} {u : IV} {x : TV} {k : Key} {C : Fl → Nat → Prop} {L : List Nat} (h : Rp S C u x L) (e : dKeyT x = some k) : Rp S C' u x [] ∧ L = [] := by
  unfold dKeyT at e
  split at e
  · cases e; rw [h.int0.1]; exact ⟨.int _, h.int0.2⟩
  · cases e; rw [h.str0.1]; exact ⟨.str _, h.str0.2⟩
  · cases e
theorem vo_ixS {i : Nat} (hi : i ∉ kp) (q : VEok kp ws cl mb wb) : VEok kp [] false (mBin iIx (mVar i) mb) (vIxS i wb) := fun b N0 A t S env Ls I => by
  unfold vIxS
  have H := q b N0 A t S env Ls I
  cases hw : wb env with
  | ex c fs e => trivial
  | no => trivial
  | ok k e1 =>
    rw [hw] at H
    obtain ⟨uk, S1, L1, Ls1, ek, I1, st1, hL1, rk, ck⟩ := H
    show Aft2 _ _ _ _ _ _ _ _ _ (ixS i k e1 e1[i]?) _ _
    unfold ixS
    split
    · rename_i g vs he
      split
      · rename_i kk z hkk hz
        split
        · rename_i hnw
          obtain ⟨rk', rfl⟩ := rp_key (C' := Cst b N0 (fun y => if y = i then [] else Ls1 y) A W0) rk hkk
          rw [List.append_nil] at I1
          obtain ⟨p, xs, h1, h2, h3, I2, rs⟩ := I1.setC he hi
          obtain ⟨rk2, _⟩ := rp_key (C' := Cst b N0 (fun y => if y = i then [p] else Ls1 y) A (Wn [i] (fun y => if y = i then [p] else Ls1 y))) rk hkk
          have rx : Rp S1 (Cst b N0 (fun y => if y = i then [p] else Ls1 y) A (Wn [i] (fun y => if y = i then [p] else Ls1 y))) (.ref p) (.nd .w g (TV.fls fSh vs)) [] := by
            refine .ref (by nofun) h2 h3 ⟨i, List.mem_singleton_self i, ?_⟩ (rs.mono (fun k j o hk hc hs => ⟨?_, hs⟩) fun _ _ => rfl)
            · show p ∈ (if i = i then [p] else Ls1 i)
              rw [if_pos rfl]; exact List.mem_singleton_self p
            · cases k with
              | o => exact absurd rfl hk
              | s => exact hc
              | z => exact hc
              | w => exact hc.elim
          obtain ⟨w, ew, rw_⟩ := ix_T S1 _ _ _ _ _ z rx rk2 hz
          refine ⟨w, S1, [], (fun y => if y = i then [p] else Ls1 y), ?_, by rw [List.append_nil]; exact I2, ⟨st1.len, st1.keep, fun y j hj => st1.own y j ?_⟩, (fun j h => by cases h), ?_, fun z => by cases z⟩
          · unfold mBin mVar
            rw [h1]
            simp only [R.bind]
            rw [ek]
            simp only [ew, R.ofO]
          · have hj' : j ∈ (if y = i then [p] else Ls1 y) := hj
            split at hj'
            · rename_i hy
              obtain ⟨u', e1', r'⟩ := I1.at_ i _ he
              rw [h1] at e1'
              cases e1'
              rw [hy, List.mem_singleton.mp hj']
              generalize Ls1 i = L0 at r'
              cases r' with
              | own _ _ _ => exact List.mem_cons_self
              | ref h => exact absurd rfl h
            · exact hj'
          · show Rp S1 (Cst b N0 _ (A ++ []) (Wn [] _)) w z []
            rw [List.append_nil]
            refine Rp.monoP (p := fNw) (fun k j o hk hp hc hs => ⟨?_, hs⟩) rw_ hnw fun _ _ => rfl
            cases k with
            | o => exact absurd rfl hk
            | s => exact hc
            | z => exact hc
            | w => cases hp
        · trivial
      · trivial
    · trivial
end
end IP
namespace IP
open PySem
/-! ### a call's new list of scalars is no one else's -/
def scT : TV → Bool
  | .non => true
  | .bl _ => true
  | .int _ => true
  | .str _ => true
  | _ => false
def ownT : TV → TV
  | .nd .s .lst xs => if xs.all scT then .nd .o .lst xs else .nd .s .lst xs
  | v => v
def RD.own : RD → RD
  | .ok v => .ok (ownT v)
  | r => r
def ownW (W : VF) : VF := fun vs => (W vs).own
theorem sc_rps {S : Sto} {C C' : Fl → Nat → Prop} : ∀ {xs : List TV} {us : List IV}, Rps S C us xs [] → xs.all scT = true → Rps S C' us xs []
  | [], us, h, _ => by cases h; exact .nil
  | x :: xs, us, h, a => by
    rw [List.all_cons, Bool.and_eq_true] at a
    obtain ⟨y, ys, rfl, h, q⟩ := h.inv0
    refine .cons0 ?_ (sc_rps q a.2)
    have a1 := a.1
    cases h with
    | non => exact .non
    | bl b => exact .bl b
    | int i => exact .int i
    | str z => exact .str z
    | ty _ => cases a1
    | fn _ => cases a1
    | tup _ => cases a1
    | sq _ => cases a1
    | ref _ _ _ _ _ => cases a1
theorem def_own {F : FN} {W : VF} (h : DefV F W) : DefV F (ownW W) := fun N0 S us vs hr => by
  have q := h N0 S us vs hr
  unfold ownW
  cases hw : W vs with
  | no => trivial
  | ex c fs => rw [hw] at q; exact q
  | ok v =>
    rw [hw] at q
    obtain ⟨u, T, L, e, r, nd, hl⟩ := q
    show ∃ u T L, F us S = .ok u (S ++ T) ∧ Rp (S ++ T) (Cst S.length N0 Ls0 L W0) u (ownT v) L ∧ L.Nodup ∧ ∀ j ∈ L, S.length ≤ j
    unfold ownT
    split
    · rename_i xs
      split
      · rename_i ha
        cases r with
        | ref hk h1 h2 hc hq =>
          rename_i p ys
          exact ⟨.ref p, T, [p], e, .own h1 h2 (sc_rps hq ha), List.nodup_cons.mpr ⟨List.not_mem_nil, List.nodup_nil⟩, fun j hj => by rw [List.mem_singleton.mp hj]; exact hc.1⟩
      · exact ⟨u, T, L, e, r, nd, hl⟩
    · exact ⟨u, T, L, e, r, nd, hl⟩
end IP

/-! IPOb: built-in functions, methods, changes, on trees. -/
namespace IP
open PySem
def tLen : TL := fun us => match us with
  | [.str y] => if y.length ≤ 16777216 then some (.int y.length) else none
  | [.tup xs] => some (.int xs.length)
  | [.nd _ .lst xs] => some (.int xs.length)
  | [.nd _ (.dct ks) _] => some (.int ks.length)
  | _ => none
def tAbs : TL := fun us => match us with
  | [.int i] => some (.int (if i < 0 then -i else i))
  | _ => none
def asBlT : TV → Option Bool | .bl i => some i | _ => none
def asStrT : TV → Option Str | .str i => some i | _ => none
def tMax : TL := fun us => match us with
  | [.int i, .int j] => some (.int (if j > i then j else i))
  | [.nd _ .lst xs] => (mapO tInt xs).bind fun ns => (listMax ns).map .int
  | _ => none
def minDT (k : Fl) (xs : List TV) : Option TV := match dT 20 (.nd k .lst xs) with
  | some (.list ds) => (minJ ds).bind fun j => xs[j]?
  | _ => none
def minT (k : Fl) (xs : List TV) (o : Option (List Int)) : Option TV := match o with
  | some ns => (listMin ns).map .int
  | none => minDT k xs
def tMin : TL := fun us => match us with
  | [.int i, .int j] => some (.int (if j < i then j else i))
  | [.nd k .lst xs] => minT k xs (mapO tInt xs)
  | _ => none
def tSum : TL := fun us => match us with
  | [.nd _ .lst xs] => (mapO tInt xs).map fun ns => .int ns.sum
  | _ => none
def tAll : TL := fun us => match us with
  | [.nd _ .lst xs] => (mapO asBlT xs).map fun ns => .bl (ns.all id)
  | _ => none
def tAny : TL := fun us => match us with
  | [.nd _ .lst xs] => (mapO asBlT xs).map fun ns => .bl (ns.any id)
  | _ => none
def tIntF : TL := fun us => match us with
  | [.int i] => some (.int i)
  | [.bl b] => some (.int (if b then 1 else 0))
  | [.str x] => if x.length ≤ 640 then (PySem.intText? x).map .int else none
  | _ => none
def tStrF : TL := fun us => match us with
  | [.int i] => if i.natAbs.log2 < 1920 then some (.str (toString i)) else none
  | _ => none
def tList : TL := fun us => match us with
  | [.tup xs] => some (.nd .o .lst xs)
  | [.nd _ .lst xs] => some (.nd .o .lst xs)
  | _ => none
def tTuple : TL := fun us => match us with
  | [.tup xs] => some (.tup xs)
  | [.nd _ .lst xs] => some (.tup xs)
  | _ => none
def tDivmod : TL := fun us => match us with
  | [.int i, .int j] => if decide (0 < j ∧ j < 1073741824) then some (.tup [.int (i / j), .int (i % j)]) else none
  | _ => none
def tyT : TV → Option String
  | .non => some "NoneType"
  | .bl _ => some "bool"
  | .int _ => some "int"
  | .str _ => some "str"
  | .tup _ => some "tuple"
  | .nd _ .lst _ => some "list"
  | .nd _ (.dct _) _ => some "dict"
  | _ => none
def isIn1T (t : String) : List TV → Option Bool
  | [] => some false
  | .ty n :: r => if tyNames.contains n then (isIn1T t r).map fun b => isSub t n || b else none
  | _ => none
def tIsinst : TL := fun us => match us with
  | [v, .ty n] => if tyNames.contains n then (tyT v).map fun t => .bl (isSub t n) else none
  | [v, .tup ts] => (tyT v).bind fun t => (isIn1T t ts).map .bl
  | _ => none
/-! methods -/
def tFind : TM := fun u vs => match u, vs with
  | .str a, [.str b] => some (.int (Txt.find a b))
  | _, _ => none
def tStartswith : TM := fun u vs => match u, vs with
  | .str a, [.str b] => some (.bl (Txt.startswith a b))
  | _, _ => none
def tEndswith : TM := fun u vs => match u, vs with
  | .str a, [.str b] => some (.bl (Txt.endswith a b))
  | _, _ => none
def tPartition : TM := fun u vs => match u, vs with
  | .str a, [.str b] => if decide (b.length ≠ 0 ∧ a.length ≤ 16777216) then some (.tup [.str (Txt.partition a b).1, .str (Txt.partition a b).2.1, .str (Txt.partition a b).2.2]) else none
  | _, _ => none
def tSplit : TM := fun u vs => match u, vs with
  | .str a, [.str b] => if decide (b.length ≠ 0 ∧ a.length + 2 ≤ 16777216) then some (.nd .o .lst ((Txt.split a b).map .str)) else none
  | _, _ => none
def tJoin : TM := fun u vs => match u, vs with
  | .str a, [.nd _ .lst xs] => (mapO asStrT xs).bind fun ys => if (ys.map (·.length)).sum + ys.length * a.length ≤ 16777216 then some (.str (Txt.join a ys)) else none
  | _, _ => none
def tUpper : TM := fun u vs => match u, vs with
  | .str a, [] => if a.length ≤ 5592405 then some (.str (Txt.upper a)) else none
  | _, _ => none
def tRstrip : TM := fun u vs => match u, vs with
  | .str a, [.str b] => if a.length ≤ 16777216 then some (.str (Txt.rstripChars a b)) else none
  | _, _ => none
def placeT (y : TV) : List TV → Option Nat
  | [] => none
  | x :: xs => if eqFT x y then some 0 else (placeT y xs).map (· + 1)
def tIndex : TM := fun u vs => match u, vs with
  | .nd _ .lst xs, [y] => if flatT y && xs.all flatT then (placeT y xs).map fun j => .int j else none
  | _, _ => none
def tGet : TM := fun u vs => match u, vs with
  | .nd _ (.dct ks) xs, [k] => (keyT k).map fun key => (valT ks xs key).getD .non
  | .nd _ (.dct ks) xs, [k, z] => (keyT k).map fun key => (valT ks xs key).getD z
  | _, _ => none
/-! changes -/
def uAppend : TMut := fun g vs as => match g, as with
  | .lst, [y] => if vs.length < 16777216 then some (.non, .lst, vs ++ [y]) else none
  | _, _ => none
def uExtend : TMut := fun g vs as => match g, as with
  | .lst, [.nd .o .lst ys] => if vs.length + ys.length ≤ 16777216 then some (.non, .lst, vs ++ ys) else none
  | .lst, [.nd .s .lst ys] => if vs.length + ys.length ≤ 16777216 then some (.non, .lst, vs ++ ys) else none
  | _, _ => none
def uClear : TMut := fun g _ as => match g, as with
  | .lst, [] => some (.non, .lst, [])
  | _, _ => none
def uInsert : TMut := fun g vs as => match g, as with
  | .lst, [.int k, y] => if decide (vs.length < 16777216 ∧ 0 ≤ k ∧ k < 2 ^ 63) then some (.non, .lst, vs.take k.toNat ++ [y] ++ vs.drop k.toNat) else none
  | _, _ => none
def uPop : TMut := fun g vs as => match g, as with
  | .lst, [] => vs[vs.length - 1]?.map fun y => (y, .lst, vs.dropLast)
  | .lst, [.int k] => if decide (-(2 ^ 63) ≤ k ∧ k < 2 ^ 63) then (seqIndex? k vs.length).bind fun j => vs[j]?.map fun y => (y, .lst, vs.eraseIdx j) else none
  | _, _ => none
def uPut : TMut := fun g vs as => match g, as with
  | .lst, [v, .int k] => (L2.ixN vs.length k).map fun n => (.non, .lst, vs.set n v)
  | .dct ks, [v, k] => (keyT k).bind fun key => match kIx ks key with
    | some n => if ks.length < 16777216 then some (.non, .dct ks, vs.set n v) else none
    | none => if ks.length < 16777216 then some (.non, .dct (ks ++ [key]), vs ++ [v]) else none
  | _, _ => none
section
variable {S : Sto} {C : Fl → Nat → Prop} {u u' : IV} {v v' z : TV} {L : List Nat}
theorem ol_old {f : OL} {g : TL} (h : ∀ (S : Sto) (C : Fl → Nat → Prop) (us : List IV) (xs : List TV) (z : TV), Rps S C us xs [] → g xs = some z → ∃ w, f us S = some (w, S) ∧ Rp S C w z []) : OLT f g := fun S C us xs _ h1 z e => by
  obtain ⟨w, e1, r⟩ := h S C us xs z h1 e
  exact ⟨w, S, e1, .old r⟩
theorem asInt_T : ∀ {vs : List TV} {us : List IV} {ns : List Int} {L : List Nat}, Rps S C us vs L → mapO tInt vs = some ns → mapO asInt us = some ns
  | [], _, _, _, h, e => by obtain ⟨rfl, _⟩ := h.invN; exact e
  | v :: vs, _, ns, _, .cons h q _, e => by
    cases v <;> simp only [mapO, tInt] at e <;> try (cases e; done)
    rename_i i
    cases e2 : mapO tInt vs with
    | none => rw [e2] at e; cases e
    | some ms => rw [e2] at e; rw [h.int0.1]; simp only [mapO, asInt, asInt_T q e2]; exact e
theorem asBl_T : ∀ {vs : List TV} {us : List IV} {ns : List Bool} {L : List Nat}, Rps S C us vs L → mapO asBlT vs = some ns → mapO asBl us = some ns
  | [], _, _, _, h, e => by obtain ⟨rfl, _⟩ := h.invN; exact e
  | v :: vs, _, ns, _, .cons h q _, e => by
    cases v <;> simp only [mapO, asBlT] at e <;> try (cases e; done)
    cases e2 : mapO asBlT vs with
    | none => rw [e2] at e; cases e
    | some ms => rw [e2] at e; rw [h.bl0.1]; simp only [mapO, asBl, asBl_T q e2]; exact e
theorem asStr_T : ∀ {vs : List TV} {us : List IV} {ns : List Str} {L : List Nat}, Rps S C us vs L → mapO asStrT vs = some ns → mapO asStr us = some ns
  | [], _, _, _, h, e => by obtain ⟨rfl, _⟩ := h.invN; exact e
  | v :: vs, _, ns, _, .cons h q _, e => by
    cases v <;> simp only [mapO, asStrT] at e <;> try (cases e; done)
    cases e2 : mapO asStrT vs with
    | none => rw [e2] at e; cases e
    | some ms => rw [e2] at e; rw [h.str0.1]; simp only [mapO, asStr, asStr_T q e2]; exact e
theorem x_len : OLT iLen tLen := ol_old fun S C us xs z h e => by
  unfold tLen at e
  split at e
  · obtain ⟨u, rfl, r⟩ := h.inv1
    split at e
    · rename_i hc; cases e; rw [r.str0.1]; exact ⟨_, by simp only [iLen, if_pos hc], .int _⟩
    · cases e
  · obtain ⟨u, rfl, r⟩ := h.inv1
    obtain ⟨ys, rfl, q⟩ := r.tup0
    cases e; exact ⟨.int ys.length, rfl, by rw [q.length]; exact .int _⟩
  · obtain ⟨u, rfl, r⟩ := h.inv1
    obtain ⟨ys, a1, a2, q, a4⟩ := r.seq0
    cases e
    refine ⟨.int ys.length, ?_, by rw [q.length]; exact .int _⟩
    rcases a4 with ⟨i, rfl, _⟩ | rfl <;> simp only [iLen, a2, a1, Option.map_some]
  · obtain ⟨u, rfl, r⟩ := h.inv1
    rename_i k ks vs
    obtain ⟨i, ys, rfl, e', hl, q⟩ := r.dct0
    cases e
    have hd : dctI (.ref i) S = some (i, keysOf ks ys) := by simp only [dctI]; rw [e']
    exact ⟨.int ks.length, by simp only [iLen, hd, keysOf_len hl], .int _⟩
  · cases e
theorem x_abs : OLT iAbs tAbs := ol_old fun S C us xs z h e => by
  unfold tAbs at e
  split at e <;> cases e
  obtain ⟨u, rfl, r⟩ := h.inv1
  rw [r.int0.1]; exact ⟨_, rfl, .int _⟩
theorem x_max : OLT iMax tMax := ol_old fun S C us xs z h e => by
  unfold tMax at e
  split at e
  · cases e
    obtain ⟨u, u', rfl, r, r'⟩ := h.inv2
    rw [r.int0.1, r'.int0.1]; exact ⟨_, rfl, .int _⟩
  · obtain ⟨u, rfl, r⟩ := h.inv1
    obtain ⟨ys, a1, a2, q, a4⟩ := r.seq0
    rw [Option.bind_eq_some_iff] at e
    obtain ⟨ns, e1, e2⟩ := e
    rw [Option.map_eq_some_iff] at e2
    obtain ⟨m, e2, rfl⟩ := e2
    refine ⟨.int m, ?_, .int _⟩
    rcases a4 with ⟨i, rfl, _⟩ | rfl <;> simp only [iMax, a1, Option.bind_some, asInt_T q e1, e2, Option.map_some]
  · cases e
theorem asInt_R {S : Sto} {C : Fl → Nat → Prop} : ∀ {xs : List TV} {us : List IV} {ns : List Int}, Rps S C us xs [] → mapO asInt us = some ns → mapO tInt xs = some ns
  | [], us, ns, h, e => by cases h; exact e
  | x :: xs, us, ns, h, e => by
    obtain ⟨y, ys, rfl, h, q⟩ := h.inv0
    simp only [mapO] at e ⊢
    cases ey : asInt y with
    | none => rw [ey] at e; cases e
    | some i =>
      rw [ey] at e
      cases eys : mapO asInt ys with
      | none => rw [eys] at e; cases e
      | some is =>
        rw [eys] at e
        have ex : tInt x = some i := by
          cases h <;> simp only [asInt] at ey <;> cases ey
          rfl
        rw [ex, asInt_R q eys]
        exact e
theorem x_min : OLT iMin tMin := ol_old fun S C us xs z h e => by
  unfold tMin at e
  split at e
  · cases e
    obtain ⟨u, u', rfl, r, r'⟩ := h.inv2
    rw [r.int0.1, r'.int0.1]; exact ⟨_, rfl, .int _⟩
  · rename_i kk zs
    obtain ⟨u, rfl, r⟩ := h.inv1
    obtain ⟨ys, a1, a2, q, a4⟩ := r.seq0
    unfold minT at e
    split at e
    · rename_i ns e1
      rw [Option.map_eq_some_iff] at e
      obtain ⟨m, e2, rfl⟩ := e
      refine ⟨.int m, ?_, .int _⟩
      rcases a4 with ⟨i, rfl, _⟩ | rfl <;> simp only [iMin, a1, Option.bind_some, asInt_T q e1, e2, Option.map_some]
    · rename_i e1
      have e0 : mapO asInt ys = none := by
        cases k : mapO asInt ys with
        | none => rfl
        | some ns => rw [asInt_R q k] at e1; cases e1
      unfold minDT at e
      split at e
      · rename_i ds e2
        rw [Option.bind_eq_some_iff] at e
        obtain ⟨j, e3, e4⟩ := e
        obtain ⟨y, e5, ry⟩ := q.get e4
        have e6 := dT_of 20 _ _ _ _ r e2
        refine ⟨y, ?_, ry⟩
        have e7 : iMinD u S = some y := by
          unfold iMinD
          rw [a1, e6]
          simp only [e3, Option.bind_some, e5]
        rcases a4 with ⟨i, rfl, _⟩ | rfl <;> simp only [iMin, a1, Option.bind_some, e0, e7, Option.map_some]
      · cases e
  · cases e
theorem x_sum : OLT iSum tSum := ol_old fun S C us xs z h e => by
  unfold tSum at e
  split at e
  · obtain ⟨u, rfl, r⟩ := h.inv1
    obtain ⟨ys, a1, a2, q, a4⟩ := r.seq0
    rw [Option.map_eq_some_iff] at e
    obtain ⟨ns, e1, rfl⟩ := e
    exact ⟨_, by simp only [iSum, a1, Option.bind_some, asInt_T q e1, Option.map_some], .int _⟩
  · cases e
theorem x_all : OLT iAll tAll := ol_old fun S C us xs z h e => by
  unfold tAll at e
  split at e
  · obtain ⟨u, rfl, r⟩ := h.inv1
    obtain ⟨ys, a1, a2, q, a4⟩ := r.seq0
    rw [Option.map_eq_some_iff] at e
    obtain ⟨ns, e1, rfl⟩ := e
    exact ⟨_, by simp only [iAll, a1, Option.bind_some, asBl_T q e1, Option.map_some], .bl _⟩
  · cases e
theorem x_any : OLT iAny tAny := ol_old fun S C us xs z h e => by
  unfold tAny at e
  split at e
  · obtain ⟨u, rfl, r⟩ := h.inv1
    obtain ⟨ys, a1, a2, q, a4⟩ := r.seq0
    rw [Option.map_eq_some_iff] at e
    obtain ⟨ns, e1, rfl⟩ := e
    exact ⟨_, by simp only [iAny, a1, Option.bind_some, asBl_T q e1, Option.map_some], .bl _⟩
  · cases e
theorem x_int : OLT iInt tIntF := ol_old fun S C us xs z h e => by
  unfold tIntF at e
  split at e
  · cases e; obtain ⟨u, rfl, r⟩ := h.inv1; rw [r.int0.1]; exact ⟨_, rfl, .int _⟩
  · cases e; obtain ⟨u, rfl, r⟩ := h.inv1; rw [r.bl0.1]; exact ⟨_, rfl, .int _⟩
  · obtain ⟨u, rfl, r⟩ := h.inv1
    rw [r.str0.1]
    split at e
    · rename_i hc
      rw [Option.map_eq_some_iff] at e
      obtain ⟨n, e1, rfl⟩ := e
      exact ⟨.int n, by simp only [iInt, if_pos hc, e1, Option.map_some], .int _⟩
    · cases e
  · cases e
theorem x_str : OLT iStr tStrF := ol_old fun S C us xs z h e => by
  unfold tStrF at e
  split at e
  · obtain ⟨u, rfl, r⟩ := h.inv1
    rw [r.int0.1]
    split at e
    · rename_i hc; cases e; exact ⟨_, by simp only [iStr, if_pos hc], .str _⟩
    · cases e
  · cases e
theorem x_list : OLT iList tList := fun S C us xs _ h z e => by
  unfold tList at e
  split at e
  · cases e
    obtain ⟨u, rfl, r⟩ := h.inv1
    obtain ⟨ys, rfl, q⟩ := r.tup0
    exact ⟨_, _, rfl, .new (g := .lst) trivial q⟩
  · cases e
    obtain ⟨u, rfl, r⟩ := h.inv1
    obtain ⟨ys, a1, a2, q, a4⟩ := r.seq0
    refine ⟨.ref S.length, S ++ [.lst ys], ?_, .new (g := .lst) trivial q⟩
    rcases a4 with ⟨i, rfl, _⟩ | rfl <;> simp only [iList, a1, Option.map_some]
  · cases e
theorem x_tuple : OLT iTuple tTuple := ol_old fun S C us xs z h e => by
  unfold tTuple at e
  split at e
  · cases e
    obtain ⟨u, rfl, r⟩ := h.inv1
    obtain ⟨ys, rfl, q⟩ := r.tup0
    exact ⟨_, rfl, .tup q⟩
  · cases e
    obtain ⟨u, rfl, r⟩ := h.inv1
    obtain ⟨ys, a1, a2, q, a4⟩ := r.seq0
    refine ⟨.tup ys, ?_, .tup q⟩
    rcases a4 with ⟨i, rfl, _⟩ | rfl <;> simp only [iTuple, a1, Option.map_some]
  · cases e
theorem x_divmod : OLT iDivmod tDivmod := ol_old fun S C us xs z h e => by
  unfold tDivmod at e
  split at e
  · obtain ⟨u, u', rfl, r, r'⟩ := h.inv2
    rw [r.int0.1, r'.int0.1]
    split at e
    · rename_i hc; cases e; exact ⟨_, by simp only [iDivmod, if_pos hc], .tup (.cons0 (.int _) (.cons0 (.int _) .nil))⟩
    · cases e
  · cases e
theorem tyT_of {t : String} (h : Rp S C u v []) (e : tyT v = some t) : tyI u S = some t := by
  cases v with
  | non => rw [h.non0.1]; exact e
  | bl c => rw [h.bl0.1]; exact e
  | int c => rw [h.int0.1]; exact e
  | str c => rw [h.str0.1]; exact e
  | tup c => obtain ⟨ys, rfl, _⟩ := h.tup0; exact e
  | nd k g xs =>
    cases g with
    | lst =>
      obtain ⟨ys, a1, a2, q, a4⟩ := h.seq0
      rcases a4 with ⟨i, rfl, e'⟩ | rfl
      · simp only [tyI]; rw [e']; exact e
      · exact e
    | dct ks =>
      obtain ⟨i, ys, rfl, e', _⟩ := h.dctL
      simp only [tyI]; rw [e']; exact e
    | ins C fs => cases e
  | ty c => cases e
  | fn c => cases e
theorem isIn1_T {t : String} : ∀ {ts : List TV} {us : List IV} {b : Bool}, Rps S C us ts [] → isIn1T t ts = some b → isIn1 t us = some b
  | [], _, _, h, e => by obtain ⟨rfl, _⟩ := h.invN; exact e
  | x :: ts, _, b, h, e => by
    obtain ⟨y, ys, rfl, h1, h2⟩ := h.inv0
    cases x <;> simp only [isIn1T] at e <;> try (cases e; done)
    rw [h1.ty0.1]
    split at e
    · rename_i hc
      rw [Option.map_eq_some_iff] at e
      obtain ⟨c, e1, rfl⟩ := e
      simp only [isIn1, if_pos hc, isIn1_T h2 e1, Option.map_some]
    · cases e
theorem x_isinst : OLT iIsinst tIsinst := ol_old fun S C us xs z h e => by
  unfold tIsinst at e
  split at e
  · obtain ⟨u, u', rfl, r, r'⟩ := h.inv2
    rw [r'.ty0.1]
    split at e
    · rename_i hc
      rw [Option.map_eq_some_iff] at e
      obtain ⟨t, e1, rfl⟩ := e
      exact ⟨_, by simp only [iIsinst, if_pos hc, tyT_of r e1, Option.map_some], .bl _⟩
    · cases e
  · obtain ⟨u, u', rfl, r, r'⟩ := h.inv2
    obtain ⟨ys, rfl, q⟩ := r'.tup0
    rw [Option.bind_eq_some_iff] at e
    obtain ⟨t, e1, e2⟩ := e
    rw [Option.map_eq_some_iff] at e2
    obtain ⟨c, e2, rfl⟩ := e2
    exact ⟨_, by simp only [iIsinst, tyT_of r e1, Option.bind_some, isIn1_T q e2, Option.map_some], .bl _⟩
  · cases e
/-! methods -/
theorem om_old {f : OM} {g : TM} (h : ∀ (S : Sto) (C : Fl → Nat → Prop) (u : IV) (x : TV) (us : List IV) (xs : List TV) (z : TV), Rp S C u x [] → Rps S C us xs [] → g x xs = some z → ∃ w, f u us S = some (w, S) ∧ Rp S C w z []) : OMT f g := fun S C u x us xs _ h0 h1 z e => by
  obtain ⟨w, e1, r⟩ := h S C u x us xs z h0 h1 e
  exact ⟨w, S, e1, .old r⟩
theorem x_find : OMT mFind tFind := om_old fun S C u x us xs z h0 h e => by
  unfold tFind at e
  split at e <;> cases e
  obtain ⟨u1, rfl, r⟩ := h.inv1
  rw [h0.str0.1, r.str0.1]; exact ⟨_, rfl, .int _⟩
theorem x_startswith : OMT mStartswith tStartswith := om_old fun S C u x us xs z h0 h e => by
  unfold tStartswith at e
  split at e <;> cases e
  obtain ⟨u1, rfl, r⟩ := h.inv1
  rw [h0.str0.1, r.str0.1]; exact ⟨_, rfl, .bl _⟩
theorem x_endswith : OMT mEndswith tEndswith := om_old fun S C u x us xs z h0 h e => by
  unfold tEndswith at e
  split at e <;> cases e
  obtain ⟨u1, rfl, r⟩ := h.inv1
  rw [h0.str0.1, r.str0.1]; exact ⟨_, rfl, .bl _⟩
theorem x_partition : OMT mPartition tPartition := om_old fun S C u x us xs z h0 h e => by
  unfold tPartition at e
  split at e
  · obtain ⟨u1, rfl, r⟩ := h.inv1
    rw [h0.str0.1, r.str0.1]
    split at e
    · rename_i hc; cases e; exact ⟨_, by simp only [mPartition, if_pos hc], .tup (.cons0 (.str _) (.cons0 (.str _) (.cons0 (.str _) .nil)))⟩
    · cases e
  · cases e
theorem strs_rps : ∀ xs : List Str, Rps S C (xs.map IV.str) (xs.map TV.str) []
  | [] => .nil
  | x :: xs => .cons0 (.str _) (strs_rps xs)
theorem x_split : OMT mSplit tSplit := fun S C u x us xs _ h0 h z e => by
  unfold tSplit at e
  split at e
  · obtain ⟨u1, rfl, r⟩ := h.inv1
    rw [h0.str0.1, r.str0.1]
    split at e
    · rename_i hc; cases e; exact ⟨_, _, by simp only [mSplit, if_pos hc]; rfl, .new (g := .lst) trivial (strs_rps _)⟩
    · cases e
  · cases e
theorem x_join : OMT mJoin tJoin := om_old fun S C u x us xs z h0 h e => by
  unfold tJoin at e
  split at e
  · obtain ⟨u1, rfl, r⟩ := h.inv1
    rw [h0.str0.1]
    obtain ⟨ys, a1, a2, q, a4⟩ := r.seq0
    rw [Option.bind_eq_some_iff] at e
    obtain ⟨ns, e1, e2⟩ := e
    split at e2
    · rename_i hc
      cases e2
      refine ⟨_, ?_, .str _⟩
      rcases a4 with ⟨i, rfl, _⟩ | rfl <;> simp only [mJoin, a1, Option.bind_some, asStr_T q e1, if_pos hc]
    · cases e2
  · cases e
theorem x_upper : OMT mUpper tUpper := om_old fun S C u x us xs z h0 h e => by
  unfold tUpper at e
  split at e
  · obtain ⟨rfl, _⟩ := h.invN
    rw [h0.str0.1]
    split at e
    · rename_i hc; cases e; exact ⟨_, by simp only [mUpper, if_pos hc], .str _⟩
    · cases e
  · cases e
theorem x_rstrip : OMT mRstrip tRstrip := om_old fun S C u x us xs z h0 h e => by
  unfold tRstrip at e
  split at e
  · obtain ⟨u1, rfl, r⟩ := h.inv1
    rw [h0.str0.1, r.str0.1]
    split at e
    · rename_i hc; cases e; exact ⟨_, by simp only [mRstrip, if_pos hc], .str _⟩
    · cases e
  · cases e
theorem place_T : ∀ {vs : List TV} {us : List IV}, Rps S C us vs [] → vs.all flatT = true → ∀ {u : IV} {v : TV}, Rp S C u v [] → flatT v = true → placeOf u us = placeT v vs
  | [], _, h, _, _, _, _, _ => by obtain ⟨rfl, _⟩ := h.invN; rfl
  | v :: vs, _, h, a, u, w, r, f => by
    obtain ⟨y, ys, rfl, h1, h2⟩ := h.inv0
    simp only [List.all_cons, Bool.and_eq_true] at a
    simp only [placeOf, placeT, eqF_T h1 r a.1 f, place_T h2 a.2 r f]
theorem x_index : OMT mIndex tIndex := om_old fun S C u x us xs z h0 h e => by
  unfold tIndex at e
  split at e
  · obtain ⟨u1, rfl, r⟩ := h.inv1
    obtain ⟨ys, a1, a2, q, a4⟩ := h0.seq0
    split at e
    · rename_i hc
      rw [Option.map_eq_some_iff] at e
      obtain ⟨j, e1, rfl⟩ := e
      rw [Bool.and_eq_true] at hc
      obtain ⟨i1, _⟩ := any_T q hc.2 r hc.1
      refine ⟨.int j, ?_, .int _⟩
      simp only [mIndex, a1, (flat_T r hc.1).1, i1, Bool.and_self, if_true, place_T q hc.2 r hc.1, e1, Option.map_some]
    · cases e
  · cases e
theorem valN {ks : List L2.Key} {key : L2.Key} {us : List IV} {vs : List TV} (hl : ks.length = us.length) (h : Rps S C us vs []) (e : valT ks vs key = none) : valI (keysOf ks us) key = none := by
  rw [valI_keys hl]
  unfold valT at e
  cases hk : kIx ks key with
  | none => rfl
  | some m =>
    rw [hk] at e
    simp only [Option.bind_some] at e ⊢
    rw [List.getElem?_eq_none_iff] at e ⊢
    rw [h.length]; exact e
theorem x_get : OMT mGet tGet := om_old fun S C u x us xs z h0 h e => by
  unfold tGet at e
  split at e
  · rename_i kf ks vs k
    obtain ⟨u1, rfl, r⟩ := h.inv1
    obtain ⟨i, ys, rfl, e', hl, q⟩ := h0.dct0
    have hd : dctI (.ref i) S = some (i, keysOf ks ys) := by simp only [dctI]; rw [e']
    rw [Option.map_eq_some_iff] at e
    obtain ⟨key, e1, rfl⟩ := e
    cases hv : valT ks vs key with
    | none => exact ⟨.non, by simp only [mGet, hd, keyT_of r e1, Option.map_some, valN hl q hv, Option.getD_none], .non⟩
    | some w =>
      obtain ⟨y, e3, ry⟩ := val_T hl q hv
      exact ⟨y, by simp only [mGet, hd, keyT_of r e1, Option.map_some, e3, Option.getD_some], ry⟩
  · rename_i kf ks vs k w0
    obtain ⟨u1, u2, rfl, r, r2⟩ := h.inv2
    obtain ⟨i, ys, rfl, e', hl, q⟩ := h0.dct0
    have hd : dctI (.ref i) S = some (i, keysOf ks ys) := by simp only [dctI]; rw [e']
    rw [Option.map_eq_some_iff] at e
    obtain ⟨key, e1, rfl⟩ := e
    cases hv : valT ks vs key with
    | none => exact ⟨u2, by simp only [mGet, hd, keyT_of r e1, Option.map_some, valN hl q hv, Option.getD_none], r2⟩
    | some w =>
      obtain ⟨y, e3, ry⟩ := val_T hl q hv
      exact ⟨y, by simp only [mGet, hd, keyT_of r e1, Option.map_some, e3, Option.getD_some], ry⟩
  · cases e
/-! changes -/
theorem lstI_at {j : Nat} {xs : List IV} (e : S[j]? = some (.lst xs)) : lstI (.ref j) S = some (j, xs) := by simp only [lstI]; rw [e]
theorem Rps.oneL {us : List IV} {v : TV} {La : List Nat} (h : Rps S C us [v] La) : ∃ u, us = [u] ∧ Rp S C u v La := by
  cases h with | cons h q e =>
  obtain ⟨rfl, rfl⟩ := q.invN
  rw [List.append_nil] at e
  subst e
  exact ⟨_, rfl, h⟩
theorem q_append : QuietR uAppend := fun g vs as r g' vs' e => by
  unfold uAppend at e
  split at e
  · split at e <;> cases e; rfl
  · cases e
theorem u_append : MutOk (fun us u S => mAppend u us S) uAppend := fun S C j g g' xs us vs as vs' r Lc La hj og rc ra e => by
  unfold uAppend at e
  split at e
  · split at e
    · rename_i y hl
      cases e
      obtain ⟨u, rfl, ru⟩ := ra.oneL
      have hl' : xs.length < 16777216 := by rw [rc.length]; exact hl
      refine ⟨.non, xs ++ [u], [], Lc ++ La, [], ?_, trivial, Rps.append rc (.one ru), .non, by simp⟩
      simp only [mAppend, lstI_at hj, if_pos hl']; rfl
    · cases e
  · cases e
theorem q_extend : QuietR uExtend := fun g vs as r g' vs' e => by
  unfold uExtend at e
  split at e
  · split at e <;> cases e; rfl
  · split at e <;> cases e; rfl
  · cases e
theorem u_extend : MutOk (fun us u S => mExtend u us S) uExtend := fun S C j g g' xs us vs as vs' r Lc La hj og rc ra e => by
  unfold uExtend at e
  split at e
  · split at e
    · rename_i ys hl
      cases e
      obtain ⟨u, rfl, ru⟩ := ra.oneL
      cases ru with
      | own e' og' q =>
        rename_i i us L
        have hl' : xs.length + us.length ≤ 16777216 := by rw [rc.length, q.length]; exact hl
        refine ⟨.non, xs ++ us, [], Lc ++ L, [i], ?_, trivial, Rps.append rc q, .non, ?_⟩
        · simp only [mExtend, lstI_at hj, lstI_at e', if_pos hl']; rfl
        · simp only [List.nil_append, List.append_assoc]
          refine List.Perm.append_left _ ?_
          exact (List.perm_append_comm).trans (by simp)
      | ref n _ _ _ _ => exact absurd rfl n
    · cases e
  · split at e
    · rename_i ys hl
      cases e
      obtain ⟨u, rfl, ru⟩ := ra.oneL
      cases ru with
      | ref n e' og' c q =>
        rename_i i us
        have hl' : xs.length + us.length ≤ 16777216 := by rw [rc.length, q.length]; exact hl
        refine ⟨.non, xs ++ us, [], Lc ++ [], [], ?_, trivial, Rps.append rc q, .non, by simp⟩
        simp only [mExtend, lstI_at hj, lstI_at e', if_pos hl']; rfl
    · cases e
  · cases e
theorem q_clear : QuietR uClear := fun g vs as r g' vs' e => by
  unfold uClear at e
  split at e <;> cases e; rfl
theorem u_clear : MutOk (fun us u S => mClear u us S) uClear := fun S C j g g' xs us vs as vs' r Lc La hj og rc ra e => by
  unfold uClear at e
  split at e <;> cases e
  obtain ⟨rfl, rfl⟩ := ra.invN
  refine ⟨.non, [], [], [], Lc, ?_, trivial, .nil, .non, by simp⟩
  simp only [mClear, lstI_at hj]; rfl
theorem Rps.split : ∀ {vs : List TV} {us : List IV} {L : List Nat} (n : Nat), Rps S C us vs L → ∃ L1 L2, L = L1 ++ L2 ∧ Rps S C (us.take n) (vs.take n) L1 ∧ Rps S C (us.drop n) (vs.drop n) L2
  | vs, us, L, 0, h => ⟨[], L, rfl, by rw [List.take_zero, List.take_zero]; exact .nil, h⟩
  | [], us, L, n + 1, h => by obtain ⟨rfl, rfl⟩ := h.invN; exact ⟨[], [], rfl, .nil, .nil⟩
  | v :: vs, _, L, n + 1, .cons h q e => by
    obtain ⟨L1, L2, e1, a, b⟩ := Rps.split n q
    subst e e1
    exact ⟨_ ++ L1, L2, by rw [List.append_assoc], .cons h a rfl, b⟩
theorem q_insert : QuietR uInsert := fun g vs as r g' vs' e => by
  unfold uInsert at e
  split at e
  · split at e <;> cases e; rfl
  · cases e
theorem u_insert : MutOk (fun us u S => mInsert u us S) uInsert := fun S C j g g' xs us vs as vs' r Lc La hj og rc ra e => by
  unfold uInsert at e
  split at e
  · split at e
    · rename_i k y hl
      cases e
      cases ra with | cons h1 q1 e1 =>
      obtain ⟨rfl, rfl⟩ := h1.int0
      obtain ⟨u, rfl, ru⟩ := q1.oneL
      rw [List.nil_append] at e1
      subst e1
      obtain ⟨L1, L2, rfl, a, c⟩ := rc.split k.toNat
      rw [← rc.length] at hl
      refine ⟨.non, xs.take k.toNat ++ [u] ++ xs.drop k.toNat, [], (L1 ++ La) ++ L2, [], ?_, trivial, Rps.append (Rps.append a (.one ru)) c, .non, ?_⟩
      · simp only [mInsert, lstI_at hj, if_pos hl]; rfl
      · simp only [List.append_nil, List.append_assoc]
        exact List.Perm.append_left _ List.perm_append_comm
    · cases e
  · cases e
theorem Rps.getL : ∀ {vs : List TV} {us : List IV} {L : List Nat} {n : Nat} {v : TV}, Rps S C us vs L → vs[n]? = some v → ∃ u L1 L2, us[n]? = some u ∧ Rp S C u v L1 ∧ Rps S C (us.eraseIdx n) (vs.eraseIdx n) L2 ∧ (L2 ++ L1).Perm L ∧ ∀ {u' : IV} {v' : TV} {L' : List Nat}, Rp S C u' v' L' → ∃ L3, Rps S C (us.set n u') (vs.set n v') L3 ∧ (L3 ++ L1).Perm (L ++ L')
  | [], _, _, _, _, h, e => by simp at e
  | v :: vs, _, L, 0, w, .cons (L := La) (M := M) h q e, e2 => by
    simp at e2; subst e2; subst e
    refine ⟨_, La, M, rfl, h, q, List.perm_append_comm, fun {u' v' L'} r => ⟨L' ++ M, .cons r q rfl, ?_⟩⟩
    rw [List.append_assoc]
    exact (List.perm_append_comm).trans (List.Perm.append_right _ List.perm_append_comm)
  | v :: vs, _, L, n + 1, w, .cons (L := La) (M := M) h q e, e2 => by
    subst e
    obtain ⟨u, L1, L2, a1, a2, a3, a4, a5⟩ := Rps.getL q (n := n) (v := w) (by simpa using e2)
    refine ⟨u, L1, La ++ L2, by simpa using a1, a2, .cons h a3 rfl, by rw [List.append_assoc]; exact List.Perm.append_left _ a4, fun {u' v' L'} r => ?_⟩
    obtain ⟨L3, b1, b2⟩ := a5 r
    exact ⟨La ++ L3, .cons h b1 rfl, by rw [List.append_assoc, List.append_assoc]; exact List.Perm.append_left _ b2⟩
theorem u_pop : MutOk (fun us u S => mPop u us S) uPop := fun S C j g g' xs us vs as vs' r Lc La hj og rc ra e => by
  unfold uPop at e
  split at e
  · obtain ⟨rfl, rfl⟩ := ra.invN
    rw [Option.map_eq_some_iff] at e
    obtain ⟨y, e1, e2⟩ := e
    cases e2
    obtain ⟨u, L1, L2, a1, a2, a3, a4, _⟩ := rc.getL e1
    have hl := rc.length
    have dl : ∀ {α : Type} (l : List α), l.dropLast = l.eraseIdx (l.length - 1) := fun l => by rw [List.eraseIdx_length_sub_one]
    refine ⟨u, xs.dropLast, L1, L2, [], ?_, trivial, by rw [dl, dl, hl]; exact a3, a2, by simpa using a4⟩
    have a1' : xs[xs.length - 1]? = some u := by rw [hl]; exact a1
    simp only [mPop, lstI_at hj, a1', Option.map_some]; rfl
  · split at e
    · rename_i k hc
      cases ra with | cons h1 q1 e1 =>
      obtain ⟨rfl, rfl⟩ := h1.int0
      obtain ⟨rfl, rfl⟩ := q1.invN
      subst e1
      rw [Option.bind_eq_some_iff] at e
      obtain ⟨n, e1, e⟩ := e
      rw [Option.map_eq_some_iff] at e
      obtain ⟨y, e2, e3⟩ := e
      cases e3
      obtain ⟨u, L1, L2, a1, a2, a3, a4, _⟩ := rc.getL e2
      rw [← rc.length] at e1
      refine ⟨u, xs.eraseIdx n, L1, L2, [], ?_, trivial, a3, a2, by simpa using a4⟩
      simp only [mPop, lstI_at hj, if_pos hc, e1, Option.bind_some, a1, Option.map_some]; rfl
    · cases e
  · cases e
theorem q_put : QuietR uPut := fun g vs as r g' vs' e => by
  unfold uPut at e
  split at e
  · rw [Option.map_eq_some_iff] at e; obtain ⟨n, _, e⟩ := e; cases e; rfl
  · rw [Option.bind_eq_some_iff] at e
    obtain ⟨key, _, e⟩ := e
    split at e
    · split at e <;> cases e; rfl
    · split at e <;> cases e; rfl
  · cases e
theorem kIx_lt {key : L2.Key} : ∀ {ks : List L2.Key} {m : Nat}, kIx ks key = some m → m < ks.length
  | k :: ks, m, h => by
    simp only [kIx] at h
    split at h
    · cases h; simp
    · rw [Option.map_eq_some_iff] at h
      obtain ⟨m', h1, rfl⟩ := h
      have := kIx_lt h1
      simp; omega
theorem kIx_none {key : L2.Key} : ∀ {ks : List L2.Key}, kIx ks key = none ↔ key ∉ ks
  | [] => by simp [kIx]
  | k :: ks => by
    simp only [kIx, List.mem_cons]
    split
    · rename_i h; simp [h]
    · rename_i h
      rw [Option.map_eq_none_iff, kIx_none]
      constructor
      · rintro a (b | b)
        · exact h b.symm
        · exact a b
      · exact fun a b => a (.inr b)
theorem put_none {key : L2.Key} {x : IV} : ∀ {ks : List L2.Key} {xs : List IV}, ks.length = xs.length → key ∉ ks → putI (keysOf ks xs) key x = keysOf (ks ++ [key]) (xs ++ [x]) := fun {ks xs} hl hk => by
  have h1 : ∀ {ks : List L2.Key} {xs : List IV}, ks.length = xs.length → key ∉ ks → ((keysOf ks xs).any fun kv => decide (kv.1 = key)) = false ∧ keysOf ks xs ++ [(key, x)] = keysOf (ks ++ [key]) (xs ++ [x]) := fun {ks} => by
    induction ks with
    | nil => intro xs hl hk; cases xs with | nil => exact ⟨rfl, rfl⟩ | cons _ _ => cases hl
    | cons k ks ih =>
      intro xs hl hk
      cases xs with
      | nil => cases hl
      | cons y ys =>
        simp only [List.mem_cons, not_or] at hk
        obtain ⟨i1, i2⟩ := ih (xs := ys) (by simpa using hl) hk.2
        simp only [keysOf, List.any_cons, i1, decide_eq_false (Ne.symm hk.1), Bool.or_self, List.cons_append, i2, and_self]
  obtain ⟨a, b⟩ := h1 hl hk
  unfold putI
  rw [a, if_neg Bool.false_ne_true, b]
theorem put_some {key : L2.Key} {x : IV} : ∀ {ks : List L2.Key} {xs : List IV} {m : Nat}, ks.length = xs.length → ks.Nodup → kIx ks key = some m → ((keysOf ks xs).any fun kv => decide (kv.1 = key)) = true ∧ (keysOf ks xs).map (fun kv => if kv.1 = key then (kv.1, x) else kv) = keysOf ks (xs.set m x)
  | k :: ks, [], m, hl, nd, h => by cases hl
  | k :: ks, y :: ys, m, hl, nd, h => by
    have id' : ∀ {ks : List L2.Key} {ys : List IV}, ks.length = ys.length → key ∉ ks → (keysOf ks ys).map (fun kv => if kv.1 = key then (kv.1, x) else kv) = keysOf ks ys := fun {ks} => by
      induction ks with
      | nil => intro ys _ _; cases ys <;> rfl
      | cons k ks ih =>
        intro ys hl hk
        cases ys with
        | nil => cases hl
        | cons z zs =>
          simp only [List.mem_cons, not_or] at hk
          simp only [keysOf, List.map_cons, if_neg (Ne.symm hk.1), ih (ys := zs) (by simpa using hl) hk.2]
    simp only [kIx] at h
    obtain ⟨n1, n2⟩ := List.nodup_cons.mp nd
    split at h
    · rename_i hk
      cases h
      subst hk
      simp only [keysOf, List.any_cons, decide_true, Bool.true_or, List.map_cons, if_true, List.set_cons_zero, id' (by simpa using hl) n1, and_self]
    · rename_i hk
      rw [Option.map_eq_some_iff] at h
      obtain ⟨m', h1, rfl⟩ := h
      obtain ⟨i1, i2⟩ := put_some (xs := ys) (x := x) (by simpa using hl) n2 h1
      simp only [keysOf, List.any_cons, i1, Bool.or_true, List.map_cons, if_neg hk, i2, List.set_cons_succ, and_self]
theorem u_put : MutOk putF uPut := fun S C j g g' xs us vs as vs' r Lc La hj og rc ra e => by
  unfold uPut at e
  split at e
  · rename_i v k
    rw [Option.map_eq_some_iff] at e
    obtain ⟨n, e1, e2⟩ := e
    cases e2
    cases ra with | cons h1 q1 e3 =>
    obtain ⟨u2, rfl, r2⟩ := q1.oneL
    obtain ⟨rfl, rfl⟩ := r2.int0
    rw [List.append_nil] at e3
    subst e3
    have hn : n < vs.length := by
      unfold L2.ixN at e1
      split at e1
      · split at e1
        · cases e1; omega
        · cases e1
      · split at e1
        · cases e1; omega
        · cases e1
    obtain ⟨u, L1, L2, a1, a2, a3, a4, a5⟩ := rc.getL (List.getElem?_eq_getElem hn)
    obtain ⟨L3, b1, b2⟩ := a5 h1
    rw [← rc.length] at e1
    refine ⟨.non, _, [], L3, L1, ?_, trivial, b1, .non, by simpa using b2⟩
    simp only [putF, putO, lstI_at hj, e1, Option.map_some]; rfl
  · rename_i ks v k
    rw [Option.bind_eq_some_iff] at e
    obtain ⟨key, e1, e2⟩ := e
    cases ra with | cons h1 q1 e3 =>
    rename_i ux _ _ _
    obtain ⟨u2, rfl, r2⟩ := q1.oneL
    have hlst : lstI (.ref j) S = none := by simp only [lstI]; rw [hj]; rfl
    have hd : dctI (.ref j) S = some (j, keysOf ks xs) := by simp only [dctI]; rw [hj]; rfl
    have l2 : ∀ {M : List Nat}, Rp S C u2 k M → M = [] := fun {M} r => by
      cases k <;> simp only [keyT] at e1 <;> try (cases e1; done)
      · exact r.int0.2
      · exact r.str0.2
    have z := l2 r2
    subst z
    rw [List.append_nil] at e3
    subst e3
    have hk : keyI u2 = some key := by
      cases k <;> simp only [keyT] at e1 <;> try (cases e1; done)
      · rw [r2.int0.1]; exact e1
      · rw [r2.str0.1]; exact e1
    split at e2
    · rename_i n hn
      split at e2
      · rename_i hsz
        cases e2
        have hnl : n < vs.length := by have := kIx_lt hn; have := og.1; have := rc.length; omega
        obtain ⟨u, L1, L2, a1, a2, a3, a4, a5⟩ := rc.getL (List.getElem?_eq_getElem hnl)
        obtain ⟨L3, b1, b2⟩ := a5 h1
        obtain ⟨p1, p2⟩ := put_some (x := ux) (xs := xs) og.1 og.2 hn
        have hsz' : (keysOf ks xs).length < 16777216 := by rw [keysOf_len og.1]; exact hsz
        refine ⟨.non, _, [], L3, L1, ?_, ⟨by rw [List.length_set]; exact og.1, og.2⟩, b1, .non, by simpa using b2⟩
        simp only [putF, putO, hlst, hd, hk, Option.bind_some, if_pos hsz', Option.map_some, putI, p1, if_true, mkO, p2]
      · cases e2
    · rename_i hn
      split at e2
      · rename_i hsz
        cases e2
        have hsz' : (keysOf ks xs).length < 16777216 := by rw [keysOf_len og.1]; exact hsz
        rw [kIx_none] at hn
        refine ⟨.non, xs ++ [ux], [], Lc ++ _, [], ?_, ⟨by simp [og.1], ?_⟩, Rps.append rc (.one h1), .non, by simp⟩
        · simp only [putF, putO, hlst, hd, hk, Option.bind_some, if_pos hsz', Option.map_some, mkO]
          rw [put_none og.1 hn]
        · rw [List.nodup_append]
          exact ⟨og.2, by simp, fun a ha c hc e => hn (by rw [List.mem_singleton] at hc; subst hc; subst e; exact ha)⟩
      · cases e2
  · cases e
end
end IP
namespace IP
open PySem
/-! ### a or b, of values -/
def vOrV (a b : VE) : VE := fun e => (a e).bind fun v e1 => (RV.ofO (tTru v) e1).bind fun c e1 => if c then .ok v e1 else b e1
theorem vo_orV {kp : List Nat} {cl cl' : Bool} {m m' : SE} {w w' : VE} (h : VEok kp [] cl m w) (q : VEok kp [] cl' m' w') : VEok kp [] (cl && cl') (mOr m m') (vOrV w w') := fun b N0 A t S env Ls I => by
  refine (h b N0 A t S env Ls I).bind fun u v S1 env1 Ls1 L1 I1 st1 hL1 r1 c1 => ?_
  cases e : tTru v with
  | none => trivial
  | some c =>
    rw [tru_T r1 e]
    cases c with
    | true => exact ⟨u, S1, L1, Ls1, rfl, I1, st1, hL1, r1, fun z => by rw [Bool.and_eq_true] at z; exact c1 z.1⟩
    | false => exact aft_then st1 c1 (q b N0 A t S1 env1 Ls1 I1.drop)
end IP

/-! IPOc: rules for runs over trees. -/
namespace IP
open PySem
def vItF (ws : List Nat) (wi : VI) : VI := fun e => (wi e).bind fun kv e1 => match itemsT kv.1 (TV.fls fSh kv.2) with
  | some xs => if TV.alls fNw xs then .ok kv e1 else .ok (kv.1, TV.fls fUw kv.2) (shEnv ws e1)
  | none => .no
theorem vi_itf {kp ws : List Nat} {cl : Bool} {m : SI} {w : VI} (h : VIok kp ws cl m w) (hkp : ∀ x ∈ ws, x ∉ kp) : VIok kp ws false m (vItF ws w) := fun b N0 A t S env Ls I => by
  have h1 := h b N0 A t S env Ls I
  unfold vItF
  generalize hm : m t S = x at h1
  cases hw : w env with
  | ok v env' =>
    rw [hw] at h1
    obtain ⟨u, S', L, Ls', e, I', st, hL, ⟨us, eu, q⟩, _⟩ := h1
    simp only [RV.bind]
    split
    · split
      · exact ⟨u, S', L, Ls', e, I', st, hL, ⟨us, eu, q⟩, fun z => by cases z⟩
      · obtain ⟨Ls2, I2, hs2⟩ := I'.shs ws hkp
        have fr : ∀ {j : Nat}, Fresh Ls' (A ++ L) j → Fresh Ls2 (A ++ L) j := fun {j} h => ⟨fun y hy => h.1 y (hs2 y j hy).1, h.2⟩
        refine ⟨u, S', L, Ls2, e, I2, ⟨st.len, st.keep, fun y j hj => st.own y j (hs2 y j hj).1⟩, hL, ⟨us, eu, ?_⟩, fun z => by cases z⟩
        refine q.gen1 (p := fun _ => true) rfl rfl (fun k hk => by cases k <;> first | exact absurd rfl hk | nofun) (fun k j o hk _ hc hs => ⟨?_, hs⟩) (TV.alls_true _) fun _ _ => rfl
        cases k with
        | o => exact absurd rfl hk
        | s => exact ⟨hc.1, fr hc.2⟩
        | z => exact ⟨hc.1, fr hc.2⟩
        | w =>
          obtain ⟨x, hx, hj⟩ := hc
          refine ⟨I'.fresh_le hj (hkp x hx), fun y hy => ?_, fun m => I'.ad j m x hj⟩
          obtain ⟨a1, a2⟩ := hs2 y j hy
          rw [I'.dj y x j a1 hj] at a2
          exact a2 hx
    · trivial
  | ex c fs env' => rw [hw] at h1; exact h1
  | no => trivial
/-! ### equations -/
section
variable {α β : Type} {e e1 : Env} {i j : Nat} {v v' : TV} {xs ys : List TV} {a b : VE} {aa bb : VA} {ca cb : VB} {sa sb : VS} {wi : VI} {ws own : List Nat} {g : T2} {g1 : T1} {gl : TL} {gm : TM} {tg : Tg} {W : VF} {WI : VFI} {φ : Fl → Fl} {k : Fl} {p q : Int} {x y : Str} {lo hi : VO} {gt : Tag} {kb : Bool}
theorem z_bind {f : α → Env → RV β} {a : α} : (RV.ok a e).bind f = f a e := (rfl)
theorem z_bindx {f : α → Env → RV β} {c : Str} {fs : List (Str × IV)} : (RV.ex c fs e : RV α).bind f = .ex c fs e := (rfl)
theorem z_ofO {a : α} : RV.ofO (some a) e = .ok a e := (rfl)
def slotT (o : Option (Option TV)) (e : Env) : RV TV := match o with
  | some (some v) => .ok v.bo e
  | _ => .no
theorem z_slot : slotT (some (some v)) e = .ok v.bo e := (rfl)
theorem z_var : vVar i e = slotT e[i]? e := by unfold vVar slotT; rfl
theorem z_c : vC v e = .ok v e := (rfl)
theorem z_fl : vFl ws a e = (a e).bind fun v e1 => if v.nw then .ok v e1 else .ok v.uw (shEnv ws e1) := (rfl)
theorem z_pl : vPl a e = (a e).bind fun v e1 => if v.nw then .ok v e1 else .no := (rfl)
theorem z_bin : vBin g a b e = (a e).bind fun x e1 => (b e1).bind fun y e2 => RV.ofO (g x.sh y.sh) e2 := (rfl)
theorem z_un : vUn g1 a e = (a e).bind fun x e1 => RV.ofO (g1 x.sh) e1 := (rfl)
theorem z_nil : vNil e = .ok [] e := (rfl)
theorem z_cons : vCons a aa e = (a e).bind fun x e1 => (aa e1).bind fun xs e2 => .ok (x :: xs) e2 := (rfl)
theorem z_fn : vFn gl aa e = (aa e).bind fun xs e1 => RV.ofO (gl (TV.fls fSh xs)) e1 := (rfl)
theorem z_tup : vTup aa e = (aa e).bind fun xs e1 => if xs.length ≤ 16777216 then .ok (.tup xs) e1 else .no := (rfl)
theorem z_lst : vLst aa e = (aa e).bind fun xs e1 => if xs.length ≤ 16777216 then .ok (.nd .o .lst xs) e1 else .no := (rfl)
theorem z_d0 : vDisp0 e = .ok (.nd .o (.dct []) []) e := (rfl)
theorem z_B : vB a e = (a e).bind fun v e1 => RV.ofO (tBl v) e1 := (rfl)
theorem z_tru : vTru a e = (a e).bind fun v e1 => RV.ofO (tTru v) e1 := (rfl)
theorem z_andT : vAndT ca cb e = (ca e).bind fun c e1 => if c then cb e1 else .ok false e1 := (rfl)
theorem z_orT : vOrT ca cb e = (ca e).bind fun c e1 => if c then .ok true e1 else cb e1 := (rfl)
theorem z_notT : vNotT ca e = (ca e).bind fun c e1 => .ok (!c) e1 := (rfl)
theorem z_and : vAnd a b e = (a e).bind fun v e1 => (RV.ofO (tBl v) e1).bind fun c e1 => if c then b e1 else .ok (.bl false) e1 := (rfl)
theorem z_or : vOr a b e = (a e).bind fun v e1 => (RV.ofO (tBl v) e1).bind fun c e1 => if c then .ok (.bl true) e1 else b e1 := (rfl)
theorem z_not : vNot a e = (a e).bind fun v e1 => (RV.ofO (tBl v) e1).bind fun c e1 => .ok (.bl (!c)) e1 := (rfl)
theorem z_if : vIf ca a b e = (ca e).bind fun k e1 => if k then a e1 else b e1 := (rfl)
theorem z_chain {f g : T2} {c : VE} : vChain f g a b c e = (a e).bind fun x e1 => (b e1).bind fun y e2 => (RV.ofO ((f x.sh y.sh).bind tBl) e2).bind fun k e3 => if k then (c e3).bind fun w e4 => RV.ofO (g y.sh w.sh) e4 else .ok (.bl false) e3 := (rfl)
theorem z_tBl : tBl (.bl kb) = some kb := (rfl)
theorem z_tru1 : tTru .non = some false := (rfl)
theorem z_tru2 : tTru (.bl kb) = some kb := (rfl)
theorem z_tru3 : tTru (.int p) = some (p != 0) := (rfl)
theorem z_tru4 : tTru (.tup xs) = some (!xs.isEmpty) := (rfl)
theorem z_tru5 : tTru (.nd k .lst xs) = some (!xs.isEmpty) := (rfl)
theorem z_tru6 : tTru (.str x) = if x.length ≤ 16777216 then some ((x.length : Int) != 0) else none := (rfl)
theorem z_pn : vPNone e = .ok none e := (rfl)
theorem z_ps : vPSome a e = (a e).bind fun v e1 => RV.ofO ((tInt v).map some) e1 := (rfl)
theorem z_tInt : tInt (.int p) = some p := (rfl)
theorem z_sl : vSl a lo hi e = (a e).bind fun x e1 => (lo e1).bind fun l e2 => (hi e2).bind fun h e3 => RV.ofO (tSl x.sh l h) e3 := (rfl)
theorem z_mt {T : String} : vMt T gm a aa e = (a e).bind fun x e1 => if tTy T x then (aa e1).bind fun xs e2 => RV.ofO (gm x.sh (TV.fls fSh xs)) e2 else .no := (rfl)
theorem z_call : vCall W aa e = (aa e).bind fun vs e1 => (W (TV.fls fFz vs)).go (TV.alls fNw vs) TV.nz e1 := (rfl)
theorem z_go {c : Bool} {nz : TV → Bool} : (RD.ok v).go c nz e = if nz v || c then .ok v e else .no := (rfl)
theorem z_gox {c : Bool} {nz : TV → Bool} {cc : Str} {fs : List (Str × IV)} : (RD.ex cc fs).go c nz e = .ex cc fs e := (rfl)
def ioC (WI : VFI) (p i : Nat) (vs : List TV) (e1 : Env) (o : Option (Option TV)) : RV TV := match o with
  | some (some v) => if TV.alls fNw (vs.eraseIdx p) && decide (p < vs.length) then (WI ((TV.fls fFz vs).set p (v.fl fSz))).go i e1 else .no
  | _ => .no
theorem z_ioC {p : Nat} : ioC WI p i xs e (some (some v)) = if TV.alls fNw (xs.eraseIdx p) && decide (p < xs.length) then (WI ((TV.fls fFz xs).set p (v.fl fSz))).go i e else .no := (rfl)
theorem z_callIO {p : Nat} : vCallIO WI p i aa e = (aa e).bind fun vs e1 => ioC WI p i vs e1 e1[i]? := (rfl)
theorem z_goI : (RDI.ok v v').go i e = .ok v (e.set i (some v')) := (rfl)
theorem z_yes {f : VB} (h : f = fun e => .ok true e) : f e = .ok true e := by rw [h]
/-! flags -/
theorem y_non : TV.fl φ .non = .non := (rfl)
theorem y_bl : TV.fl φ (.bl kb) = .bl kb := (rfl)
theorem y_int : TV.fl φ (.int p) = .int p := (rfl)
theorem y_str : TV.fl φ (.str x) = .str x := (rfl)
theorem y_ty {n : String} : TV.fl φ (.ty n) = .ty n := (rfl)
theorem y_tup : TV.fl φ (.tup xs) = .tup (TV.fls φ xs) := (rfl)
theorem y_nd : TV.fl φ (.nd k gt xs) = .nd (φ k) gt (TV.fls φ xs) := (rfl)
theorem y_0 : TV.fls φ [] = [] := (rfl)
theorem y_1 : TV.fls φ (v :: xs) = v.fl φ :: TV.fls φ xs := (rfl)
theorem y_ap : TV.fls φ (xs ++ ys) = TV.fls φ xs ++ TV.fls φ ys := by rw [TV.fls_eq, TV.fls_eq, TV.fls_eq, List.map_append]
theorem y_nI {ns : List Int} : TV.fls φ (nI ns) = nI ns := by
  induction ns with
  | nil => rfl
  | cons n ns ih => show TV.fl φ (.int n) :: TV.fls φ (nI ns) = _; rw [ih]; rfl
def sS (xs : List Str) : List TV := xs.map TV.str
def bS (xs : List Bool) : List TV := xs.map TV.bl
theorem y_sS {ns : List Str} : TV.fls φ (sS ns) = sS ns := by
  induction ns with
  | nil => rfl
  | cons n ns ih => show TV.fl φ (.str n) :: TV.fls φ (sS ns) = _; rw [ih]; rfl
theorem y_bS {ns : List Bool} : TV.fls φ (bS ns) = bS ns := by
  induction ns with
  | nil => rfl
  | cons n ns ih => show TV.fl φ (.bl n) :: TV.fls φ (bS ns) = _; rw [ih]; rfl
theorem y_sho : fSh .o = .s := (rfl)
theorem y_shs : fSh .s = .s := (rfl)
theorem y_shz : fSh .z = .z := (rfl)
theorem y_shw : fSh .w = .w := (rfl)
theorem y_boo : fBo .o = .w := (rfl)
theorem y_bos : fBo .s = .s := (rfl)
theorem y_boz : fBo .z = .z := (rfl)
theorem y_bow : fBo .w = .w := (rfl)
theorem y_uwo : fUw .o = .o := (rfl)
theorem y_uws : fUw .s = .s := (rfl)
theorem y_uwz : fUw .z = .z := (rfl)
theorem y_uww : fUw .w = .s := (rfl)
theorem y_fz : fFz k = .z := (rfl)
theorem y_szo : fSz .o = .o := (rfl)
theorem y_szs : fSz .s = .z := (rfl)
theorem y_szz : fSz .z = .z := (rfl)
theorem y_szw : fSz .w = .w := (rfl)
theorem y_nwo : fNw .o = true := (rfl)
theorem y_nws : fNw .s = true := (rfl)
theorem y_nwz : fNw .z = true := (rfl)
theorem y_nww : fNw .w = false := (rfl)
theorem y_nzo : fNz .o = true := (rfl)
theorem y_nzs : fNz .s = true := (rfl)
theorem y_nzz : fNz .z = false := (rfl)
theorem y_nzw : fNz .w = true := (rfl)
theorem y_noo : fNo .o = false := (rfl)
theorem y_nos : fNo .s = true := (rfl)
theorem y_noz : fNo .z = true := (rfl)
theorem y_now : fNo .w = true := (rfl)
variable {pp : Fl → Bool}
theorem y_a0 : TV.alls pp [] = true := (rfl)
theorem y_a1 : TV.alls pp (v :: xs) = (v.all pp && TV.alls pp xs) := (rfl)
theorem y_ap2 : TV.alls pp (xs ++ ys) = (TV.alls pp xs && TV.alls pp ys) := by rw [TV.alls_eq, TV.alls_eq, TV.alls_eq, List.all_append]
theorem y_anon : TV.all pp .non = true := (rfl)
theorem y_abl : TV.all pp (.bl kb) = true := (rfl)
theorem y_aint : TV.all pp (.int p) = true := (rfl)
theorem y_astr : TV.all pp (.str x) = true := (rfl)
theorem y_aty {n : String} : TV.all pp (.ty n) = true := (rfl)
theorem y_atup : TV.all pp (.tup xs) = TV.alls pp xs := (rfl)
theorem y_and : TV.all pp (.nd k gt xs) = (pp k && TV.alls pp xs) := (rfl)
theorem y_anI {ns : List Int} : TV.alls pp (nI ns) = true := by
  rw [TV.alls_eq, nI, List.all_map, List.all_eq_true]; intros; rfl
theorem y_asS {ns : List Str} : TV.alls pp (sS ns) = true := by
  rw [TV.alls_eq, sS, List.all_map, List.all_eq_true]; intros; rfl
theorem y_abS {ns : List Bool} : TV.alls pp (bS ns) = true := by
  rw [TV.alls_eq, bS, List.all_map, List.all_eq_true]; intros; rfl
/-! statements -/
theorem z_go_nx {f : VS} : (RVS.nx e).go f = f e := (rfl)
theorem z_go_ret {f : VS} : (RVS.ret v e).go f = .ret v e := (rfl)
theorem z_go_brk {f : VS} : (RVS.brk e).go f = .brk e := (rfl)
theorem z_go_cnt {f : VS} : (RVS.cnt e).go f = .cnt e := (rfl)
theorem z_go_ex {f : VS} {c : Str} {fs : List (Str × IV)} : (RVS.ex c fs e).go f = .ex c fs e := (rfl)
theorem z_st {a : α} {f : α → Env → RVS} : (RV.ok a e).st f = f a e := (rfl)
theorem z_stx {f : α → Env → RVS} {c : Str} {fs : List (Str × IV)} : (RV.ex c fs e : RV α).st f = .ex c fs e := (rfl)
theorem z_wnil : wNil e = .nx e := (rfl)
theorem z_seq : wSeq sa sb e = (sa e).go sb := (rfl)
theorem z_expr : wExpr a e = (a e).st fun _ e1 => .nx e1 := (rfl)
theorem z_ret : wRet a e = (a e).st fun v e1 => .ret v e1 := (rfl)
def retV (i : Nat) (e : Env) (o : Option (Option TV)) : RVS := match o with
  | some (some v) => .ret v (e.set i none)
  | _ => .no
theorem z_retV : wRetV i e = retV i e e[i]? := (rfl)
theorem z_retV1 : retV i e (some (some v)) = .ret v (e.set i none) := (rfl)
theorem z_retN : wRetN e = .ret .non e := (rfl)
theorem z_brk : wBrk e = .brk e := (rfl)
theorem z_cnt : wCnt e = .cnt e := (rfl)
theorem z_wif : wIf ca sa sb e = (ca e).st fun k e1 => if k then sa e1 else sb e1 := (rfl)
def asgT (o : Option Env) : RVS := match o with
  | some e2 => .nx e2
  | none => .no
theorem z_asgT : asgT (some e) = .nx e := (rfl)
theorem z_asg : wAsg tg a e = (a e).st fun v e1 => asgT (tgT tg v e1) := (rfl)
theorem z_tgn : tgT (.nm i) v e = some (e.set i (some v)) := by simp only [tgT]
def tgU (ts : List Tg) (v : TV) (e : Env) : Option Env := match v with
  | .tup xs => tgTs ts xs e
  | .nd _ .lst xs => tgTs ts xs e
  | _ => none
theorem z_tgu {ts : List Tg} : tgT (.tu ts) v e = tgU ts v.sh e := by
  simp only [tgT]
  cases v.sh with
  | nd k g xs => cases g <;> rfl
  | _ => rfl
theorem z_tgu1 {ts : List Tg} : tgU ts (.tup xs) e = tgTs ts xs e := (rfl)
theorem z_tgu2 {ts : List Tg} : tgU ts (.nd k .lst xs) e = tgTs ts xs e := (rfl)
theorem z_tg0 : tgTs [] [] e = some e := by simp only [tgTs]
theorem z_tg1 {ts : List Tg} : tgTs (tg :: ts) (v :: xs) e = (tgT tg v e).bind fun e1 => tgTs ts xs e1 := by
  simp only [tgTs]; cases tgT tg v e <;> rfl
def augT (g : T2) (i : Nat) (y : TV) (e1 : Env) (o : Option (Option TV)) : RVS := match o with
  | some (some x) => match g x.bo y.sh with
    | some z => if z.nw then .nx (e1.set i (some z)) else .no
    | none => .no
  | _ => .no
def augL (a : VE) (e : Env) (o : Option (Option TV)) (f : TV → Env → RVS) : RVS := match o with
  | some (some _) => (a e).st f
  | _ => .no
def augZ (i : Nat) (e1 : Env) (o : Option TV) : RVS := match o with
  | some z => if z.nw then .nx (e1.set i (some z)) else .no
  | none => .no
theorem z_aug : wAug g i a e = augL a e e[i]? fun y e1 => augT g i y e1 e1[i]? := (rfl)
theorem z_augL {f : TV → Env → RVS} : augL a e (some (some v)) f = (a e).st f := (rfl)
theorem z_augT : augT g i v' e (some (some v)) = augZ i e (g v.bo v'.sh) := (rfl)
theorem z_augZ : augZ i e (some v) = if v.nw then .nx (e.set i (some v)) else .no := (rfl)
def mutL (T : String) (aa : VA) (e : Env) (f : List TV → Env → RV TV) (o : Option (Option TV)) : RV TV := match o with
  | some (some (.nd .o g0 vs0)) => if tTy T (.nd .o g0 vs0) then (aa e).bind f else .no
  | _ => .no
def mutZ (i : Nat) (e1 : Env) (o : Option (TV × Tag × List TV)) : RV TV := match o with
  | some (r, g', vs') => .ok r.sh (e1.set i (some (.nd .o g' vs')))
  | none => .no
def mutG (op : TMut) (i : Nat) (xs : List TV) (e1 : Env) (o : Option (Option TV)) : RV TV := match o with
  | some (some (.nd .o g vs)) => mutZ i e1 (op g vs xs)
  | _ => .no
theorem mutGo_e {op : TMut} : vMutGo op i xs e = mutG op i xs e e[i]? := by
  unfold vMutGo mutG mutZ
  rfl
theorem z_mut {T : String} {op : TMut} : vMut T op i aa e = mutL T aa e (fun xs e1 => mutG op i xs e1 e1[i]?) e[i]? := by
  unfold vMut mutL
  simp only [mutGo_e]
  all_goals rfl
theorem z_mutL {T : String} {f : List TV → Env → RV TV} : mutL T aa e f (some (some (.nd .o gt xs))) = if tTy T (.nd .o gt xs) then (aa e).bind f else .no := (rfl)
theorem z_mutG {op : TMut} : mutG op i xs e (some (some (.nd .o gt ys))) = mutZ i e (op gt ys xs) := (rfl)
theorem z_mutZ : mutZ i e (some (v, gt, xs)) = .ok v.sh (e.set i (some (.nd .o gt xs))) := (rfl)
def putL (aa : VA) (e : Env) (o : Option (Option TV)) (f : List TV → Env → RVS) : RVS := match o with
  | some (some _) => (aa e).st f
  | _ => .no
theorem z_put {op : TMut} : wPut op i a b e = putL (vCons b (vCons a vNil)) e e[i]? fun xs e1 => (mutG op i xs e1 e1[i]?).st fun _ e2 => .nx e2 := by
  unfold wPut putL
  simp only [mutGo_e]; all_goals rfl
theorem z_putL {f : List TV → Env → RVS} : putL aa e (some (some v)) f = (aa e).st f := (rfl)
def forG (tg : Tg) (b : VS) (e1 : Env) (o : Option (List TV)) : RVS := match o with
  | some xs => if xs.length < 1000000 then vloop tg b xs e1 else .no
  | none => .no
theorem z_for : wFor tg wi sa e = (wi e).st fun kv e1 => forG tg sa e1 (itemsT kv.1 (TV.fls fSh kv.2)) := (rfl)
theorem z_forG : forG tg sa e (some xs) = if xs.length < 1000000 then vloop tg sa xs e else .no := (rfl)
def loopG (tg : Tg) (b : VS) (xs : List TV) (r : RVS) : RVS := match r with
  | .nx e2 => vloop tg b xs e2
  | .cnt e2 => vloop tg b xs e2
  | .brk e2 => .nx e2
  | r => r
def loopT (tg : Tg) (b : VS) (xs : List TV) (o : Option Env) : RVS := match o with
  | some e1 => loopG tg b xs (b e1)
  | none => .no
theorem z_loop0 : vloop tg sa [] e = .nx e := (rfl)
theorem z_loop1 : vloop tg sa (v :: xs) e = loopT tg sa xs (tgT tg v e) := by
  unfold loopT loopG; simp only [vloop]; all_goals rfl
theorem z_loopT : loopT tg sa xs (some e) = loopG tg sa xs (sa e) := (rfl)
theorem z_loopn : loopG tg sa xs (.nx e) = vloop tg sa xs e := (rfl)
theorem z_loopc : loopG tg sa xs (.cnt e) = vloop tg sa xs e := (rfl)
theorem z_loopb : loopG tg sa xs (.brk e) = .nx e := (rfl)
theorem z_loopr : loopG tg sa xs (.ret v e) = .ret v e := (rfl)
theorem z_loopx {c : Str} {fs : List (Str × IV)} : loopG tg sa xs (.ex c fs e) = .ex c fs e := (rfl)
def whG (c : VB) (b : VS) (f : Nat) (r : RVS) : RVS := match r with
  | .nx e2 => vwhile c b f e2
  | .cnt e2 => vwhile c b f e2
  | .brk e2 => .nx e2
  | r => r
theorem z_while {f : Nat} : wWhile ca sa f e = vwhile ca sa f e := (rfl)
theorem z_wh {f : Nat} : vwhile ca sa (f + 1) e = (ca e).st fun k e1 => if k then whG ca sa f (sa e1) else .nx e1 := by
  simp only [vwhile]; all_goals rfl
theorem z_whn {f : Nat} : whG ca sa f (.nx e) = vwhile ca sa f e := (rfl)
theorem z_whb {f : Nat} : whG ca sa f (.brk e) = .nx e := (rfl)
theorem z_whr {f : Nat} : whG ca sa f (.ret v e) = .ret v e := (rfl)
/-! what is gone through -/
def itvT (v : TV) (e1 : Env) : RV (IK × List TV) := match v with
  | .tup xs => .ok (.tup, xs) e1
  | .str z => .ok (.str z, []) e1
  | .nd k .lst xs => .ok (.lst, [.nd k .lst xs]) e1
  | _ => .no
theorem z_iv : vIVal a e = (a e).bind itvT := (rfl)
theorem z_iv1 : itvT (.tup xs) e = .ok (.tup, xs) e := (rfl)
theorem z_iv2 : itvT (.str x) e = .ok (.str x, []) e := (rfl)
theorem z_iv3 : itvT (.nd k .lst xs) e = .ok (.lst, [.nd k .lst xs]) e := (rfl)
theorem z_rg {f : List TV → Option IK} : vRange f aa e = (aa e).bind fun vs e1 => (RV.ofO (f vs) e1).bind fun k e2 => .ok (k, []) e2 := (rfl)
theorem z_r1 : tR1 [.int p] = if small62 p then some (.rng 0 1 p.toNat) else none := (rfl)
theorem z_r2 : tR2 [.int p, .int q] = if small62 p && small62 q then some (.rng p 1 (q - p).toNat) else none := (rfl)
def enuT (vs : List TV) (e1 : Env) : RV (IK × List TV) := match vs with
  | [.nd k .lst xs] => .ok (.enum, [.nd k .lst xs]) e1
  | [.str z] => .ok (.enumS z, []) e1
  | _ => .no
theorem z_en : vEnum aa e = (aa e).bind enuT := (rfl)
theorem z_en2 : enuT [.str x] e = .ok (.enumS x, []) e := (rfl)
theorem z_it8 : itemsT (.enumS x) [] = some (enumT 0 (strT x)) := (rfl)
theorem z_en1 : enuT [.nd k .lst xs] e = .ok (.enum, [.nd k .lst xs]) e := (rfl)
def zipV (vs : List TV) (e1 : Env) : RV (IK × List TV) := match vs with
  | [.nd k .lst xs, .nd k' .lst ys] => .ok (.zip, [.nd k .lst xs, .nd k' .lst ys]) e1
  | _ => .no
theorem z_zp : vZip aa e = (aa e).bind zipV := (rfl)
theorem z_zp1 {k' : Fl} : zipV [.nd k .lst xs, .nd k' .lst ys] e = .ok (.zip, [.nd k .lst xs, .nd k' .lst ys]) e := (rfl)
def revV (vs : List TV) (e1 : Env) : RV (IK × List TV) := match vs with
  | [.nd k .lst xs] => .ok (.rev xs.length, [.nd k .lst xs]) e1
  | _ => .no
theorem z_rv : vRev aa e = (aa e).bind revV := (rfl)
theorem z_rv1 : revV [.nd k .lst xs] e = .ok (.rev xs.length, [.nd k .lst xs]) e := (rfl)
theorem z_it1 : itemsT .lst [.nd k .lst xs] = some xs := (rfl)
theorem z_it2 : itemsT .tup xs = some xs := (rfl)
theorem z_it3 : itemsT (.str x) [] = some (strT x) := (rfl)
theorem z_it4 {n : Nat} : itemsT (.rng p q n) [] = some (rngT p q n) := (rfl)
theorem z_it5 : itemsT .enum [.nd k .lst xs] = some (enumT 0 xs) := (rfl)
theorem z_it6 {k' : Fl} : itemsT .zip [.nd k .lst xs, .nd k' .lst ys] = some (zipT xs ys) := (rfl)
theorem z_it7 {n : Nat} : itemsT (.rev n) [.nd k .lst xs] = if n = xs.length then some xs.reverse else none := (rfl)
theorem z_itf : vItF ws wi e = (wi e).bind fun kv e1 => match itemsT kv.1 (TV.fls fSh kv.2) with
  | some xs => if TV.alls fNw xs then .ok kv e1 else .ok (kv.1, TV.fls fUw kv.2) (shEnv ws e1)
  | none => .no := (rfl)
def lcG (own : List Nat) (tg : Tg) (ca : VB) (a : VE) (e1 : Env) (o : Option (List TV)) : RV TV := match o with
  | some xs => if xs.length < 1000000 ∧ (TV.alls fNw xs && noO e1 own) = true then ((vlc own tg ca a xs [] e1).bind fun acc e2 => .ok (.nd .o .lst acc) e2).calm else .no
  | none => .no
theorem z_lc : vLc own tg wi ca a e = (wi e).bind fun kv e1 => lcG own tg ca a e1 (itemsT kv.1 (TV.fls fSh kv.2)) := (rfl)
theorem z_lcG : lcG own tg ca a e (some xs) = if xs.length < 1000000 ∧ (TV.alls fNw xs && noO e own) = true then ((vlc own tg ca a xs [] e).bind fun acc e2 => .ok (.nd .o .lst acc) e2).calm else .no := (rfl)
theorem z_calm {a : α} : (RV.ok a e).calm = .ok a e := (rfl)
theorem z_vlc0 : vlc own tg ca a [] xs e = .ok xs e := (rfl)
def lcT (own : List Nat) (tg : Tg) (ca : VB) (a : VE) (xs acc : List TV) (e : Env) (o : Option Env) : RV (List TV) := match o with
  | some e1 => (ca e1).bind fun k e2 => if k then (a e2).bind fun y e3 => vlc own tg ca a xs (acc ++ [y]) (restT e own e3) else vlc own tg ca a xs acc (restT e own e2)
  | none => .no
theorem z_vlc1 {acc : List TV} : vlc own tg ca a (v :: xs) acc e = lcT own tg ca a xs acc e (tgT tg v (wipeT e own)) := by
  unfold lcT; simp only [vlc]; all_goals rfl
theorem z_lcT {acc : List TV} : lcT own tg ca a xs acc e (some e1) = (ca e1).bind fun k e2 => if k then (a e2).bind fun y e3 => vlc own tg ca a xs (acc ++ [y]) (restT e own e3) else vlc own tg ca a xs acc (restT e own e2) := (rfl)
theorem z_noO0 : noO e [] = true := (rfl)
def noS (o : Option (Option TV)) : Bool := match o with
  | some (some v) => v.all fNo
  | _ => true
theorem z_noO1 {is : List Nat} : noO e (i :: is) = (noS e[i]? && noO e is) := (rfl)
theorem z_noS1 : noS (some (some v)) = v.all fNo := (rfl)
theorem z_noS2 : noS (some none) = true := (rfl)
theorem z_noS3 : noS none = true := (rfl)
theorem z_wipe0 : wipeT e [] = e := (rfl)
theorem z_wipe1 {is : List Nat} : wipeT e (i :: is) = (wipeT e is).set i none := (rfl)
theorem z_rest0 {e0 : Env} : restT e0 [] e = e := (rfl)
def resS (i : Nat) (e : Env) (o : Option (Option TV)) : Env := match o with
  | some v => e.set i v
  | none => e
theorem z_rest1 {e0 : Env} {is : List Nat} : restT e0 (i :: is) e = resS i (restT e0 is e) e0[i]? := (rfl)
theorem z_resS {o : Option TV} : resS i e (some o) = e.set i o := (rfl)
theorem z_she0 : shEnv [] e = e := (rfl)
def sheS (i : Nat) (e : Env) (o : Option (Option TV)) : Env := match o with
  | some (some v) => e.set i (some v.sh)
  | _ => e
theorem z_she1 {is : List Nat} : shEnv (i :: is) e = sheS i (shEnv is e) (shEnv is e)[i]? := (rfl)
theorem z_sheS : sheS i e (some (some v)) = e.set i (some v.sh) := (rfl)
theorem z_fun {N : List Str} {n : Nat} : vFun N n sa xs = if xs.length = n then (match sa (xs.map some ++ List.replicate (N.length - n) none) with
  | .nx _ => .ok .non
  | .ret v _ => .ok v
  | .ex c fs _ => .ex c fs
  | _ => .no) else .no := (rfl)
def RVS.fin (r : RVS) : RD := match r with
  | .nx _ => .ok .non
  | .ret v _ => .ok v
  | .ex c fs _ => .ex c fs
  | _ => .no
theorem z_fun1 {N : List Str} {n : Nat} (h : xs.length = n) : vFun N n sa xs = (sa (xs.map some ++ List.replicate (N.length - n) none)).fin := by
  unfold vFun RVS.fin; rw [if_pos h]; all_goals rfl
theorem z_fin1 : (RVS.nx e).fin = .ok .non := (rfl)
theorem z_fin2 : (RVS.ret v e).fin = .ok v := (rfl)
theorem z_fin3 {c : Str} {fs : List (Str × IV)} : (RVS.ex c fs e).fin = .ex c fs := (rfl)
def RVS.finI (p : Nat) (r : RVS) : RDI := match r with
  | .nx e => ioV p .non e
  | .ret v e => ioV p v e
  | .ex c fs e => ioX p c fs e
  | _ => .no
theorem z_funI {N : List Str} {n p : Nat} (h : xs.length = n) (hp : p < n) : vFunIO N n p sa xs = (sa (xs.map some ++ List.replicate (N.length - n) none)).finI p := by
  unfold vFunIO RVS.finI; rw [if_pos ⟨h, hp⟩]; all_goals rfl
theorem z_f0 {N : List Str} : vFun N 0 sa [] = (sa ([] ++ List.replicate (N.length - 0) none)).fin := z_fun1 (n := 0) (xs := []) rfl
theorem z_f1 {N : List Str} {a0 : TV} : vFun N 1 sa [a0] = (sa ([some a0] ++ List.replicate (N.length - 1) none)).fin := z_fun1 (n := 1) (xs := [a0]) rfl
theorem z_g1 {N : List Str} {a0 : TV} {p : Nat} (hp : p < 1) : vFunIO N 1 p sa [a0] = (sa ([some a0] ++ List.replicate (N.length - 1) none)).finI p := z_funI (n := 1) (xs := [a0]) rfl hp
theorem z_f2 {N : List Str} {a0 a1 : TV} : vFun N 2 sa [a0, a1] = (sa ([some a0, some a1] ++ List.replicate (N.length - 2) none)).fin := z_fun1 (n := 2) (xs := [a0, a1]) rfl
theorem z_g2 {N : List Str} {a0 a1 : TV} {p : Nat} (hp : p < 2) : vFunIO N 2 p sa [a0, a1] = (sa ([some a0, some a1] ++ List.replicate (N.length - 2) none)).finI p := z_funI (n := 2) (xs := [a0, a1]) rfl hp
theorem z_f3 {N : List Str} {a0 a1 a2 : TV} : vFun N 3 sa [a0, a1, a2] = (sa ([some a0, some a1, some a2] ++ List.replicate (N.length - 3) none)).fin := z_fun1 (n := 3) (xs := [a0, a1, a2]) rfl
theorem z_g3 {N : List Str} {a0 a1 a2 : TV} {p : Nat} (hp : p < 3) : vFunIO N 3 p sa [a0, a1, a2] = (sa ([some a0, some a1, some a2] ++ List.replicate (N.length - 3) none)).finI p := z_funI (n := 3) (xs := [a0, a1, a2]) rfl hp
theorem z_f4 {N : List Str} {a0 a1 a2 a3 : TV} : vFun N 4 sa [a0, a1, a2, a3] = (sa ([some a0, some a1, some a2, some a3] ++ List.replicate (N.length - 4) none)).fin := z_fun1 (n := 4) (xs := [a0, a1, a2, a3]) rfl
theorem z_g4 {N : List Str} {a0 a1 a2 a3 : TV} {p : Nat} (hp : p < 4) : vFunIO N 4 p sa [a0, a1, a2, a3] = (sa ([some a0, some a1, some a2, some a3] ++ List.replicate (N.length - 4) none)).finI p := z_funI (n := 4) (xs := [a0, a1, a2, a3]) rfl hp
theorem z_f5 {N : List Str} {a0 a1 a2 a3 a4 : TV} : vFun N 5 sa [a0, a1, a2, a3, a4] = (sa ([some a0, some a1, some a2, some a3, some a4] ++ List.replicate (N.length - 5) none)).fin := z_fun1 (n := 5) (xs := [a0, a1, a2, a3, a4]) rfl
theorem z_g5 {N : List Str} {a0 a1 a2 a3 a4 : TV} {p : Nat} (hp : p < 5) : vFunIO N 5 p sa [a0, a1, a2, a3, a4] = (sa ([some a0, some a1, some a2, some a3, some a4] ++ List.replicate (N.length - 5) none)).finI p := z_funI (n := 5) (xs := [a0, a1, a2, a3, a4]) rfl hp
theorem z_f6 {N : List Str} {a0 a1 a2 a3 a4 a5 : TV} : vFun N 6 sa [a0, a1, a2, a3, a4, a5] = (sa ([some a0, some a1, some a2, some a3, some a4, some a5] ++ List.replicate (N.length - 6) none)).fin := z_fun1 (n := 6) (xs := [a0, a1, a2, a3, a4, a5]) rfl
theorem z_g6 {N : List Str} {a0 a1 a2 a3 a4 a5 : TV} {p : Nat} (hp : p < 6) : vFunIO N 6 p sa [a0, a1, a2, a3, a4, a5] = (sa ([some a0, some a1, some a2, some a3, some a4, some a5] ++ List.replicate (N.length - 6) none)).finI p := z_funI (n := 6) (xs := [a0, a1, a2, a3, a4, a5]) rfl hp
theorem z_f7 {N : List Str} {a0 a1 a2 a3 a4 a5 a6 : TV} : vFun N 7 sa [a0, a1, a2, a3, a4, a5, a6] = (sa ([some a0, some a1, some a2, some a3, some a4, some a5, some a6] ++ List.replicate (N.length - 7) none)).fin := z_fun1 (n := 7) (xs := [a0, a1, a2, a3, a4, a5, a6]) rfl
theorem z_g7 {N : List Str} {a0 a1 a2 a3 a4 a5 a6 : TV} {p : Nat} (hp : p < 7) : vFunIO N 7 p sa [a0, a1, a2, a3, a4, a5, a6] = (sa ([some a0, some a1, some a2, some a3, some a4, some a5, some a6] ++ List.replicate (N.length - 7) none)).finI p := z_funI (n := 7) (xs := [a0, a1, a2, a3, a4, a5, a6]) rfl hp
def ioS (v : TV) (o : Option (Option TV)) : RDI := match o with
  | some (some v') => .ok v v'
  | _ => .no
theorem z_finI1 {p : Nat} : (RVS.nx e).finI p = ioS .non e[p]? := (rfl)
theorem z_finI2 {p : Nat} : (RVS.ret v e).finI p = ioS v e[p]? := (rfl)
theorem z_ioS : ioS v (some (some v')) = .ok v v' := (rfl)
/-! operations -/
theorem t_add : tAdd (.int p) (.int q) = some (.int (p + q)) := (rfl)
theorem t_addb : tAdd (.int p) (.bl kb) = some (.int (p + PyProof.Rows.b2i kb)) := (rfl)
theorem t_adds : tAdd (.str x) (.str y) = if x.length + y.length ≤ 16777216 then some (.str (x ++ y)) else none := (rfl)
theorem t_addl {k' : Fl} : tAdd (.nd k .lst xs) (.nd k' .lst ys) = if xs.length + ys.length ≤ 16777216 then some (.nd .o .lst (xs ++ ys)) else none := (rfl)
theorem t_sub : tSub (.int p) (.int q) = some (.int (p - q)) := (rfl)
theorem t_mul : tMul (.int p) (.int q) = if okMul p q then some (.int (p * q)) else none := (rfl)
theorem t_muls : tMul (.str x) (.int q) = if decide (x.length ≤ 1000000 ∧ -1000000 ≤ q ∧ q ≤ 1000000 ∧ x.length * q.toNat ≤ 16777216) then some (.str (Txt.mul x q)) else none := (rfl)
theorem t_mull : tMul (.nd k .lst xs) (.int q) = if decide (-(2 ^ 63) ≤ q ∧ q < 2 ^ 63 ∧ xs.length * q.toNat ≤ 16777216) then some (.nd .o .lst (List.replicate q.toNat xs).flatten) else none := (rfl)
theorem t_div : tFdiv (.int p) (.int q) = if decide (0 < q ∧ q < 1073741824) then some (.int (p / q)) else none := (rfl)
theorem t_mod : tMod (.int p) (.int q) = if decide (0 < q) then some (.int (p % q)) else none := (rfl)
theorem t_neg : tNeg (.int p) = some (.int (-p)) := (rfl)
theorem t_aug : tAugAdd (.int p) (.int q) = some (.int (p + q)) := (rfl)
theorem t_augs : tAugAdd (.str x) (.str y) = if x.length + y.length ≤ 16777216 then some (.str (x ++ y)) else none := (rfl)
theorem t_eq : tEq v v' = (eqT v v').map .bl := (rfl)
theorem t_ne : tNe v v' = (eqT v v').map fun b => .bl (!b) := (rfl)
theorem t_lt : tLt (.int p) (.int q) = some (.bl (decide (p < q))) := (rfl)
theorem t_le : tLe (.int p) (.int q) = some (.bl (decide (p ≤ q))) := (rfl)
theorem t_gt : tGt (.int p) (.int q) = some (.bl (decide (q < p))) := (rfl)
theorem t_ge : tGe (.int p) (.int q) = some (.bl (decide (q ≤ p))) := (rfl)
theorem t_eqi : eqT (.int p) (.int q) = some (decide (p = q)) := (rfl)
theorem t_eqs : eqT (.str x) (.str y) = some (decide (x = y)) := (rfl)
theorem t_eqb {b c : Bool} : eqT (.bl b) (.bl c) = some (decide (b = c)) := (rfl)
theorem t_eqn : eqT .non .non = some true := (rfl)
theorem t_is : tIs v v' = (isT v v').map .bl := (rfl)
theorem t_isn : tIsNot v v' = (isT v v').map fun b => .bl (!b) := (rfl)
theorem t_is1 : isT .non .non = some true := (rfl)
theorem t_is2 {b c : Bool} : isT (.bl b) (.bl c) = some (decide (b = c)) := (rfl)
theorem t_is3 : isT (.nd k gt xs) .non = some false := (rfl)
theorem t_is4 : isT (.int p) .non = some false := (rfl)
theorem t_is5 : isT (.str x) .non = some false := (rfl)
theorem t_is6 : isT (.bl kb) .non = some false := (rfl)
theorem t_is7 : isT (.tup xs) .non = some false := (rfl)
theorem t_is8 : isT .non (.bl kb) = some false := (rfl)
theorem t_ixt : tIx (.tup xs) (.int p) = L2.atI xs p := (rfl)
theorem t_ixl : tIx (.nd k .lst xs) (.int p) = L2.atI xs p := (rfl)
theorem t_ixs : tIx (.str x) (.int p) = if x.length ≤ 16777216 then (L2.atI x.cps.toList p).map fun c => .str ⟨#[c]⟩ else none := (rfl)
theorem t_ixd {ks : List L2.Key} : tIx (.nd k (.dct ks) xs) v = (keyT v).bind fun key => valT ks xs key := (rfl)
theorem t_k1 : keyT (.int p) = some (.inl p) := (rfl)
theorem t_k2 : keyT (.str x) = some (.inr x) := (rfl)
theorem t_in : tIn v v' = (inT v v').map .bl := (rfl)
theorem t_nin : tNotIn v v' = (inT v v').map fun b => .bl (!b) := (rfl)
theorem t_ind {ks : List L2.Key} {k' : Fl} : inT (.int p) (.nd k' (.dct ks) xs) = some (kIx ks (.inl p)).isSome := (rfl)
theorem t_len1 : tLen [.tup xs] = some (.int xs.length) := (rfl)
theorem t_len2 : tLen [.nd k .lst xs] = some (.int xs.length) := (rfl)
theorem t_len3 : tLen [.str x] = if x.length ≤ 16777216 then some (.int x.length) else none := (rfl)
theorem t_abs : tAbs [.int p] = some (.int (if p < 0 then -p else p)) := (rfl)
theorem t_max : tMax [.int p, .int q] = some (.int (if q > p then q else p)) := (rfl)
theorem t_min : tMin [.int p, .int q] = some (.int (if q < p then q else p)) := (rfl)
theorem t_maxl : tMax [.nd k .lst xs] = (mapO tInt xs).bind fun ns => (listMax ns).map .int := (rfl)
theorem t_minl : tMin [.nd k .lst xs] = minT k xs (mapO tInt xs) := (rfl)
theorem t_minT1 {ns : List Int} : minT k xs (some ns) = (listMin ns).map .int := (rfl)
theorem t_minT0 : minT k xs none = minDT k xs := (rfl)
theorem t_ltt : tLt (.tup xs) (.tup ys) = (ltD (dT 20 (.tup xs)) (dT 20 (.tup ys))).map .bl := (rfl)
theorem z_orV : vOrV a b e = (a e).bind fun v e1 => (RV.ofO (tTru v) e1).bind fun c e1 => if c then .ok v e1 else b e1 := (rfl)
theorem t_sum : tSum [.nd k .lst xs] = (mapO tInt xs).map fun ns => .int ns.sum := (rfl)
theorem t_all : tAll [.nd k .lst xs] = (mapO asBlT xs).map fun ns => .bl (ns.all id) := (rfl)
theorem t_any : tAny [.nd k .lst xs] = (mapO asBlT xs).map fun ns => .bl (ns.any id) := (rfl)
theorem t_int1 : tIntF [.int p] = some (.int p) := (rfl)
theorem t_int2 : tIntF [.bl kb] = some (.int (if kb then 1 else 0)) := (rfl)
theorem t_int3 : tIntF [.str x] = if x.length ≤ 640 then (PySem.intText? x).map .int else none := (rfl)
theorem t_str : tStrF [.int p] = if p.natAbs.log2 < 1920 then some (.str (toString p)) else none := (rfl)
theorem t_list1 : tList [.tup xs] = some (.nd .o .lst xs) := (rfl)
theorem t_list2 : tList [.nd k .lst xs] = some (.nd .o .lst xs) := (rfl)
theorem t_tup1 : tTuple [.tup xs] = some (.tup xs) := (rfl)
theorem t_tup2 : tTuple [.nd k .lst xs] = some (.tup xs) := (rfl)
theorem t_dm : tDivmod [.int p, .int q] = if decide (0 < q ∧ q < 1073741824) then some (.tup [.int (p / q), .int (p % q)]) else none := (rfl)
theorem t_ty1 : tyT .non = some "NoneType" := (rfl)
theorem t_ty2 : tyT (.bl kb) = some "bool" := (rfl)
theorem t_ty3 : tyT (.int p) = some "int" := (rfl)
theorem t_ty4 : tyT (.str x) = some "str" := (rfl)
theorem t_ty5 : tyT (.tup xs) = some "tuple" := (rfl)
theorem t_ty6 : tyT (.nd k .lst xs) = some "list" := (rfl)
theorem t_ty7 {ks : List L2.Key} : tyT (.nd k (.dct ks) xs) = some "dict" := (rfl)
theorem t_inst {n : String} : tIsinst [v, .ty n] = if tyNames.contains n then (tyT v).map fun t => .bl (isSub t n) else none := (rfl)
theorem t_inst2 : tIsinst [v, .tup xs] = (tyT v).bind fun t => (isIn1T t xs).map .bl := (rfl)
theorem t_in1 {t : String} : isIn1T t [] = some false := (rfl)
theorem t_in2 {t n : String} : isIn1T t (.ty n :: xs) = if tyNames.contains n then (isIn1T t xs).map fun b => isSub t n || b else none := (rfl)
theorem t_tt1 {T : String} : tTy T (.str x) = (T == "str") := (rfl)
theorem t_tt2 {T : String} : tTy T (.nd k .lst xs) = (T == "list") := (rfl)
theorem t_tt3 {T : String} {ks : List L2.Key} : tTy T (.nd k (.dct ks) xs) = (T == "dict") := (rfl)
theorem t_find : tFind (.str x) [.str y] = some (.int (Txt.find x y)) := (rfl)
theorem t_sw : tStartswith (.str x) [.str y] = some (.bl (Txt.startswith x y)) := (rfl)
theorem t_part : tPartition (.str x) [.str y] = if decide (y.length ≠ 0 ∧ x.length ≤ 16777216) then some (.tup [.str (Txt.partition x y).1, .str (Txt.partition x y).2.1, .str (Txt.partition x y).2.2]) else none := (rfl)
theorem t_split : tSplit (.str x) [.str y] = if decide (y.length ≠ 0 ∧ x.length + 2 ≤ 16777216) then some (.nd .o .lst ((Txt.split x y).map .str)) else none := (rfl)
theorem t_join : tJoin (.str x) [.nd k .lst xs] = (mapO asStrT xs).bind fun ys => if (ys.map (·.length)).sum + ys.length * x.length ≤ 16777216 then some (.str (Txt.join x ys)) else none := (rfl)
theorem t_upper : tUpper (.str x) [] = if x.length ≤ 5592405 then some (.str (Txt.upper x)) else none := (rfl)
theorem t_get {ks : List L2.Key} : tGet (.nd k (.dct ks) xs) [v] = (keyT v).map fun key => (valT ks xs key).getD .non := (rfl)
theorem t_get2 {ks : List L2.Key} : tGet (.nd k (.dct ks) xs) [v, v'] = (keyT v).map fun key => (valT ks xs key).getD v' := (rfl)
theorem t_sl1 {l h : Option Int} : tSl (.str x) l h = if x.length ≤ 16777216 then some (.str (L2.cutS x l h)) else none := (rfl)
theorem t_sl3 {l h : Option Int} : tSl (.nd k .lst xs) l h = some (.nd .o .lst (cutT xs l h)) := (rfl)
theorem t_app : uAppend .lst xs [v] = if xs.length < 16777216 then some (.non, .lst, xs ++ [v]) else none := (rfl)
theorem t_ext1 : uExtend .lst xs [.nd .o .lst ys] = if xs.length + ys.length ≤ 16777216 then some (.non, .lst, xs ++ ys) else none := (rfl)
theorem t_ext2 : uExtend .lst xs [.nd .s .lst ys] = if xs.length + ys.length ≤ 16777216 then some (.non, .lst, xs ++ ys) else none := (rfl)
theorem t_clear : uClear .lst xs [] = some (.non, .lst, []) := (rfl)
theorem t_put : uPut .lst xs [v, .int p] = (L2.ixN xs.length p).map fun n => (.non, .lst, xs.set n v) := (rfl)
theorem t_pop0 : uPop .lst xs [] = xs[xs.length - 1]?.map fun y => (y, .lst, xs.dropLast) := (rfl)
theorem t_mI {ns : List Int} : mapO tInt (nI ns) = some ns := by
  induction ns with
  | nil => rfl
  | cons n ns ih => simp only [nI] at ih; simp only [nI, List.map_cons, mapO, tInt, ih]
theorem t_mB {ns : List Bool} : mapO asBlT (bS ns) = some ns := by
  induction ns with
  | nil => rfl
  | cons n ns ih => simp only [bS] at ih; simp only [bS, List.map_cons, mapO, asBlT, ih]
theorem t_mS {ns : List Str} : mapO asStrT (sS ns) = some ns := by
  induction ns with
  | nil => rfl
  | cons n ns ih => simp only [sS] at ih; simp only [sS, List.map_cons, mapO, asStrT, ih]
theorem at_nat {β : Type} {xs : List β} {k : Nat} : L2.atI xs (k : Int) = xs[k]? := by
  unfold L2.atI L2.ixN
  rw [if_pos (by omega)]
  by_cases h : k < xs.length
  · rw [if_pos (by omega)]; simp
  · rw [if_neg (by omega)]; simp; omega
theorem at_last {β : Type} {xs : List β} (h : 0 < xs.length) : L2.atI xs (-1) = xs[xs.length - 1]? := by
  unfold L2.atI L2.ixN
  rw [if_neg (by omega), if_pos (by omega)]
  show xs[((-1 : Int) + xs.length).toNat]? = _
  congr 1; omega
theorem okMul_l (h : -(2 ^ 64) < p ∧ p < 2 ^ 64) : okMul p q = true := by unfold okMul; rw [decide_eq_true h]; rfl
theorem okMul_r (h : -(2 ^ 64) < q ∧ q < 2 ^ 64) : okMul p q = true := by unfold okMul; rw [decide_eq_true h]; simp
theorem nI_len {ns : List Int} : (nI ns).length = ns.length := by unfold nI; simp
theorem ite_le {α : Type} {n k : Nat} {a b : α} (h : n ≤ k) : (if n ≤ k then a else b) = a := if_pos h
theorem ite_lt {α : Type} {n k : Nat} {a b : α} (h : n < k) : (if n < k then a else b) = a := if_pos h
theorem nI_at {ns : List Int} {k : Nat} : (nI ns)[k]? = ns[k]?.map TV.int := by unfold nI; rw [List.getElem?_map]
end
end IP
namespace IP
open PySem L2
section
variable {kvs : List (Key × Key)} {p : Int} {x : Str} {k a v : Key}
theorem t_dcg1 : uDcGet kvs (.int p) = some (((dcFind kvs (.inl p)).map kT).getD .non) := (rfl)
theorem t_dcg2 : uDcGet kvs (.str x) = some (((dcFind kvs (.inr x)).map kT).getD .non) := (rfl)
theorem t_dci1 : uDcIn kvs (.int p) = some (.bl (dcFind kvs (.inl p)).isSome) := (rfl)
theorem t_dci2 : uDcIn kvs (.str x) = some (.bl (dcFind kvs (.inr x)).isSome) := (rfl)
theorem t_dcn1 : uDcNi kvs (.int p) = some (.bl (!(dcFind kvs (.inl p)).isSome)) := (rfl)
theorem t_dcn2 : uDcNi kvs (.str x) = some (.bl (!(dcFind kvs (.inr x)).isSome)) := (rfl)
theorem t_dcx1 : uDcIx kvs (.int p) = (dcFind kvs (.inl p)).map kT := (rfl)
theorem t_dcx2 : uDcIx kvs (.str x) = (dcFind kvs (.inr x)).map kT := (rfl)
theorem t_kT1 : kT (.inl p) = .int p := (rfl)
theorem t_kT2 : kT (.inr x) = .str x := (rfl)
end
end IP
namespace IP
open PySem L2
section
variable {e : Env} {a b : VE}
def dispV (b : VE) (x : TV) (e1 : Env) : RV TV := match b e1 with
  | .ok y e2 => match dKeyT x with
    | some k => .ok (.nd .o (.dct [k]) [y]) e2
    | none => .no
  | _ => .no
def dispY (x : TV) (r : RV TV) : RV TV := match r with
  | .ok y e2 => match dKeyT x with
    | some k => .ok (.nd .o (.dct [k]) [y]) e2
    | none => .no
  | _ => .no
def dispX (b : VE) (r : RV TV) : RV TV := match r with
  | .ok x e1 => dispY x (b e1)
  | _ => .no
theorem z_disp1 : vDisp1 a b e = dispX b (a e) := by
  unfold vDisp1 dispX dispY; rfl
theorem z_dispX {x : TV} : dispX b (.ok x e) = dispY x (b e) := (rfl)
theorem z_dispY1 {y : TV} {p : Int} : dispY (.int p) (.ok y e) = .ok (.nd .o (.dct [.inl p]) [y]) e := (rfl)
theorem z_dispY2 {y : TV} {x : Str} : dispY (.str x) (.ok y e) = .ok (.nd .o (.dct [.inr x]) [y]) e := (rfl)
end
end IP
namespace IP
open PySem L2
section
variable {e : Env} {b : VE} {i : Nat} {v : TV} {p : Int} {xs : List TV} {ks : List Key}
def ixZ (i : Nat) (e : Env) (g : Tag) (ys : List TV) (o : Option TV) : RV TV := match o with
  | some z => if z.all fNw then .ok z (e.set i (some (.nd .o g ys))) else .no
  | none => .no
theorem z_ixs : vIxS i b e = ixK i (b e) := (rfl)
theorem z_ixk : ixK i (.ok v e) = ixS i v e e[i]? := (rfl)
theorem z_ixd : ixS i (.int p) e (some (some (.nd .o (.dct ks) xs))) = ixZ i e (.dct ks) (TV.fls fSh xs) (valT ks (TV.fls fSh xs) (.inl p)) := by
  unfold ixS ixZ
  show (match some (Sum.inl p : Key), (keyT (.int p)).bind fun key => valT ks (TV.fls fSh xs) key with
    | some _, some z => if z.all fNw then RV.ok z (e.set i (some (.nd .o (.dct ks) (TV.fls fSh xs)))) else .no
    | _, _ => .no) = _
  have : ((keyT (.int p)).bind fun key => valT ks (TV.fls fSh xs) key) = valT ks (TV.fls fSh xs) (.inl p) := rfl
  rw [this]
  cases valT ks (TV.fls fSh xs) (.inl p) <;> rfl
theorem z_ixz {g : Tag} {ys : List TV} {z : TV} : ixZ i e g ys (some z) = if z.all fNw then .ok z (e.set i (some (.nd .o g ys))) else .no := (rfl)
end
end IP
namespace IP
open PySem
theorem z_own {W : VF} {vs : List TV} : ownW W vs = (W vs).own := (rfl)
theorem z_own1 {v : TV} : (RD.ok v).own = .ok (ownT v) := (rfl)
end IP

/-! IPOd: comprehensions, loops, equality over trees. -/
namespace IP
open PySem
theorem okMul_big {x y : Int} (h : Builtin.Int.intBits x ≤ 2000000) (h2 : Builtin.Int.intBits y ≤ 2000000) : okMul x y = true := by
  unfold okMul
  have : (Builtin.Int.intBits x : Int) + (Builtin.Int.intBits y : Int) ≤ 134217728 := by omega
  rw [decide_eq_true this]; simp
theorem bits_num {c a b : Int} (hc : Builtin.Int.intBits c ≤ 1048576) (ha : -(2 ^ 62) ≤ a ∧ a ≤ 2 ^ 62) (hb : -(2 ^ 62) ≤ b ∧ b ≤ 2 ^ 62) : Builtin.Int.intBits (c + a + b) ≤ 2000000 := by
  have h1 : Builtin.Int.intBits a ≤ 64 := intBits_le_64 (by omega) (by omega)
  have h2 : Builtin.Int.intBits b ≤ 64 := intBits_le_64 (by omega) (by omega)
  have h3 := intBits_add_le hc h1
  have h4 := intBits_add_le h3 h2
  exact Nat.le_trans h4 (by decide)
theorem cell_bits {ns : List Int} (h : ∀ z ∈ ns, Builtin.Int.intBits z ≤ 1048576) (k : Nat) : Builtin.Int.intBits (ns[k]?.getD 0) ≤ 1048576 := by
  cases e : ns[k]? with
  | none => show Builtin.Int.intBits 0 ≤ _; decide
  | some z => exact h z (List.mem_of_getElem? e)
/-! ### comprehensions -/
section
variable {own : List Nat} {tg : Tg} {ca : VB} {a : VE} {e : Env}
/-- its parts leave the names as they are -/
theorem vlc_fm {p : TV → Bool} {f : TV → TV} : ∀ (xs : List TV) (acc : List TV), (∀ x ∈ xs, ∃ e1 e2, tgT tg x (wipeT e own) = some e1 ∧ ca e1 = .ok (p x) e2 ∧ (p x = false → restT e own e2 = e) ∧ (p x = true → ∃ e3, a e2 = .ok (f x) e3 ∧ restT e own e3 = e)) →
    vlc own tg ca a xs acc e = .ok (acc ++ (xs.filter p).map f) e
  | [], acc, _ => by rw [z_vlc0]; simp
  | x :: xs, acc, h => by
    obtain ⟨e1, e2, h1, h2, h3, h4⟩ := h x List.mem_cons_self
    rw [z_vlc1, h1, z_lcT, h2, z_bind]
    cases hp : p x with
    | false =>
      rw [if_neg Bool.false_ne_true, h3 hp, vlc_fm xs acc fun y hy => h y (List.mem_cons_of_mem _ hy), List.filter_cons_of_neg (by rw [hp]; exact Bool.false_ne_true)]
    | true =>
      obtain ⟨e3, h5, h6⟩ := h4 hp
      rw [if_pos rfl, h5, z_bind, h6, vlc_fm xs _ fun y hy => h y (List.mem_cons_of_mem _ hy), List.filter_cons_of_pos hp]
      simp
theorem vlc_map {f : TV → TV} (xs : List TV) (acc : List TV) (h : ∀ x ∈ xs, ∃ e1 e3, tgT tg x (wipeT e own) = some e1 ∧ a e1 = .ok (f x) e3 ∧ restT e own e3 = e) :
    vlc own tg (fun e => .ok true e) a xs acc e = .ok (acc ++ xs.map f) e := by
  rw [vlc_fm (p := fun _ => true) (f := f) xs acc fun x hx => by
    obtain ⟨e1, e3, h1, h2, h3⟩ := h x hx
    exact ⟨e1, e1, h1, rfl, (fun z => by cases z), fun _ => ⟨e3, h2, h3⟩⟩]
  rw [List.filter_eq_self.mpr fun _ _ => rfl]
end
/-! ### equality -/
def okD : Nat → TV → Bool
  | 0, _ => false
  | _ + 1, .non => true
  | _ + 1, .bl _ => true
  | _ + 1, .int _ => true
  | _ + 1, .str x => PyData.strOk x
  | n + 1, .tup xs => xs.all (okD n)
  | n + 1, .nd _ .lst xs => xs.all (okD n)
  | _ + 1, _ => false
theorem okD_all {n m : Nat} (hk : ∀ t, okD n t = true → ∃ d, dT m t = some d ∧ d.canLay0 = true ∧ d.depth ≤ n) : ∀ {ts : List TV}, (∀ t ∈ ts, okD n t = true) → ∃ ds, mapO (dT m) ts = some ds ∧ PyData.canLayAll0 ds = true ∧ PyData.depthAll ds ≤ n
  | [], _ => ⟨[], rfl, rfl, Nat.zero_le _⟩
  | t :: ts, h => by
    obtain ⟨d, e1, e2, e3⟩ := hk t (h t List.mem_cons_self)
    obtain ⟨ds, f1, f2, f3⟩ := okD_all hk fun x hx => h x (List.mem_cons_of_mem _ hx)
    refine ⟨d :: ds, by simp only [mapO, e1, f1], by simp only [PyData.canLayAll0, e2, f2, Bool.and_true], ?_⟩
    simp only [PyData.depthAll]
    omega
theorem okD_d : ∀ {n m : Nat} {t : TV}, okD n t = true → n ≤ m → ∃ d, dT m t = some d ∧ d.canLay0 = true ∧ d.depth ≤ n
  | 0, _, _, e, _ => by simp only [okD] at e; cases e
  | n + 1, 0, _, _, h => by omega
  | n + 1, m + 1, t, e, h => by
    cases t with
    | non => exact ⟨_, rfl, rfl, Nat.zero_le _⟩
    | bl => exact ⟨_, rfl, rfl, Nat.zero_le _⟩
    | int => exact ⟨_, rfl, rfl, Nat.zero_le _⟩
    | str x => simp only [okD] at e; exact ⟨_, rfl, by simp only [PyData.canLay0]; exact e, Nat.zero_le _⟩
    | tup xs =>
      simp only [okD] at e
      obtain ⟨ds, e1, e2, e3⟩ := okD_all (fun t h => okD_d h (by omega : n ≤ m)) (List.all_eq_true.mp e)
      simp only [dT, e1]
      exact ⟨_, rfl, by simp only [PyData.canLay0]; exact e2, by simp only [PyData.depth]; omega⟩
    | nd k g xs =>
      cases g with
      | lst =>
        simp only [okD] at e
        obtain ⟨ds, e1, e2, e3⟩ := okD_all (fun t h => okD_d h (by omega : n ≤ m)) (List.all_eq_true.mp e)
        simp only [dT, e1]
        exact ⟨_, rfl, by simp only [PyData.canLay0]; exact e2, by simp only [PyData.depth]; omega⟩
      | dct ks => simp only [okD] at e; cases e
      | ins C fs => simp only [okD] at e; cases e
    | ty => simp only [okD] at e; cases e
    | fn => simp only [okD] at e; cases e
theorem mapO_fl {φ : Fl → Fl} {f : TV → Option PyData} (h : ∀ v, f (v.fl φ) = f v) : ∀ xs : List TV, mapO f (TV.fls φ xs) = mapO f xs
  | [] => rfl
  | x :: xs => by simp only [TV.fls, mapO, h, mapO_fl h xs]
theorem dT_fl {φ : Fl → Fl} : ∀ (n : Nat) (v : TV), dT n (v.fl φ) = dT n v
  | 0, _ => rfl
  | n + 1, .non => rfl
  | n + 1, .bl _ => rfl
  | n + 1, .int _ => rfl
  | n + 1, .str _ => rfl
  | n + 1, .ty _ => rfl
  | n + 1, .fn _ => rfl
  | n + 1, .tup xs => by rw [TV.fl, dT, dT, mapO_fl (dT_fl n)]
  | n + 1, .nd k .lst xs => by rw [TV.fl, dT, dT, mapO_fl (dT_fl n)]
  | n + 1, .nd k (.dct _) xs => rfl
  | n + 1, .nd k (.ins _ _) xs => rfl
theorem dT_fz {u v : TV} (h : u.fz = v.fz) (n : Nat) : dT n u = dT n v := by rw [← dT_fl (φ := fFz) n u, ← dT_fl (φ := fFz) n v]; exact congrArg (dT n) h
theorem shaped_of {n : Nat} {d : PyData} (h1 : d.canLay0 = true) (h2 : d.depth ≤ n) (hn : n ≤ 9) : SeqAt.shaped d = true := by
  unfold SeqAt.shaped
  rw [h1, decide_eq_true (by omega)]; rfl
/-- what is alike but for flags is equal -/
theorem eq_same {u v : TV} (h : u.fz = v.fz) (k : okD 9 u = true) : eqT u v = some true := by
  obtain ⟨d, e1, e2, e3⟩ := okD_d k (by omega : 9 ≤ 20)
  have f2 := (dT_fz h 20).symm.trans e1
  have sh := shaped_of e2 e3 (by omega)
  have re := SeqAt.eqv_refl d e2
  unfold eqT
  split
  · cases h; simp
  · cases h; simp
  · cases h; simp
  · rfl
  · have nn : lenNeT u v = false := by
      cases u with
      | nd k g xs =>
        cases g with
        | lst =>
          cases v with
          | nd k' g' ys =>
            cases g' with
            | lst =>
              have hl : (TV.fls fFz xs).length = (TV.fls fFz ys).length := by
                have h' : TV.nd .z .lst (TV.fls fFz xs) = TV.nd .z .lst (TV.fls fFz ys) := h
                injection h' with _ _ h'
                rw [h']
              rw [TV.fls_eq, TV.fls_eq, List.length_map, List.length_map] at hl
              simp [lenNeT, hl]
            | _ => rfl
          | _ => rfl
        | _ => rfl
      | _ => rfl
    simp only [nn, if_neg Bool.false_ne_true, e1, f2, sh, re, Bool.and_self, if_true]
theorem eq_nI {k k' : Fl} {ms ns : List Int} : eqT (.nd k .lst (nI ms)) (.nd k' .lst (nI ns)) = some (decide (ms = ns)) := by
  have hm : ∀ (n : Nat) (l : List Int), mapO (dT (n + 1)) (nI l) = some (l.map PyData.int) := fun n l => by
    induction l with
    | nil => rfl
    | cons x l ih =>
      have hd : dT (n + 1) (.int x) = some (.int x) := rfl
      simp only [nI] at ih
      simp only [nI, List.map_cons, mapO, hd, ih]
  have h1 : ∀ l : List Int, PyData.canLayAll0 (l.map .int) = true ∧ PyData.depthAll (l.map .int) = 0 := fun l => by
    induction l with
    | nil => exact ⟨rfl, rfl⟩
    | cons b l ih => simp only [List.map_cons, PyData.canLayAll0, PyData.canLay0, ih.1, Bool.and_self, PyData.depthAll, PyData.depth, ih.2]; exact ⟨trivial, rfl⟩
  have h2 : ∀ l m : List Int, PyData.eqvAll (l.map .int) (m.map .int) = decide (l = m) := fun l => by
    induction l with
    | nil => intro m; cases m <;> rfl
    | cons b l ih =>
      intro m
      cases m with
      | nil => rfl
      | cons c m =>
        simp only [List.map_cons, PyData.eqvAll, PyData.eqv, ih, List.cons.injEq]
        by_cases h : b = c <;> simp [h]
  have sh : ∀ l : List Int, SeqAt.shaped (.list (l.map .int)) = true := fun l => shaped_of (n := 1) (by simp only [PyData.canLay0]; exact (h1 l).1) (by simp only [PyData.depth, (h1 l).2]; omega) (by omega)
  have hd : ∀ (k : Fl) (l : List Int), dT 20 (.nd k .lst (nI l)) = some (.list (l.map .int)) := fun k l => by
    show (mapO (dT 19) (nI l)).map PyData.list = _
    rw [hm 18]; rfl
  show (if lenNeT (.nd k .lst (nI ms)) (.nd k' .lst (nI ns)) then some false else match dT 20 (.nd k .lst (nI ms)), dT 20 (.nd k' .lst (nI ns)) with
    | some d, some e => if SeqAt.shaped d && SeqAt.shaped e then some (PyData.eqv d e) else none
    | _, _ => none) = _
  simp only [hd, sh, Bool.and_self, if_true, PyData.eqv, h2]
  split
  · rename_i h
    have : ms.length ≠ ns.length := by simpa [lenNeT, nI_len] using h
    rw [decide_eq_false (fun z => this (by rw [z]))]
  · rfl
theorem eq_bS {k k' : Fl} {ms ns : List Bool} : eqT (.nd k .lst (bS ms)) (.nd k' .lst (bS ns)) = some (decide (ms = ns)) := by
  have hm : ∀ (n : Nat) (l : List Bool), mapO (dT (n + 1)) (bS l) = some (l.map PyData.bool) := fun n l => by
    induction l with
    | nil => rfl
    | cons x l ih =>
      have hd : dT (n + 1) (.bl x) = some (.bool x) := rfl
      simp only [bS] at ih
      simp only [bS, List.map_cons, mapO, hd, ih]
  have h1 : ∀ l : List Bool, PyData.canLayAll0 (l.map .bool) = true ∧ PyData.depthAll (l.map .bool) = 0 := fun l => by
    induction l with
    | nil => exact ⟨rfl, rfl⟩
    | cons b l ih => simp only [List.map_cons, PyData.canLayAll0, PyData.canLay0, ih.1, Bool.and_self, PyData.depthAll, PyData.depth, ih.2]; exact ⟨trivial, rfl⟩
  have h2 : ∀ l m : List Bool, PyData.eqvAll (l.map .bool) (m.map .bool) = decide (l = m) := fun l => by
    induction l with
    | nil => intro m; cases m <;> rfl
    | cons b l ih =>
      intro m
      cases m with
      | nil => rfl
      | cons c m =>
        simp only [List.map_cons, PyData.eqvAll, PyData.eqv, ih, List.cons.injEq]
        cases b <;> cases c <;> simp
  have sh : ∀ l : List Bool, SeqAt.shaped (.list (l.map .bool)) = true := fun l => shaped_of (n := 1) (by simp only [PyData.canLay0]; exact (h1 l).1) (by simp only [PyData.depth, (h1 l).2]; omega) (by omega)
  have bl : ∀ l : List Bool, (bS l).length = l.length := fun l => by unfold bS; simp
  have hd : ∀ (k : Fl) (l : List Bool), dT 20 (.nd k .lst (bS l)) = some (.list (l.map .bool)) := fun k l => by
    show (mapO (dT 19) (bS l)).map PyData.list = _
    rw [hm 18]; rfl
  show (if lenNeT (.nd k .lst (bS ms)) (.nd k' .lst (bS ns)) then some false else match dT 20 (.nd k .lst (bS ms)), dT 20 (.nd k' .lst (bS ns)) with
    | some d, some e => if SeqAt.shaped d && SeqAt.shaped e then some (PyData.eqv d e) else none
    | _, _ => none) = _
  simp only [hd, sh, Bool.and_self, if_true, PyData.eqv, h2]
  split
  · rename_i h
    have : ms.length ≠ ns.length := by simpa [lenNeT, bl] using h
    rw [decide_eq_false (fun z => this (by rw [z]))]
  · rfl
theorem strL {s : String} {l : List Char} (h : s.toList = l) : Str.ofString s = ⟨(l.map Char.toNat).toArray⟩ := by rw [Str.ofString_eq_toList, h]
theorem ofString_inj {a b : String} : (Str.ofString a = Str.ofString b) ↔ a = b := by
  constructor
  · intro h
    rw [Str.ofString_eq_toList, Str.ofString_eq_toList] at h
    have h1 : a.toList.map Char.toNat = b.toList.map Char.toNat := by
      have := congrArg (fun s : Str => s.cps.toList) h
      simpa using this
    have h2 : ∀ xs ys : List Char, xs.map Char.toNat = ys.map Char.toNat → xs = ys := by
      intro xs
      induction xs with
      | nil => intro ys h; cases ys with | nil => rfl | cons _ _ => simp at h
      | cons x xs ih =>
        intro ys h
        cases ys with
        | nil => simp at h
        | cons y ys =>
          simp only [List.map_cons, List.cons.injEq] at h
          rw [ih ys h.2]
          have : x = y := by
            apply Char.ext
            apply UInt32.toNat_inj.mp
            exact h.1
          rw [this]
    have h3 := h2 _ _ h1
    exact String.toList_inj.mp h3
  · intro h; rw [h]
end IP
namespace IP
open PySem
/-! ### texts by their signs -/
def sL (l : List Nat) : Str := ⟨l.toArray⟩
theorem sL_len {l : List Nat} : (sL l).length = l.length := by simp [sL, Str.length]
theorem sL_cps {l : List Nat} : (sL l).cps.toList = l := by simp [sL]
theorem sL_app {a b : List Nat} : sL a ++ sL b = sL (a ++ b) := by
  show Str.append (sL a) (sL b) = _
  simp [sL, Str.append]
theorem sL_eta (w : Str) : sL w.cps.toList = w := by cases w; simp [sL]
theorem sL_cut {l : List Nat} {lo hi : Option Int} : L2.cutS (sL l) lo hi = sL ((l.drop (HT.sIx l.length 0 lo)).take (HT.sIx l.length l.length hi - HT.sIx l.length 0 lo)) := by
  unfold L2.cutS; rw [sL_len, sL_cps]; rfl
theorem sL_inj {a b : List Nat} : (sL a = sL b) ↔ a = b := by
  constructor
  · intro h
    have := congrArg (fun s => s.cps.toList) h
    simpa [sL] using this
  · rintro rfl; rfl
theorem sL_one {c : Nat} : (⟨#[c]⟩ : Str) = sL [c] := rfl
theorem eq_len {k k' : Fl} {xs ys : List TV} (h : xs.length ≠ ys.length) : eqT (.nd k .lst xs) (.nd k' .lst ys) = some false := by
  unfold eqT
  have : lenNeT (.nd k .lst xs) (.nd k' .lst ys) = true := by simp [lenNeT, h]
  simp [this]
end IP

/-! IPOe: texts. -/
namespace IP
open PySem PySem.Builtin PySem.Builtin.Str
theorem sL_S (l : List Nat) : sL l = SX.S l := rfl
theorem sL_par1 {c : Nat} {p q : List Nat} (h : c ∉ p) : Txt.partition (sL (p ++ c :: q)) (sL [c]) = (sL p, sL [c], sL q) :=
  SX.partition_some (List.cons_ne_nil _ _) (SX.par_head q h)
theorem sL_par0 {c : Nat} {p : List Nat} (h : c ∉ p) : Txt.partition (sL p) (sL [c]) = (sL p, sL [], sL []) :=
  SX.partition_none (List.cons_ne_nil _ _) (SX.par_head_none h)
theorem sL_num (n : Nat) : Str.ofString (toString ((n : Nat) : Int)) = sL (TL.numL n) := SX.num_S n
theorem sL_int {a : List Nat} (h : a.all (fun c => decide (48 ≤ c) && decide (c ≤ 57)) = true) (hne : a ≠ []) (hl : a.length ≤ 4300) : intText? (sL a) = some ((NumText.digitsVal a : Nat) : Int) := SX.int_S h hne hl
theorem sL_figs : Str.ofString "0123456789" = sL [48, 49, 50, 51, 52, 53, 54, 55, 56, 57] := by decide +kernel
theorem find_no {a : List Nat} {c : Nat} (h : c ∉ a) : Txt.find (sL a) (sL [c]) = -1 := by
  rcases PyProof.Rows.find_whole (sL a) (sL [c]) with ⟨e, _⟩ | ⟨i, e, h1, _⟩
  · exact e
  · exfalso
    apply h
    have q := (StrLaws.subAt_one (sL a) c i).mp h1
    rw [sL_cps] at q
    exact List.mem_of_getElem? q
theorem find_fig (c : Nat) : Txt.find (Str.ofString "0123456789") (sL [c]) = if 48 ≤ c ∧ c ≤ 57 then (c : Int) - 48 else -1 := by
  by_cases h : 48 ≤ c ∧ c ≤ 57
  · rw [if_pos h]
    have : c = 48 ∨ c = 49 ∨ c = 50 ∨ c = 51 ∨ c = 52 ∨ c = 53 ∨ c = 54 ∨ c = 55 ∨ c = 56 ∨ c = 57 := by omega
    rcases this with h | h | h | h | h | h | h | h | h | h <;> subst h <;> decide +kernel
  · rw [if_neg h, sL_figs, find_no]
    simp only [List.mem_cons, List.not_mem_nil, or_false]
    omega
theorem sL_sw {l : List Nat} {c : Nat} : Txt.startswith (sL l) (sL [c]) = decide (l[0]? = some c) := by
  have q := StrLaws.subAt_one (sL l) c 0
  rw [sL_cps] at q
  rw [Bool.eq_iff_iff, decide_eq_true_eq, ← q]
  unfold Txt.startswith
  rw [Bool.and_eq_true, decide_eq_true_eq]
  exact Iff.rfl
theorem sL_in {c : Nat} {l : List Nat} : inT (.str (sL [c])) (.str (sL l)) = some (decide (c ∈ l)) := by
  unfold inT
  simp only [sL_cps]
theorem sL_len0 {l : List Nat} : (sL l = Str.ofString "") ↔ l = [] := by
  have : Str.ofString "" = sL [] := by decide +kernel
  rw [this, sL_inj]
theorem sL_assoc (a b c : Str) : a ++ b ++ c = a ++ (b ++ c) := by
  rw [← sL_eta a, ← sL_eta b, ← sL_eta c]
  simp only [sL_app, List.append_assoc]
theorem app_len (a b : Str) : (a ++ b).length = a.length + b.length := by
  rw [← sL_eta a, ← sL_eta b, sL_app, sL_len, sL_len, sL_len, List.length_append]
theorem cut_len (w : Str) (lo hi : Option Int) : (L2.cutS w lo hi).length ≤ w.length := by
  rw [← sL_eta w, sL_cut, sL_len, sL_len, List.length_take, List.length_drop]
  omega
theorem strT_sL {l : List Nat} : strT (sL l) = l.map fun c => TV.str (sL [c]) := by
  unfold strT; rw [sL_cps]; rfl
end IP

/-! IPOh: f().replace('y', 'z') of a def f whose first statement names a text: behind it a token is out. -/
namespace IP
open PySem PySem.Spec PyProof.Rows L2
section
variable {P : Program} {w : World} {K : PySem.W.Frag} {mg : Str → Option Value} {base : Heap} {T : Tb} {k : Nat}
/-- what comes of such a call -/
def TkQ (K : PySem.W.Frag) (mg : Str → Option Value) (r : List Addr) (H : Hp) (S0 : Sto) (v : Str) : VK := fun x H' => x = .str v ∧ ∃ r', Ex r H r' H' ∧ Rel K mg r' S0 H'
theorem tk_run {f : Str} {st : Stmt} {fa : Addr} {fd : FuncData} {N : List Str} {y c : Str} {i j : Nat} {py pc pa : Pos} {rest : List Stmt} {b2 : SS} {v : Str}
    (TO : TabOk P w K mg base T k) (F : Fun K f f st fa fd) (S : FnScope N [] (defScope st)) (hbd : defBody st = .Assign [.Name y py] (.Constant (.str c) j pc) pa :: rest) (hy : N[i]? = some y)
    (hl : (defScope st).names.lookup y = some .local) (hd : denSs (denS T (den T 40) ⟨N, (defScope st).names, fun _ => true⟩ 40) rest = some b2)
    (hv : ∀ S : Sto, b2 ((startI N []).set i (some (.str c))) S = .ret (.str v) S)
    {A : Around} {outer : List PySem.Env} {s : Shared} {H : Hp} (hr : Room (k + 1) A) (e0 : Env0 P w K mg base A outer s H) (hb : BindsTo s fd ⟨[], []⟩ []) {r : List Addr} {S0 : Sto} (R : Rel K mg r S0 H) :
    codeAny (model P w) A (.call (.ref fa) ⟨[], []⟩) (fun rr s' => CR (L2N.CX P w) outer P w H s (TkQ K mg r H S0 v) (fun _ _ _ => False) rr s' ∧ ∀ u, rr = .ok (.ret u) → 1 ≤ s'.toks) s := by
  obtain ⟨oc, od, kV, doc, pm, an, cdv, ct, osl, rfl, lk, hcd⟩ := F.ex
  have kin : K.In s.heap := e0.mod.kin.keeps fun b o e => (e0.bs b o e).1
  have nol : s.heap.NoLimit := e0.mod.nolimit.keeps fun b o e => (e0.bs b o e).1
  refine codeAny_call_function hr.depth (kin _ _ lk) rfl S.co S.gen rfl (PySem.W.codeRec_of kin hcd) (hb _ _ _ _ ?_)
  refine wpAny_newFunctionEnv_cells S.kind (fun q hq => by cases hq) fun env he s1 x => ?_
  subst he
  refine ⟨nol.keeps x.toInCall.keep, codeAny_func ?_⟩
  have J : L2.Inv (cxOf (L2N.CX P w) P w K mg base N f (defScope st) fa cdv A outer s H fun _ _ _ => False) [] (L2.start N []) H s1 := inv_start S hr.hd e0 rfl .nil x
  have tk : L2N.Takes (cxOf (L2N.CX P w) P w K mg base N f (defScope st) fa cdv A outer s H fun _ _ _ => False) (fun cls d _ H => (fun _ _ _ => False : XK) cls d H) := L2N.takes_of rfl rfl rfl rfl
  have rm : Room k (A.deeper (envOfC f (defScope st) s.heap.objs.size fa cdv)) := hr.deeper _
  have gd : Gd (cxOf (L2N.CX P w) P w K mg base N f (defScope st) fa cdv A outer s H fun _ _ _ => False) (fun cls d _ H => (fun _ _ _ => False : XK) cls d H) :=
    ⟨rfl, S.nd, tk, by have z := rm.un; show (A.deeper (envOfC f (defScope st) s.heap.objs.size fa cdv)).units + 65 < cLine; omega⟩
  have C : CxOk T k ⟨N, (defScope st).names, fun _ => true⟩ (cxOf (L2N.CX P w) P w K mg base N f (defScope st) fa cdv A outer s H fun _ _ _ => False) (fun cls d _ H => (fun _ _ _ => False : XK) cls d H) :=
    ⟨gd, rfl, rfl, S.kind, fun _ _ => rfl, rm, TO⟩
  have ok := denSs_ok (fun h => denS_ok (den_ok 40) C (passes_of rfl) 40 h) hd
  show wpAny _ _ (execs (defBody st) _) _ _ _
  rw [hbd]
  refine wpAny_execs_cons (wpAny_Assign_Name (Calls.Constant_str ?_) rfl)
  have J2 := J.tok (s1.toks + 1)
  have st0 : St1 K mg r N.length (startI N []) (L2.start N []) H := start_ok .nil (Nat.zero_le _)
  refine wpAny_mono (wpAny_toks (store_ok (X := cxOf (L2N.CX P w) P w K mg base N f (defScope st) fa cdv A outer s H fun _ _ _ => False) (v := .str c) (E := fun _ _ => False)
    (Q := fun _ s2 => L2.Inv (cxOf (L2N.CX P w) P w K mg base N f (defScope st) fa cdv A outer s H fun _ _ _ => False) [] ((L2.start N []).set i (some (.str c))) H s2) J2 S.nd hy (.inl hl) ⟨_, rfl⟩ (fun s2 I2 => I2) (.inr hl))) ?_ fun _ _ z => z.2.elim
  rintro u s2 ⟨t2, I2⟩
  dsimp only
  have t2 : s1.toks + 1 ≤ s2.toks := t2
  have run := ok.run [] s2 ((L2.start N []).set i (some (.str c))) H { nx := fun _ _ => False, rt := TkQ K mg r H S0 v } I2 ⟨r, (startI N []).set i (some (.str c)), S0, st0.set i (.str c), R, by
    rw [hv]
    exact fun r' H' w' e R' hw => by cases hw; exact ⟨rfl, r', e, R'⟩⟩
  refine wpAny_mono (wpAny_toks run) (fun fl s' hs => ?_) fun e s' hs => wpAny_mono hs.2 (fun _ _ z => ⟨z, fun u h => nomatch h⟩) fun _ _ z => ⟨z, fun u h => nomatch h⟩
  obtain ⟨t3, hs⟩ := hs
  refine ⟨?_, fun _ _ => by omega⟩
  cases fl with
  | ret u =>
    obtain ⟨v', σ', H', J', rv, q⟩ := hs
    exact ⟨v', H', J'.os, J'.bare, J'.base, J'.hok, rv, q⟩
  | next =>
    obtain ⟨_, _, _, q⟩ := hs
    exact q.elim
  | brk =>
    obtain ⟨_, _, _, q⟩ := hs
    exact q.elim
  | cont =>
    obtain ⟨_, _, _, q⟩ := hs
    exact q.elim
theorem base_fn {x a : Str} {p q : Pos} {env : PySem.Env} {w : Sem Value} (h : (x != ("super" : Str)) = true) : attributeBase (.Call (.Name x p) [] [] q) a env w = w := by
  unfold attributeBase
  dsimp only
  rw [if_pos]
  rw [h]; rfl
/-- f().replace('y', 'z'), told at once -/
def hkRep (f y z v : Str) : (Expr → Option SE) → Cc → Expr → Option SE := fun _ cc e => match e with
  | .Call (.Attribute (.Call (.Name x _) [] [] _) name apos) [.Constant (.str a) _ _, .Constant (.str b) _ _] [] pos =>
    if decide (x = f) && decide (name = "replace") && decide (a = y) && decide (b = z) && (apos.endLine == pos.line) && !badName x && (x != ("super" : Str)) && cc.names.lookup x == some .globalImplicit then some (mC (.str v)) else none
  | _ => none
theorem hk_rep {f y z v : Str} {st : Stmt} {N : List Str} {yy c : Str} {i j : Nat} {py pc pa : Pos} {rest : List Stmt} {b2 : SS}
    (TO : TabOk P w K mg base T k) (F : DefK K mg f st) (S : FnScope N [] (defScope st)) (ba : BindA f st []) (hbd : defBody st = .Assign [.Name yy py] (.Constant (.str c) j pc) pa :: rest) (hy : N[i]? = some yy)
    (hl : (defScope st).names.lookup yy = some .local) (hd : denSs (denS T (den T 40) ⟨N, (defScope st).names, fun _ => true⟩ 40) rest = some b2)
    (hv : ∀ S : Sto, b2 ((startI N []).set i (some (.str c))) S = .ret (.str v) S) (hyz : (y == z) = false) (hlen : v.length + (v.length + 1) * z.length ≤ 16777216) :
    HkOk P w K mg base (k + 1) (hkRep f y z (Txt.replace v y z)) := by
  obtain ⟨fa, fd, F, hm⟩ := F
  intro X W cc E e m h1 h2 h3 h4 h5 g hn hnm hkd hr hgl hE h
  subst h1 h2 h3 h4 h5
  unfold hkRep at h
  split at h
  · rename_i x p1 p2 name apos a j1 p3 b j2 p4 pos
    split at h
    · rename_i hc
      rw [Bool.and_eq_true, Bool.and_eq_true] at hc
      simp only [Bool.and_eq_true, decide_eq_true_eq, beq_iff_eq, Bool.not_eq_true'] at hc
      obtain ⟨⟨⟨⟨⟨⟨⟨rfl, rfl⟩, rfl⟩, rfl⟩, hline⟩, hbn⟩, hsu⟩, hx⟩ := hc
      cases h
      refine ⟨fun pins s σ H Q I h => ?_⟩
      obtain ⟨r, t, S0, hs, R, h⟩ := h
      have call : wpAny (model X.prog X.w) X.A (eval (.Call (.Name x p1) [] [] p2) X.env) (fun u s' => 1 ≤ s'.toks ∧ EP X pins σ (TkQ X.K X.mg r H S0 v) u s') X.xe s := by
        refine wpAny_Call_Name_kw (ld_glob I (hgl x hx) hm ?_ (badName_ok hbn).1)
        refine PySem.W.callWith_K0 I.kIn F.kp ?_
        have hb := (F.binds ba) s [] I.kIn rfl
        refine wpAny_call (codeAny_mono (tk_run TO F S hbd hy hl hd hv hr I.env0 hb R) fun rr s' hq => ?_)
        obtain ⟨hq, tks⟩ := hq
        cases rr with
        | error e => exact L2N.passAt (takes0N (X := X)) σ pins H s e s' I hq
        | ok fl =>
          cases fl with
          | ret u => exact ⟨tks u rfl, I.after hq⟩
          | next => exact False.elim hq
          | brk => exact False.elim hq
          | cont => exact False.elim hq
      refine PySem.Call_method2 (base_fn (by simpa using hsu)) rfl (by rw [hline]; simp) (wpAny_mono call (fun u s1 q => ?_) fun _ _ z => z)
      obtain ⟨tks, v', H1, I1, r1, e1, r', ex', R'⟩ := q
      subst e1
      obtain ⟨tx, e2⟩ := r1
      subst e2
      refine ⟨"str", _, PySem.F.plainAttrs_str, PySem.F.slot_str_replace, PySem.F.type_str_replace, typeIs_str _ _ _, (fun _ z => nomatch z), Calls.callWith_builtin rfl (Calls.evalArgs_plain (Calls.spliced_cons (Calls.Constant_str (Calls.spliced_cons (Calls.Constant_str (Calls.spliced_nil ?_))))))⟩
      refine PySem.SC.replace (show s1.toks ≠ 0 by omega) (show s1.toks + 1 ≠ 0 by omega) (show s1.toks ≠ s1.toks + 1 by omega) hyz hlen ?_
      intro t' kk
      exact ⟨.str (Txt.replace v a b), H1, I1.tok kk, ⟨t', rfl⟩, h r' H1 ex' R' _ (.str _)⟩
    · cases h
  · cases h
end
end IP

/-! IPOi: walks, unpacking, a comprehension, while an exception is handled. -/
namespace IP
open PySem PySem.Spec PyProof.Rows L2 HotX
section
variable {prog : Program} {w : World} {A : Around} {E : Value → Shared → Prop} {s : Shared}
/-- a list's walk ends -/
theorem endL_hot {jt lA x1 : Addr} {n : Nat} {its : Array Value} {Q : Option Value → Shared → Prop} (hot : HotAt A x1 s.heap) (hit : s.heap.IsListIter jt lA n) (hl : s.heap.IsList lA its) (hx : its[n]? = none)
    (q : ∀ h', Heap.ExtBut jt s.heap h' → Q none { s with heap := h' }) : wpAny (model prog w) A (pyNext (.ref jt)) Q E s := by
  obtain ⟨oj, hoj, hcj, hdj⟩ := id hit
  obtain ⟨oL, hoL, _, nL, hdL⟩ := hl
  obtain ⟨hh, o1, vs1, h1, d1, c1⟩ := hot
  have ne1 : x1 ≠ jt := fun z => by
    rw [z, hoj] at h1; cases h1
    rw [hdj] at d1; cases d1
    simp at c1
  unfold pyNext
  refine wpAny_bind (wpAny_attempt (wpAny_callSpecial?_slot (name := Str.ofString "__next__") hit.typeIs slot_listiter_next (wpAny_call_entry slot_listiter_next hit.typeIs entry_listiter_next ?_ (args_listiter_next _))))
  show wpAny _ _ (field (.ref jt) 0 >>= _) _ _ s
  refine wpAny_bind (wpAny_field hoj hdj (x := .ref lA) rfl ?_)
  show wpAny _ _ (if (Value.ref lA == Value.none) = true then _ else _) _ _ s
  rw [if_neg (show ¬ ((Value.ref lA == Value.none) = true) from Bool.false_ne_true)]
  show wpAny _ _ (field (.ref jt) 1 >>= _) _ _ s
  refine wpAny_bind (wpAny_field hoj hdj (x := .int n 0) rfl ?_)
  show wpAny _ _ (seqItems? (.ref lA) >>= _) _ _ s
  refine wpAny_bind (wpAny_seqItems hoL hdL ?_)
  simp only [hx, Int.toNat_natCast]
  refine wpAny_bind (wpAny_rule (wpAny_bind (wpAny_setField hoj hdj (by simp) ?_)))
  show wpAny _ _ (newExc (.type "StopIteration") [] >>= _) _ _ _
  refine wpAny_bind ?_
  simp only [newTuple, newExc]
  refine wpAny_bind (wpAny_newObj_type ?_ (by size_fits))
  refine wpAny_bind (m := firstArgMember _ _) (wpAny_of_eq (a := Value.none) (by first | rfl | (simp only [firstArgMember]; rfl)) ?_)
  refine wpAny_newObj_type ?_ (by size_fits)
  have up : ∀ {b : Addr} {o : Obj} (g : Obj → Obj), b ≠ jt → s.heap.get? b = some o → (s.heap.update jt g).get? b = some o := fun {b o} g hb e => by rw [Heap.get?_update_other _ _ (Ne.symm hb)]; exact e
  refine raiseNew_hot ⟨hh, o1, vs1, Heap.get?_push_of_some _ (Heap.get?_push_of_some _ (up _ ne1 h1)), d1, c1⟩ (Nat.ne_of_lt (Heap.lt_size (Heap.get?_push_of_some _ (up _ ne1 h1)))) (Heap.get?_push_size _ rfl) rfl (by first | (simp; done) | (simp; omega) | (simp only [Array.size_append]; simp; omega)) ?_
  refine wpAny_bind (wpAny_isInstance (T := "StopIteration") (b := true) ⟨_, Heap.get?_update_self _ (Heap.get?_push_size _ rfl) rfl, rfl⟩ isSubtype_stop ?_)
  refine wpAny_pure (q _ fun b o hb e => ?_)
  rw [Heap.get?_update_other _ _ (Nat.ne_of_gt (Heap.lt_size (Heap.get?_push_of_some _ (up _ hb e))))]
  exact Heap.get?_push_of_some _ (Heap.get?_push_of_some _ (up _ hb e))
theorem endT_hot {jt lA x1 : Addr} {n : Nat} {its : Array Value} {Q : Option Value → Shared → Prop} (hot : HotAt A x1 s.heap) (hit : IsTupIter s.heap jt lA n) (hl : IsTup s.heap lA its) (hx : its[n]? = none)
    (q : ∀ h', Heap.ExtBut jt s.heap h' → Q none { s with heap := h' }) : wpAny (model prog w) A (pyNext (.ref jt)) Q E s := by
  obtain ⟨oj, hoj, hcj, hdj⟩ := id hit
  obtain ⟨oL, hoL, _, nL, hdL⟩ := hl
  obtain ⟨hh, o1, vs1, h1, d1, c1⟩ := hot
  have ne1 : x1 ≠ jt := fun z => by
    rw [z, hoj] at h1; cases h1
    rw [hdj] at d1; cases d1
    simp at c1
  unfold pyNext
  refine wpAny_bind (wpAny_attempt (wpAny_callSpecial?_slot (name := Str.ofString "__next__") hit.typeIs slot_tupleiter_next (wpAny_call_entry slot_tupleiter_next hit.typeIs entry_tupleiter_next ?_ (args_tupleiter_next _))))
  show wpAny _ _ (field (.ref jt) 0 >>= _) _ _ s
  refine wpAny_bind (wpAny_field hoj hdj (x := .ref lA) rfl ?_)
  show wpAny _ _ (if (Value.ref lA == Value.none) = true then _ else _) _ _ s
  rw [if_neg (show ¬ ((Value.ref lA == Value.none) = true) from Bool.false_ne_true)]
  show wpAny _ _ (field (.ref jt) 1 >>= _) _ _ s
  refine wpAny_bind (wpAny_field hoj hdj (x := .int n 0) rfl ?_)
  show wpAny _ _ (seqItems? (.ref lA) >>= _) _ _ s
  refine wpAny_bind (wpAny_seqItems hoL hdL ?_)
  simp only [hx, Int.toNat_natCast]
  refine wpAny_bind (wpAny_rule (wpAny_bind (wpAny_setField hoj hdj (by simp) ?_)))
  show wpAny _ _ (newExc (.type "StopIteration") [] >>= _) _ _ _
  refine wpAny_bind ?_
  simp only [newTuple, newExc]
  refine wpAny_bind (wpAny_newObj_type ?_ (by size_fits))
  refine wpAny_bind (m := firstArgMember _ _) (wpAny_of_eq (a := Value.none) (by first | rfl | (simp only [firstArgMember]; rfl)) ?_)
  refine wpAny_newObj_type ?_ (by size_fits)
  have up : ∀ {b : Addr} {o : Obj} (g : Obj → Obj), b ≠ jt → s.heap.get? b = some o → (s.heap.update jt g).get? b = some o := fun {b o} g hb e => by rw [Heap.get?_update_other _ _ (Ne.symm hb)]; exact e
  refine raiseNew_hot ⟨hh, o1, vs1, Heap.get?_push_of_some _ (Heap.get?_push_of_some _ (up _ ne1 h1)), d1, c1⟩ (Nat.ne_of_lt (Heap.lt_size (Heap.get?_push_of_some _ (up _ ne1 h1)))) (Heap.get?_push_size _ rfl) rfl (by first | (simp; done) | (simp; omega) | (simp only [Array.size_append]; simp; omega)) ?_
  refine wpAny_bind (wpAny_isInstance (T := "StopIteration") (b := true) ⟨_, Heap.get?_update_self _ (Heap.get?_push_size _ rfl) rfl, rfl⟩ isSubtype_stop ?_)
  refine wpAny_pure (q _ fun b o hb e => ?_)
  rw [Heap.get?_update_other _ _ (Nat.ne_of_gt (Heap.lt_size (Heap.get?_push_of_some _ (up _ hb e))))]
  exact Heap.get?_push_of_some _ (Heap.get?_push_of_some _ (up _ hb e))
theorem HotAt.ext {x1 b : Addr} {h h' : Heap} (hot : HotAt A x1 h) (k : ∀ o, h.get? x1 = some o → h'.get? x1 = some o) : HotAt A x1 h' := by
  obtain ⟨hh, o1, vs1, h1, d1, c1⟩ := hot
  exact ⟨hh, o1, vs1, k _ h1, d1, c1⟩
theorem unpackT_hot {lA x1 : Addr} {its : Array Value} {Q : List Value → Shared → Prop} (hot : HotAt A x1 s.heap) (ht : IsTup s.heap lA its)
    (q : ∀ h', Heap.ExtBut s.heap.objs.size s.heap h' → Q its.toList { s with heap := h' }) : wpAny (model prog w) A (unpackItems (.ref lA) its.size none) Q E s := by
  have hlt : lA ≠ s.heap.objs.size := by
    obtain ⟨o, ho, _⟩ := ht
    exact Nat.ne_of_lt (Heap.lt_size ho)
  have hx1 : x1 ≠ s.heap.objs.size := by
    obtain ⟨_, o, _, ho, _⟩ := id hot
    exact Nat.ne_of_lt (Heap.lt_size ho)
  unfold unpackItems
  refine wpAny_bind ?_
  unfold notIterableAtAll
  refine wpAny_bind (wpAny_specialOf ht.typeIs slot_tuple_iter.lookup (wpAny_pure ?_))
  simp only [if_false, Bool.false_eq_true]
  refine wpAny_bind (wpAny_holding (iter_tuple ht (wpAny_bind (wpAny_holding (draw_tuple hlt its.size 0 _ _ ⟨_, Heap.get?_push_size _ rfl, rfl, rfl⟩ (ht.push _) (by omega) fun g1 it1 sb1 => ?_)))))
  have hall : (its.toList.drop 0).take its.size = its.toList := by rw [List.drop_zero]; exact List.take_of_length_le (by simp)
  rw [hall, if_neg (by simp)]
  refine wpAny_bind (wpAny_holding (endT_hot (HotAt.ext (b := 0) hot fun o e => sb1.extBut _ _ hx1 (Heap.get?_push_of_some _ e)) it1 ((ht.push _).extBut sb1.extBut hlt) (by simp) fun g2 e2 => ?_))
  simp only [Option.isSome_none, if_false, Bool.false_eq_true]
  exact wpAny_pure (q g2 fun b o hb e => e2 b o hb (sb1.extBut b o hb (Heap.get?_push_of_some _ e)))
theorem unpackL_hot {lA x1 : Addr} {its : Array Value} {Q : List Value → Shared → Prop} (hot : HotAt A x1 s.heap) (ht : s.heap.IsList lA its)
    (q : ∀ h', Heap.ExtBut s.heap.objs.size s.heap h' → Q its.toList { s with heap := h' }) : wpAny (model prog w) A (unpackItems (.ref lA) its.size none) Q E s := by
  have hlt : lA ≠ s.heap.objs.size := by
    obtain ⟨o, ho, _⟩ := ht
    exact Nat.ne_of_lt (Heap.lt_size ho)
  have hx1 : x1 ≠ s.heap.objs.size := by
    obtain ⟨_, o, _, ho, _⟩ := id hot
    exact Nat.ne_of_lt (Heap.lt_size ho)
  unfold unpackItems
  refine wpAny_bind ?_
  unfold notIterableAtAll
  refine wpAny_bind (wpAny_specialOf ht.typeIs slot_list_iter.lookup (wpAny_pure ?_))
  simp only [if_false, Bool.false_eq_true]
  refine wpAny_bind (wpAny_holding (wpAny_pyIter_list ht (wpAny_bind (wpAny_holding (PySem.W.kun_draw hlt its.size 0 _ _ ⟨_, Heap.get?_push_size _ rfl, rfl, rfl⟩ (ht.push _) (by omega) fun g1 it1 sb1 => ?_)))))
  have hall : (its.toList.drop 0).take its.size = its.toList := by rw [List.drop_zero]; exact List.take_of_length_le (by simp)
  rw [hall, if_neg (by simp)]
  refine wpAny_bind (wpAny_holding (endL_hot (HotAt.ext (b := 0) hot fun o e => sb1.extBut _ _ hx1 (Heap.get?_push_of_some _ e)) it1 ((ht.push _).extBut sb1.extBut hlt) (by simp) fun g2 e2 => ?_))
  simp only [Option.isSome_none, if_false, Bool.false_eq_true]
  exact wpAny_pure (q g2 fun b o hb e => e2 b o hb (sb1.extBut b o hb (Heap.get?_push_of_some _ e)))
end
/-! ### targets -/
def HotI (X : Cx) (x1 : Addr) (s : Shared) : Prop := HotAt X.A x1 s.heap
section
variable {X : Cx}
/-- a target of several places -/
theorem tup_hot {es : List Expr} {gs : List Tg} {k : Nat} {pos : Pos} {x1 : Addr} (h : TgsOk X es gs) (hn : (assignEach es X.env).length = gs.length) (hst : (assignEach es X.env).findIdx? (·.1) = none)
    {pins : List (Addr × Obj)} {s : Shared} {σ : VSt} {H : Hp} {v : V} {u : Value} {Q : VSt → Hp → Prop} (I : L2.Inv X pins σ H s) (r : RelV v u) (hot : HotAt X.A x1 s.heap) (hw : tgOf X.K (.tu gs) v σ H Q) :
    wpAny (model X.prog X.w) X.A (assign (.Tuple es k pos) X.env u) (fun _ s' => ∃ σ' H', L2.Inv X pins σ' H' s' ∧ Q σ' H') X.xe s := by
  unfold tgOf at hw
  rw [PyProof.Rows.assign_Tuple]
  refine wpAny_bind (wpAny_standAt ?_)
  unfold unpack
  have fin : ∀ (its : List Value) (xs : List V), Vals xs its → ∀ h', Heap.ExtBut s.heap.objs.size s.heap h' → tgsOf X.K gs xs σ H Q → wpAny (model X.prog X.w) X.A (assignInOrder ((assignEach es X.env).map (·.2)) its) (fun _ s' => ∃ σ' H', L2.Inv X pins σ' H' s' ∧ Q σ' H') X.xe { s with heap := h' } := fun its xs rv h' hx q =>
    h.run pins _ σ H xs its Q (I.kept (t' := s.toks) fun b o e => hx b o (Nat.ne_of_lt (Heap.lt_size e)) e) rv q
  rcases hw with ⟨a, xs, e1, hq, hl, q⟩ | ⟨a, xs, e1, hq, hl, q⟩
  · subst e1
    cases r
    obtain ⟨its, rv, ht, hz⟩ := I.tuple hq
    rw [show (assignEach es X.env).length = its.toArray.size from hn.trans (hl.symm.trans (rv.length.trans (by simp))), hst]
    exact wpAny_bind (wpAny_holding (unpackT_hot hot ht fun h' hx => fin its xs rv h' hx q))
  · subst e1
    cases r
    obtain ⟨its, rv, pl, hz⟩ := I.list hq
    obtain ⟨o, m, e, c, d, qq⟩ := pl
    rw [show (assignEach es X.env).length = its.toArray.size from hn.trans (hl.symm.trans (rv.length.trans (by simp))), hst]
    exact wpAny_bind (wpAny_holding (unpackL_hot hot ⟨o, e, c, m, qq⟩ fun h' hx => fin its xs rv h' hx q))

/-- the list that is walked -/
def tWalk (K : PySem.W.Frag) (te : TE) : TI := fun σ H Q => te σ H fun x H1 => ∃ a, x = .ref a ∧ (∃ xs, SqL K H1 a xs) ∧ Q (Itl K a) H1
theorem lc_hot {pins : List (Addr × Obj)} {s : Shared} {σ : VSt} {H : Hp} {Q : VK} {elt iter : Expr} {ifs : List Expr} {scope : Scope} {own : List (Str × Nat)} {pos pos' tpos : Pos} {tk : Nat} {te0 : TE} {es : List Expr} {gs : List Tg} {tt : TT} {te : TE} {use : Option (Value → Sem Unit)} {Qf : Value → Shared → Prop} {p : Addr × Obj}
    (hp : p ∈ X.pn) (h1 : L2H.Hot1 X.A p) (hN : X.N.Nodup) (I : L2.Inv X pins σ H s) (hi : PE X iter te0) (ok : BlkOk X.N X.env.scope scope own)
    (hg : ∀ (s : Shared) (H : Hp) (C : Addr) (cl : List (Str × Addr)) (fp : List Addr), TgsOk (X.blk s H scope (compEnvC scope cl C X.env) fp) es gs ∧ (assignEach es (compEnvC scope cl C X.env)).length = gs.length ∧ (assignEach es (compEnvC scope cl C X.env)).findIdx? (·.1) = none)
    (ht : ∀ (s : Shared) (H : Hp) (C : Addr) (cl : List (Str × Addr)) (fp : List Addr), PTs (X.blk s H scope (compEnvC scope cl C X.env) fp) ifs tt)
    (he : ∀ (s : Shared) (H : Hp) (C : Addr) (cl : List (Str × Addr)) (fp : List Addr), PE (X.blk s H scope (compEnvC scope cl C X.env) fp) elt te) (hs : ∀ x, foldedSetIterable iter X.env x = pure x)
    (h : tLc (tWalk X.K te0) (tgOf X.K (.tu gs)) tt te (own.map (·.2)) σ H Q)
    (fin : ∀ D C s' m H', L2.Inv X pins σ H' s' → Q (.ref D) H' → s'.heap.Ns C m → FpOk X pins H' C → compPost (model X.prog X.w) X.A X.xe use Qf (.ref D) C (.ok .next) s') :
    wpAny (model X.prog X.w) X.A (comprehension (.ListComp elt [⟨.Tuple es tk tpos, iter, ifs, 0⟩] scope pos) scope X.env pos' (newList []) false (eval iter X.env) use) Qf X.xe s := by
  have hfree : ∀ y ∈ scope.names, y.2 = .free → ∃ c, X.env.cells.lookup y.1 = some c := fun y hy e => (ok.free y hy e).elim (fun k => I.ok.has _ (.inl k)) fun k => I.ok.has _ (.inr k)
  refine wpAny_comprehension_free (use := use) rfl hs (closure_ok hfree) ok.kind (fun y hy e => by rw [ok.uniq y hy, e]) ?_
  refine thn (hi.run pins s σ H _ I h) fun xv s1 hx => ?_
  obtain ⟨xw, H2, I1, r1, a, ea, ⟨xs, hq⟩, q⟩ := hx
  subst ea
  obtain rfl : xv = Value.ref a := r1
  obtain ⟨its0, rv0, p0, hz0⟩ := I1.list hq
  refine wpAny_pyIter_list p0.isList ?_
  generalize hit : s1.heap.objs.size = it
  generalize hs2 : ({ s1 with heap := s1.heap.push { cls := .type "list_iterator", data := .fields #[.ref a, .int 0 0] } } : Shared) = s2
  have I2 : L2.Inv X pins σ H2 s2 := by
    rw [← hs2]
    exact I1.kept (t' := s1.toks) fun b o e => Heap.get?_push_of_some _ e
  have st2 : s2.heap.IsListIter it a 0 := by
    rw [← hs2, ← hit]
    exact ⟨_, Heap.get?_push_size _ rfl, rfl, rfl⟩
  have f2 : ∀ b ∈ [it], FpOk X pins H2 b := fun b hb => by
    rw [List.mem_singleton.mp hb, ← hit]
    exact I1.fpOk (Nat.le_refl _) (I1.hok.fresh (Nat.le_refl _))
  have T : Turn X.prog X.w X.K (.Tuple es tk tpos) (Itl X.K a) [it] it (fun i h => h.IsListIter it a i) := turn_list a it
  refine wpAny_newObj_type (newEnv_comp ?_) (by show 0 ≤ sizeLine; decide)
  generalize hD : s2.heap.objs.size = D
  have hDn : H2 D = none := I2.hok.fresh (Nat.le_of_eq hD)
  obtain ⟨W, ⟨m0, w0⟩, turn⟩ := q D hDn
  generalize hs3 : ({ s2 with heap := s2.heap.push { cls := .type "list", data := .seq ([] : List Value).toArray } } : Shared) = s3
  have h3 : s3.heap = s2.heap.push { cls := .type "list", data := .seq ([] : List Value).toArray } := by rw [← hs3]
  have I3 : L2.Inv X pins σ (upd H2 D (.lst [])) s3 := by
    rw [← hs3]
    refine I2.laid (t' := s2.toks) (fun b o e => Heap.get?_push_of_some _ e) (Nat.le_of_eq hD) ⟨Nat.zero_le _, [], 0, .nil, ?_⟩
    rw [← hD]
    exact Heap.get?_push_size _ rfl
  have itlt : it < s2.heap.objs.size := by
    obtain ⟨o, e, _⟩ := st2
    exact Heap.lt_size e
  have f3 : ∀ b ∈ [it], FpOk X pins (upd H2 D (.lst [])) b ∧ b < s3.heap.objs.size := fun b hb => by
    have eb := List.mem_singleton.mp hb
    refine ⟨⟨?_, (f2 b hb).2⟩, by rw [eb, h3, Heap.size_push]; exact Nat.lt_succ_of_lt itlt⟩
    rw [upd_ne (by rw [← hD, eb]; exact Nat.ne_of_lt itlt)]
    exact (f2 b hb).1
  have st3 : s3.heap.IsListIter it a 0 := T.keep 0 _ _ st2 fun b _ o e => by rw [h3]; exact Heap.get?_push_of_some _ e
  have I4 := block_start I3 ok hN f3
  obtain ⟨pg, pgn, pgi⟩ := hg s3 (upd H2 D (.lst [])) s3.heap.objs.size (cellsFrom (s3.heap.objs.size + 1) scope.names (cloFrom X.env.cells scope.names [])) [it]
  have pt := ht s3 (upd H2 D (.lst [])) s3.heap.objs.size (cellsFrom (s3.heap.objs.size + 1) scope.names (cloFrom X.env.cells scope.names [])) [it]
  have pe := he s3 (upd H2 D (.lst [])) s3.heap.objs.size (cellsFrom (s3.heap.objs.size + 1) scope.names (cloFrom X.env.cells scope.names [])) [it]
  show codeAny _ _ (.compStart (.ListComp elt [⟨.Tuple es tk tpos, iter, ifs, 0⟩] scope pos) 0 (.ref it) (.ref D) (compEnvC scope (cellsFrom (s3.heap.objs.size + 1) scope.names (cloFrom X.env.cells scope.names [])) s3.heap.objs.size X.env)) (compPost (model X.prog X.w) X.A X.xe use Qf (.ref D) s3.heap.objs.size) { s3 with heap := pushCells (s3.heap.push { cls := .type "dict", data := .dict #[] }) scope.names }
  have nfp : ∀ b ∈ [it], (upd H2 D (.lst [])) b = none := fun b hb => (f3 b hb).1.1
  -- the handled one stands where it stood
  have P3 := I3.pin p (List.mem_append_left _ hp)
  have pnit : p.1 ∉ [it] := fun hm => (f3 it (List.mem_singleton_self it)).1.2.2.2.2.2 p (List.mem_append_left _ hp) (List.mem_singleton.mp hm)
  have pnfs : p.1 ∉ frs X.stack := fun hm => (List.mem_cons.mp (I3.stkSub p.1 hm)).elim P3.2.2.1 P3.2.2.2.1
  generalize hce : compEnvC scope (cellsFrom (s3.heap.objs.size + 1) scope.names (cloFrom X.env.cells scope.names [])) s3.heap.objs.size X.env = ce at I4 pg pgn pgi pt pe ⊢
  have cL : ce.locals = s3.heap.objs.size := by subst hce; rfl
  generalize hH3 : upd H2 D (.lst []) = H3 at I3 I4 pg pt pe w0 nfp f3 P3
  generalize hs4 : ({ s3 with heap := pushCells (s3.heap.push { cls := .type "dict", data := .dict #[] }) scope.names } : Shared) = s4 at I4 ⊢
  have hotB : ∀ {pins' : List (Addr × Obj)} {σ' : VSt} {H' : Hp} {s' : Shared}, L2.Inv (X.blk s3 H3 scope ce [it]) pins' σ' H' s' → HotAt X.A p.1 s'.heap := fun {pins' σ' H' s'} I' => by
    obtain ⟨hh, v1, e1, c1⟩ := h1
    exact ⟨hh, p.2, v1, I'.base.keep p.1 p.2 P3.1 P3.2.1 pnfs pnit, e1, c1⟩
  have st4 : s4.heap.IsListIter it a 0 := T.keep 0 _ _ st3 fun b _ o e => by rw [← hs4]; exact pushCells_keeps _ _ _ _ (Heap.get?_push_of_some _ e)
  have stat : ∀ {σ' : VSt} {H' : Hp} {s' : Shared}, L2.Inv (X.blk s3 H3 scope ce [it]) [] σ' H' s' → (∀ b ∈ [it], H' b = none) → ∀ b ∈ [it], FpOk (X.blk s3 H3 scope ce [it]) [] H' b := fun {σ' H' s'} I' hn b hb =>
    ⟨hn b hb, (I'.ok.exf b hb).1, I'.ok.exfs b hb, .inl hb, fun x c e => (I'.ok.exf b hb).2 x c e, fun p hp => absurd (show p ∈ ([] : List (Addr × Obj)) ++ [] from hp) (by simp)⟩
  have loop : codeAny (model X.prog X.w) X.A (.compLoop (.ListComp elt [⟨.Tuple es tk tpos, iter, ifs, 0⟩] scope pos) 0 (.ref it) (.ref D) ce) (compPost (model X.prog X.w) X.A X.xe use Qf (.ref D) s3.heap.objs.size) s4 := by
    refine compLoop_any (fun n s' => ∃ i H', L2.Inv (X.blk s3 H3 scope ce [it]) [] (wipe σ (own.map (·.2))) H' s' ∧ s'.heap.IsListIter it a i ∧ (∀ b ∈ [it], H' b = none) ∧ W i n H') ?_ m0 ⟨0, H3, I4, st4, nfp, w0⟩
    rintro n s5 ⟨i, H5, I5, st5, n5, w5⟩
    have fpk := stat I5 n5 it (List.mem_singleton_self it)
    obtain ⟨f0, g1, g2, g3, g4, g5⟩ := fpk
    rcases turn i n H5 w5 with ⟨stop, qq⟩ | ⟨go, Nx, hNx, step⟩
    · obtain ⟨xs5, hq5, hx5⟩ := stop
      obtain ⟨its, rv, pl, hz⟩ := I5.list hq5
      have hl := rv.length
      refine endL_hot (hotB I5) st5 pl.isList (by simp; omega) fun h' eb => ?_
      have I6 : L2.Inv (X.blk s3 H3 scope ce [it]) [] (wipe σ (own.map (·.2))) H5 { s5 with heap := h' } := I5.turned (t' := s5.toks) (fun b o hb e => eb b o hb e) f0 g1 g3 g4 g5
      have I7 : L2.Inv X pins σ H5 { s5 with heap := h' } := I3.call' (ch := [it]) I6.os I6.base I6.hok I6.bare fun b hb => ⟨(f3 b hb).1.2.2.2.1, (f3 b hb).1.2.1, (f3 b hb).1.2.2.2.2.1, (f3 b hb).1.2.2.2.2.2⟩
      have nC : H5 s3.heap.objs.size = none := by
        have z : H5 ce.locals = none := I6.free
        rw [cL] at z
        exact z
      obtain ⟨m, hn, _⟩ := I6.loc
      have hn : h'.Ns ce.locals m := hn
      rw [cL] at hn
      exact fin D s3.heap.objs.size _ m H5 I7 qq hn (I3.fpOk (Nat.le_refl _) nC)
    · obtain ⟨xs5, x5, hq5, hx5⟩ := id go
      obtain ⟨its, rv, pl, hz⟩ := I5.list hq5
      obtain ⟨u, hu, ru⟩ := rv.get hx5
      refine wpAny_pyNext_list_item st5 pl.isList (x := u) (by simpa using hu) fun h' st6 sb => ?_
      have I7 : L2.Inv (X.blk s3 H3 scope ce [it]) [] (wipe σ (own.map (·.2))) H5 { s5 with heap := h' } := I5.turned (t' := s5.toks) (fun b o hb e => (sb.2 b hb).trans e) f0 g1 g3 g4 g5
      obtain ⟨oi, ei, ci, di⟩ := id st6
      refine go_of (s := { s5 with heap := h' }) ei ci di (by decide) ?_
      have y7 : (Itl X.K a).yld i H5 x5 H5 := ⟨rfl, fun ys hy => by rw [I5.list_inj hy hq5]; exact hx5⟩
      have I7' := I7.pinned (stat I7 n5) (T.obj _ _ st6)
      refine thnF (Q := fun _ s' => ∃ σ' H', L2.Inv (X.blk s3 H3 scope ce [it]) ([] ++ pinsAt [it] h') σ' H' s' ∧ _) (tup_hot (X := X.blk s3 H3 scope ce [it]) (k := tk) (pos := tpos) pg pgn pgi I7' ru (hotB I7) (step x5 H5 y7)) fun _ s8 ⟨σ8, H8, I8, hw8, q8⟩ => ?_
      refine thnF (pt.run _ s8 σ8 H8 _ I8 q8) fun b s9 ⟨H9, I9, q9⟩ => ?_
      have again : ∀ {s' : Shared} {H' : Hp}, L2.Inv (X.blk s3 H3 scope ce [it]) ([] ++ pinsAt [it] h') σ8 H' s' → Nx H' → ∃ m, m < n ∧ ∃ i H', L2.Inv (X.blk s3 H3 scope ce [it]) [] (wipe σ (own.map (·.2))) H' s' ∧ s'.heap.IsListIter it a i ∧ (∀ b ∈ [it], H' b = none) ∧ W i m H' := fun {s' H'} I' nx => by
        obtain ⟨m', hm, w'⟩ := hNx H' nx
        have pin' : ∀ b ∈ [it], ∀ o, h'.get? b = some o → s'.heap.get? b = some o ∧ H' b = none := fun b hb o e =>
          let z := I'.pin (b, o) (List.mem_append_right _ (List.mem_append_right _ (mem_pinsAt hb e)))
          ⟨z.1, z.2.1⟩
        have hl : (wipe σ (own.map (·.2))).length = σ8.length := by rw [← hw8, wipe_length]
        refine ⟨m', hm, i + 1, H', (I'.unpinned (pins := [])).weak hl (fun j v e => ?_), T.keep _ _ _ st6 fun b hb o e => (pin' b hb o e).1, fun b hb => ?_, w'⟩
        · rw [← hw8] at e
          exact (wipe_some e).1
        · obtain ⟨o, e, _⟩ := T.obj _ _ st6 b hb
          exact (pin' b hb o e).2
      cases b with
      | false =>
        simp only [if_false, Bool.false_eq_true] at q9 ⊢
        exact again I9 q9
      | true =>
        simp only [if_true] at q9 ⊢
        refine thnF (pe.run _ s9 σ8 H9 _ I9 q9) fun z s10 ⟨yv, H10, I10, r10, acc, hD10, hz10, nx⟩ => ?_
        exact app_ok (X := X.blk s3 H3 scope ce [it]) I10 hD10 hz10 r10 fun s11 I11 => again I11 nx
  exact codeAny_compStart_list loop (T.self X.A 0 _ _ _ st4 loop)
end
end IP

/-! IPOj: a def that is called while an exception is handled: its text, its evaluator. -/
namespace IP
open PySem PySem.Spec PyProof.Rows L2 HotX
def iLst (a : SE) : SI := fun t S => (a t S).bind fun v S1 => match seqI v S1 with
  | some _ => .ok (.lst v) S1
  | none => .no
section
variable {X : Cx} {W : WX}
theorem walk_of {m : SE} {s : VSt} {H : Hp} {Q : It → Hp → Prop} (h : tIt X W (iLst m) s H Q) : tWalk X.K (tI X W m) s H Q := by
  obtain ⟨r, t, S, hs, R, h⟩ := h
  refine rd_E hs R (Aft.bind h) fun r1 u S1 H1 x e1 R1 hs1 hu ⟨_, _, h1⟩ => ?_
  split at h1
  · rename_i xs hx
    obtain ⟨a, vs, rfl, s1, s2⟩ := R1.items hx hu
    exact ⟨_, rfl, ⟨vs, s1⟩, h1 r1 H1 .refl R1 _ (it_lst R1 hu)⟩
  · exact h1.elim
theorem s_lcHot {i : Nat} {y : Str} {py : Pos} {elt iter : Expr} {ifs : List Expr} {scope : Scope} {own : List (Str × Nat)} {pos spos tpos : Pos} {tk : Nat} {es : List Expr} {gs : List Tg} {m : SE} {c : SB} {e : SE} {p : Addr × Obj}
    (hp : p ∈ X.pn) (h1 : L2H.Hot1 X.A p) (hN : X.N.Nodup) (hy : X.N[i]? = some y) (hyl : X.env.scope.names.lookup y = some .local)
    (hsw : swapsWith (.ListComp elt [⟨.Tuple es tk tpos, iter, ifs, 0⟩] scope pos) (some (.Name y py)) spos.line X.env = pure true) (hi : EOk X W iter m) (ok : BlkOk X.N X.env.scope scope own)
    (hg : ∀ (s : Shared) (H : Hp) (C : Addr) (cl : List (Str × Addr)) (fp : List Addr), TgsOk (X.blk s H scope (compEnvC scope cl C X.env) fp) es gs ∧ (assignEach es (compEnvC scope cl C X.env)).length = gs.length ∧ (assignEach es (compEnvC scope cl C X.env)).findIdx? (·.1) = none)
    (ht : BBlk X scope ifs c) (he : EBlk X scope elt e) (hin : tgIn (own.map (·.2)) (.tu gs) = true) (hs : ∀ x, foldedSetIterable iter X.env x = pure x) :
    SOk X W (.Assign [.Name y py] (.ListComp elt [⟨.Tuple es tk tpos, iter, ifs, 0⟩] scope pos) spos) (sAsg (.nm i) (mLc (own.map (·.2)) (.tu gs) (iLst m) c e)) := by
  have core : PS X (.Assign [.Name y py] (.ListComp elt [⟨.Tuple es tk tpos, iter, ifs, 0⟩] scope pos) spos) (tAsg (tLc (tWalk X.K (tI X W m)) (tgOf X.K (.tu gs)) (tIB X (fun _ _ _ _ => False) c) (tI X (fun _ _ _ _ => False) e) (own.map (·.2))) (gName i)) := by
    refine ⟨fun pins s σ H D I h => ?_⟩
    rw [exec_Assign_Name_used _ _ _ _ hsw]
    refine wpAny_bind (wpAny_standAt (wpAny_bind ?_))
    show wpAny _ X.A (do let _ ← comprehension (.ListComp elt [⟨.Tuple es tk tpos, iter, ifs, 0⟩] scope pos) scope X.env (firstIterPos [⟨.Tuple es tk tpos, iter, ifs, 0⟩] pos) (newList []) false (eval iter X.env) (some (assign (.Name y py) X.env))) _ _ s
    have hw : tLc (tWalk X.K (tI X W m)) (tgOf X.K (.tu gs)) (tIB X (fun _ _ _ _ => False) c) (tI X (fun _ _ _ _ => False) e) (own.map (·.2)) σ H (fun x H1 => gName i x σ H1 D.nx) := h
    refine wpAny_bind (thn (lc_hot (tt := tIB X (fun _ _ _ _ => False) c) (te := tI X (fun _ _ _ _ => False) e) (Qf := fun _ s' => SP X pins D .next s') hp h1 hN I hi ok hg ht he hs hw fun L C s' m' H' I' q hn f => ?_) fun _ s' hq => wpAny_pure (wpAny_pure hq))
    show wpAny _ _ (assign (.Name y py) X.env (.ref L)) _ _ _
    obtain ⟨f0, f1, f2, f3, f4, f5⟩ := f
    refine wpAny_assign_Name (store_ok2 (v := V.ref L) I' hN hy (.inl hyl) rfl (fun s2 I2 ⟨a, sb, ha⟩ => ?_) (.inr hyl))
    refine ⟨m', hn.sameBut sb (ha.elim (fun z => by rw [z]; exact f1) fun z => fun e => f4 y a z e.symm), fun h3 sb3 => ?_⟩
    exact ⟨_, H', I2.turned (t' := s2.toks) (fun b o hb e => (sb3.2 b hb).trans e) f0 f1 f3 f4 f5, q⟩
  refine PS_imp core fun D s H ⟨r, t, S, hs', R, h⟩ => ?_
  refine walk_of (rd_lc (Q := fun x H1 => gName i x s H1 D.nx) hin (rd_SE (D := D) hs' R h fun r' v S' H' w e R' hs' hv h' => ?_))
  simp only [tgSet] at h'
  exact h' r' H' _ .refl R' (hs'.set i hv)
/-! ### isinstance of the one that is handled -/
/-- its classes: own ones by name, built-in ones -/
def iIsE (a : Addr) (tb : Str → Option Bool) (tt : String → Option Bool) : OL := fun us S => match us with
  | [.adr c, .fn x] => if c = a then (tb x).map fun b => (.bl b, S) else none
  | [.adr c, .ty n] => if c = a then (tt n).map fun b => (.bl b, S) else none
  | _ => none
theorem isE_one {a D : Addr} {oe : Obj} (hp : (a, oe) ∈ X.pn) (C : ExcC X.K D) (hz : Zc (.ref D) none oe) (hf : ∃ vs, oe.data = .fields vs) : CallR X (.builtin "isinstance") (rIsE X.K D a) := fun pins s σ H xs us Q I r h => by
  obtain ⟨c, cv, b, rfl, hcv, e, q⟩ := h
  obtain ⟨vs, hv⟩ := hf
  cases r with | cons rx rr => cases rr with | cons rt rr =>
  cases rr
  cases rx
  have ec := hcv _ rt
  subst ec
  have hget := (I.pin (a, oe) (List.mem_append_left _ hp)).1
  have J : PySem.W.InstAt s.heap a oe D none := by
    obtain ⟨oc, od, oda, osl⟩ := oe
    obtain ⟨z1, z2⟩ := hz
    dsimp only at z1 z2 hv
    subst z1 z2 hv
    exact ⟨hget, rfl, rfl, trivial⟩
  exact PySem.W.kia_one (PySem.W.handS_kitx_exc C.hg C.hk C.hs C.hd C.ha C.hn C.ht C.hm) I.kIn J e (fun z => nomatch z) fun tk => ⟨.bl b, H, I.kept (t' := tk) fun _ _ z => z, rfl, q⟩
/-- what is known of the classes: the answers of isinstance for an instance of D -/
structure IsTab (K : PySem.W.Frag) (mg : Str → Option Value) (D : Addr) (tb : Str → Option Bool) (tt : String → Option Bool) : Prop where
  own : ∀ x b, tb x = some b → (x == ("__debug__" : Str)) = false ∧ ∃ C, mg x = some (.ref C) ∧ PySem.W.kitOne K (.ref D) (.ref C) = some b
  blt : ∀ n b, tt n = some b → PySem.W.kitOne K (.ref D) (.type n) = some b
theorem c_isE {a D : Addr} {oe : Obj} {tb : Str → Option Bool} {tt : String → Option Bool} (hp : (a, oe) ∈ X.pn) (C : ExcC X.K D) (hz : Zc (.ref D) none oe) (hf : ∃ vs, oe.data = .fields vs) (T : IsTab X.K X.mg D tb tt) :
    CallOk X (.builtin "isinstance") (iIsE a tb tt) := callR_by fun xs H Q h => by
  obtain ⟨r, S, us, R, hu, g⟩ := h
  refine ⟨_, isE_one hp C hz hf, ?_⟩
  unfold iIsE at g
  split at g
  · rename_i c x
    cases hu with | cons h1 h2 => cases h2 with | cons h3 h4 =>
    cases h4
    split at g
    · rename_i hc
      subst hc
      cases h1
      cases e : tb x with
      | none => rw [e] at g; exact g.nothing
      | some b =>
        rw [e] at g
        cases h3 with | fn hm =>
        obtain ⟨_, D', hm', k⟩ := T.own x b e
        have eq := Value.ref.inj (Option.some.inj (hm.symm.trans hm'))
        subst eq
        exact ⟨.ref _, .ref _, b, rfl, fun u ru => by cases ru; rfl, k, g.same R (.bl _)⟩
    · exact g.nothing
  · rename_i c n
    cases hu with | cons h1 h2 => cases h2 with | cons h3 h4 =>
    cases h4
    split at g
    · rename_i hc
      subst hc
      cases h1
      cases e : tt n with
      | none => rw [e] at g; exact g.nothing
      | some b =>
        rw [e] at g
        cases h3
        exact ⟨.ty n, .type n, b, rfl, fun u ru => by cases ru; rfl, T.blt n b e, g.same R (.bl _)⟩
    · exact g.nothing
  · exact g.nothing
end
end IP

/-! IPOk: from the text of such a def to its evaluator. -/
namespace IP
open PySem PySem.Spec PyProof.Rows L2 HotX
structure HC where
  cc : Cc
  a : Addr
  tb : Str → Option Bool
  tt : String → Option Bool
def hNm (N : List Str) (names : List (Str × NameKind)) (e : Expr) : Option Nat := match e with
  | .Name x _ => if badName x then none else if names.lookup x == some .local then ixOf x N else none
  | _ => none
def hCall (c : HC) (E : Expr → Option SE) (x : Str) (es : List Expr) : Option SE :=
  if c.cc.names.lookup x == some .globalImplicit && es.all noStar && !es.isEmpty then
    if x = "isinstance" then (denA E es).map (mFn (iIsE c.a c.tb c.tt))
    else if x = "len" then (denA E es).map (mFn iLen)
    else if x = "int" then (denA E es).map (mFn iInt)
    else none
  else none
def hE (c : HC) : Nat → Expr → Option SE
  | 0, _ => none
  | n + 1, e => match e with
    | .Name x _ => if badName x then none else match c.cc.names.lookup x with
      | some .local => (ixOf x c.cc.N).map mVar
      | some .globalImplicit => if (c.tb x).isSome then some (mC (.fn x)) else if x = "ValueError" then some (mC (.ty "ValueError")) else none
      | _ => none
    | .Constant k _ _ => match k with
      | .int i => some (mC (.int i))
      | .str x => some (mC (.str x))
      | _ => none
    | .BinOp a op b _ => match opF op, hE c n a, hE c n b with
      | some f, some x, some y => some (mBin f x y)
      | _, _, _ => none
    | .Compare a [op] [b] _ => if noSet b then match hE c n a, hE c n b with
        | some x, some y => some (mBin (cmpF op) x y)
        | _, _ => none else none
    | .BoolOp .And es _ => denAnd (hE c n) es
    | .Tuple es _ _ => (denA (hE c n) es).map mTup
    | .List es _ => (denA (hE c n) es).map mLst
    | .Call (.Name x _) es [] _ => hCall c (hE c n) x es
    | _ => none
def hLc (c : HC) (elt iter : Expr) (es ifs : List Expr) (scope : Scope) : Option SE :=
  if blkC c.cc.N (scOf c.cc) scope (ownOf c.cc.N scope) && noSet iter && es.all noStar then
    match hE c 20 iter, mapO (hNm c.cc.N (relab scope c.cc.names)) es, ifs, hNm c.cc.N (relab scope c.cc.names) elt with
    | some m, some js, [d], some k => match hNm c.cc.N (relab scope c.cc.names) d with
      | some l => if tgIn ((ownOf c.cc.N scope).map (·.2)) (.tu (js.map .nm)) then some (mLc ((ownOf c.cc.N scope).map (·.2)) (.tu (js.map .nm)) (iLst m) (mTru (mVar l)) (mVar k)) else none
      | none => none
    | _, _, _, _ => none
  else none
def hAsg (c : HC) (y : Str) (py : Pos) (e : Expr) : Option SE := match e with
  | .ListComp elt [⟨.Tuple es _ _, iter, ifs, k⟩] scope lp => if k = 0 ∧ swapsB c.cc y py lp scope = true then hLc c elt iter es ifs scope else none
  | e => if noComp e then hE c 20 e else none
def hS (c : HC) (st : Stmt) : Option SS := match st with
  | .Return (some e) _ => (hE c 20 e).map sRet
  | .Assign [.Name y py] e _ => if c.cc.names.lookup y == some .local then match ixOf y c.cc.N, hAsg c y py e with
      | some i, some m => some (sAsg (.nm i) m)
      | _, _ => none
    else none
  | _ => none
structure HCok (c : HC) (X : Cx) (p : Addr × Obj) : Prop where
  n : X.N = c.cc.N
  nm : X.env.scope.names = c.cc.names
  kd : X.env.scope.kind = .function
  nd : X.N.Nodup
  un : X.A.units + 65 < cLine
  pn : p ∈ X.pn
  hot : L2H.Hot1 X.A p
  isE : CallOk X (.builtin "isinstance") (iIsE c.a c.tb c.tt)
  own : ∀ x b, c.tb x = some b → (x == ("__debug__" : Str)) = false ∧ ∃ C, X.mg x = some (.ref C)
  nb : ∀ x, x ∈ (["isinstance", "len", "int", "ValueError"] : List Str) → X.mg x = none
section
variable {c : HC} {X : Cx} {W : WX} {p : Addr × Obj}
theorem HCok.gl (C : HCok c X p) {x : Str} (h : c.cc.names.lookup x = some .globalImplicit) : Gl X x := by
  show X.env.scope.names.lookup x = some .globalImplicit
  rw [C.nm]; exact h
theorem hCall_ok (C : HCok c X p) {E : Expr → Option SE} (hE : ∀ {e m}, E e = some m → EOk X W e m) {x : Str} {es : List Expr} {m : SE} {q pos : Pos} (h : hCall c E x es = some m) : EOk X W (.Call (.Name x q) es [] pos) m := by
  unfold hCall at h
  split at h
  · rename_i hx
    rw [Bool.and_eq_true, Bool.and_eq_true, beq_iff_eq] at hx
    obtain ⟨⟨x1, x2⟩, x3⟩ := hx
    have hg := C.gl x1
    cases es with
    | nil => simp at x3
    | cons e es =>
      rw [List.all_cons, Bool.and_eq_true] at x2
      split at h
      · rename_i hx
        subst hx
        simp only [Option.map_eq_some_iff] at h
        obtain ⟨a, h1, h2⟩ := h
        subst h2
        exact e_bi C.isE hg (C.nb _ (by simp)) (by decide +kernel) (denA_ok hE h1).1 (by decide) (by decide) (star_ok x2.1) (stars_plain x2.2)
      · split at h
        · rename_i hx
          subst hx
          simp only [Option.map_eq_some_iff] at h
          obtain ⟨a, h1, h2⟩ := h
          subst h2
          exact e_bi c_len hg (C.nb _ (by simp)) (by decide +kernel) (denA_ok hE h1).1 (by decide) (by decide) (star_ok x2.1) (stars_plain x2.2)
        · split at h
          · rename_i hx
            subst hx
            simp only [Option.map_eq_some_iff] at h
            obtain ⟨a, h1, h2⟩ := h
            subst h2
            exact e_bt c_int hg (C.nb _ (by simp)) (by decide +kernel) (denA_ok hE h1).1 (by decide) (by decide) (star_ok x2.1) (stars_plain x2.2)
          · cases h
  · cases h
theorem hE_ok (C : HCok c X p) : ∀ (n : Nat) {e : Expr} {m : SE}, hE c n e = some m → EOk X W e m
  | 0, _, _, h => by simp only [hE] at h; cases h
  | n + 1, e, m, h => by
    have ih : ∀ {e m}, hE c n e = some m → EOk X W e m := fun h => hE_ok C n h
    simp only [hE] at h
    split at h
    · rename_i x q
      split at h
      · cases h
      · rename_i hb
        have hb : badName x = false := by simpa using hb
        split at h
        · rename_i hk
          simp only [Option.map_eq_some_iff] at h
          obtain ⟨i, h1, h2⟩ := h
          subst h2
          exact e_var (by rw [C.n]; exact ixOf_ok h1) (.inl (by rw [C.nm]; exact hk)) (badName_ok hb).1 (badName_ok hb).2
        · rename_i hk
          split at h
          · rename_i ht
            cases h
            cases et : c.tb x with
            | none => rw [et] at ht; cases ht
            | some b =>
              obtain ⟨_, D, hm⟩ := C.own x b et
              exact e_glob (w := .ref D) (C.gl hk) hm rfl (fun r H => .fn hm) (badName_ok hb).1
          · split at h
            · rename_i hx
              subst hx
              cases h
              exact e_bty (C.gl hk) (C.nb _ (by simp)) (by decide +kernel) (by decide) (by decide)
            · cases h
        · cases h
    · split at h
      · cases h; exact e_int
      · cases h; exact e_str
      · cases h
    · split at h
      · rename_i f x y h1 h2 h3; cases h; exact e_bin (opF_ok h1) (ih h2) (ih h3)
      · cases h
    · split at h
      · rename_i hs
        split at h
        · rename_i x y h1 h2; cases h; exact e_cmp (cmpF_ok C.un _) (ih h1) (ih h2) (behind_ok hs)
        · cases h
      · cases h
    · exact denAnd_ok ih h
    · simp only [Option.map_eq_some_iff] at h
      obtain ⟨a, h1, h2⟩ := h
      subst h2
      exact e_tup (denA_ok ih h1).1
    · simp only [Option.map_eq_some_iff] at h
      obtain ⟨a, h1, h2⟩ := h
      subst h2
      exact e_lst (denA_ok ih h1).1
    · exact hCall_ok C ih h
    · cases h
theorem hNm_ok {N : List Str} {names : List (Str × NameKind)} {e : Expr} {i : Nat} (h : hNm N names e = some i) : ∃ x q, e = .Name x q ∧ N[i]? = some x ∧ names.lookup x = some .local ∧ badName x = false := by
  unfold hNm at h
  split at h
  · rename_i x q
    split at h
    · cases h
    · rename_i hb
      split at h
      · rename_i hk
        exact ⟨x, q, rfl, ixOf_ok h, beq_iff_eq.mp hk, by simpa using hb⟩
      · cases h
  · cases h
theorem hTgs_ok {Y : Cx} {N : List Str} {names : List (Str × NameKind)} (hn : Y.N = N) (hm : Y.env.scope.names = names) (nd : Y.N.Nodup) : ∀ {es : List Expr} {js : List Nat}, es.all noStar = true → mapO (hNm N names) es = some js → TgsOk Y es (js.map .nm)
  | [], _, _, e => by simp only [mapO] at e; cases e; exact tgs_nil
  | x :: xs, _, hs, e => by
    rw [List.all_cons, Bool.and_eq_true] at hs
    simp only [mapO] at e
    split at e
    · cases e
    · rename_i i h1
      split at e
      · cases e
      · rename_i ys h2
        cases e
        obtain ⟨x', q, rfl, g1, g2, _⟩ := hNm_ok h1
        exact tgs_cons (tg_nm nd (by rw [hn]; exact g1) (.inl (by rw [hm]; exact g2)) (.inr (by rw [hm]; exact g2))) (hTgs_ok hn hm nd hs.2 h2) (by rw [each_tg hs.1]; rfl)
theorem hLc_ok (C : HCok c X p) {i : Nat} {y : Str} {py spos pos tpos : Pos} {tk : Nat} {elt iter : Expr} {es ifs : List Expr} {scope : Scope} {m : SE} (h : hLc c elt iter es ifs scope = some m) (hy : X.N[i]? = some y) (hyl : X.env.scope.names.lookup y = some .local)
    (hsw : swapsWith (.ListComp elt [⟨.Tuple es tk tpos, iter, ifs, 0⟩] scope pos) (some (.Name y py)) spos.line X.env = pure true) :
    SOk X W (.Assign [.Name y py] (.ListComp elt [⟨.Tuple es tk tpos, iter, ifs, 0⟩] scope pos) spos) (sAsg (.nm i) m) := by
  unfold hLc at h
  split at h
  · rename_i hb
    rw [Bool.and_eq_true, Bool.and_eq_true] at hb
    obtain ⟨⟨b1, b2⟩, b3⟩ := hb
    split at h
    · rename_i mi js d k h1 h2 h3
      split at h
      · rename_i l h4
        split at h
        · rename_i hin
          cases h
          have B : BlkOk X.N X.env.scope scope (ownOf c.cc.N scope) := by
            have z := blkOk_by b1
            rw [← C.n] at z
            rw [← C.n]
            exact ⟨z.kind, z.uniq, z.ix, fun y hy e => by rw [C.nm]; exact z.free y hy e, z.own⟩
          have rl : (relabel scope X.env).names = relab scope c.cc.names := by
            unfold relabel relab
            have e : ∀ n, X.env.kindOf n = c.cc.names.lookup n := fun n => by
              show X.env.scope.names.lookup n = _
              rw [C.nm]
            have e2 : (X.env.scope.kind == .function) = true := by rw [C.kd]; rfl
            simp only [e, e2, Bool.and_true]
          obtain ⟨xe, qe, rfl, e1, e2, e3⟩ := hNm_ok h3
          obtain ⟨xd, qd, rfl, d1, d2, d3⟩ := hNm_ok h4
          refine s_lcHot C.pn C.hot C.nd hy hyl hsw (hE_ok C 20 h1) B (fun s H a cl fp => ⟨hTgs_ok (Y := X.blk s H scope (compEnvC scope cl a X.env) fp) C.n rl C.nd b3 h2, by rw [each_len b3, List.length_map, mapO_len h2], each_find b3⟩) (fun s H a cl fp => ?_) (fun s H a cl fp => ?_) hin (folded_ok b2)
          · exact bs_one (b_tru (e_var (by show X.N[l]? = _; rw [C.n]; exact d1) (.inl (by show (relabel scope X.env).names.lookup xd = _; rw [rl]; exact d2)) (badName_ok d3).1 (badName_ok d3).2) (tru_form rfl))
          · exact e_var (by show X.N[k]? = _; rw [C.n]; exact e1) (.inl (by show (relabel scope X.env).names.lookup xe = _; rw [rl]; exact e2)) (badName_ok e3).1 (badName_ok e3).2
        · cases h
      · cases h
    · cases h
  · cases h
theorem hS_ok (C : HCok c X p) {st : Stmt} {m : SS} (h : hS c st = some m) : SOk X W st m := by
  unfold hS at h
  split at h
  · simp only [Option.map_eq_some_iff] at h
    obtain ⟨a, h1, h2⟩ := h
    subst h2
    exact s_ret (hE_ok C 20 h1)
  · rename_i y py e sp
    split at h
    · rename_i hl
      have hl := beq_iff_eq.mp hl
      have hl' : X.env.scope.names.lookup y = some .local := by rw [C.nm]; exact hl
      split at h
      · rename_i i m h1 h2
        cases h
        have hy : X.N[i]? = some y := by rw [C.n]; exact ixOf_ok h1
        unfold hAsg at h2
        split at h2
        · split at h2
          · rename_i hb
            obtain ⟨rfl, hb⟩ := hb
            unfold swapsB at hb
            rw [Bool.and_eq_true, Bool.and_eq_true, beq_iff_eq] at hb
            obtain ⟨⟨b1, b2⟩, b3⟩ := hb
            exact hLc_ok C h2 hy hl' (sw_true C.kd hl' b2 (by rw [Bool.not_eq_true'] at b3; exact b3))
          · cases h2
        · split at h2
          · rename_i hc
            exact s_asg (tg_nm C.nd hy (.inl hl') (.inr hl')) (hE_ok C 20 h2) (sw_sole (.inl hc)) (par_ok (by cases e <;> rfl)) (one_tg rfl)
          · cases h2
      · cases h
    · cases h
  · cases h
end
end IP

/-! IPOl: _law_kind, its evaluator and what it computes. -/
namespace IP
open PySem PySem.Spec PyProof.Rows L2 HotX
def excs : List (Str × Str) := [("row", "BadRow"), ("tune", "BadTune"), ("fine", "TooFine"), ("stretch", "BadStretch"), ("page", "BadPage"), ("roll", "BadRoll"), ("place", "OutOfPlace"), ("width", "BadWidth"), ("reach", "OutOfReach")]
def tbOf (c : Str) (x : Str) : Option Bool := if (excs.map (·.2)).contains x then some (decide (x = c)) else none
def ttV (n : String) : Option Bool := if n = "ValueError" then some true else none
section
variable (a : Addr) (tb : Str → Option Bool) (tt : String → Option Bool)
def kE (x : Str) : SE := mFn (iIsE a tb tt) (mCons (mVar 0) (mCons (mC (.fn x)) mNil))
def kP (w x : Str) : SE := mTup (mCons (mC (.str w)) (mCons (kE a tb tt x) mNil))
def kL (w x v y : Str) : SE := mLst (mCons (kP a tb tt w x) (mCons (kP a tb tt v y) mNil))
def N_kd : List Str := ["_law_error", "_law_found", "_law_word", "_law_is_one"]
def b_kd : SS :=
  sSeq (sAsg (.nm 1) (kL a tb tt "row" "BadRow" "tune" "BadTune"))
  (sSeq (sAsg (.nm 1) (mBin iAdd (mVar 1) (kL a tb tt "fine" "TooFine" "stretch" "BadStretch")))
  (sSeq (sAsg (.nm 1) (mBin iAdd (mVar 1) (mLst (mCons (kP a tb tt "page" "BadPage") mNil))))
  (sSeq (sAsg (.nm 1) (mBin iAdd (mVar 1) (kL a tb tt "roll" "BadRoll" "place" "OutOfPlace")))
  (sSeq (sAsg (.nm 1) (mBin iAdd (mVar 1) (kL a tb tt "width" "BadWidth" "reach" "OutOfReach")))
  (sSeq (sAsg (.nm 1) (mLc [2, 3] (.tu [.nm 2, .nm 3]) (iLst (mVar 1)) (mTru (mVar 3)) (mVar 2)))
  (sRet (mBin iMul (mVar 1) (mFn iInt (mCons (mAnd (mBin iEq (mFn iLen (mCons (mVar 1) mNil)) (mC (.int 1))) (mFn (iIsE a tb tt) (mCons (mVar 0) (mCons (mC (.ty "ValueError")) mNil)))) mNil)))))))))
end
def F_kd (c : Str) (a : Addr) : FN := mFun N_kd (b_kd a (tbOf c) ttV)
def pr (c : Str) (e : Str × Str) : IV := .tup [.str e.1, .bl (decide (e.2 = c))]
def gKd (c : Str) : List SO :=
  let p := excs.map (pr c)
  [.lst (p.take 2), .lst ((p.drop 2).take 2), .lst (p.take 4), .lst ((p.drop 4).take 1), .lst (p.take 5), .lst ((p.drop 5).take 2), .lst (p.take 7), .lst ((p.drop 7).take 2), .lst p, .lst ((excs.filter fun e => decide (e.2 = c)).map fun e => .str e.1), .lst ((excs.filter fun e => decide (e.2 = c)).map fun e => .str e.1)]
theorem get_app {α : Type} {S G : List α} {n : Nat} {o : Option α} (h : G[n]? = o) : (S ++ G)[S.length + n]? = o := by rw [List.getElem?_append_right (by omega)]; simpa using h

section
variable {a : Addr} {tb : Str → Option Bool} {tt : String → Option Bool} {t : Slo} {S S1 : Sto}
theorem kE_run {x : Str} {b : Bool} (h0 : t[0]? = some (some (.adr a))) (hx : tb x = some b) : kE a tb tt x t S = .ok (.bl b) S := by
  simp only [kE, mFn, mCons, mVar, h0, mC, mNil, R.bind, iIsE, if_pos, hx, Option.map_some, R.ofO]
theorem kP_run {w x : Str} {b : Bool} (h0 : t[0]? = some (some (.adr a))) (hx : tb x = some b) : kP a tb tt w x t S = .ok (.tup [.str w, .bl b]) S := by
  simp only [kP, mTup, mCons, mC, mNil, R.bind, kE_run h0 hx]
  rw [if_pos (by show 2 ≤ 16777216; decide)]
theorem kL_run {w x v y : Str} {b d : Bool} (h0 : t[0]? = some (some (.adr a))) (hx : tb x = some b) (hy : tb y = some d) : kL a tb tt w x v y t S = .ok (.ref S.length) (S ++ [.lst [.tup [.str w, .bl b], .tup [.str v, .bl d]]]) := by
  simp only [kL, mLst, mCons, mNil, R.bind, kP_run h0 hx, kP_run h0 hy]
  rw [if_pos (by show 2 ≤ 16777216; decide)]
theorem kA_run {m : SE} {i j : Nat} {xs ys : List IV} (h1 : t[1]? = some (some (.ref i))) (hm : m t S = .ok (.ref j) S1) (hi : S1[i]? = some (.lst xs)) (hj : S1[j]? = some (.lst ys)) (hl : xs.length + ys.length ≤ 16777216) :
    mBin iAdd (mVar 1) m t S = .ok (.ref S1.length) (S1 ++ [.lst (xs ++ ys)]) := by
  simp only [mBin, mVar, h1, R.bind, hm, iAdd, seqI, hi, hj, if_pos hl, R.ofO]
theorem kC_run {i d : Nat} {t0 : Slo} (hi : i ≠ d) : ∀ (ps : List (Str × Bool)) (f n : Nat) (S : Sto) (acc items : List IV), ps.length < f → S[i]? = some (.lst items) → items.drop n = ps.map (fun p => .tup [.str p.1, .bl p.2]) → S[d]? = some (.lst acc) → acc.length + ps.length < 16777216 →
    t0.length = 4 → lcI [2, 3] (.tu [.nm 2, .nm 3]) (mTru (mVar 3)) (mVar 2) (.lst (.ref i)) t0 d f n S = .ok (.ref d) (S.set d (.lst (acc ++ (ps.filter (·.2)).map fun p => .str p.1)))
  | [], f + 1, n, S, acc, items, _, h1, h2, h3, h4, h5 => by
    have hn : items.length ≤ n := by simpa using h2
    simp only [lcI, nextAt, seqI, h1, Option.map_some, List.getElem?_eq_none hn]
    have e : S.set d (.lst acc) = S := by
      refine List.ext_getElem? fun j => ?_
      rw [List.getElem?_set]
      split
      · rename_i e; subst e; rw [h3]; split <;> first | rfl | (rename_i q; exact absurd (lt_of_some h3) q)
      · rfl
    simp [e]
  | p :: ps, f + 1, n, S, acc, items, h0, h1, h2, h3, h4, h5 => by
    have hn : items[n]? = some (.tup [.str p.1, .bl p.2]) := by
      have := congrArg (fun l => l[0]?) h2
      simpa using this
    have h2' : items.drop (n + 1) = ps.map (fun p => .tup [.str p.1, .bl p.2]) := by
      have := congrArg (List.drop 1) h2
      simpa using this
    match t0, h5 with
    | [x0, x1, x2, x3], _ =>
    simp only [lcI, nextAt, seqI, h1, Option.map_some, hn]
    have e1 : tgSet S (.tu [.nm 2, .nm 3]) (.tup [.str p.1, .bl p.2]) (wipeI [x0, x1, x2, x3] [2, 3]) = some [x0, x1, some (.str p.1), some (.bl p.2)] := by kernel_rfl
    rw [e1]
    have e2 : mTru (mVar 3) [x0, x1, some (.str p.1), some (.bl p.2)] S = .ok p.2 S := by
      cases p.2 <;> rfl
    simp only [e2, R.bind]
    rcases p with ⟨w, b⟩
    cases b with
    | false =>
      rw [if_neg (by simp)]
      rw [kC_run (t0 := [x0, x1, x2, x3]) hi ps f (n + 1) S acc items (by simp at h0; omega) h1 h2' h3 (by simp at h4; omega) rfl]
      simp
    | true =>
      rw [if_pos rfl]
      have e3 : mVar 2 [x0, x1, some (.str w), some (.bl true)] S = .ok (.str w) S := rfl
      simp only [e3, h3]
      rw [if_pos (by simp at h4; omega)]
      rw [kC_run (t0 := [x0, x1, x2, x3]) hi ps f (n + 1) (S.set d (.lst (acc ++ [IV.str w]))) (acc ++ [IV.str w]) items (by simp at h0; omega) (by rw [List.getElem?_set_ne (Ne.symm hi)]; exact h1) h2' (by rw [List.getElem?_set_self (lt_of_some h3)]) (by simp at h4 ⊢; omega) rfl]
      simp

theorem kS_run {m : SE} {i k : Nat} {G : List SO} {xs ys : List IV} (hk : G.length = k) (h1 : t[1]? = some (some (.ref (S.length + i)))) (hm : m t (S ++ G) = .ok (.ref (S ++ G).length) ((S ++ G) ++ [.lst ys])) (hi : G[i]? = some (.lst xs)) (hl : xs.length + ys.length ≤ 16777216) :
    sAsg (.nm 1) (mBin iAdd (mVar 1) m) t (S ++ G) = .nx (t.set 1 (some (.ref (S.length + (k + 1))))) (S ++ (G ++ [.lst ys, .lst (xs ++ ys)])) := by
  subst hk
  have e := kA_run (xs := xs) (ys := ys) h1 hm (by rw [List.append_assoc]; exact get_app (by rw [List.getElem?_append_left (lt_of_some hi)]; exact hi)) (by rw [List.getElem?_append_right (Nat.le_refl _), Nat.sub_self]; rfl) hl
  unfold sAsg
  rw [e]
  simp only [tgSet]
  congr 1
  · congr 3
    simp
  · simp
theorem kM_run {m : SE} {w x : Str} {b : Bool} (h0 : t[0]? = some (some (.adr a))) (hx : tb x = some b) : mLst (mCons (kP a tb tt w x) mNil) t S = .ok (.ref S.length) (S ++ [.lst [.tup [.str w, .bl b]]]) := by
  simp only [mLst, mCons, mNil, R.bind, kP_run h0 hx]
  rw [if_pos (by show 1 ≤ 16777216; decide)]
end
theorem tb_at {c x : Str} (h : (excs.map (·.2)).contains x = true) : tbOf c x = some (decide (x = c)) := by unfold tbOf; rw [if_pos h]
def wsK (c : Str) : List Str := (excs.filter fun e => decide (e.2 = c)).map (·.1)
theorem F_kd_run {c : Str} (h1 : (wsK c).length = 1) (a : Addr) (S : Sto) : F_kd c a [.adr a] S = .ok (.ref (S.length + 10)) (S ++ gKd c) := by
  have T := fun x h => tb_at (c := c) (x := x) h
  have s1 : sAsg (.nm 1) (kL a (tbOf c) ttV "row" "BadRow" "tune" "BadTune") [some (.adr a), none, none, none] S = .nx [some (.adr a), some (.ref (S.length + 0)), none, none] (S ++ [.lst [pr c ("row", "BadRow"), pr c ("tune", "BadTune")]]) := by
    unfold sAsg
    rw [kL_run rfl (T _ (by decide)) (T _ (by decide))]
    rfl
  have s2 := kS_run (S := S) (k := 1) (i := 0) (t := [some (.adr a), some (.ref (S.length + 0)), none, none]) (m := kL a (tbOf c) ttV "fine" "TooFine" "stretch" "BadStretch") rfl rfl (kL_run rfl (T _ (by decide)) (T _ (by decide))) (G := [.lst [pr c ("row", "BadRow"), pr c ("tune", "BadTune")]]) rfl (by show 2 + 2 ≤ 16777216; decide)
  have s3 := kS_run (S := S) (k := 3) (i := 2) (t := [some (.adr a), some (.ref (S.length + 2)), none, none]) (m := mLst (mCons (kP a (tbOf c) ttV "page" "BadPage") mNil)) rfl rfl (kM_run (m := mVar 0) rfl (T _ (by decide))) (G := (gKd c).take 3) rfl (by show 4 + 1 ≤ 16777216; decide)
  have s4 := kS_run (S := S) (k := 5) (i := 4) (t := [some (.adr a), some (.ref (S.length + 4)), none, none]) (m := kL a (tbOf c) ttV "roll" "BadRoll" "place" "OutOfPlace") rfl rfl (kL_run rfl (T _ (by decide)) (T _ (by decide))) (G := (gKd c).take 5) rfl (by show 5 + 2 ≤ 16777216; decide)
  have s5 := kS_run (S := S) (k := 7) (i := 6) (t := [some (.adr a), some (.ref (S.length + 6)), none, none]) (m := kL a (tbOf c) ttV "width" "BadWidth" "reach" "OutOfReach") rfl rfl (kL_run rfl (T _ (by decide)) (T _ (by decide))) (G := (gKd c).take 7) rfl (by show 7 + 2 ≤ 16777216; decide)
  have hp : (excs.map fun e => (e.1, decide (e.2 = c))).filter (·.2) = (excs.filter fun e => decide (e.2 = c)).map fun e => (e.1, decide (e.2 = c)) := by rw [List.filter_map]; rfl
  have s6 : sAsg (.nm 1) (mLc [2, 3] (.tu [.nm 2, .nm 3]) (iLst (mVar 1)) (mTru (mVar 3)) (mVar 2)) [some (.adr a), some (.ref (S.length + 8)), none, none] (S ++ (gKd c).take 9) = .nx [some (.adr a), some (.ref (S.length + 9)), none, none] (S ++ (gKd c).take 10) := by
    have g8 : (S ++ (gKd c).take 9)[S.length + 8]? = some (.lst (excs.map (pr c))) := get_app rfl
    have e1 : iLst (mVar 1) [some (.adr a), some (.ref (S.length + 8)), none, none] (S ++ (gKd c).take 9) = .ok (.lst (.ref (S.length + 8))) (S ++ (gKd c).take 9) := by
      show R.bind (R.ok _ _) _ = _
      simp only [R.bind, seqI, g8]
    have hd : (S ++ (gKd c).take 9).length = S.length + 9 := by rw [List.length_append]; rfl
    have k := kC_run (i := S.length + 8) (d := S.length + 9) (t0 := [some (.adr a), some (.ref (S.length + 8)), none, none]) (by omega) (excs.map fun e => (e.1, decide (e.2 = c))) 1000000 0 ((S ++ (gKd c).take 9) ++ [.lst []]) [] (excs.map (pr c)) (by show 9 < 1000000; decide)
      (by rw [List.getElem?_append_left (by rw [hd]; omega)]; exact g8) rfl (by rw [List.getElem?_append_right (by rw [hd]; exact Nat.le_refl _), hd, Nat.sub_self]; rfl) (by show 0 + 9 < 16777216; decide) rfl
    unfold sAsg mLc
    rw [e1]
    simp only [R.bind, hd]
    rw [k]
    simp only [R.calm, tgSet]
    rw [hp]
    congr 1
    rw [List.set_append_right _ _ (by rw [hd]; exact Nat.le_refl _), hd, Nat.sub_self, List.append_assoc]
    congr 1
    simp [gKd]
  have s7 : sRet (mBin iMul (mVar 1) (mFn iInt (mCons (mAnd (mBin iEq (mFn iLen (mCons (mVar 1) mNil)) (mC (.int 1))) (mFn (iIsE a (tbOf c) ttV) (mCons (mVar 0) (mCons (mC (.ty "ValueError")) mNil)))) mNil))) [some (.adr a), some (.ref (S.length + 9)), none, none] (S ++ (gKd c).take 10) = .ret (.ref (S.length + 10)) (S ++ gKd c) := by
    have g9 : (S ++ (gKd c).take 10)[S.length + 9]? = some (.lst ((wsK c).map .str)) := get_app (by rw [wsK, List.map_map]; rfl)
    have v1 : ∀ S', mVar 1 [some (.adr a), some (.ref (S.length + 9)), none, none] S' = .ok (.ref (S.length + 9)) S' := fun _ => rfl
    have v0 : ∀ S', mVar 0 [some (.adr a), some (.ref (S.length + 9)), none, none] S' = .ok (.adr a) S' := fun _ => rfl
    have hl : ((wsK c).map IV.str).length = 1 := by rw [List.length_map, h1]
    have eb : mAnd (mBin iEq (mFn iLen (mCons (mVar 1) mNil)) (mC (.int 1))) (mFn (iIsE a (tbOf c) ttV) (mCons (mVar 0) (mCons (mC (.ty "ValueError")) mNil))) [some (.adr a), some (.ref (S.length + 9)), none, none] (S ++ (gKd c).take 10) = .ok (.bl true) (S ++ (gKd c).take 10) := by
      have el : iLen [.ref (S.length + 9)] (S ++ (gKd c).take 10) = some (.int 1, S ++ (gKd c).take 10) := by
        simp only [iLen, dctI, seqI, g9, Option.map_some, hl]
        rfl
      simp only [mAnd, mBin, mFn, mCons, mNil, v1, v0, mC, R.bind, el, R.ofO, iEq, eqI, Option.map_some]
      simp [iIsE, ttV]
    have em : ∀ (A B : SE) t S' x y, A t S' = .ok x S' → B t S' = .ok y S' → mBin iMul A B t S' = R.ofO (iMul x y S') := fun A B t S' x y hA hB => by simp only [mBin, hA, hB, R.bind]
    have ei : ∀ (M : SE) t S', M t S' = .ok (.bl true) S' → mFn iInt (mCons M mNil) t S' = .ok (.int 1) S' := fun M t S' h => by
      simp only [mFn, mCons, mNil, h, R.bind, iInt, R.ofO]
      rfl
    unfold sRet
    rw [em _ _ _ _ _ _ (v1 _) (ei _ _ _ eb)]
    simp only [iMul, seqI, g9]
    rw [if_pos (by rw [hl]; decide)]
    simp only [R.ofO]
    congr 1
    · congr 1
      rw [List.length_append]; rfl
    · rw [List.append_assoc]
      congr 1
      simp [gKd, wsK]
  unfold F_kd mFun b_kd
  have e0 : startI N_kd [.adr a] = [some (.adr a), none, none, none] := rfl
  rw [e0]
  simp only [sSeq, s1]
  have q2 := s2; have q3 := s3; have q4 := s4; have q5 := s5
  simp only [List.set] at q2 q3 q4 q5
  rw [q2]
  dsimp only
  erw [q3]
  dsimp only
  erw [q4]
  dsimp only
  erw [q5]
  dsimp only
  erw [s6]
  dsimp only
  rw [s7]
end IP

/-! IPOm: a def that gets the handled exception; a def whose body is a try. -/
namespace IP
open PySem PySem.Spec PyProof.Rows L2 HotX L2H
/-- a def called while p is handled, which may look at p: what it promises knows p's place -/
structure FnP (P : Program) (w : World) (K : PySem.W.Frag) (mg : Str → Option Value) (base : Heap) (CX : CXT) (k : Nat) (f : Addr) (fd : FuncData) (ps : List Str) (Zp : Obj → Prop) (sp : Addr → Sp) : Prop where
  len : ∀ a vs H Q E, sp a vs H Q E → vs.length = ps.length
  run : ∀ (A : Around) (outer : List PySem.Env) (s : Shared) (H : Hp) (args : Args) (us : List Value) (vs : List V) (Q : VK) (E : XK) (p : Addr × Obj), RoomH k A → Hot1 A p → Zp p.2 → PinOk outer H s p → Env0 P w K mg base A outer s H → BindsTo s fd args (ps.zip us) → Vals vs us →
    sp p.1 vs H Q E → codeAny (model P w) A (.call (.ref f) args) (CR CX outer P w H s Q E) s
section
variable {CX : CXT} {P : Program} {w : World} {K : PySem.W.Frag} {mg : Str → Option Value} {base : Heap} {k : Nat}
theorem fnP_of {x : Str} {st : Stmt} {f : Addr} {fd : FuncData} {N ps : List Str} {Zp : Obj → Prop} {sp : Addr → Sp} (F : Fun K x x st f fd) (S : FnScope N ps (defScope st)) (len : ∀ a vs H Q E, sp a vs H Q E → vs.length = ps.length)
    (go : ∀ (cdv : Value) (A : Around) (outer : List PySem.Env) (s : Shared) (H : Hp) (vs : List V) (Q : VK) (E : XK) (p : Addr × Obj), Hot1 A p → Zp p.2 → RoomH k (A.deeper (envOfC x (defScope st) s.heap.objs.size f cdv)) → sp p.1 vs H Q E →
      ∃ t, PSs (cxH CX P w K mg base N x (defScope st) f cdv A outer s H E p) (defBody st) t ∧ t { nx := fun _ H' => Q .non H', rt := Q } (L2.start N vs) H) : FnP P w K mg base CX (k + 1) f fd ps Zp sp := by
  obtain ⟨_, _, _, _, _, _, cdv, _, _, rfl, lk, hcd⟩ := F.ex
  refine ⟨len, fun A outer s H args us vs Q E p hr hot hz hpin e0 hb r hsp => ?_⟩
  have KX : K.In s.heap := e0.mod.kin.keeps fun b o e => (e0.bs b o e).1
  have kinds : ∀ y ∈ ps.zip us, (defScope st).names.lookup y.1 = some .local ∨ ((defScope st).names.lookup y.1 = some .cell ∧ ((cellsFrom (s.heap.objs.size + 1) (defScope st).names []).lookup y.1).isSome = true) := fun ⟨n, v⟩ hy =>
    (S.par n (List.of_mem_zip hy).1).elim .inl fun q => .inr ⟨q, PySem.W.cellsFrom_some _ _ _ (.inl q)⟩
  refine codeAny_call_function hr.depth (KX _ _ lk) rfl S.co S.gen rfl (PySem.W.codeRec_of KX hcd) (hb _ _ _ _ (wpAny_newFunctionEnv_cells S.kind kinds fun env he s1 x1 => ?_))
  subst he
  refine ⟨(e0.mod.nolimit.keeps fun b o e => (e0.bs b o e).1).keeps x1.toInCall.keep, codeAny_func ?_⟩
  obtain ⟨t, ht, hq⟩ := go cdv A outer s H vs Q E p hot hz (hr.deeper _) hsp
  refine wpAny_mono (ht.run [] s1 (L2.start N vs) H _ (inv_startH S hpin e0 (len _ _ _ _ _ hsp) r x1) hq) (fun fl s' hs => ?_) fun e s' hs => hs
  cases fl with
  | next =>
    obtain ⟨σ', H', J, q⟩ := hs
    exact ⟨V.non, H', J.os, J.bare, J.base, J.hok, rfl, q⟩
  | ret u =>
    obtain ⟨v, σ', H', J, rv, q⟩ := hs
    exact ⟨v, H', J.os, J.bare, J.base, J.hok, rv, q⟩
  | brk => exact hs.elim fun _ ⟨_, _, q⟩ => q.elim
  | cont => exact hs.elim fun _ ⟨_, _, q⟩ => q.elim
theorem FnP.mono {f : Addr} {fd : FuncData} {ps : List Str} {Zp : Obj → Prop} {sp : Addr → Sp} {j : Nat} (F : FnP P w K mg base CX j f fd ps Zp sp) (h : j ≤ k) : FnP P w K mg base CX k f fd ps Zp sp :=
  ⟨F.len, fun A outer s H args us vs Q E p hr => F.run A outer s H args us vs Q E p (hr.mono h)⟩
end
section
variable {X : Cx} {CX : CXT} {k : Nat} {f : Addr} {fd : FuncData} {ps : List Str} {Zp : Obj → Prop} {sp : Addr → Sp} {E : VSt → XK} {x : Str} {q pos : Pos} {e : Expr} {es : List Expr} {t : TA} {p : Addr × Obj}
theorem pe_callP (F : FnP X.prog X.w X.K X.mg X.base CX k f fd ps Zp sp) (hr : RoomH k X.A) (hot : Hot1 X.A p) (hz : Zp p.2) (hp : p ∈ X.pn) (hg : Gl X x) (hm : X.mg x = some (.ref f)) (hk : PySem.W.keepIn X.K (.ref f) = true) (hb : Binds X.K fd ps []) (hx : ∀ σ, PassesAt CX X σ (E σ))
    (ha : PA X (e :: es) t) (hdb : (x == ("__debug__" : Str)) = false) (he : starEach (e :: es) X.env = (false, eval e X.env) :: starEach es X.env) (hpl : (backTo pos (starEach es X.env)).any (·.1) = false) :
    PE X (.Call (.Name x q) (e :: es) [] pos) (tCallS (sp p.1) E t) := by
  refine ⟨fun pins s σ H Q I h => wpAny_Call_Name_kw (ld_glob I hg hm ?_ hdb)⟩
  refine PySem.W.callWith_K (h₀ := X.base) I.ok.mod.kin hk (thn (ha.run pos pins s σ H _ I h) fun us s1 ⟨vs, H1, I1, r, hq⟩ => ⟨I1.kIn, ?_⟩) he hpl
  have b := hb s1 us I1.kIn (by rw [List.append_nil, ← r.length]; exact F.len _ _ _ _ _ hq)
  rw [List.append_nil] at b
  obtain ⟨P1, P2, P3, P4, P5⟩ := I1.pin p (List.mem_append_left _ hp)
  have pin : PinOk X.stack H1 s1 p := ⟨P1, P2, fun hm => (List.mem_cons.mp (I1.stkSub p.1 hm)).elim P3 P4, P5⟩
  refine wpAny_call (codeAny_mono (F.run X.A X.stack s1 H1 ⟨us, []⟩ us vs Q (E σ) p hr hot hz pin I1.env0 b r hq) fun r s' hq => ?_)
  match r, hq with
  | .error e, hq => exact hx σ pins H1 s1 e s' I1 hq
  | .ok (.ret u), hq => exact I1.after hq
  | .ok .next, hq => exact hq.elim
  | .ok .brk, hq => exact hq.elim
  | .ok .cont, hq => exact hq.elim
end
/-! ### _law_kind -/
/-- p's object: an instance of D, made by raise, its context None -/
def ZpC (D : Addr) (oe : Obj) : Prop := L2N.Zn (.ref D) none oe ∧ ∃ vs, oe.data = .fields vs
section
variable {P : Program} {w : World} {K : PySem.W.Frag} {mg : Str → Option Value} {base : Heap}
theorem kind_fn {x : Str} {st : Stmt} {f : Addr} {fd : FuncData} {N ps : List Str} {b : Addr → SS} {D : Addr} {tb : Str → Option Bool} {tt : String → Option Bool} (F : Fun K x x st f fd) (S : FnScope N ps (defScope st)) (hn : ps.length = 1) (C : ExcC K D) (T : IsTab K mg D tb tt)
    (hnb : ∀ x, x ∈ (["isinstance", "len", "int", "ValueError"] : List Str) → mg x = none) (hd : ∀ a, denSs (hS ⟨⟨N, (defScope st).names, fun _ => true⟩, a, tb, tt⟩) (defBody st) = some (b a)) :
    FnP P w K mg base (L2N.CX P w) 1 f fd ps (ZpC D) (fun a => spI K mg (mFun N (b a)) 1) := by
  refine fnP_of (k := 0) F S (fun a vs H Q E h => by rw [hn]; exact h.1) fun cdv A outer s H vs Q E p hot hz hr h => ?_
  obtain ⟨hl, r, S0, us, R, hus, h⟩ := h
  have C1 : HCok ⟨⟨N, (defScope st).names, fun _ => true⟩, p.1, tb, tt⟩ (cxH (L2N.CX P w) P w K mg base N x (defScope st) f cdv A outer s H E p) p :=
    ⟨rfl, rfl, S.kind, S.nd, by have z := hr.un; show (A.deeper (envOfC x (defScope st) s.heap.objs.size f cdv)).units + 65 < cLine; omega, List.mem_singleton_self p, ⟨hot.1, hot.2⟩,
      c_isE (X := cxH (L2N.CX P w) P w K mg base N x (defScope st) f cdv A outer s H E p) (oe := p.2) (List.mem_singleton_self p) C hz.1.zc hz.2 T,
      fun y c e => ⟨(T.own y c e).1, (T.own y c e).2.imp fun _ z => z.1⟩, hnb⟩
  refine ⟨_, denSs_ok (W := fun cls d _ H => E cls d H) (fun h => hS_ok C1 h) (hd p.1), r, startI N us, S0, start_ok hus ?_, R, ?_⟩
  · have : (N.take ps.length).length = ps.length := by rw [S.pre]
    rw [List.length_take] at this
    show vs.length ≤ N.length
    rw [hl, ← hn]; omega
  · unfold mFun at h
    cases eb : b p.1 (startI N us) S0 with
    | nx t S1 => rw [eb] at h; exact fun r' H' s' e R' hs' => h r' H' e R' _ .non
    | ret v S1 => rw [eb] at h; exact fun r' H' w e R' hw => h r' H' e R' w hw
    | ex c fs t S1 => rw [eb] at h; exact fun r' H' s' cls d e R' hs' z => h r' H' cls d e R' z
    | brk t S1 => rw [eb] at h; exact h.elim
    | cnt t S1 => rw [eb] at h; exact h.elim
    | no => rw [eb] at h; exact h
end
end IP

/-! IPOn: a def that tells what it gets, or the words of what is raised. -/
namespace IP
open PySem PySem.Spec PyProof.Rows L2 HotX L2H
section
variable {X : Cx} {W : WX}
theorem e_callP {x : Str} {F : FN} {f : Addr} {fd : FuncData} {ps : List Str} {Zp : Obj → Prop} {sp : Addr → Sp} {n k : Nat} {e : Expr} {es : List Expr} {ma : SA} {q pos : Pos} {p : Addr × Obj} (G : FnP X.prog X.w X.K X.mg X.base (L2N.CX X.prog X.w) k f fd ps Zp sp) (hsp : sp p.1 = spI X.K X.mg F n)
    (tk : L2N.Takes X W) (hr : RoomH k X.A) (hot : Hot1 X.A p) (hz : Zp p.2) (hp : p ∈ X.pn) (hg : Gl X x) (hm : X.mg x = some (.ref f)) (hk : PySem.W.keepIn X.K (.ref f) = true) (hb : Binds X.K fd ps []) (hn : (e :: es).length = n) (ha : AOk X W (e :: es) ma)
    (hdb : (x == ("__debug__" : Str)) = false) (he : starEach (e :: es) X.env = (false, eval e X.env) :: starEach es X.env) (hpl : (backTo pos (starEach es X.env)).any (·.1) = false)
    (hl : ∀ t S xs S', ma t S = .ok xs S' → xs.length = n) : EOk X W (.Call (.Name x q) (e :: es) [] pos) (mCall F ma) := by
  refine PE_imp (pe_callP G hr hot hz hp hg hm hk hb (fun σ => L2N.passAt tk σ) ha hdb he hpl) fun s H Q ⟨r, t, S, hs, R, h⟩ => ?_
  rw [hsp]
  refine ⟨r, t, S, hs, R, ?_⟩
  have h' := Aft.bind h
  unfold mCall at h
  cases em : ma t S with
  | no => rw [em] at h'; exact h'
  | ex c fs S' => rw [em] at h'; exact h'
  | ok xs S' =>
    rw [em] at h'
    have hlen := hl t S xs S' em
    intro r1 H1 e1 R1 ws hws
    obtain ⟨_, _, h1⟩ := h' r1 H1 e1 R1
    exact ⟨by rw [← hws.length, hlen], r1, S', xs, R1, hws, h1⟩
end
/-- what is known of the classes that may be caught, of _law_kind, of TuneError -/
structure KindT (P : Program) (w : World) (K : PySem.W.Frag) (mg : Str → Option Value) (base : Heap) (cs : List Str) : Prop where
  tu : mg "tuple" = none
  te : ∃ TE, mg "TuneError" = some (.ref TE) ∧ ∀ c ∈ cs, ∀ D, mg c = some (.ref D) → PySem.W.exmOne K (.ref D) (.ref TE) = some true
  kd : ∀ c ∈ cs, ∀ D, mg c = some (.ref D) → (wsK c).length = 1 ∧ ∃ f fd ps, mg "_law_kind" = some (.ref f) ∧ PySem.W.keepIn K (.ref f) = true ∧ Binds K fd ps [] ∧ FnP P w K mg base (L2N.CX P w) 1 f fd ps (ZpC D) (fun a => spI K mg (F_kd c a) 1)
def sTold (cs : List Str) (mb : SS) : SS := fun t S => match mb t S with
  | .ex c fs _ S1 => if fs.isEmpty && cs.contains c then .ret (.tup ((wsK c).map .str)) (S1 ++ gKd c) else .no
  | r => r
section
variable {X : Cx} {W : WX} {cs : List Str}
def tsK (K : PySem.W.Frag) (mg : Str → Option Value) (n i : Nat) (cs : List Str) (a : Addr) (cls : Value) (d : Option Addr) : TS := fun D σ H => ∃ c D0, c ∈ cs ∧ mg c = some (.ref D0) ∧ cls = .ref D0 ∧ d = none ∧ ∃ r t S, St1 K mg r n t σ H ∧ Rel K mg r S H ∧ t[i]? = some (some (.adr a)) ∧
  ∀ r' H' w, Ex r H r' H' → Rel K mg r' (S ++ gKd c) H' → VR K mg r' H' (.tup ((wsK c).map .str)) w → D.rt w H'
theorem suiteK {i : Nat} {en : Str} {p1 p2 p3 p4 p5 p6 : Pos} {a : Addr} {oe : Obj} {cls : Value} {d : Option Addr} {pn : List (Addr × Obj)} (KT : KindT X.prog X.w X.K X.mg X.base cs) (hr : RoomH 1 X.A) (hi : X.N[i]? = some en) (hl : X.env.scope.names.lookup en = some .local) (hbn : badName en = false)
    (glt : Gl X "tuple") (glk : Gl X "_law_kind") (hz : L2N.Zn cls d oe) (hf : ∃ vs, oe.data = .fields vs) :
    PSs (X.suite a ((a, oe) :: pn)) [.Return (some (.Call (.Name "tuple" p1) [.Call (.Name "_law_kind" p2) [.Name en p3] [] p4] [] p5)) p6] (tsK X.K X.mg X.N.length i cs a cls d) := by
  refine ⟨fun pins s σ H D I h => ?_⟩
  obtain ⟨c, D0, hc, hm, rfl, rfl, r, t, S, hs, Rl, ht, q⟩ := h
  obtain ⟨h1, f, fd, ps, kf, kk, kb, G⟩ := KT.kd c hc D0 hm
  have hot : Hot1 (X.suite a ((a, oe) :: pn)).A (a, oe) := by
    obtain ⟨vs, hv⟩ := hf
    exact ⟨rfl, vs, hv, hz.2.2 vs hv⟩
  have ev : EOk (X.suite a ((a, oe) :: pn)) (fun _ _ _ _ => False) (.Name en p3) (mVar i) := e_var hi (.inl hl) (badName_ok hbn).1 (badName_ok hbn).2
  have ek : EOk (X.suite a ((a, oe) :: pn)) (fun _ _ _ _ => False) (.Call (.Name "_law_kind" p2) [.Name en p3] [] p4) (mCall (F_kd c a) (mCons (mVar i) mNil)) :=
    e_callP (p := (a, oe)) G rfl takes0N ⟨hr.dp, hr.un⟩ hot ⟨hz, hf⟩ List.mem_cons_self glk kf kk kb rfl (a_cons ev a_nil rfl) (by decide) rfl rfl (fun t S xs S' e => by
      unfold mCons at e
      cases ea : mVar i t S with
      | no => rw [ea] at e; cases e
      | ex c fs S1 => rw [ea] at e; cases e
      | ok v S1 =>
        rw [ea] at e
        simp only [R.bind, mNil] at e
        cases e; rfl)
  have et : EOk (X.suite a ((a, oe) :: pn)) (fun _ _ _ _ => False) (.Call (.Name "tuple" p1) [.Call (.Name "_law_kind" p2) [.Name en p3] [] p4] [] p5) (mFn iTuple (mCons (mCall (F_kd c a) (mCons (mVar i) mNil)) mNil)) :=
    e_bt c_tuple glt KT.tu (by decide +kernel) (a_cons ek a_nil rfl) (by decide) (by decide) rfl rfl
  refine (s_one (s_ret (pos := p6) et)).run pins s σ H D I ⟨r, t, S, hs, Rl, ?_⟩
  have e1 : mFn iTuple (mCons (mCall (F_kd c a) (mCons (mVar i) mNil)) mNil) t S = .ok (.tup ((wsK c).map .str)) (S ++ gKd c) := by
    have ei : mVar i t S = .ok (.adr a) S := by unfold mVar; rw [ht]
    have g : (S ++ gKd c)[S.length + 10]? = some (.lst ((wsK c).map .str)) := get_app (by rw [wsK, List.map_map]; rfl)
    simp only [mFn, mCons, mCall, ei, mNil, R.bind, F_kd_run h1 a S, iTuple, seqI, g, Option.map_some, R.ofO]
  unfold sRet
  rw [e1]
  exact fun r' H' w e R' hv => q r' H' w e R' hv
theorem s_told {i : Nat} {en : Str} {np p1 p2 p3 p4 p5 p6 p7 p8 : Pos} {body : List Stmt} {mb : SS} (KT : KindT X.prog X.w X.K X.mg X.base cs) (hr : RoomH 1 X.A) (hs : X.stack = X.env :: X.outer) (hf : X.env.frame = some X.env.locals) (hN : X.N.Nodup) (hi : X.N[i]? = some en)
    (hl : X.env.scope.names.lookup en = some .local) (hbn : badName en = false) (glT : Gl X "TuneError") (glt : Gl X "tuple") (glk : Gl X "_law_kind") (tk : L2N.Takes X W)
    (hb : ∀ (W' : WX) (pn : List (Addr × Obj)) (xe : Value → Shared → Prop), L2N.Takes (X.tr pn xe) W' → PassesOwn (model X.prog X.w) X.A X.env xe → SsOk (X.tr pn xe) W' body mb) :
    SOk X W (.Try body [.ExceptHandler (some (.Name "TuneError" np)) (some en) [.Return (some (.Call (.Name "tuple" p1) [.Call (.Name "_law_kind" p2) [.Name en p3] [] p4] [] p5)) p6] p7] [] [] p8) (sTold cs mb) := by
  obtain ⟨TE, hTE, hex⟩ := KT.te
  refine PS_imp (L2N.ps_try_as (tb := fun W' => tS X W' mb) (ts := tsK X.K X.mg X.N.length i cs) hs hf hN hi hl ⟨glT, by decide, .inl hTE⟩ tk (fun W' pn xe tk' po => hb W' pn xe tk' po) (fun a oe cls d pn hz hfl => suiteK KT hr hi hl hbn glt glk hz hfl)) fun D s H ⟨r, t, S, hs, R, h⟩ => ?_
  refine ⟨r, t, S, hs, R, ?_⟩
  unfold sTold at h
  cases em : mb t S with
  | nx t1 S1 => rw [em] at h; exact h
  | ret v S1 => rw [em] at h; exact h
  | brk t1 S1 => rw [em] at h; exact h
  | cnt t1 S1 => rw [em] at h; exact h
  | no => rw [em] at h; exact h
  | ex c fs t1 S1 =>
    rw [em] at h
    dsimp only at h
    split at h
    · rename_i hc
      rw [Bool.and_eq_true] at hc
      have hcs : c ∈ cs := by simpa using hc.2
      have hfs : fs = [] := by simpa using hc.1
      intro r' H' s' cls d e R' hs' z
      obtain ⟨C, hm, rfl, zz⟩ := z
      have hd : d = none := zz.elim (fun q => q.2) fun q => absurd hfs q.1
      subst hd
      have hlt : i < t1.length := by rw [hs'.l1]; exact (List.getElem?_eq_some_iff.mp hi).1
      exact ⟨true, hex c hcs C hm, fun _ a na => ⟨c, C, hcs, hm, rfl, rfl, r', t1.set i (some (.adr a)), S1, hs'.set i (.adr a), R', by rw [List.getElem?_set_self hlt], fun r2 H2 w e2 R2 hv => h r2 H2 w (e.trans e2) R2 hv⟩, fun z => by cases z⟩
    · exact h.elim
end
/-! ### the def -/
def toldS (st : Stmt) : Option (List Stmt × Str) := match st with
  | .Try body [.ExceptHandler (some (.Name tn _)) (some en) [.Return (some (.Call (.Name tu _) [.Call (.Name kn _) [.Name en' _] [] _] [] _)) _] _] [] [] _ => if tn = "TuneError" ∧ tu = "tuple" ∧ kn = "_law_kind" ∧ en' = en then some (body, en) else none
  | _ => none
def glB (names : List (Str × NameKind)) (x : Str) : Bool := names.lookup x == some .globalImplicit
def denToldS (T : Tb) (cc : Cc) (cs : List Str) (st : Stmt) : Option SS := match toldS st with
  | some (body, en) => if cc.names.lookup en == some .local && !badName en && glB cc.names "TuneError" && glB cc.names "tuple" && glB cc.names "_law_kind" then
      match ixOf en cc.N, denSs (denS T (den T 40) cc 40) body with
      | some _, some mb => some (sTold cs mb)
      | _, _ => none
    else none
  | none => none
def denTold (T : Tb) (N : List Str) (cs : List Str) (st : Stmt) : Option SS := match defBody st with
  | [s] => denToldS T ⟨N, (defScope st).names, fun _ => true⟩ cs s
  | [.Expr (.Constant (.str _) _ _) _, s] => denToldS T ⟨N, (defScope st).names, fun _ => true⟩ cs s
  | _ => none
section
variable {P : Program} {w : World} {K : PySem.W.Frag} {mg : Str → Option Value} {base : Heap} {T : Tb} {k : Nat} {cs : List Str}
theorem denToldS_ok {cc : Cc} {X : Cx} {W : WX} {st : Stmt} {m : SS} (C : CxOk T k cc X W) (hk : 1 ≤ k) (KT : KindT X.prog X.w X.K X.mg X.base cs) (hs : X.stack = X.env :: X.outer) (hf : X.env.frame = some X.env.locals) (h : denToldS T cc cs st = some m) : SOk X W st m := by
  unfold denToldS at h
  split at h
  · rename_i body en e1
    split at h
    · rename_i hc
      simp only [Bool.and_eq_true, glB, beq_iff_eq, Bool.not_eq_true'] at hc
      obtain ⟨⟨⟨⟨c1, c2⟩, c3⟩, c4⟩, c5⟩ := hc
      split at h
      · rename_i i mb h1 h2
        cases h
        unfold toldS at e1
        split at e1
        · split at e1
          · rename_i z
            obtain ⟨rfl, rfl, rfl, rfl⟩ := z
            cases e1
            exact s_told KT (roomH_of (C.rm.mono hk)) hs hf C.gd.nd (by rw [C.n]; exact ixOf_ok h1) (by rw [C.nm]; exact c1) c2 (C.gl c3) (C.gl c4) (C.gl c5) C.gd.tk fun W' pn xe tk' po =>
              denSs_ok (fun h => denS_ok (den_ok 40) (X := X.tr pn xe) ⟨⟨C.gd.calm, C.gd.nd, tk', C.gd.un⟩, C.n, C.nm, C.kd, C.fc, C.rm, C.tb⟩ po 40 h) h2
          · cases e1
        · cases e1
      · cases h
    · cases h
  · cases h
theorem told_fn {x : Str} {st : Stmt} {f : Addr} {fd : FuncData} {N ps : List Str} {b : SS} {n : Nat} (TO : TabOk P w K mg base T k) (hk : 1 ≤ k) (KT : KindT P w K mg base cs) (F : Fun K x x st f fd) (S : FnScope N ps (defScope st)) (hn : ps.length = n)
    (hd : denTold T N cs st = some b) : FnOk P w K mg base (L2N.CX P w) (k + 1) f fd ps (spI K mg (mFun N b) n) := by
  refine okXN F S (fun vs H Q E h => by rw [hn]; exact h.1) fun cdv A outer s H vs Q E hr h => ?_
  obtain ⟨hl, r, S0, us, R, hus, h⟩ := h
  have tk : L2N.Takes (cxOf (L2N.CX P w) P w K mg base N x (defScope st) f cdv A outer s H E) (fun cls d _ H => E cls d H) := L2N.takes_of rfl rfl rfl rfl
  have gd : Gd (cxOf (L2N.CX P w) P w K mg base N x (defScope st) f cdv A outer s H E) (fun cls d _ H => E cls d H) := ⟨rfl, S.nd, tk, by have z := hr.un; show (A.deeper (envOfC x (defScope st) s.heap.objs.size f cdv)).units + 65 < cLine; omega⟩
  have C : CxOk T k ⟨N, (defScope st).names, fun _ => true⟩ (cxOf (L2N.CX P w) P w K mg base N x (defScope st) f cdv A outer s H E) (fun cls d _ H => E cls d H) := ⟨gd, rfl, rfl, S.kind, fun _ _ => rfl, hr, TO⟩
  have one : ∀ {st' : Stmt} {m : SS}, denToldS T ⟨N, (defScope st).names, fun _ => true⟩ cs st' = some m → SOk (cxOf (L2N.CX P w) P w K mg base N x (defScope st) f cdv A outer s H E) (fun cls d _ H => E cls d H) st' m := fun h => denToldS_ok C hk KT rfl rfl h
  have all : SsOk (cxOf (L2N.CX P w) P w K mg base N x (defScope st) f cdv A outer s H E) (fun cls d _ H => E cls d H) (defBody st) b := by
    unfold denTold at hd
    split at hd
    · rename_i s1 e1
      rw [e1]
      exact s_one (one hd)
    · rename_i e1
      rw [e1]
      refine PSs_imp (s_cons s_doc (s_one (one hd))) fun D s H ⟨r, t, S, hs, R, h⟩ => ⟨r, t, S, hs, R, h⟩
    · cases hd
  refine ⟨_, all, r, startI N us, S0, start_ok hus ?_, R, ?_⟩
  · have : (N.take ps.length).length = ps.length := by rw [S.pre]
    rw [List.length_take] at this
    show vs.length ≤ N.length
    rw [hl, ← hn]; omega
  · unfold mFun at h
    cases eb : b (startI N us) S0 with
    | nx t S1 => rw [eb] at h; exact fun r' H' s' e R' hs' => h r' H' e R' _ .non
    | ret v S1 => rw [eb] at h; exact fun r' H' w e R' hw => h r' H' e R' w hw
    | ex c fs t S1 => rw [eb] at h; exact fun r' H' s' cls d e R' hs' z => h r' H' cls d e R' z
    | brk t S1 => rw [eb] at h; exact h.elim
    | cnt t S1 => rw [eb] at h; exact h.elim
    | no => rw [eb] at h; exact h
theorem toldK_ok {x : Str} {st : Stmt} {N ps : List Str} {b : SS} {n : Nat} (TO : TabOk P w K mg base T k) (hk : 1 ≤ k) (KT : KindT P w K mg base cs) (F : DefK K mg x st) (S : FnScope N ps (defScope st)) (hb : BindA x st ps) (hn : ps.length = n) (hd : denTold T N cs st = some b) : DefOk P w K mg base x (mFun N b) n (k + 1) := by
  obtain ⟨f, fd, F, hm⟩ := F
  exact ⟨f, fd, ps, hm, F.kp, F.binds hb, hn, told_fn TO hk KT F S hn hd⟩
end
/-! ### trees -/
def wTold (cs : List Str) (wb : VS) : VS := fun e => match wb e with
  | .ex c fs e1 => if fs.isEmpty && cs.contains c then .ret (.tup ((wsK c).map .str)) e1 else .no
  | r => r
def wRaise (x : Str) : VS := fun e => .ex x [] e
theorem ws_raise {kp : List Nat} {x : Str} : VSok kp (sRaise x) (wRaise x) := fun b N0 A t S env Ls I => ⟨t, S, Ls, rfl, I, .refl, .refl⟩
theorem ws_told {kp : List Nat} {cs : List Str} {ms : SS} {wst : VS} (h : VSok kp ms wst) : VSok kp (sTold cs ms) (wTold cs wst) := fun b N0 A t S env Ls I => by
  have h1 := h b N0 A t S env Ls I
  unfold wTold sTold
  cases hw : wst env with
  | nx e => rw [hw] at h1; obtain ⟨t', S', Ls', e1, n⟩ := h1; rw [e1]; exact ⟨t', S', Ls', rfl, n⟩
  | brk e => rw [hw] at h1; obtain ⟨t', S', Ls', e1, n⟩ := h1; rw [e1]; exact ⟨t', S', Ls', rfl, n⟩
  | cnt e => rw [hw] at h1; obtain ⟨t', S', Ls', e1, n⟩ := h1; rw [e1]; exact ⟨t', S', Ls', rfl, n⟩
  | ret v e => rw [hw] at h1; obtain ⟨u, t', S', Ls', L, e1, n, r⟩ := h1; rw [e1]; exact ⟨u, t', S', Ls', L, rfl, n, r⟩
  | no => trivial
  | ex c fs e =>
    rw [hw] at h1
    obtain ⟨t', S', Ls', e1, n⟩ := h1
    rw [e1]
    dsimp only
    split
    · refine ⟨.tup ((wsK c).map .str), t', S' ++ gKd c, Ls', [], rfl, ⟨?_, n.step.trans Step.app, n.kept⟩, ?_, fun j h => by cases h⟩
      · refine n.inv.ext (fun j h => List.getElem?_append_left h) (by simp) (by simpa using n.inv.an) (fun j h => .inl (by simpa using h)) fun j h => ?_
        have := n.inv.al j (by simpa using h)
        rw [List.length_append]; omega
      · exact .tup (strs_rps _)
    · trivial
end IP

/-! IPOp: the facts of the classes, out of the module as it stands. -/
namespace IP
open PySem PySem.Spec PyProof.Rows L2 HotX L2H
section
variable {P : Program} {w : World} {K : PySem.W.Frag} {mg : Str → Option Value} {base : Heap} {c : Str} {D : Addr}
theorem own_nil : ∀ x, x ∈ ([] : List Str) → ∃ C, mg x = some (.ref C) ∧ PySem.W.kitOne K (.ref D) (.ref C) = some (decide (x = c)) := fun _ e => by cases e
theorem own_cons {h : Heap} {y : Str} {L : List Str} {b : Bool} {C : Addr} (X : K.In h) (G : h.Ns mainGlobals mg) (n : PySem.W.nsIn K mainGlobals y = some (some (.ref C))) (k : PySem.W.kitOne K (.ref D) (.ref C) = some b) (hb : b = decide (y = c))
    (q : ∀ x, x ∈ L → ∃ C, mg x = some (.ref C) ∧ PySem.W.kitOne K (.ref D) (.ref C) = some (decide (x = c))) : ∀ x, x ∈ y :: L → ∃ C, mg x = some (.ref C) ∧ PySem.W.kitOne K (.ref D) (.ref C) = some (decide (x = c)) := fun x e => by
  rcases List.mem_cons.mp e with e | e
  · rw [e]; exact ⟨C, PySem.W.mg_of X G n, by rw [k, hb]⟩
  · exact q x e
theorem tab_mk (q : ∀ x, x ∈ excs.map (·.2) → ∃ C, mg x = some (.ref C) ∧ PySem.W.kitOne K (.ref D) (.ref C) = some (decide (x = c))) (v : PySem.W.kitOne K (.ref D) (.type "ValueError") = some true) : IsTab K mg D (tbOf c) ttV := by
  refine ⟨fun x b e => ?_, fun n b e => ?_⟩
  · unfold tbOf at e
    split at e
    · rename_i hx
      cases e
      have hx : x ∈ excs.map (·.2) := by simpa using hx
      refine ⟨?_, q x hx⟩
      have : ∀ y ∈ excs.map (·.2), (y == ("__debug__" : Str)) = false := by decide
      exact this x hx
    · cases e
  · unfold ttV at e
    split at e
    · rename_i hn; cases e; rw [hn]; exact v
    · cases e
theorem kit_ne {C : Addr} (ne : (D == C) = false) (hd : PySem.W.hasDictIn K C = true) (ht : PySem.W.typeIn K (.ref C) = some (.type "type")) (hs : PySem.W.subIn K (.ref D) (.ref C) = some false) : PySem.W.kitOne K (.ref D) (.ref C) = some false := by
  obtain ⟨cd, hc, _⟩ := PySem.W.any_some hd
  have e1 : ((Value.ref D == Value.ref C)) = false := by
    refine Bool.eq_false_iff.mpr fun q => ?_
    have e : D = C := Value.ref.inj (beq_iff_eq.mp q)
    rw [e, beq_self_eq_true] at ne
    cases ne
  unfold PySem.W.kitOne PySem.W.kitCls
  rw [e1, if_neg (by simp)]
  show (if ((PySem.W.clsIn K C).isSome && PySem.W.typeIn K (.ref C) == some (.type "type")) = true then PySem.W.subIn K (.ref D) (.ref C) else none) = some false
  rw [if_pos (by rw [hc, ht]; rfl), hs]
theorem kit_self : PySem.W.kitOne K (.ref D) (.ref D) = some true := by
  unfold PySem.W.kitOne
  rw [if_pos (beq_self_eq_true _)]
theorem kit_ve (hs : PySem.W.subIn K (.ref D) (.type "ValueError") = some true) : PySem.W.kitOne K (.ref D) (.type "ValueError") = some true := by
  have e1 : ((Value.ref D == Value.type "ValueError")) = false := rfl
  unfold PySem.W.kitOne PySem.W.kitCls
  rw [e1, if_neg (by simp)]
  show (if PySem.W.kitMeta "ValueError" = true then PySem.W.subIn K (.ref D) (.type "ValueError") else none) = some true
  rw [if_pos (by decide +kernel), hs]
/-- one class that may be caught -/
def KdK (P : Program) (w : World) (K : PySem.W.Frag) (mg : Str → Option Value) (base : Heap) (TE : Addr) (c : Str) : Prop := ∀ D, mg c = some (.ref D) → PySem.W.exmOne K (.ref D) (.ref TE) = some true ∧ (wsK c).length = 1 ∧
  ∃ f fd ps, mg "_law_kind" = some (.ref f) ∧ PySem.W.keepIn K (.ref f) = true ∧ Binds K fd ps [] ∧ FnP P w K mg base (L2N.CX P w) 1 f fd ps (ZpC D) (fun a => spI K mg (F_kd c a) 1)
theorem kdk_mk {h : Heap} {st : Stmt} {ps : List Str} {TE : Addr} (X : K.In h) (G : h.Ns mainGlobals mg) (n : PySem.W.nsIn K mainGlobals c = some (some (.ref D))) (hw : (wsK c).length = 1) (hnb : ∀ x, x ∈ (["isinstance", "len", "int", "ValueError"] : List Str) → mg x = none)
    (F : DefK K mg "_law_kind" st) (S : FnScope N_kd ps (defScope st)) (hb : BindA "_law_kind" st ps) (hn : ps.length = 1) (hd : ∀ a, denSs (hS ⟨⟨N_kd, (defScope st).names, fun _ => true⟩, a, tbOf c, ttV⟩) (defBody st) = some (b_kd a (tbOf c) ttV))
    (C : ExcC K D) (T : IsTab K mg D (tbOf c) ttV) (e : PySem.W.exmOne K (.ref D) (.ref TE) = some true) : KdK P w K mg base TE c := fun D' hm => by
  have eq := Value.ref.inj (Option.some.inj ((PySem.W.mg_of X G n).symm.trans hm))
  subst eq
  obtain ⟨f, fd, F, hf⟩ := F
  exact ⟨e, hw, f, fd, ps, hf, F.kp, F.binds hb, kind_fn (b := fun a => b_kd a (tbOf c) ttV) F S hn C T hnb hd⟩
theorem kdks_nil {TE : Addr} : ∀ c, c ∈ ([] : List Str) → KdK P w K mg base TE c := fun _ e => by cases e
theorem kdks_cons {TE : Addr} {L : List Str} (h : KdK P w K mg base TE c) (q : ∀ c, c ∈ L → KdK P w K mg base TE c) : ∀ d, d ∈ c :: L → KdK P w K mg base TE d := fun y e => by
  rcases List.mem_cons.mp e with e | e
  · rw [e]; exact h
  · exact q y e
theorem kindT_mk {h : Heap} {TE : Addr} {cs : List Str} (X : K.In h) (G : h.Ns mainGlobals mg) (tu : mg "tuple" = none) (n : PySem.W.nsIn K mainGlobals "TuneError" = some (some (.ref TE))) (q : ∀ c, c ∈ cs → KdK P w K mg base TE c) : KindT P w K mg base cs :=
  ⟨tu, ⟨TE, PySem.W.mg_of X G n, fun c hc D hm => (q c hc D hm).1⟩, fun c hc D hm => (q c hc D hm).2⟩
end
end IP

namespace BW
open PySem PySem.Spec PyProof.Rows L2 IP
def N_fifths : List Str := ["pitch"]
def b_fifths : SS := (sRet (mBin iAdd (mBin iIx (mC (.tup [(.int 0), (.int 2), (.int 4), (.int (-1)), (.int 1), (.int 3), (.int 5)])) (mBin iIx (mVar 0) (mC (.int 0)))) (mBin iMul (mC (.int 7)) (mBin iIx (mVar 0) (mC (.int 1))))))
def F_fifths : FN := mFun N_fifths b_fifths
def N_l_cell : List Str := ["_law_script", "_law_k"]
def b_l_cell : SS := (sSeq (sIf (mB (mBin iLt (mVar 1) (mFn iLen (mCons (mVar 0) mNil)))) (sRet (mBin iIx (mVar 0) (mVar 1))) sNil)
  (sRet (mC (.int 0))))
def F_l_cell : FN := mFun N_l_cell b_l_cell
def N_l_mixed : List Str := ["_law_cell_here", "_law_k", "_law_number"]
def b_l_mixed : SS := (sSeq (sAsg (.nm 2) (mBin iAdd (mBin iAdd (mVar 0) (mBin iMul (mC (.int 7919)) (mVar 1))) (mC (.int 13))))
  (sRet (mBin iFdiv (mBin iMod (mBin iMul (mBin iMod (mBin iMul (mVar 2) (mVar 2)) (mC (.int 1000000007))) (mC (.int 48271))) (mC (.int 998244353))) (mC (.int 11)))))
def F_l_mixed : FN := mFun N_l_mixed b_l_mixed
def N_l_pitch : List Str := ["_law_number"]
def b_l_pitch : SS := (sRet (mTup (mCons (mBin iMod (mVar 0) (mC (.int 7))) (mCons (mBin iSub (mBin iMod (mBin iFdiv (mVar 0) (mC (.int 7))) (mC (.int 5))) (mC (.int 2))) (mCons (mBin iMod (mBin iFdiv (mVar 0) (mC (.int 35))) (mC (.int 9))) mNil)))))
def F_l_pitch : FN := mFun N_l_pitch b_l_pitch
def N_l_walked : List Str := ["_law_lines", "_law_total", "_law_turn"]
def b_l_walked : SS := (sSeq (sAsg (.nm 1) (mC (.int 0)))
  (sSeq (sFor (.nm 2) (iRange1 (mCons (mFn iAbs (mCons (mVar 0) mNil)) mNil)) (sAsg (.nm 1) (mBin iAdd (mVar 1) (mBin iIx (mLst (mCons (mC (.int 2)) (mCons (mC (.int 2)) (mCons (mC (.int 1)) (mCons (mC (.int 2)) (mCons (mC (.int 2)) (mCons (mC (.int 2)) (mCons (mC (.int 1)) mNil)))))))) (mBin iMod (mBin iIx (mLst (mCons (mVar 2) (mCons (mBin iSub (mC (.int 6)) (mBin iMod (mVar 2) (mC (.int 7)))) mNil))) (mFn iInt (mCons (mBin iLt (mVar 0) (mC (.int 0))) mNil))) (mC (.int 7)))))))
  (sRet (mBin iIx (mLst (mCons (mVar 1) (mCons (mBin iSub (mC (.int 0)) (mVar 1)) mNil))) (mFn iInt (mCons (mBin iLt (mVar 0) (mC (.int 0))) mNil))))))
def F_l_walked : FN := mFun N_l_walked b_l_walked
def N_l_interval : List Str := ["_law_cell_here", "_law_number", "_law_steps", "_law_halves"]
def b_l_interval : SS := (sSeq (sAsg (.nm 2) (mBin iSub (mBin iMod (mVar 1) (mC (.int 41))) (mC (.int 20))))
  (sSeq (sIf (mB (mBin iEq (mBin iMod (mVar 0) (mC (.int 6))) (mC (.int 5)))) (sRet (mTup (mCons (mVar 2) (mCons (mBin iSub (mBin iMod (mBin iFdiv (mVar 1) (mC (.int 41))) (mC (.int 81))) (mC (.int 40))) mNil)))) sNil)
  (sSeq (sAsg (.nm 3) (mCall F_l_walked (mCons (mVar 2) mNil)))
  (sSeq (sIf (mB (mBin iGt (mBin iMod (mVar 0) (mC (.int 6))) (mC (.int 0)))) (sAsg (.nm 3) (mBin iSub (mBin iAdd (mVar 3) (mBin iMod (mBin iFdiv (mVar 1) (mC (.int 41))) (mC (.int 7)))) (mC (.int 3)))) sNil)
  (sRet (mTup (mCons (mVar 2) (mCons (mVar 3) mNil))))))))
def F_l_interval : FN := mFun N_l_interval b_l_interval
def N_is_whole : List Str := ["thing"]
def b_is_whole : SS := (sRet (mAnd (mFn iIsinst (mCons (mVar 0) (mCons (mC (.ty "int")) mNil))) (mNot (mFn iIsinst (mCons (mVar 0) (mCons (mC (.ty "bool")) mNil))))))
def F_is_whole : FN := mFun N_is_whole b_is_whole
def N_is_among : List Str := ["thing", "least", "most"]
def b_is_among : SS := (sRet (mAnd (mCall F_is_whole (mCons (mVar 0) mNil)) (mChain iLe iLe (mVar 1) (mVar 0) (mVar 2))))
def F_is_among : FN := mFun N_is_among b_is_among
def N_is_pitch : List Str := ["thing", "step", "lean", "octave"]
def b_is_pitch : SS := (sSeq (sIf (mOrT (mNotT (mTru (mFn iIsinst (mCons (mVar 0) (mCons (mC (.ty "tuple")) mNil))))) (mB (mBin iNe (mFn iLen (mCons (mVar 0) mNil)) (mC (.int 3))))) (sRet (mC (.bl false))) sNil)
  (sSeq (sAsg (.tu [(.nm 1), (.nm 2), (.nm 3)]) (mVar 0))
  (sSeq (sIf (mOrT (mNotT (mTru (mCall F_is_among (mCons (mVar 1) (mCons (mC (.int 0)) (mCons (mC (.int 6)) mNil)))))) (mNotT (mTru (mCall F_is_among (mCons (mVar 2) (mCons (mBin iSub (mC (.int 0)) (mC (.int 2))) (mCons (mC (.int 2)) mNil))))))) (sRet (mC (.bl false))) sNil)
  (sRet (mCall F_is_among (mCons (mVar 3) (mCons (mC (.int 0)) (mCons (mC (.int 8)) mNil))))))))
def F_is_pitch : FN := mFun N_is_pitch b_is_pitch
def N_line : List Str := ["pitch"]
def b_line : SS := (sRet (mBin iAdd (mBin iMul (mC (.int 7)) (mBin iIx (mVar 0) (mC (.int 2)))) (mBin iIx (mVar 0) (mC (.int 0)))))
def F_line : FN := mFun N_line b_line
def N_height : List Str := ["pitch"]
def b_height : SS := (sRet (mBin iAdd (mBin iAdd (mBin iMul (mC (.int 12)) (mBin iIx (mVar 0) (mC (.int 2)))) (mBin iIx (mC (.tup [(.int 0), (.int 2), (.int 4), (.int 5), (.int 7), (.int 9), (.int 11)])) (mBin iIx (mVar 0) (mC (.int 0))))) (mBin iIx (mVar 0) (mC (.int 1)))))
def F_height : FN := mFun N_height b_height
def N_moved_pitch : List Str := ["pitch", "steps", "halves", "octave", "step", "lean", "moved"]
def b_moved_pitch : SS := (sSeq (sAsg (.tu [(.nm 3), (.nm 4)]) (mFn iDivmod (mCons (mBin iAdd (mCall F_line (mCons (mVar 0) mNil)) (mVar 1)) (mCons (mC (.int 7)) mNil))))
  (sSeq (sAsg (.nm 5) (mBin iSub (mBin iSub (mBin iAdd (mCall F_height (mCons (mVar 0) mNil)) (mVar 2)) (mBin iMul (mC (.int 12)) (mVar 3))) (mBin iIx (mC (.tup [(.int 0), (.int 2), (.int 4), (.int 5), (.int 7), (.int 9), (.int 11)])) (mVar 4))))
  (sSeq (sAsg (.nm 6) (mTup (mCons (mVar 4) (mCons (mVar 5) (mCons (mVar 3) mNil)))))
  (sSeq (sIf (mNotT (mTru (mCall F_is_pitch (mCons (mVar 6) mNil)))) (sRaise "OutOfReach") sNil)
  (sRet (mVar 6))))))
def F_moved_pitch : FN := mFun N_moved_pitch b_moved_pitch
def N_l_moved : List Str := ["_law_pitch_here", "_law_steps", "_law_halves", "_law_error"]
def b_l_moved : SS := (sTold ["OutOfReach"] (sRet (mLst (mCons (mCall F_moved_pitch (mCons (mVar 0) (mCons (mVar 1) (mCons (mVar 2) mNil)))) mNil))))
def F_l_moved : FN := mFun N_l_moved b_l_moved
def N_l_due : List Str := ["_law_pitch_here", "_law_steps", "_law_halves", "_law_lines", "_law_octave", "_law_lean"]
def b_l_due : SS := (sSeq (sAsg (.nm 3) (mBin iAdd (mBin iAdd (mBin iMul (mC (.int 7)) (mBin iIx (mVar 0) (mC (.int 2)))) (mBin iIx (mVar 0) (mC (.int 0)))) (mVar 1)))
  (sSeq (sAsg (.nm 4) (mBin iFdiv (mVar 3) (mC (.int 7))))
  (sSeq (sAsg (.nm 5) (mBin iAdd (mCall F_l_walked (mCons (mBin iAdd (mBin iMul (mC (.int 7)) (mBin iIx (mVar 0) (mC (.int 2)))) (mBin iIx (mVar 0) (mC (.int 0)))) mNil)) (mBin iIx (mVar 0) (mC (.int 1)))))
  (sSeq (sAsg (.nm 5) (mBin iSub (mBin iAdd (mVar 5) (mVar 2)) (mCall F_l_walked (mCons (mVar 3) mNil))))
  (sSeq (sIf (mOrT (mB (mBin iLt (mVar 3) (mC (.int 0)))) (mOrT (mB (mBin iGt (mVar 4) (mC (.int 8)))) (mOrT (mB (mBin iLt (mVar 5) (mUn iNeg (mC (.int 2))))) (mB (mBin iGt (mVar 5) (mC (.int 2))))))) (sRet (mLst mNil)) sNil)
  (sRet (mLst (mCons (mTup (mCons (mBin iSub (mVar 3) (mBin iMul (mC (.int 7)) (mVar 4))) (mCons (mVar 5) (mCons (mVar 4) mNil)))) mNil))))))))
def F_l_due : FN := mFun N_l_due b_l_due
def N_l_good : List Str := ["_law_pitch_here", "_law_steps", "_law_halves", "_law_due_here", "_law_turn", "_law_found", ".0", "_law_part"]
def b_l_good : SS := (sSeq (sAsg (.nm 3) (mCall F_l_due (mCons (mVar 0) (mCons (mVar 1) (mCons (mVar 2) mNil)))))
  (sSeq (sFor (.nm 4) (iRange1 (mCons (mC (.int 2)) mNil)) (sSeq (sAsg (.nm 5) (mCall F_l_moved (mCons (mVar 0) (mCons (mVar 1) (mCons (mVar 2) mNil)))))
  (sSeq (sIf (mOrT (mAndT (mB (mBin iEq (mVar 3) (mLst mNil))) (mB (mBin iNe (mVar 5) (mTup (mCons (mC (.str "reach")) mNil))))) (mAndT (mB (mBin iNe (mVar 3) (mLst mNil))) (mB (mBin iNe (mVar 5) (mVar 3))))) (sRet (mC (.bl false))) sNil)
  (sSeq (sIf (mAndT (mB (mBin iNe (mVar 3) (mLst mNil))) (mNotT (mTru (mFn iAll (mCons (mLc [6, 7] (.nm 7) (iVal (mBin iIx (mVar 5) (mC (.int 0)))) bYes (mFn iIsinst (mCons (mVar 7) (mCons (mC (.ty "int")) mNil)))) mNil))))) (sRet (mC (.bl false))) sNil)
  (sIf (mAndT (mB (mBin iNe (mVar 3) (mLst mNil))) (mB (mBin iNe (mLc [6, 7] (.nm 7) (iVal (mBin iIx (mVar 5) (mC (.int 0)))) (mTru (mFn iIsinst (mCons (mVar 7) (mCons (mC (.ty "bool")) mNil)))) (mVar 7)) (mLst mNil)))) (sRet (mC (.bl false))) sNil)))))
  (sRet (mC (.bl true)))))
def F_l_good : FN := mFun N_l_good b_l_good
def N_law : List Str := ["_law_script", "_law_pitch_here", "_law_one", "_law_two", "_law_there", "_law_behind"]
def b_law : SS := (sSeq (sAsg (.nm 1) (mCall F_l_pitch (mCons (mCall F_l_mixed (mCons (mCall F_l_cell (mCons (mVar 0) (mCons (mC (.int 0)) mNil))) (mCons (mC (.int 1)) mNil))) mNil)))
  (sSeq (sAsg (.nm 2) (mCall F_l_interval (mCons (mCall F_l_cell (mCons (mVar 0) (mCons (mC (.int 1)) mNil))) (mCons (mCall F_l_mixed (mCons (mCall F_l_cell (mCons (mVar 0) (mCons (mC (.int 2)) mNil))) (mCons (mC (.int 2)) mNil))) mNil))))
  (sSeq (sAsg (.nm 3) (mCall F_l_interval (mCons (mCall F_l_cell (mCons (mVar 0) (mCons (mC (.int 3)) mNil))) (mCons (mCall F_l_mixed (mCons (mCall F_l_cell (mCons (mVar 0) (mCons (mC (.int 4)) mNil))) (mCons (mC (.int 3)) mNil))) mNil))))
  (sSeq (sIf (mNotT (mTru (mCall F_l_good (mCons (mVar 1) (mCons (mBin iIx (mVar 2) (mC (.int 0))) (mCons (mBin iIx (mVar 2) (mC (.int 1))) mNil)))))) (sRet (mC (.bl false))) sNil)
  (sSeq (sIf (mNotT (mTru (mCall F_l_good (mCons (mVar 1) (mCons (mBin iAdd (mBin iIx (mVar 2) (mC (.int 0))) (mBin iIx (mVar 3) (mC (.int 0)))) (mCons (mBin iAdd (mBin iIx (mVar 2) (mC (.int 1))) (mBin iIx (mVar 3) (mC (.int 1)))) mNil)))))) (sRet (mC (.bl false))) sNil)
  (sSeq (sIf (mB (mBin iNe (mCall F_l_moved (mCons (mVar 1) (mCons (mC (.int 0)) (mCons (mC (.int 0)) mNil)))) (mLst (mCons (mVar 1) mNil)))) (sRet (mC (.bl false))) sNil)
  (sSeq (sAsg (.nm 4) (mCall F_l_moved (mCons (mVar 1) (mCons (mBin iIx (mVar 2) (mC (.int 0))) (mCons (mBin iIx (mVar 2) (mC (.int 1))) mNil)))))
  (sSeq (sIf (mTru (mFn iIsinst (mCons (mVar 4) (mCons (mC (.ty "tuple")) mNil)))) (sRet (mC (.bl true))) sNil)
  (sSeq (sIf (mB (mBin iNe (mCall F_fifths (mCons (mBin iIx (mVar 4) (mC (.int 0))) mNil)) (mBin iSub (mBin iAdd (mCall F_fifths (mCons (mVar 1) mNil)) (mBin iMul (mC (.int 7)) (mBin iIx (mVar 2) (mC (.int 1))))) (mBin iMul (mC (.int 12)) (mBin iIx (mVar 2) (mC (.int 0))))))) (sRet (mC (.bl false))) sNil)
  (sSeq (sIf (mB (mBin iNe (mCall F_l_moved (mCons (mBin iIx (mVar 4) (mC (.int 0))) (mCons (mBin iSub (mC (.int 0)) (mBin iIx (mVar 2) (mC (.int 0)))) (mCons (mBin iSub (mC (.int 0)) (mBin iIx (mVar 2) (mC (.int 1)))) mNil)))) (mLst (mCons (mVar 1) mNil)))) (sRet (mC (.bl false))) sNil)
  (sSeq (sIf (mNotT (mTru (mCall F_l_good (mCons (mBin iIx (mVar 4) (mC (.int 0))) (mCons (mBin iIx (mVar 3) (mC (.int 0))) (mCons (mBin iIx (mVar 3) (mC (.int 1))) mNil)))))) (sRet (mC (.bl false))) sNil)
  (sSeq (sAsg (.nm 5) (mCall F_l_moved (mCons (mBin iIx (mVar 4) (mC (.int 0))) (mCons (mBin iIx (mVar 3) (mC (.int 0))) (mCons (mBin iIx (mVar 3) (mC (.int 1))) mNil)))))
  (sRet (mBin iEq (mVar 5) (mCall F_l_moved (mCons (mVar 1) (mCons (mBin iAdd (mBin iIx (mVar 2) (mC (.int 0))) (mBin iIx (mVar 3) (mC (.int 0)))) (mCons (mBin iAdd (mBin iIx (mVar 2) (mC (.int 1))) (mBin iIx (mVar 3) (mC (.int 1)))) mNil))))))))))))))))))
def F_law : FN := mFun N_law b_law
end BW
namespace BW
open PySem IP
def w_fifths : VS := (wRet (vFl [0, 0] (vBin tAdd (vBin tIx (vC (.tup [(.int 0), (.int 2), (.int 4), (.int (-1)), (.int 1), (.int 3), (.int 5)])) (vBin tIx (vVar 0) (vC (.int 0)))) (vBin tMul (vC (.int 7)) (vBin tIx (vVar 0) (vC (.int 1)))))))
theorem ok_fifths : VSok [] b_fifths w_fifths := (ws_ret (vo_fl (vo_bin x_add (vo_bin x_ix (vo_c fun _ _ => (.tup (.cons0 (.int _) (.cons0 (.int _) (.cons0 (.int _) (.cons0 (.int _) (.cons0 (.int _) (.cons0 (.int _) (.cons0 (.int _) .nil))))))))) (vo_bin x_ix (vo_var 0) (vo_c fun _ _ => (.int _)) (.inr rfl)) (.inl rfl)) (vo_bin x_mul (vo_c fun _ _ => (.int _)) (vo_bin x_ix (vo_var 0) (vo_c fun _ _ => (.int _)) (.inr rfl)) (.inl rfl)) (.inr rfl)) (by decide)))
def W_fifths : VF := vFun N_fifths 1 w_fifths
theorem D_fifths : DefV F_fifths W_fifths := def_v ok_fifths
def w_l_cell_s1 : VS := (wIf (vB (vBin tLt (vVar 1) (vFn tLen (vCons (vVar 0) vNil)))) (wRet (vFl [0, 1] (vBin tIx (vVar 0) (vVar 1)))) wNil)
def w_l_cell : VS := (wSeq w_l_cell_s1
  (wRet (vC (.int 0))))
theorem ok_l_cell : VSok [] b_l_cell w_l_cell := (ws_seq (ws_if (vb_b (vo_bin x_lt (vo_var 1) (vo_fn x_len (va_cons (vo_var 0) va_nil (.inr rfl))) (.inr rfl))) (ws_ret (vo_fl (vo_bin x_ix (vo_var 0) (vo_var 1) (.inr rfl)) (by decide))) ws_nil)
  (ws_ret (vo_c fun _ _ => (.int _))))
def W_l_cell : VF := vFun N_l_cell 2 w_l_cell
theorem D_l_cell : DefV F_l_cell W_l_cell := def_v ok_l_cell
def w_l_mixed_s1 : VS := (wAsg (.nm 2) (vPl (vBin tAdd (vBin tAdd (vVar 0) (vBin tMul (vC (.int 7919)) (vVar 1))) (vC (.int 13)))))
def w_l_mixed_s2 : VS := (wRet (vPl (vBin tFdiv (vBin tMod (vBin tMul (vBin tMod (vBin tMul (vVar 2) (vVar 2)) (vC (.int 1000000007))) (vC (.int 48271))) (vC (.int 998244353))) (vC (.int 11)))))
def w_l_mixed : VS := (wSeq w_l_mixed_s1
  w_l_mixed_s2)
theorem ok_l_mixed : VSok [] b_l_mixed w_l_mixed := (ws_seq (ws_asg rfl (vo_pl (vo_bin x_add (vo_bin x_add (vo_var 0) (vo_bin x_mul (vo_c fun _ _ => (.int _)) (vo_var 1) (.inl rfl)) (.inr rfl)) (vo_c fun _ _ => (.int _)) (.inr rfl))))
  (ws_ret (vo_pl (vo_bin x_fdiv (vo_bin x_mod (vo_bin x_mul (vo_bin x_mod (vo_bin x_mul (vo_var 2) (vo_var 2) (.inr rfl)) (vo_c fun _ _ => (.int _)) (.inr rfl)) (vo_c fun _ _ => (.int _)) (.inr rfl)) (vo_c fun _ _ => (.int _)) (.inr rfl)) (vo_c fun _ _ => (.int _)) (.inr rfl)))))
def W_l_mixed : VF := vFun N_l_mixed 2 w_l_mixed
theorem D_l_mixed : DefV F_l_mixed W_l_mixed := def_v ok_l_mixed
def w_l_pitch : VS := (wRet (vFl [0, 0, 0] (vTup (vCons (vBin tMod (vVar 0) (vC (.int 7))) (vCons (vBin tSub (vBin tMod (vBin tFdiv (vVar 0) (vC (.int 7))) (vC (.int 5))) (vC (.int 2))) (vCons (vBin tMod (vBin tFdiv (vVar 0) (vC (.int 35))) (vC (.int 9))) vNil))))))
theorem ok_l_pitch : VSok [] b_l_pitch w_l_pitch := (ws_ret (vo_fl (vo_tup (va_cons (vo_bin x_mod (vo_var 0) (vo_c fun _ _ => (.int _)) (.inr rfl)) (va_cons (vo_bin x_sub (vo_bin x_mod (vo_bin x_fdiv (vo_var 0) (vo_c fun _ _ => (.int _)) (.inr rfl)) (vo_c fun _ _ => (.int _)) (.inr rfl)) (vo_c fun _ _ => (.int _)) (.inr rfl)) (va_cons (vo_bin x_mod (vo_bin x_fdiv (vo_var 0) (vo_c fun _ _ => (.int _)) (.inr rfl)) (vo_c fun _ _ => (.int _)) (.inr rfl)) va_nil (.inr rfl)) (.inr rfl)) (.inr rfl))) (by decide)))
def W_l_pitch : VF := vFun N_l_pitch 1 w_l_pitch
theorem D_l_pitch : DefV F_l_pitch W_l_pitch := def_v ok_l_pitch
def w_l_walked_1 : VS := (wAsg (.nm 1) (vFl [1, 2, 2, 0] (vBin tAdd (vVar 1) (vBin tIx (vLst (vCons (vC (.int 2)) (vCons (vC (.int 2)) (vCons (vC (.int 1)) (vCons (vC (.int 2)) (vCons (vC (.int 2)) (vCons (vC (.int 2)) (vCons (vC (.int 1)) vNil)))))))) (vBin tMod (vBin tIx (vLst (vCons (vVar 2) (vCons (vBin tSub (vC (.int 6)) (vBin tMod (vVar 2) (vC (.int 7)))) vNil))) (vFn tIntF (vCons (vBin tLt (vVar 0) (vC (.int 0))) vNil))) (vC (.int 7)))))))
def w_l_walked_s2 : VS := (wFor (.nm 2) (vRange tR1 (vCons (vFn tAbs (vCons (vVar 0) vNil)) vNil)) w_l_walked_1)
def w_l_walked_s3 : VS := (wRet (vFl [1, 1, 0] (vBin tIx (vLst (vCons (vVar 1) (vCons (vBin tSub (vC (.int 0)) (vVar 1)) vNil))) (vFn tIntF (vCons (vBin tLt (vVar 0) (vC (.int 0))) vNil)))))
def w_l_walked : VS := (wSeq (wAsg (.nm 1) (vC (.int 0)))
  (wSeq w_l_walked_s2
  w_l_walked_s3))
theorem ok_l_walked : VSok [] b_l_walked w_l_walked := (ws_seq (ws_asg rfl (vo_c fun _ _ => (.int _)))
  (ws_seq (ws_for rfl (vi_range1 (va_cons (vo_fn x_abs (va_cons (vo_var 0) va_nil (.inr rfl))) va_nil (.inr rfl))) (ws_asg rfl (vo_fl (vo_bin x_add (vo_var 1) (vo_bin x_ix (vo_lst (va_cons (vo_c fun _ _ => (.int _)) (va_cons (vo_c fun _ _ => (.int _)) (va_cons (vo_c fun _ _ => (.int _)) (va_cons (vo_c fun _ _ => (.int _)) (va_cons (vo_c fun _ _ => (.int _)) (va_cons (vo_c fun _ _ => (.int _)) (va_cons (vo_c fun _ _ => (.int _)) va_nil (.inl rfl)) (.inl rfl)) (.inl rfl)) (.inl rfl)) (.inl rfl)) (.inl rfl)) (.inl rfl))) (vo_bin x_mod (vo_bin x_ix (vo_lst (va_cons (vo_var 2) (va_cons (vo_bin x_sub (vo_c fun _ _ => (.int _)) (vo_bin x_mod (vo_var 2) (vo_c fun _ _ => (.int _)) (.inr rfl)) (.inl rfl)) va_nil (.inr rfl)) (.inr rfl))) (vo_fn x_int (va_cons (vo_bin x_lt (vo_var 0) (vo_c fun _ _ => (.int _)) (.inr rfl)) va_nil (.inr rfl))) (.inr rfl)) (vo_c fun _ _ => (.int _)) (.inr rfl)) (.inl rfl)) (.inr rfl)) (by decide))))
  (ws_ret (vo_fl (vo_bin x_ix (vo_lst (va_cons (vo_var 1) (va_cons (vo_bin x_sub (vo_c fun _ _ => (.int _)) (vo_var 1) (.inl rfl)) va_nil (.inr rfl)) (.inr rfl))) (vo_fn x_int (va_cons (vo_bin x_lt (vo_var 0) (vo_c fun _ _ => (.int _)) (.inr rfl)) va_nil (.inr rfl))) (.inr rfl)) (by decide)))))
def W_l_walked : VF := vFun N_l_walked 1 w_l_walked
theorem D_l_walked : DefV F_l_walked W_l_walked := def_v ok_l_walked
def w_l_interval_s1 : VS := (wAsg (.nm 2) (vPl (vBin tSub (vBin tMod (vVar 1) (vC (.int 41))) (vC (.int 20)))))
def w_l_interval_s2 : VS := (wIf (vB (vBin tEq (vBin tMod (vVar 0) (vC (.int 6))) (vC (.int 5)))) (wRet (vFl [2, 1] (vTup (vCons (vVar 2) (vCons (vBin tSub (vBin tMod (vBin tFdiv (vVar 1) (vC (.int 41))) (vC (.int 81))) (vC (.int 40))) vNil))))) wNil)
def w_l_interval_s3 : VS := (wIf (vB (vBin tGt (vBin tMod (vVar 0) (vC (.int 6))) (vC (.int 0)))) (wAsg (.nm 3) (vPl (vBin tSub (vBin tAdd (vVar 3) (vBin tMod (vBin tFdiv (vVar 1) (vC (.int 41))) (vC (.int 7)))) (vC (.int 3))))) wNil)
def w_l_interval_s4 : VS := (wRet (vFl [2, 3] (vTup (vCons (vVar 2) (vCons (vVar 3) vNil)))))
def w_l_interval : VS := (wSeq w_l_interval_s1
  (wSeq w_l_interval_s2
  (wSeq (wAsg (.nm 3) (vCall W_l_walked (vCons (vVar 2) vNil)))
  (wSeq w_l_interval_s3
  w_l_interval_s4))))
theorem ok_l_interval : VSok [] b_l_interval w_l_interval := (ws_seq (ws_asg rfl (vo_pl (vo_bin x_sub (vo_bin x_mod (vo_var 1) (vo_c fun _ _ => (.int _)) (.inr rfl)) (vo_c fun _ _ => (.int _)) (.inr rfl))))
  (ws_seq (ws_if (vb_b (vo_bin x_eq (vo_bin x_mod (vo_var 0) (vo_c fun _ _ => (.int _)) (.inr rfl)) (vo_c fun _ _ => (.int _)) (.inr rfl))) (ws_ret (vo_fl (vo_tup (va_cons (vo_var 2) (va_cons (vo_bin x_sub (vo_bin x_mod (vo_bin x_fdiv (vo_var 1) (vo_c fun _ _ => (.int _)) (.inr rfl)) (vo_c fun _ _ => (.int _)) (.inr rfl)) (vo_c fun _ _ => (.int _)) (.inr rfl)) va_nil (.inr rfl)) (.inr rfl))) (by decide))) ws_nil)
  (ws_seq (ws_asg rfl (vo_call D_l_walked (va_cons (vo_var 2) va_nil (.inr rfl))))
  (ws_seq (ws_if (vb_b (vo_bin x_gt (vo_bin x_mod (vo_var 0) (vo_c fun _ _ => (.int _)) (.inr rfl)) (vo_c fun _ _ => (.int _)) (.inr rfl))) (ws_asg rfl (vo_pl (vo_bin x_sub (vo_bin x_add (vo_var 3) (vo_bin x_mod (vo_bin x_fdiv (vo_var 1) (vo_c fun _ _ => (.int _)) (.inr rfl)) (vo_c fun _ _ => (.int _)) (.inr rfl)) (.inr rfl)) (vo_c fun _ _ => (.int _)) (.inr rfl)))) ws_nil)
  (ws_ret (vo_fl (vo_tup (va_cons (vo_var 2) (va_cons (vo_var 3) va_nil (.inr rfl)) (.inr rfl))) (by decide)))))))
def W_l_interval : VF := vFun N_l_interval 2 w_l_interval
theorem D_l_interval : DefV F_l_interval W_l_interval := def_v ok_l_interval
def w_is_whole : VS := (wRet (vAnd (vFn tIsinst (vCons (vVar 0) (vCons (vC (.ty "int")) vNil))) (vNot (vFn tIsinst (vCons (vVar 0) (vCons (vC (.ty "bool")) vNil))))))
theorem ok_is_whole : VSok [] b_is_whole w_is_whole := (ws_ret (vo_and (vo_fn x_isinst (va_cons (vo_var 0) (va_cons (vo_c fun _ _ => (.ty _)) va_nil (.inl rfl)) (.inr rfl))) (vo_not (vo_fn x_isinst (va_cons (vo_var 0) (va_cons (vo_c fun _ _ => (.ty _)) va_nil (.inl rfl)) (.inr rfl))))))
def W_is_whole : VF := vFun N_is_whole 1 w_is_whole
theorem D_is_whole : DefV F_is_whole W_is_whole := def_v ok_is_whole
def w_is_among : VS := (wRet (vAnd (vCall W_is_whole (vCons (vVar 0) vNil)) (vChain tLe tLe (vVar 1) (vVar 0) (vVar 2))))
theorem ok_is_among : VSok [] b_is_among w_is_among := (ws_ret (vo_and (vo_call D_is_whole (va_cons (vo_var 0) va_nil (.inr rfl))) (vo_chain x_le x_le c_le c_le (vo_var 1) (vo_var 0) (vo_var 2))))
def W_is_among : VF := vFun N_is_among 3 w_is_among
theorem D_is_among : DefV F_is_among W_is_among := def_v ok_is_among
def w_is_pitch_s1 : VS := (wIf (vOrT (vNotT (vTru (vFn tIsinst (vCons (vVar 0) (vCons (vC (.ty "tuple")) vNil))))) (vB (vBin tNe (vFn tLen (vCons (vVar 0) vNil)) (vC (.int 3))))) (wRet (vC (.bl false))) wNil)
def w_is_pitch_s2 : VS := (wIf (vOrT (vNotT (vTru (vCall W_is_among (vCons (vVar 1) (vCons (vC (.int 0)) (vCons (vC (.int 6)) vNil)))))) (vNotT (vTru (vCall W_is_among (vCons (vVar 2) (vCons (vBin tSub (vC (.int 0)) (vC (.int 2))) (vCons (vC (.int 2)) vNil))))))) (wRet (vC (.bl false))) wNil)
def w_is_pitch_s3 : VS := (wRet (vCall W_is_among (vCons (vVar 3) (vCons (vC (.int 0)) (vCons (vC (.int 8)) vNil)))))
def w_is_pitch : VS := (wSeq w_is_pitch_s1
  (wSeq (wAsg (.tu [(.nm 1), (.nm 2), (.nm 3)]) (vFl [0] (vVar 0)))
  (wSeq w_is_pitch_s2
  w_is_pitch_s3)))
theorem ok_is_pitch : VSok [] b_is_pitch w_is_pitch := (ws_seq (ws_if (vb_or (vb_not (vb_tru (vo_fn x_isinst (va_cons (vo_var 0) (va_cons (vo_c fun _ _ => (.ty _)) va_nil (.inl rfl)) (.inr rfl))))) (vb_b (vo_bin x_ne (vo_fn x_len (va_cons (vo_var 0) va_nil (.inr rfl))) (vo_c fun _ _ => (.int _)) (.inr rfl)))) (ws_ret (vo_c fun _ _ => (.bl _))) ws_nil)
  (ws_seq (ws_asg rfl (vo_fl (vo_var 0) (by decide)))
  (ws_seq (ws_if (vb_or (vb_not (vb_tru (vo_call D_is_among (va_cons (vo_var 1) (va_cons (vo_c fun _ _ => (.int _)) (va_cons (vo_c fun _ _ => (.int _)) va_nil (.inl rfl)) (.inl rfl)) (.inr rfl))))) (vb_not (vb_tru (vo_call D_is_among (va_cons (vo_var 2) (va_cons (vo_bin x_sub (vo_c fun _ _ => (.int _)) (vo_c fun _ _ => (.int _)) (.inl rfl)) (va_cons (vo_c fun _ _ => (.int _)) va_nil (.inl rfl)) (.inl rfl)) (.inr rfl)))))) (ws_ret (vo_c fun _ _ => (.bl _))) ws_nil)
  (ws_ret (vo_call D_is_among (va_cons (vo_var 3) (va_cons (vo_c fun _ _ => (.int _)) (va_cons (vo_c fun _ _ => (.int _)) va_nil (.inl rfl)) (.inl rfl)) (.inr rfl)))))))
def W_is_pitch : VF := vFun N_is_pitch 1 w_is_pitch
theorem D_is_pitch : DefV F_is_pitch W_is_pitch := def_v ok_is_pitch
def w_line : VS := (wRet (vFl [0, 0] (vBin tAdd (vBin tMul (vC (.int 7)) (vBin tIx (vVar 0) (vC (.int 2)))) (vBin tIx (vVar 0) (vC (.int 0))))))
theorem ok_line : VSok [] b_line w_line := (ws_ret (vo_fl (vo_bin x_add (vo_bin x_mul (vo_c fun _ _ => (.int _)) (vo_bin x_ix (vo_var 0) (vo_c fun _ _ => (.int _)) (.inr rfl)) (.inl rfl)) (vo_bin x_ix (vo_var 0) (vo_c fun _ _ => (.int _)) (.inr rfl)) (.inr rfl)) (by decide)))
def W_line : VF := vFun N_line 1 w_line
theorem D_line : DefV F_line W_line := def_v ok_line
def w_height : VS := (wRet (vFl [0, 0, 0] (vBin tAdd (vBin tAdd (vBin tMul (vC (.int 12)) (vBin tIx (vVar 0) (vC (.int 2)))) (vBin tIx (vC (.tup [(.int 0), (.int 2), (.int 4), (.int 5), (.int 7), (.int 9), (.int 11)])) (vBin tIx (vVar 0) (vC (.int 0))))) (vBin tIx (vVar 0) (vC (.int 1))))))
theorem ok_height : VSok [] b_height w_height := (ws_ret (vo_fl (vo_bin x_add (vo_bin x_add (vo_bin x_mul (vo_c fun _ _ => (.int _)) (vo_bin x_ix (vo_var 0) (vo_c fun _ _ => (.int _)) (.inr rfl)) (.inl rfl)) (vo_bin x_ix (vo_c fun _ _ => (.tup (.cons0 (.int _) (.cons0 (.int _) (.cons0 (.int _) (.cons0 (.int _) (.cons0 (.int _) (.cons0 (.int _) (.cons0 (.int _) .nil))))))))) (vo_bin x_ix (vo_var 0) (vo_c fun _ _ => (.int _)) (.inr rfl)) (.inl rfl)) (.inr rfl)) (vo_bin x_ix (vo_var 0) (vo_c fun _ _ => (.int _)) (.inr rfl)) (.inr rfl)) (by decide)))
def W_height : VF := vFun N_height 1 w_height
theorem D_height : DefV F_height W_height := def_v ok_height
def w_moved_pitch_s1 : VS := (wAsg (.tu [(.nm 3), (.nm 4)]) (vPl (vFn tDivmod (vCons (vBin tAdd (vCall W_line (vCons (vVar 0) vNil)) (vVar 1)) (vCons (vC (.int 7)) vNil)))))
def w_moved_pitch_s2 : VS := (wAsg (.nm 5) (vPl (vBin tSub (vBin tSub (vBin tAdd (vCall W_height (vCons (vVar 0) vNil)) (vVar 2)) (vBin tMul (vC (.int 12)) (vVar 3))) (vBin tIx (vC (.tup [(.int 0), (.int 2), (.int 4), (.int 5), (.int 7), (.int 9), (.int 11)])) (vVar 4)))))
def w_moved_pitch_s3 : VS := (wAsg (.nm 6) (vFl [4, 5, 3] (vTup (vCons (vVar 4) (vCons (vVar 5) (vCons (vVar 3) vNil))))))
def w_moved_pitch_s4 : VS := (wIf (vNotT (vTru (vCall W_is_pitch (vCons (vVar 6) vNil)))) (wRaise "OutOfReach") wNil)
def w_moved_pitch : VS := (wSeq w_moved_pitch_s1
  (wSeq w_moved_pitch_s2
  (wSeq w_moved_pitch_s3
  (wSeq w_moved_pitch_s4
  (wRetV 6)))))
theorem ok_moved_pitch : VSok [] b_moved_pitch w_moved_pitch := (ws_seq (ws_asg rfl (vo_pl (vo_fn x_divmod (va_cons (vo_bin x_add (vo_call D_line (va_cons (vo_var 0) va_nil (.inr rfl))) (vo_var 1) (.inl rfl)) (va_cons (vo_c fun _ _ => (.int _)) va_nil (.inl rfl)) (.inr rfl)))))
  (ws_seq (ws_asg rfl (vo_pl (vo_bin x_sub (vo_bin x_sub (vo_bin x_add (vo_call D_height (va_cons (vo_var 0) va_nil (.inr rfl))) (vo_var 2) (.inl rfl)) (vo_bin x_mul (vo_c fun _ _ => (.int _)) (vo_var 3) (.inl rfl)) (.inr rfl)) (vo_bin x_ix (vo_c fun _ _ => (.tup (.cons0 (.int _) (.cons0 (.int _) (.cons0 (.int _) (.cons0 (.int _) (.cons0 (.int _) (.cons0 (.int _) (.cons0 (.int _) .nil))))))))) (vo_var 4) (.inl rfl)) (.inr rfl))))
  (ws_seq (ws_asg rfl (vo_fl (vo_tup (va_cons (vo_var 4) (va_cons (vo_var 5) (va_cons (vo_var 3) va_nil (.inr rfl)) (.inr rfl)) (.inr rfl))) (by decide)))
  (ws_seq (ws_if (vb_not (vb_tru (vo_call D_is_pitch (va_cons (vo_var 6) va_nil (.inr rfl))))) ws_raise ws_nil)
  (ws_retV (by decide))))))
def W_moved_pitch : VF := vFun N_moved_pitch 3 w_moved_pitch
theorem D_moved_pitch : DefV F_moved_pitch W_moved_pitch := def_v ok_moved_pitch
def w_l_moved_s1 : VS := (wRet (vLst (vCons (vCall W_moved_pitch (vCons (vVar 0) (vCons (vVar 1) (vCons (vVar 2) vNil)))) vNil)))
def w_l_moved : VS := (wTold ["OutOfReach"] w_l_moved_s1)
theorem ok_l_moved : VSok [] b_l_moved w_l_moved := (ws_told (ws_ret (vo_lst (va_cons (vo_call D_moved_pitch (va_cons (vo_var 0) (va_cons (vo_var 1) (va_cons (vo_var 2) va_nil (.inr rfl)) (.inr rfl)) (.inr rfl))) va_nil (.inl rfl)))))
def W_l_moved : VF := vFun N_l_moved 3 w_l_moved
theorem D_l_moved : DefV F_l_moved W_l_moved := def_v ok_l_moved
def w_l_due_s1 : VS := (wAsg (.nm 3) (vFl [0, 0, 1] (vBin tAdd (vBin tAdd (vBin tMul (vC (.int 7)) (vBin tIx (vVar 0) (vC (.int 2)))) (vBin tIx (vVar 0) (vC (.int 0)))) (vVar 1))))
def w_l_due_s2 : VS := (wAsg (.nm 5) (vFl [0] (vBin tAdd (vCall W_l_walked (vCons (vBin tAdd (vBin tMul (vC (.int 7)) (vBin tIx (vVar 0) (vC (.int 2)))) (vBin tIx (vVar 0) (vC (.int 0)))) vNil)) (vBin tIx (vVar 0) (vC (.int 1))))))
def w_l_due_s3 : VS := (wAsg (.nm 5) (vPl (vBin tSub (vBin tAdd (vVar 5) (vVar 2)) (vCall W_l_walked (vCons (vVar 3) vNil)))))
def w_l_due_s4 : VS := (wIf (vOrT (vB (vBin tLt (vVar 3) (vC (.int 0)))) (vOrT (vB (vBin tGt (vVar 4) (vC (.int 8)))) (vOrT (vB (vBin tLt (vVar 5) (vUn tNeg (vC (.int 2))))) (vB (vBin tGt (vVar 5) (vC (.int 2))))))) (wRet (vLst vNil)) wNil)
def w_l_due_s5 : VS := (wRet (vFl [3, 4, 5, 4] (vLst (vCons (vTup (vCons (vBin tSub (vVar 3) (vBin tMul (vC (.int 7)) (vVar 4))) (vCons (vVar 5) (vCons (vVar 4) vNil)))) vNil))))
def w_l_due : VS := (wSeq w_l_due_s1
  (wSeq (wAsg (.nm 4) (vPl (vBin tFdiv (vVar 3) (vC (.int 7)))))
  (wSeq w_l_due_s2
  (wSeq w_l_due_s3
  (wSeq w_l_due_s4
  w_l_due_s5)))))
theorem ok_l_due : VSok [] b_l_due w_l_due := (ws_seq (ws_asg rfl (vo_fl (vo_bin x_add (vo_bin x_add (vo_bin x_mul (vo_c fun _ _ => (.int _)) (vo_bin x_ix (vo_var 0) (vo_c fun _ _ => (.int _)) (.inr rfl)) (.inl rfl)) (vo_bin x_ix (vo_var 0) (vo_c fun _ _ => (.int _)) (.inr rfl)) (.inr rfl)) (vo_var 1) (.inr rfl)) (by decide)))
  (ws_seq (ws_asg rfl (vo_pl (vo_bin x_fdiv (vo_var 3) (vo_c fun _ _ => (.int _)) (.inr rfl))))
  (ws_seq (ws_asg rfl (vo_fl (vo_bin x_add (vo_call D_l_walked (va_cons (vo_bin x_add (vo_bin x_mul (vo_c fun _ _ => (.int _)) (vo_bin x_ix (vo_var 0) (vo_c fun _ _ => (.int _)) (.inr rfl)) (.inl rfl)) (vo_bin x_ix (vo_var 0) (vo_c fun _ _ => (.int _)) (.inr rfl)) (.inr rfl)) va_nil (.inr rfl))) (vo_bin x_ix (vo_var 0) (vo_c fun _ _ => (.int _)) (.inr rfl)) (.inl rfl)) (by decide)))
  (ws_seq (ws_asg rfl (vo_pl (vo_bin x_sub (vo_bin x_add (vo_var 5) (vo_var 2) (.inr rfl)) (vo_call D_l_walked (va_cons (vo_var 3) va_nil (.inr rfl))) (.inr rfl))))
  (ws_seq (ws_if (vb_or (vb_b (vo_bin x_lt (vo_var 3) (vo_c fun _ _ => (.int _)) (.inr rfl))) (vb_or (vb_b (vo_bin x_gt (vo_var 4) (vo_c fun _ _ => (.int _)) (.inr rfl))) (vb_or (vb_b (vo_bin x_lt (vo_var 5) (vo_un x_neg (vo_c fun _ _ => (.int _))) (.inr rfl))) (vb_b (vo_bin x_gt (vo_var 5) (vo_c fun _ _ => (.int _)) (.inr rfl)))))) (ws_ret (vo_lst va_nil)) ws_nil)
  (ws_ret (vo_fl (vo_lst (va_cons (vo_tup (va_cons (vo_bin x_sub (vo_var 3) (vo_bin x_mul (vo_c fun _ _ => (.int _)) (vo_var 4) (.inl rfl)) (.inr rfl)) (va_cons (vo_var 5) (va_cons (vo_var 4) va_nil (.inr rfl)) (.inr rfl)) (.inr rfl))) va_nil (.inr rfl))) (by decide))))))))
def W_l_due : VF := vFun N_l_due 3 w_l_due
theorem D_l_due : DefV F_l_due W_l_due := def_v ok_l_due
def w_l_good_s1 : VS := (wAsg (.nm 5) (vCall W_l_moved (vCons (vVar 0) (vCons (vVar 1) (vCons (vVar 2) vNil)))))
def w_l_good_s2 : VS := (wIf (vOrT (vAndT (vB (vBin tEq (vVar 3) (vLst vNil))) (vB (vBin tNe (vVar 5) (vTup (vCons (vC (.str "reach")) vNil))))) (vAndT (vB (vBin tNe (vVar 3) (vLst vNil))) (vB (vBin tNe (vVar 5) (vVar 3))))) (wRet (vC (.bl false))) wNil)
def w_l_good_s3 : VS := (wIf (vAndT (vB (vBin tNe (vVar 3) (vLst vNil))) (vNotT (vTru (vFn tAll (vCons (vLc [6, 7] (.nm 7) (vItF [5] (vIVal (vBin tIx (vVar 5) (vC (.int 0))))) (fun e => .ok true e) (vFn tIsinst (vCons (vVar 7) (vCons (vC (.ty "int")) vNil)))) vNil))))) (wRet (vC (.bl false))) wNil)
def w_l_good_s4 : VS := (wIf (vAndT (vB (vBin tNe (vVar 3) (vLst vNil))) (vB (vBin tNe (vLc [6, 7] (.nm 7) (vItF [5] (vIVal (vBin tIx (vVar 5) (vC (.int 0))))) (vTru (vFn tIsinst (vCons (vVar 7) (vCons (vC (.ty "bool")) vNil)))) (vVar 7)) (vLst vNil)))) (wRet (vC (.bl false))) wNil)
def w_l_good_5 : VS := (wSeq w_l_good_s1
  (wSeq w_l_good_s2
  (wSeq w_l_good_s3
  w_l_good_s4)))
def w_l_good_s6 : VS := (wAsg (.nm 3) (vCall W_l_due (vCons (vVar 0) (vCons (vVar 1) (vCons (vVar 2) vNil)))))
def w_l_good_s7 : VS := (wFor (.nm 4) (vRange tR1 (vCons (vC (.int 2)) vNil)) w_l_good_5)
def w_l_good : VS := (wSeq w_l_good_s6
  (wSeq w_l_good_s7
  (wRet (vC (.bl true)))))
theorem ok_l_good : VSok [] b_l_good w_l_good := (ws_seq (ws_asg rfl (vo_call D_l_due (va_cons (vo_var 0) (va_cons (vo_var 1) (va_cons (vo_var 2) va_nil (.inr rfl)) (.inr rfl)) (.inr rfl))))
  (ws_seq (ws_for rfl (vi_range1 (va_cons (vo_c fun _ _ => (.int _)) va_nil (.inl rfl))) (ws_seq (ws_asg rfl (vo_call D_l_moved (va_cons (vo_var 0) (va_cons (vo_var 1) (va_cons (vo_var 2) va_nil (.inr rfl)) (.inr rfl)) (.inr rfl))))
  (ws_seq (ws_if (vb_or (vb_and (vb_b (vo_bin x_eq (vo_var 3) (vo_lst va_nil) (.inr rfl))) (vb_b (vo_bin x_ne (vo_var 5) (vo_tup (va_cons (vo_c fun _ _ => (.str _)) va_nil (.inl rfl))) (.inr rfl)))) (vb_and (vb_b (vo_bin x_ne (vo_var 3) (vo_lst va_nil) (.inr rfl))) (vb_b (vo_bin x_ne (vo_var 5) (vo_var 3) (.inr rfl))))) (ws_ret (vo_c fun _ _ => (.bl _))) ws_nil)
  (ws_seq (ws_if (vb_and (vb_b (vo_bin x_ne (vo_var 3) (vo_lst va_nil) (.inr rfl))) (vb_not (vb_tru (vo_fn x_all (va_cons (vo_lc (vi_itf (vi_val (vo_bin x_ix (vo_var 5) (vo_c fun _ _ => (.int _)) (.inr rfl))) (by decide)) vb_yes (vo_fn x_isinst (va_cons (vo_var 7) (va_cons (vo_c fun _ _ => (.ty _)) va_nil (.inl rfl)) (.inr rfl))) (.inr rfl) rfl rfl) va_nil (.inr rfl)))))) (ws_ret (vo_c fun _ _ => (.bl _))) ws_nil)
  (ws_if (vb_and (vb_b (vo_bin x_ne (vo_var 3) (vo_lst va_nil) (.inr rfl))) (vb_b (vo_bin x_ne (vo_lc (vi_itf (vi_val (vo_bin x_ix (vo_var 5) (vo_c fun _ _ => (.int _)) (.inr rfl))) (by decide)) (vb_tru (vo_fn x_isinst (va_cons (vo_var 7) (va_cons (vo_c fun _ _ => (.ty _)) va_nil (.inl rfl)) (.inr rfl)))) (vo_var 7) (.inr rfl) rfl rfl) (vo_lst va_nil) (.inr rfl)))) (ws_ret (vo_c fun _ _ => (.bl _))) ws_nil)))))
  (ws_ret (vo_c fun _ _ => (.bl _)))))
def W_l_good : VF := vFun N_l_good 3 w_l_good
theorem D_l_good : DefV F_l_good W_l_good := def_v ok_l_good
def w_law_s1 : VS := (wAsg (.nm 1) (vCall W_l_pitch (vCons (vCall W_l_mixed (vCons (vCall W_l_cell (vCons (vVar 0) (vCons (vC (.int 0)) vNil))) (vCons (vC (.int 1)) vNil))) vNil)))
def w_law_s2 : VS := (wAsg (.nm 2) (vCall W_l_interval (vCons (vCall W_l_cell (vCons (vVar 0) (vCons (vC (.int 1)) vNil))) (vCons (vCall W_l_mixed (vCons (vCall W_l_cell (vCons (vVar 0) (vCons (vC (.int 2)) vNil))) (vCons (vC (.int 2)) vNil))) vNil))))
def w_law_s3 : VS := (wAsg (.nm 3) (vCall W_l_interval (vCons (vCall W_l_cell (vCons (vVar 0) (vCons (vC (.int 3)) vNil))) (vCons (vCall W_l_mixed (vCons (vCall W_l_cell (vCons (vVar 0) (vCons (vC (.int 4)) vNil))) (vCons (vC (.int 3)) vNil))) vNil))))
def w_law_s4 : VS := (wIf (vNotT (vTru (vCall W_l_good (vCons (vVar 1) (vCons (vBin tIx (vVar 2) (vC (.int 0))) (vCons (vBin tIx (vVar 2) (vC (.int 1))) vNil)))))) (wRet (vC (.bl false))) wNil)
def w_law_s5 : VS := (wIf (vNotT (vTru (vCall W_l_good (vCons (vVar 1) (vCons (vBin tAdd (vBin tIx (vVar 2) (vC (.int 0))) (vBin tIx (vVar 3) (vC (.int 0)))) (vCons (vBin tAdd (vBin tIx (vVar 2) (vC (.int 1))) (vBin tIx (vVar 3) (vC (.int 1)))) vNil)))))) (wRet (vC (.bl false))) wNil)
def w_law_s6 : VS := (wIf (vB (vBin tNe (vCall W_l_moved (vCons (vVar 1) (vCons (vC (.int 0)) (vCons (vC (.int 0)) vNil)))) (vLst (vCons (vVar 1) vNil)))) (wRet (vC (.bl false))) wNil)
def w_law_s7 : VS := (wAsg (.nm 4) (vCall W_l_moved (vCons (vVar 1) (vCons (vBin tIx (vVar 2) (vC (.int 0))) (vCons (vBin tIx (vVar 2) (vC (.int 1))) vNil)))))
def w_law_s8 : VS := (wIf (vTru (vFn tIsinst (vCons (vVar 4) (vCons (vC (.ty "tuple")) vNil)))) (wRet (vC (.bl true))) wNil)
def w_law_s9 : VS := (wIf (vB (vBin tNe (vCall W_fifths (vCons (vBin tIx (vVar 4) (vC (.int 0))) vNil)) (vBin tSub (vBin tAdd (vCall W_fifths (vCons (vVar 1) vNil)) (vBin tMul (vC (.int 7)) (vBin tIx (vVar 2) (vC (.int 1))))) (vBin tMul (vC (.int 12)) (vBin tIx (vVar 2) (vC (.int 0))))))) (wRet (vC (.bl false))) wNil)
def w_law_s10 : VS := (wIf (vB (vBin tNe (vCall W_l_moved (vCons (vBin tIx (vVar 4) (vC (.int 0))) (vCons (vBin tSub (vC (.int 0)) (vBin tIx (vVar 2) (vC (.int 0)))) (vCons (vBin tSub (vC (.int 0)) (vBin tIx (vVar 2) (vC (.int 1)))) vNil)))) (vLst (vCons (vVar 1) vNil)))) (wRet (vC (.bl false))) wNil)
def w_law_s11 : VS := (wIf (vNotT (vTru (vCall W_l_good (vCons (vBin tIx (vVar 4) (vC (.int 0))) (vCons (vBin tIx (vVar 3) (vC (.int 0))) (vCons (vBin tIx (vVar 3) (vC (.int 1))) vNil)))))) (wRet (vC (.bl false))) wNil)
def w_law_s12 : VS := (wAsg (.nm 5) (vCall W_l_moved (vCons (vBin tIx (vVar 4) (vC (.int 0))) (vCons (vBin tIx (vVar 3) (vC (.int 0))) (vCons (vBin tIx (vVar 3) (vC (.int 1))) vNil)))))
def w_law_s13 : VS := (wRet (vPl (vBin tEq (vVar 5) (vCall W_l_moved (vCons (vVar 1) (vCons (vBin tAdd (vBin tIx (vVar 2) (vC (.int 0))) (vBin tIx (vVar 3) (vC (.int 0)))) (vCons (vBin tAdd (vBin tIx (vVar 2) (vC (.int 1))) (vBin tIx (vVar 3) (vC (.int 1)))) vNil)))))))
def w_law : VS := (wSeq w_law_s1
  (wSeq w_law_s2
  (wSeq w_law_s3
  (wSeq w_law_s4
  (wSeq w_law_s5
  (wSeq w_law_s6
  (wSeq w_law_s7
  (wSeq w_law_s8
  (wSeq w_law_s9
  (wSeq w_law_s10
  (wSeq w_law_s11
  (wSeq w_law_s12
  w_law_s13))))))))))))
theorem ok_law : VSok [] b_law w_law := (ws_seq (ws_asg rfl (vo_call D_l_pitch (va_cons (vo_call D_l_mixed (va_cons (vo_call D_l_cell (va_cons (vo_var 0) (va_cons (vo_c fun _ _ => (.int _)) va_nil (.inl rfl)) (.inr rfl))) (va_cons (vo_c fun _ _ => (.int _)) va_nil (.inl rfl)) (.inl rfl))) va_nil (.inl rfl))))
  (ws_seq (ws_asg rfl (vo_call D_l_interval (va_cons (vo_call D_l_cell (va_cons (vo_var 0) (va_cons (vo_c fun _ _ => (.int _)) va_nil (.inl rfl)) (.inr rfl))) (va_cons (vo_call D_l_mixed (va_cons (vo_call D_l_cell (va_cons (vo_var 0) (va_cons (vo_c fun _ _ => (.int _)) va_nil (.inl rfl)) (.inr rfl))) (va_cons (vo_c fun _ _ => (.int _)) va_nil (.inl rfl)) (.inl rfl))) va_nil (.inl rfl)) (.inl rfl))))
  (ws_seq (ws_asg rfl (vo_call D_l_interval (va_cons (vo_call D_l_cell (va_cons (vo_var 0) (va_cons (vo_c fun _ _ => (.int _)) va_nil (.inl rfl)) (.inr rfl))) (va_cons (vo_call D_l_mixed (va_cons (vo_call D_l_cell (va_cons (vo_var 0) (va_cons (vo_c fun _ _ => (.int _)) va_nil (.inl rfl)) (.inr rfl))) (va_cons (vo_c fun _ _ => (.int _)) va_nil (.inl rfl)) (.inl rfl))) va_nil (.inl rfl)) (.inl rfl))))
  (ws_seq (ws_if (vb_not (vb_tru (vo_call D_l_good (va_cons (vo_var 1) (va_cons (vo_bin x_ix (vo_var 2) (vo_c fun _ _ => (.int _)) (.inr rfl)) (va_cons (vo_bin x_ix (vo_var 2) (vo_c fun _ _ => (.int _)) (.inr rfl)) va_nil (.inr rfl)) (.inr rfl)) (.inr rfl))))) (ws_ret (vo_c fun _ _ => (.bl _))) ws_nil)
  (ws_seq (ws_if (vb_not (vb_tru (vo_call D_l_good (va_cons (vo_var 1) (va_cons (vo_bin x_add (vo_bin x_ix (vo_var 2) (vo_c fun _ _ => (.int _)) (.inr rfl)) (vo_bin x_ix (vo_var 3) (vo_c fun _ _ => (.int _)) (.inr rfl)) (.inr rfl)) (va_cons (vo_bin x_add (vo_bin x_ix (vo_var 2) (vo_c fun _ _ => (.int _)) (.inr rfl)) (vo_bin x_ix (vo_var 3) (vo_c fun _ _ => (.int _)) (.inr rfl)) (.inr rfl)) va_nil (.inr rfl)) (.inr rfl)) (.inr rfl))))) (ws_ret (vo_c fun _ _ => (.bl _))) ws_nil)
  (ws_seq (ws_if (vb_b (vo_bin x_ne (vo_call D_l_moved (va_cons (vo_var 1) (va_cons (vo_c fun _ _ => (.int _)) (va_cons (vo_c fun _ _ => (.int _)) va_nil (.inl rfl)) (.inl rfl)) (.inr rfl))) (vo_lst (va_cons (vo_var 1) va_nil (.inr rfl))) (.inl rfl))) (ws_ret (vo_c fun _ _ => (.bl _))) ws_nil)
  (ws_seq (ws_asg rfl (vo_call D_l_moved (va_cons (vo_var 1) (va_cons (vo_bin x_ix (vo_var 2) (vo_c fun _ _ => (.int _)) (.inr rfl)) (va_cons (vo_bin x_ix (vo_var 2) (vo_c fun _ _ => (.int _)) (.inr rfl)) va_nil (.inr rfl)) (.inr rfl)) (.inr rfl))))
  (ws_seq (ws_if (vb_tru (vo_fn x_isinst (va_cons (vo_var 4) (va_cons (vo_c fun _ _ => (.ty _)) va_nil (.inl rfl)) (.inr rfl)))) (ws_ret (vo_c fun _ _ => (.bl _))) ws_nil)
  (ws_seq (ws_if (vb_b (vo_bin x_ne (vo_call D_fifths (va_cons (vo_bin x_ix (vo_var 4) (vo_c fun _ _ => (.int _)) (.inr rfl)) va_nil (.inr rfl))) (vo_bin x_sub (vo_bin x_add (vo_call D_fifths (va_cons (vo_var 1) va_nil (.inr rfl))) (vo_bin x_mul (vo_c fun _ _ => (.int _)) (vo_bin x_ix (vo_var 2) (vo_c fun _ _ => (.int _)) (.inr rfl)) (.inl rfl)) (.inl rfl)) (vo_bin x_mul (vo_c fun _ _ => (.int _)) (vo_bin x_ix (vo_var 2) (vo_c fun _ _ => (.int _)) (.inr rfl)) (.inl rfl)) (.inr rfl)) (.inl rfl))) (ws_ret (vo_c fun _ _ => (.bl _))) ws_nil)
  (ws_seq (ws_if (vb_b (vo_bin x_ne (vo_call D_l_moved (va_cons (vo_bin x_ix (vo_var 4) (vo_c fun _ _ => (.int _)) (.inr rfl)) (va_cons (vo_bin x_sub (vo_c fun _ _ => (.int _)) (vo_bin x_ix (vo_var 2) (vo_c fun _ _ => (.int _)) (.inr rfl)) (.inl rfl)) (va_cons (vo_bin x_sub (vo_c fun _ _ => (.int _)) (vo_bin x_ix (vo_var 2) (vo_c fun _ _ => (.int _)) (.inr rfl)) (.inl rfl)) va_nil (.inr rfl)) (.inr rfl)) (.inr rfl))) (vo_lst (va_cons (vo_var 1) va_nil (.inr rfl))) (.inl rfl))) (ws_ret (vo_c fun _ _ => (.bl _))) ws_nil)
  (ws_seq (ws_if (vb_not (vb_tru (vo_call D_l_good (va_cons (vo_bin x_ix (vo_var 4) (vo_c fun _ _ => (.int _)) (.inr rfl)) (va_cons (vo_bin x_ix (vo_var 3) (vo_c fun _ _ => (.int _)) (.inr rfl)) (va_cons (vo_bin x_ix (vo_var 3) (vo_c fun _ _ => (.int _)) (.inr rfl)) va_nil (.inr rfl)) (.inr rfl)) (.inr rfl))))) (ws_ret (vo_c fun _ _ => (.bl _))) ws_nil)
  (ws_seq (ws_asg rfl (vo_call D_l_moved (va_cons (vo_bin x_ix (vo_var 4) (vo_c fun _ _ => (.int _)) (.inr rfl)) (va_cons (vo_bin x_ix (vo_var 3) (vo_c fun _ _ => (.int _)) (.inr rfl)) (va_cons (vo_bin x_ix (vo_var 3) (vo_c fun _ _ => (.int _)) (.inr rfl)) va_nil (.inr rfl)) (.inr rfl)) (.inr rfl))))
  (ws_ret (vo_pl (vo_bin x_eq (vo_var 5) (vo_call D_l_moved (va_cons (vo_var 1) (va_cons (vo_bin x_add (vo_bin x_ix (vo_var 2) (vo_c fun _ _ => (.int _)) (.inr rfl)) (vo_bin x_ix (vo_var 3) (vo_c fun _ _ => (.int _)) (.inr rfl)) (.inr rfl)) (va_cons (vo_bin x_add (vo_bin x_ix (vo_var 2) (vo_c fun _ _ => (.int _)) (.inr rfl)) (vo_bin x_ix (vo_var 3) (vo_c fun _ _ => (.int _)) (.inr rfl)) (.inr rfl)) va_nil (.inr rfl)) (.inr rfl)) (.inr rfl))) (.inr rfl))))))))))))))))
def W_law : VF := vFun N_law 1 w_law
theorem D_law : DefV F_law W_law := def_v ok_law
end BW

/-! The law k04 in plain Lean. -/
namespace BW
open PySem IP
theorem cell_run (ns : List Int) (k : Nat) : W_l_cell [.nd .z .lst (nI ns), .int k] = .ok (.int (ns[k]?.getD 0)) := by
  unfold W_l_cell
  by_cases h : k < ns.length
  · have h' : (k : Int) < ns.length := by omega
    simp [z_bind, z_bindx, z_ofO, z_slot, z_var, z_c, z_fl, z_pl, z_bin, z_un, z_nil, z_cons, z_fn, z_tup, z_lst, z_d0, z_B, z_tru, z_andT, z_orT, z_notT, z_and, z_or, z_not, z_if, z_chain, z_tBl, z_tru1, z_tru2, z_tru3, z_tru4, z_tru5, z_tru6, z_pn, z_ps, z_tInt, z_sl, z_mt, z_call, z_go, z_gox, z_ioC, z_callIO, z_goI, y_non, y_bl, y_int, y_str, y_ty, y_tup, y_nd, y_0, y_1, y_nI, y_sS, y_bS, y_sho, y_shs, y_shz, y_shw, y_boo, y_bos, y_boz, y_bow, y_uwo, y_uws, y_uwz, y_uww, y_fz, y_szo, y_szs, y_szz, y_szw, y_nwo, y_nws, y_nwz, y_nww, y_nzo, y_nzs, y_nzz, y_nzw, y_noo, y_nos, y_noz, y_now, y_a0, y_a1, y_anon, y_abl, y_aint, y_astr, y_aty, y_atup, y_and, y_anI, y_asS, y_abS, z_go_nx, z_go_ret, z_go_brk, z_go_cnt, z_go_ex, z_st, z_stx, z_wnil, z_seq, z_expr, z_ret, z_retV, z_retV1, z_retN, z_brk, z_cnt, z_wif, z_asgT, z_asg, z_tgn, z_tgu, z_tgu1, z_tgu2, z_tg0, z_tg1, z_augL, z_augT, z_augZ, z_mut, z_mutL, z_mutG, z_mutZ, z_put, z_putL, z_for, z_forG, z_loop0, z_loop1, z_loopT, z_loopn, z_loopc, z_loopb, z_loopr, z_loopx, z_while, z_wh, z_whn, z_whb, z_whr, z_iv, z_iv1, z_iv2, z_iv3, z_rg, z_r1, z_r2, z_en, z_en2, z_it8, z_en1, z_zp, z_zp1, z_rv, z_rv1, z_it1, z_it2, z_it3, z_it4, z_it5, z_it6, z_it7, z_itf, z_lc, z_lcG, z_calm, z_vlc0, z_vlc1, z_lcT, z_noO0, z_noO1, z_noS1, z_noS2, z_noS3, z_wipe0, z_wipe1, z_rest0, z_rest1, z_resS, z_she0, z_she1, z_sheS, z_fin1, z_fin2, z_fin3, z_f0, z_f1, z_f2, z_f3, z_f4, z_f5, z_f6, z_f7, z_finI1, z_finI2, z_ioS, t_add, t_addb, t_adds, t_addl, t_sub, t_mul, t_muls, t_mull, t_div, t_mod, t_neg, t_aug, t_augs, t_eq, t_ne, t_lt, t_le, t_gt, t_ge, t_eqi, t_eqs, t_eqb, t_eqn, t_is, t_isn, t_is1, t_is2, t_is3, t_is4, t_is5, t_is6, t_is7, t_is8, t_ixt, t_ixl, t_ixs, t_ixd, t_k1, t_k2, t_in, t_nin, t_ind, t_len1, t_len2, t_len3, t_abs, t_max, t_min, t_maxl, t_minl, t_minT1, t_minT0, t_ltt, z_orV, t_sum, t_all, t_any, t_int1, t_int2, t_int3, t_str, t_list1, t_list2, t_tup1, t_tup2, t_dm, t_ty1, t_ty2, t_ty3, t_ty4, t_ty5, t_ty6, t_ty7, t_inst, t_inst2, t_in1, t_in2, t_tt1, t_tt2, t_tt3, t_find, t_sw, t_part, t_split, t_join, t_upper, t_get, t_get2, t_sl1, t_sl3, t_app, t_ext1, t_ext2, t_clear, t_put, t_pop0, t_mI, t_mB, t_mS, t_dcg1, t_dcg2, t_dci1, t_dci2, t_dcn1, t_dcn2, t_dcx1, t_dcx2, t_kT1, t_kT2, z_disp1, z_dispX, z_dispY1, z_dispY2, z_ixs, z_ixk, z_ixd, z_ixz, z_own, z_own1, z_aug, y_ap, y_ap2, List.getElem?_cons_zero, List.getElem?_cons_succ, List.set_cons_zero, List.set_cons_succ, Option.map_some, Option.map_none, Option.bind_some, decide_true, decide_false, if_true, if_false, Int.reduceLT, Int.reduceLE, Bool.and_true, Bool.true_and, Bool.and_self, Bool.or_true, Bool.or_false, Bool.false_or, Bool.true_or, Bool.not_true, Bool.not_false, Bool.false_eq_true, List.length_cons, List.length_nil, Nat.reduceAdd, Nat.reduceLeDiff, Nat.zero_le, Nat.reduceLT, and_self, and_true, true_and, Bool.and_false, Bool.false_and, ite_true, ite_false, beq_self_eq_true, w_l_cell, w_l_cell_s1, N_l_cell, nI_len, h', at_nat, nI_at, List.getElem?_eq_getElem h]
  · have h' : ¬ (k : Int) < ns.length := by omega
    simp [z_bind, z_bindx, z_ofO, z_slot, z_var, z_c, z_fl, z_pl, z_bin, z_un, z_nil, z_cons, z_fn, z_tup, z_lst, z_d0, z_B, z_tru, z_andT, z_orT, z_notT, z_and, z_or, z_not, z_if, z_chain, z_tBl, z_tru1, z_tru2, z_tru3, z_tru4, z_tru5, z_tru6, z_pn, z_ps, z_tInt, z_sl, z_mt, z_call, z_go, z_gox, z_ioC, z_callIO, z_goI, y_non, y_bl, y_int, y_str, y_ty, y_tup, y_nd, y_0, y_1, y_nI, y_sS, y_bS, y_sho, y_shs, y_shz, y_shw, y_boo, y_bos, y_boz, y_bow, y_uwo, y_uws, y_uwz, y_uww, y_fz, y_szo, y_szs, y_szz, y_szw, y_nwo, y_nws, y_nwz, y_nww, y_nzo, y_nzs, y_nzz, y_nzw, y_noo, y_nos, y_noz, y_now, y_a0, y_a1, y_anon, y_abl, y_aint, y_astr, y_aty, y_atup, y_and, y_anI, y_asS, y_abS, z_go_nx, z_go_ret, z_go_brk, z_go_cnt, z_go_ex, z_st, z_stx, z_wnil, z_seq, z_expr, z_ret, z_retV, z_retV1, z_retN, z_brk, z_cnt, z_wif, z_asgT, z_asg, z_tgn, z_tgu, z_tgu1, z_tgu2, z_tg0, z_tg1, z_augL, z_augT, z_augZ, z_mut, z_mutL, z_mutG, z_mutZ, z_put, z_putL, z_for, z_forG, z_loop0, z_loop1, z_loopT, z_loopn, z_loopc, z_loopb, z_loopr, z_loopx, z_while, z_wh, z_whn, z_whb, z_whr, z_iv, z_iv1, z_iv2, z_iv3, z_rg, z_r1, z_r2, z_en, z_en2, z_it8, z_en1, z_zp, z_zp1, z_rv, z_rv1, z_it1, z_it2, z_it3, z_it4, z_it5, z_it6, z_it7, z_itf, z_lc, z_lcG, z_calm, z_vlc0, z_vlc1, z_lcT, z_noO0, z_noO1, z_noS1, z_noS2, z_noS3, z_wipe0, z_wipe1, z_rest0, z_rest1, z_resS, z_she0, z_she1, z_sheS, z_fin1, z_fin2, z_fin3, z_f0, z_f1, z_f2, z_f3, z_f4, z_f5, z_f6, z_f7, z_finI1, z_finI2, z_ioS, t_add, t_addb, t_adds, t_addl, t_sub, t_mul, t_muls, t_mull, t_div, t_mod, t_neg, t_aug, t_augs, t_eq, t_ne, t_lt, t_le, t_gt, t_ge, t_eqi, t_eqs, t_eqb, t_eqn, t_is, t_isn, t_is1, t_is2, t_is3, t_is4, t_is5, t_is6, t_is7, t_is8, t_ixt, t_ixl, t_ixs, t_ixd, t_k1, t_k2, t_in, t_nin, t_ind, t_len1, t_len2, t_len3, t_abs, t_max, t_min, t_maxl, t_minl, t_minT1, t_minT0, t_ltt, z_orV, t_sum, t_all, t_any, t_int1, t_int2, t_int3, t_str, t_list1, t_list2, t_tup1, t_tup2, t_dm, t_ty1, t_ty2, t_ty3, t_ty4, t_ty5, t_ty6, t_ty7, t_inst, t_inst2, t_in1, t_in2, t_tt1, t_tt2, t_tt3, t_find, t_sw, t_part, t_split, t_join, t_upper, t_get, t_get2, t_sl1, t_sl3, t_app, t_ext1, t_ext2, t_clear, t_put, t_pop0, t_mI, t_mB, t_mS, t_dcg1, t_dcg2, t_dci1, t_dci2, t_dcn1, t_dcn2, t_dcx1, t_dcx2, t_kT1, t_kT2, z_disp1, z_dispX, z_dispY1, z_dispY2, z_ixs, z_ixk, z_ixd, z_ixz, z_own, z_own1, z_aug, y_ap, y_ap2, List.getElem?_cons_zero, List.getElem?_cons_succ, List.set_cons_zero, List.set_cons_succ, Option.map_some, Option.map_none, Option.bind_some, decide_true, decide_false, if_true, if_false, Int.reduceLT, Int.reduceLE, Bool.and_true, Bool.true_and, Bool.and_self, Bool.or_true, Bool.or_false, Bool.false_or, Bool.true_or, Bool.not_true, Bool.not_false, Bool.false_eq_true, List.length_cons, List.length_nil, Nat.reduceAdd, Nat.reduceLeDiff, Nat.zero_le, Nat.reduceLT, and_self, and_true, true_and, Bool.and_false, Bool.false_and, ite_true, ite_false, beq_self_eq_true, w_l_cell, w_l_cell_s1, N_l_cell, nI_len, h', h]
def mixZ (c k : Int) : Int := (c + 7919 * k + 13) * (c + 7919 * k + 13) % 1000000007 * 48271 % 998244353 / 11
theorem mix_nn (c k : Int) : 0 ≤ mixZ c k := by unfold mixZ; omega
theorem mix_run {c k : Int} (hc : Builtin.Int.intBits c ≤ 1048576) (h0 : 0 ≤ k) (h1 : k < 1000) : W_l_mixed [.int c, .int k] = .ok (.int (mixZ c k)) := by
  unfold W_l_mixed
  have b1 := bits_num hc (a := 7919 * k) (b := 13) (by omega) (by omega)
  have m2 := okMul_big b1 b1
  have m3 : ∀ w : Int, okMul (w % 1000000007) 48271 = true := fun w => okMul_l (by omega)
  have m1 : okMul 7919 k = true := okMul_l (by omega)
  simp only [z_bind, z_bindx, z_ofO, z_slot, z_var, z_c, z_fl, z_pl, z_bin, z_un, z_nil, z_cons, z_fn, z_tup, z_lst, z_d0, z_B, z_tru, z_andT, z_orT, z_notT, z_and, z_or, z_not, z_if, z_chain, z_tBl, z_tru1, z_tru2, z_tru3, z_tru4, z_tru5, z_tru6, z_pn, z_ps, z_tInt, z_sl, z_mt, z_call, z_go, z_gox, z_ioC, z_callIO, z_goI, y_non, y_bl, y_int, y_str, y_ty, y_tup, y_nd, y_0, y_1, y_nI, y_sS, y_bS, y_sho, y_shs, y_shz, y_shw, y_boo, y_bos, y_boz, y_bow, y_uwo, y_uws, y_uwz, y_uww, y_fz, y_szo, y_szs, y_szz, y_szw, y_nwo, y_nws, y_nwz, y_nww, y_nzo, y_nzs, y_nzz, y_nzw, y_noo, y_nos, y_noz, y_now, y_a0, y_a1, y_anon, y_abl, y_aint, y_astr, y_aty, y_atup, y_and, y_anI, y_asS, y_abS, z_go_nx, z_go_ret, z_go_brk, z_go_cnt, z_go_ex, z_st, z_stx, z_wnil, z_seq, z_expr, z_ret, z_retV, z_retV1, z_retN, z_brk, z_cnt, z_wif, z_asgT, z_asg, z_tgn, z_tgu, z_tgu1, z_tgu2, z_tg0, z_tg1, z_augL, z_augT, z_augZ, z_mut, z_mutL, z_mutG, z_mutZ, z_put, z_putL, z_for, z_forG, z_loop0, z_loop1, z_loopT, z_loopn, z_loopc, z_loopb, z_loopr, z_loopx, z_while, z_wh, z_whn, z_whb, z_whr, z_iv, z_iv1, z_iv2, z_iv3, z_rg, z_r1, z_r2, z_en, z_en2, z_it8, z_en1, z_zp, z_zp1, z_rv, z_rv1, z_it1, z_it2, z_it3, z_it4, z_it5, z_it6, z_it7, z_itf, z_lc, z_lcG, z_calm, z_vlc0, z_vlc1, z_lcT, z_noO0, z_noO1, z_noS1, z_noS2, z_noS3, z_wipe0, z_wipe1, z_rest0, z_rest1, z_resS, z_she0, z_she1, z_sheS, z_fin1, z_fin2, z_fin3, z_f0, z_f1, z_f2, z_f3, z_f4, z_f5, z_f6, z_f7, z_finI1, z_finI2, z_ioS, t_add, t_addb, t_adds, t_addl, t_sub, t_mul, t_muls, t_mull, t_div, t_mod, t_neg, t_aug, t_augs, t_eq, t_ne, t_lt, t_le, t_gt, t_ge, t_eqi, t_eqs, t_eqb, t_eqn, t_is, t_isn, t_is1, t_is2, t_is3, t_is4, t_is5, t_is6, t_is7, t_is8, t_ixt, t_ixl, t_ixs, t_ixd, t_k1, t_k2, t_in, t_nin, t_ind, t_len1, t_len2, t_len3, t_abs, t_max, t_min, t_maxl, t_minl, t_minT1, t_minT0, t_ltt, z_orV, t_sum, t_all, t_any, t_int1, t_int2, t_int3, t_str, t_list1, t_list2, t_tup1, t_tup2, t_dm, t_ty1, t_ty2, t_ty3, t_ty4, t_ty5, t_ty6, t_ty7, t_inst, t_inst2, t_in1, t_in2, t_tt1, t_tt2, t_tt3, t_find, t_sw, t_part, t_split, t_join, t_upper, t_get, t_get2, t_sl1, t_sl3, t_app, t_ext1, t_ext2, t_clear, t_put, t_pop0, t_mI, t_mB, t_mS, t_dcg1, t_dcg2, t_dci1, t_dci2, t_dcn1, t_dcn2, t_dcx1, t_dcx2, t_kT1, t_kT2, z_disp1, z_dispX, z_dispY1, z_dispY2, z_ixs, z_ixk, z_ixd, z_ixz, z_own, z_own1, z_aug, y_ap, y_ap2, List.getElem?_cons_zero, List.getElem?_cons_succ, List.set_cons_zero, List.set_cons_succ, Option.map_some, Option.map_none, Option.bind_some, decide_true, decide_false, if_true, if_false, Int.reduceLT, Int.reduceLE, Bool.and_true, Bool.true_and, Bool.and_self, Bool.or_true, Bool.or_false, Bool.false_or, Bool.true_or, Bool.not_true, Bool.not_false, Bool.false_eq_true, List.length_cons, List.length_nil, Nat.reduceAdd, Nat.reduceLeDiff, Nat.zero_le, Nat.reduceLT, and_self, and_true, true_and, Bool.and_false, Bool.false_and, ite_true, ite_false, beq_self_eq_true, w_l_mixed, w_l_mixed_s1, w_l_mixed_s2, N_l_mixed, m1, m2, m3, List.cons_append, List.nil_append, Nat.reduceSub, List.replicate]
  simp [mixZ, z_bind, z_bindx, z_ofO, z_slot, z_var, z_c, z_fl, z_pl, z_bin, z_un, z_nil, z_cons, z_fn, z_tup, z_lst, z_d0, z_B, z_tru, z_andT, z_orT, z_notT, z_and, z_or, z_not, z_if, z_chain, z_tBl, z_tru1, z_tru2, z_tru3, z_tru4, z_tru5, z_tru6, z_pn, z_ps, z_tInt, z_sl, z_mt, z_call, z_go, z_gox, z_ioC, z_callIO, z_goI, y_non, y_bl, y_int, y_str, y_ty, y_tup, y_nd, y_0, y_1, y_nI, y_sS, y_bS, y_sho, y_shs, y_shz, y_shw, y_boo, y_bos, y_boz, y_bow, y_uwo, y_uws, y_uwz, y_uww, y_fz, y_szo, y_szs, y_szz, y_szw, y_nwo, y_nws, y_nwz, y_nww, y_nzo, y_nzs, y_nzz, y_nzw, y_noo, y_nos, y_noz, y_now, y_a0, y_a1, y_anon, y_abl, y_aint, y_astr, y_aty, y_atup, y_and, y_anI, y_asS, y_abS, z_go_nx, z_go_ret, z_go_brk, z_go_cnt, z_go_ex, z_st, z_stx, z_wnil, z_seq, z_expr, z_ret, z_retV, z_retV1, z_retN, z_brk, z_cnt, z_wif, z_asgT, z_asg, z_tgn, z_tgu, z_tgu1, z_tgu2, z_tg0, z_tg1, z_augL, z_augT, z_augZ, z_mut, z_mutL, z_mutG, z_mutZ, z_put, z_putL, z_for, z_forG, z_loop0, z_loop1, z_loopT, z_loopn, z_loopc, z_loopb, z_loopr, z_loopx, z_while, z_wh, z_whn, z_whb, z_whr, z_iv, z_iv1, z_iv2, z_iv3, z_rg, z_r1, z_r2, z_en, z_en2, z_it8, z_en1, z_zp, z_zp1, z_rv, z_rv1, z_it1, z_it2, z_it3, z_it4, z_it5, z_it6, z_it7, z_itf, z_lc, z_lcG, z_calm, z_vlc0, z_vlc1, z_lcT, z_noO0, z_noO1, z_noS1, z_noS2, z_noS3, z_wipe0, z_wipe1, z_rest0, z_rest1, z_resS, z_she0, z_she1, z_sheS, z_fin1, z_fin2, z_fin3, z_f0, z_f1, z_f2, z_f3, z_f4, z_f5, z_f6, z_f7, z_finI1, z_finI2, z_ioS, t_add, t_addb, t_adds, t_addl, t_sub, t_mul, t_muls, t_mull, t_div, t_mod, t_neg, t_aug, t_augs, t_eq, t_ne, t_lt, t_le, t_gt, t_ge, t_eqi, t_eqs, t_eqb, t_eqn, t_is, t_isn, t_is1, t_is2, t_is3, t_is4, t_is5, t_is6, t_is7, t_is8, t_ixt, t_ixl, t_ixs, t_ixd, t_k1, t_k2, t_in, t_nin, t_ind, t_len1, t_len2, t_len3, t_abs, t_max, t_min, t_maxl, t_minl, t_minT1, t_minT0, t_ltt, z_orV, t_sum, t_all, t_any, t_int1, t_int2, t_int3, t_str, t_list1, t_list2, t_tup1, t_tup2, t_dm, t_ty1, t_ty2, t_ty3, t_ty4, t_ty5, t_ty6, t_ty7, t_inst, t_inst2, t_in1, t_in2, t_tt1, t_tt2, t_tt3, t_find, t_sw, t_part, t_split, t_join, t_upper, t_get, t_get2, t_sl1, t_sl3, t_app, t_ext1, t_ext2, t_clear, t_put, t_pop0, t_mI, t_mB, t_mS, t_dcg1, t_dcg2, t_dci1, t_dci2, t_dcn1, t_dcn2, t_dcx1, t_dcx2, t_kT1, t_kT2, z_disp1, z_dispX, z_dispY1, z_dispY2, z_ixs, z_ixk, z_ixd, z_ixz, z_own, z_own1, z_aug, y_ap, y_ap2, List.getElem?_cons_zero, List.getElem?_cons_succ, List.set_cons_zero, List.set_cons_succ, Option.map_some, Option.map_none, Option.bind_some, decide_true, decide_false, if_true, if_false, Int.reduceLT, Int.reduceLE, Bool.and_true, Bool.true_and, Bool.and_self, Bool.or_true, Bool.or_false, Bool.false_or, Bool.true_or, Bool.not_true, Bool.not_false, Bool.false_eq_true, List.length_cons, List.length_nil, Nat.reduceAdd, Nat.reduceLeDiff, Nat.zero_le, Nat.reduceLT, and_self, and_true, true_and, Bool.and_false, Bool.false_and, ite_true, ite_false, beq_self_eq_true]
/-! ### pitches -/
structure Pt where
  s : Int
  l : Int
  o : Int
def Pt.ok (p : Pt) : Prop := 0 ≤ p.s ∧ p.s < 7 ∧ -2 ≤ p.l ∧ p.l ≤ 2 ∧ 0 ≤ p.o ∧ p.o ≤ 8
def Pt.t (p : Pt) : TV := .tup [.int p.s, .int p.l, .int p.o]
theorem pitch_run {n : Int} : W_l_pitch [.int n] = .ok (Pt.t ⟨n % 7, n / 7 % 5 - 2, n / 35 % 9⟩) := by
  unfold W_l_pitch
  simp [z_bind, z_bindx, z_ofO, z_slot, z_var, z_c, z_fl, z_pl, z_bin, z_un, z_nil, z_cons, z_fn, z_tup, z_lst, z_d0, z_B, z_tru, z_andT, z_orT, z_notT, z_and, z_or, z_not, z_if, z_chain, z_tBl, z_tru1, z_tru2, z_tru3, z_tru4, z_tru5, z_tru6, z_pn, z_ps, z_tInt, z_sl, z_mt, z_call, z_go, z_gox, z_ioC, z_callIO, z_goI, y_non, y_bl, y_int, y_str, y_ty, y_tup, y_nd, y_0, y_1, y_nI, y_sS, y_bS, y_sho, y_shs, y_shz, y_shw, y_boo, y_bos, y_boz, y_bow, y_uwo, y_uws, y_uwz, y_uww, y_fz, y_szo, y_szs, y_szz, y_szw, y_nwo, y_nws, y_nwz, y_nww, y_nzo, y_nzs, y_nzz, y_nzw, y_noo, y_nos, y_noz, y_now, y_a0, y_a1, y_anon, y_abl, y_aint, y_astr, y_aty, y_atup, y_and, y_anI, y_asS, y_abS, z_go_nx, z_go_ret, z_go_brk, z_go_cnt, z_go_ex, z_st, z_stx, z_wnil, z_seq, z_expr, z_ret, z_retV, z_retV1, z_retN, z_brk, z_cnt, z_wif, z_asgT, z_asg, z_tgn, z_tgu, z_tgu1, z_tgu2, z_tg0, z_tg1, z_augL, z_augT, z_augZ, z_mut, z_mutL, z_mutG, z_mutZ, z_put, z_putL, z_for, z_forG, z_loop0, z_loop1, z_loopT, z_loopn, z_loopc, z_loopb, z_loopr, z_loopx, z_while, z_wh, z_whn, z_whb, z_whr, z_iv, z_iv1, z_iv2, z_iv3, z_rg, z_r1, z_r2, z_en, z_en2, z_it8, z_en1, z_zp, z_zp1, z_rv, z_rv1, z_it1, z_it2, z_it3, z_it4, z_it5, z_it6, z_it7, z_itf, z_lc, z_lcG, z_calm, z_vlc0, z_vlc1, z_lcT, z_noO0, z_noO1, z_noS1, z_noS2, z_noS3, z_wipe0, z_wipe1, z_rest0, z_rest1, z_resS, z_she0, z_she1, z_sheS, z_fin1, z_fin2, z_fin3, z_f0, z_f1, z_f2, z_f3, z_f4, z_f5, z_f6, z_f7, z_finI1, z_finI2, z_ioS, t_add, t_addb, t_adds, t_addl, t_sub, t_mul, t_muls, t_mull, t_div, t_mod, t_neg, t_aug, t_augs, t_eq, t_ne, t_lt, t_le, t_gt, t_ge, t_eqi, t_eqs, t_eqb, t_eqn, t_is, t_isn, t_is1, t_is2, t_is3, t_is4, t_is5, t_is6, t_is7, t_is8, t_ixt, t_ixl, t_ixs, t_ixd, t_k1, t_k2, t_in, t_nin, t_ind, t_len1, t_len2, t_len3, t_abs, t_max, t_min, t_maxl, t_minl, t_minT1, t_minT0, t_ltt, z_orV, t_sum, t_all, t_any, t_int1, t_int2, t_int3, t_str, t_list1, t_list2, t_tup1, t_tup2, t_dm, t_ty1, t_ty2, t_ty3, t_ty4, t_ty5, t_ty6, t_ty7, t_inst, t_inst2, t_in1, t_in2, t_tt1, t_tt2, t_tt3, t_find, t_sw, t_part, t_split, t_join, t_upper, t_get, t_get2, t_sl1, t_sl3, t_app, t_ext1, t_ext2, t_clear, t_put, t_pop0, t_mI, t_mB, t_mS, t_dcg1, t_dcg2, t_dci1, t_dci2, t_dcn1, t_dcn2, t_dcx1, t_dcx2, t_kT1, t_kT2, z_disp1, z_dispX, z_dispY1, z_dispY2, z_ixs, z_ixk, z_ixd, z_ixz, z_own, z_own1, z_aug, y_ap, y_ap2, List.getElem?_cons_zero, List.getElem?_cons_succ, List.set_cons_zero, List.set_cons_succ, Option.map_some, Option.map_none, Option.bind_some, decide_true, decide_false, if_true, if_false, Int.reduceLT, Int.reduceLE, Bool.and_true, Bool.true_and, Bool.and_self, Bool.or_true, Bool.or_false, Bool.false_or, Bool.true_or, Bool.not_true, Bool.not_false, Bool.false_eq_true, List.length_cons, List.length_nil, Nat.reduceAdd, Nat.reduceLeDiff, Nat.zero_le, Nat.reduceLT, and_self, and_true, true_and, Bool.and_false, Bool.false_and, ite_true, ite_false, beq_self_eq_true, w_l_pitch, N_l_pitch, Pt.t]
theorem pitch_ok (n : Int) : Pt.ok ⟨n % 7, n / 7 % 5 - 2, n / 35 % 9⟩ := by
  unfold Pt.ok
  dsimp only
  omega
/-! ### half steps -/
def hv (j : Int) : Int := ([0, 2, 4, 5, 7, 9, 11] : List Int).getD j.toNat 0
def rv (j : Int) : Int := ([0, 2, 4, -1, 1, 3, 5] : List Int).getD j.toNat 0
theorem seven {P : Int → Prop} (h0 : P 0) (h1 : P 1) (h2 : P 2) (h3 : P 3) (h4 : P 4) (h5 : P 5) (h6 : P 6) {j : Int} (h : 0 ≤ j) (k : j < 7) : P j := by
  have e : j = 0 ∨ j = 1 ∨ j = 2 ∨ j = 3 ∨ j = 4 ∨ j = 5 ∨ j = 6 := by omega
  rcases e with rfl | rfl | rfl | rfl | rfl | rfl | rfl <;> assumption
theorem hv_rv {j : Int} (h : 0 ≤ j) (k : j < 7) : rv j = 7 * hv j - 12 * j := seven (P := fun j => rv j = 7 * hv j - 12 * j) rfl rfl rfl rfl rfl rfl rfl h k
theorem hv_b {j : Int} (h : 0 ≤ j) (k : j < 7) : 0 ≤ hv j ∧ hv j ≤ 11 := seven (P := fun j => 0 ≤ hv j ∧ hv j ≤ 11) (by decide) (by decide) (by decide) (by decide) (by decide) (by decide) (by decide) h k
theorem hv_at {j : Int} (h : 0 ≤ j) (k : j < 7) : tIx (.tup [.int 0, .int 2, .int 4, .int 5, .int 7, .int 9, .int 11]) (.int j) = some (.int (hv j)) :=
  seven (P := fun j => tIx (.tup [.int 0, .int 2, .int 4, .int 5, .int 7, .int 9, .int 11]) (.int j) = some (.int (hv j))) rfl rfl rfl rfl rfl rfl rfl h k
theorem rv_at {j : Int} (h : 0 ≤ j) (k : j < 7) : tIx (.tup [.int 0, .int 2, .int 4, .int (-1), .int 1, .int 3, .int 5]) (.int j) = some (.int (rv j)) :=
  seven (P := fun j => tIx (.tup [.int 0, .int 2, .int 4, .int (-1), .int 1, .int 3, .int 5]) (.int j) = some (.int (rv j))) rfl rfl rfl rfl rfl rfl rfl h k
def lz (i : Nat) : Int := (i : Int) - 40
def wk (l : Int) : Int := 12 * (l / 7) + hv (l % 7)
def chkL (i : Nat) : Bool := match W_l_walked [.int (lz i)] with | .ok (.int v) => decide (v = wk (lz i)) | _ => false
theorem all_L : (List.range 143).all chkL = true := by kernel_rfl
theorem walk_run {l : Int} (h : -40 ≤ l) (k : l ≤ 102) : W_l_walked [.int l] = .ok (.int (wk l)) := by
  have q := List.all_eq_true.mp all_L (l + 40).toNat (List.mem_range.mpr (by omega))
  have e : lz (l + 40).toNat = l := by unfold lz; omega
  unfold chkL at q
  rw [e] at q
  split at q
  · rename_i v ev
    rw [ev, of_decide_eq_true q]
  · cases q
/-! ### intervals -/
def ivH (c n : Int) : Int := if c % 6 = 5 then n / 41 % 81 - 40 else if c % 6 > 0 then wk (n % 41 - 20) + n / 41 % 7 - 3 else wk (n % 41 - 20)
theorem wk_b {l : Int} (h : -40 ≤ l) (k : l ≤ 102) : -80 ≤ wk l ∧ wk l ≤ 200 := by
  unfold wk
  have := hv_b (j := l % 7) (by omega) (by omega)
  omega
theorem interval_run (c n : Int) : W_l_interval [.int c, .int n] = .ok (.tup [.int (n % 41 - 20), .int (ivH c n)]) := by
  unfold W_l_interval
  rw [z_f2]
  show (w_l_interval [some (.int c), some (.int n), none, none]).fin = _
  have s1 : w_l_interval_s1 [some (.int c), some (.int n), none, none] = .nx [some (.int c), some (.int n), some (.int (n % 41 - 20)), none] := by
    simp only [z_bind, z_bindx, z_ofO, z_slot, z_var, z_c, z_fl, z_pl, z_bin, z_un, z_nil, z_cons, z_fn, z_tup, z_lst, z_d0, z_B, z_tru, z_andT, z_orT, z_notT, z_and, z_or, z_not, z_if, z_chain, z_tBl, z_tru1, z_tru2, z_tru3, z_tru4, z_tru5, z_tru6, z_pn, z_ps, z_tInt, z_sl, z_mt, z_call, z_go, z_gox, z_ioC, z_callIO, z_goI, y_non, y_bl, y_int, y_str, y_ty, y_tup, y_nd, y_0, y_1, y_nI, y_sS, y_bS, y_sho, y_shs, y_shz, y_shw, y_boo, y_bos, y_boz, y_bow, y_uwo, y_uws, y_uwz, y_uww, y_fz, y_szo, y_szs, y_szz, y_szw, y_nwo, y_nws, y_nwz, y_nww, y_nzo, y_nzs, y_nzz, y_nzw, y_noo, y_nos, y_noz, y_now, y_a0, y_a1, y_anon, y_abl, y_aint, y_astr, y_aty, y_atup, y_and, y_anI, y_asS, y_abS, z_go_nx, z_go_ret, z_go_brk, z_go_cnt, z_go_ex, z_st, z_stx, z_wnil, z_seq, z_expr, z_ret, z_retV, z_retV1, z_retN, z_brk, z_cnt, z_wif, z_asgT, z_asg, z_tgn, z_tgu, z_tgu1, z_tgu2, z_tg0, z_tg1, z_augL, z_augT, z_augZ, z_mut, z_mutL, z_mutG, z_mutZ, z_put, z_putL, z_for, z_forG, z_loop0, z_loop1, z_loopT, z_loopn, z_loopc, z_loopb, z_loopr, z_loopx, z_while, z_wh, z_whn, z_whb, z_whr, z_iv, z_iv1, z_iv2, z_iv3, z_rg, z_r1, z_r2, z_en, z_en2, z_it8, z_en1, z_zp, z_zp1, z_rv, z_rv1, z_it1, z_it2, z_it3, z_it4, z_it5, z_it6, z_it7, z_itf, z_lc, z_lcG, z_calm, z_vlc0, z_vlc1, z_lcT, z_noO0, z_noO1, z_noS1, z_noS2, z_noS3, z_wipe0, z_wipe1, z_rest0, z_rest1, z_resS, z_she0, z_she1, z_sheS, z_fin1, z_fin2, z_fin3, z_f0, z_f1, z_f2, z_f3, z_f4, z_f5, z_f6, z_f7, z_finI1, z_finI2, z_ioS, t_add, t_addb, t_adds, t_addl, t_sub, t_mul, t_muls, t_mull, t_div, t_mod, t_neg, t_aug, t_augs, t_eq, t_ne, t_lt, t_le, t_gt, t_ge, t_eqi, t_eqs, t_eqb, t_eqn, t_is, t_isn, t_is1, t_is2, t_is3, t_is4, t_is5, t_is6, t_is7, t_is8, t_ixt, t_ixl, t_ixs, t_ixd, t_k1, t_k2, t_in, t_nin, t_ind, t_len1, t_len2, t_len3, t_abs, t_max, t_min, t_maxl, t_minl, t_minT1, t_minT0, t_ltt, z_orV, t_sum, t_all, t_any, t_int1, t_int2, t_int3, t_str, t_list1, t_list2, t_tup1, t_tup2, t_dm, t_ty1, t_ty2, t_ty3, t_ty4, t_ty5, t_ty6, t_ty7, t_inst, t_inst2, t_in1, t_in2, t_tt1, t_tt2, t_tt3, t_find, t_sw, t_part, t_split, t_join, t_upper, t_get, t_get2, t_sl1, t_sl3, t_app, t_ext1, t_ext2, t_clear, t_put, t_pop0, t_mI, t_mB, t_mS, t_dcg1, t_dcg2, t_dci1, t_dci2, t_dcn1, t_dcn2, t_dcx1, t_dcx2, t_kT1, t_kT2, z_disp1, z_dispX, z_dispY1, z_dispY2, z_ixs, z_ixk, z_ixd, z_ixz, z_own, z_own1, z_aug, y_ap, y_ap2, List.getElem?_cons_zero, List.getElem?_cons_succ, List.set_cons_zero, List.set_cons_succ, Option.map_some, Option.map_none, Option.bind_some, decide_true, decide_false, if_true, if_false, Int.reduceLT, Int.reduceLE, Bool.and_true, Bool.true_and, Bool.and_self, Bool.or_true, Bool.or_false, Bool.false_or, Bool.true_or, Bool.not_true, Bool.not_false, Bool.false_eq_true, List.length_cons, List.length_nil, Nat.reduceAdd, Nat.reduceLeDiff, Nat.zero_le, Nat.reduceLT, and_self, and_true, true_and, Bool.and_false, Bool.false_and, ite_true, ite_false, beq_self_eq_true, w_l_interval_s1]; all_goals rfl
  have hw := walk_run (l := n % 41 - 20) (by omega) (by omega)
  simp only [w_l_interval, z_seq, s1, z_go_nx]
  unfold ivH
  by_cases h5 : c % 6 = 5
  · simp only [z_bind, z_bindx, z_ofO, z_slot, z_var, z_c, z_fl, z_pl, z_bin, z_un, z_nil, z_cons, z_fn, z_tup, z_lst, z_d0, z_B, z_tru, z_andT, z_orT, z_notT, z_and, z_or, z_not, z_if, z_chain, z_tBl, z_tru1, z_tru2, z_tru3, z_tru4, z_tru5, z_tru6, z_pn, z_ps, z_tInt, z_sl, z_mt, z_call, z_go, z_gox, z_ioC, z_callIO, z_goI, y_non, y_bl, y_int, y_str, y_ty, y_tup, y_nd, y_0, y_1, y_nI, y_sS, y_bS, y_sho, y_shs, y_shz, y_shw, y_boo, y_bos, y_boz, y_bow, y_uwo, y_uws, y_uwz, y_uww, y_fz, y_szo, y_szs, y_szz, y_szw, y_nwo, y_nws, y_nwz, y_nww, y_nzo, y_nzs, y_nzz, y_nzw, y_noo, y_nos, y_noz, y_now, y_a0, y_a1, y_anon, y_abl, y_aint, y_astr, y_aty, y_atup, y_and, y_anI, y_asS, y_abS, z_go_nx, z_go_ret, z_go_brk, z_go_cnt, z_go_ex, z_st, z_stx, z_wnil, z_seq, z_expr, z_ret, z_retV, z_retV1, z_retN, z_brk, z_cnt, z_wif, z_asgT, z_asg, z_tgn, z_tgu, z_tgu1, z_tgu2, z_tg0, z_tg1, z_augL, z_augT, z_augZ, z_mut, z_mutL, z_mutG, z_mutZ, z_put, z_putL, z_for, z_forG, z_loop0, z_loop1, z_loopT, z_loopn, z_loopc, z_loopb, z_loopr, z_loopx, z_while, z_wh, z_whn, z_whb, z_whr, z_iv, z_iv1, z_iv2, z_iv3, z_rg, z_r1, z_r2, z_en, z_en2, z_it8, z_en1, z_zp, z_zp1, z_rv, z_rv1, z_it1, z_it2, z_it3, z_it4, z_it5, z_it6, z_it7, z_itf, z_lc, z_lcG, z_calm, z_vlc0, z_vlc1, z_lcT, z_noO0, z_noO1, z_noS1, z_noS2, z_noS3, z_wipe0, z_wipe1, z_rest0, z_rest1, z_resS, z_she0, z_she1, z_sheS, z_fin1, z_fin2, z_fin3, z_f0, z_f1, z_f2, z_f3, z_f4, z_f5, z_f6, z_f7, z_finI1, z_finI2, z_ioS, t_add, t_addb, t_adds, t_addl, t_sub, t_mul, t_muls, t_mull, t_div, t_mod, t_neg, t_aug, t_augs, t_eq, t_ne, t_lt, t_le, t_gt, t_ge, t_eqi, t_eqs, t_eqb, t_eqn, t_is, t_isn, t_is1, t_is2, t_is3, t_is4, t_is5, t_is6, t_is7, t_is8, t_ixt, t_ixl, t_ixs, t_ixd, t_k1, t_k2, t_in, t_nin, t_ind, t_len1, t_len2, t_len3, t_abs, t_max, t_min, t_maxl, t_minl, t_minT1, t_minT0, t_ltt, z_orV, t_sum, t_all, t_any, t_int1, t_int2, t_int3, t_str, t_list1, t_list2, t_tup1, t_tup2, t_dm, t_ty1, t_ty2, t_ty3, t_ty4, t_ty5, t_ty6, t_ty7, t_inst, t_inst2, t_in1, t_in2, t_tt1, t_tt2, t_tt3, t_find, t_sw, t_part, t_split, t_join, t_upper, t_get, t_get2, t_sl1, t_sl3, t_app, t_ext1, t_ext2, t_clear, t_put, t_pop0, t_mI, t_mB, t_mS, t_dcg1, t_dcg2, t_dci1, t_dci2, t_dcn1, t_dcn2, t_dcx1, t_dcx2, t_kT1, t_kT2, z_disp1, z_dispX, z_dispY1, z_dispY2, z_ixs, z_ixk, z_ixd, z_ixz, z_own, z_own1, z_aug, y_ap, y_ap2, List.getElem?_cons_zero, List.getElem?_cons_succ, List.set_cons_zero, List.set_cons_succ, Option.map_some, Option.map_none, Option.bind_some, decide_true, decide_false, if_true, if_false, Int.reduceLT, Int.reduceLE, Bool.and_true, Bool.true_and, Bool.and_self, Bool.or_true, Bool.or_false, Bool.false_or, Bool.true_or, Bool.not_true, Bool.not_false, Bool.false_eq_true, List.length_cons, List.length_nil, Nat.reduceAdd, Nat.reduceLeDiff, Nat.zero_le, Nat.reduceLT, and_self, and_true, true_and, Bool.and_false, Bool.false_and, ite_true, ite_false, beq_self_eq_true, w_l_interval_s2, h5]; all_goals rfl
  · by_cases h0 : c % 6 > 0
    · have h0' : 0 < c % 6 := h0
      simp only [z_bind, z_bindx, z_ofO, z_slot, z_var, z_c, z_fl, z_pl, z_bin, z_un, z_nil, z_cons, z_fn, z_tup, z_lst, z_d0, z_B, z_tru, z_andT, z_orT, z_notT, z_and, z_or, z_not, z_if, z_chain, z_tBl, z_tru1, z_tru2, z_tru3, z_tru4, z_tru5, z_tru6, z_pn, z_ps, z_tInt, z_sl, z_mt, z_call, z_go, z_gox, z_ioC, z_callIO, z_goI, y_non, y_bl, y_int, y_str, y_ty, y_tup, y_nd, y_0, y_1, y_nI, y_sS, y_bS, y_sho, y_shs, y_shz, y_shw, y_boo, y_bos, y_boz, y_bow, y_uwo, y_uws, y_uwz, y_uww, y_fz, y_szo, y_szs, y_szz, y_szw, y_nwo, y_nws, y_nwz, y_nww, y_nzo, y_nzs, y_nzz, y_nzw, y_noo, y_nos, y_noz, y_now, y_a0, y_a1, y_anon, y_abl, y_aint, y_astr, y_aty, y_atup, y_and, y_anI, y_asS, y_abS, z_go_nx, z_go_ret, z_go_brk, z_go_cnt, z_go_ex, z_st, z_stx, z_wnil, z_seq, z_expr, z_ret, z_retV, z_retV1, z_retN, z_brk, z_cnt, z_wif, z_asgT, z_asg, z_tgn, z_tgu, z_tgu1, z_tgu2, z_tg0, z_tg1, z_augL, z_augT, z_augZ, z_mut, z_mutL, z_mutG, z_mutZ, z_put, z_putL, z_for, z_forG, z_loop0, z_loop1, z_loopT, z_loopn, z_loopc, z_loopb, z_loopr, z_loopx, z_while, z_wh, z_whn, z_whb, z_whr, z_iv, z_iv1, z_iv2, z_iv3, z_rg, z_r1, z_r2, z_en, z_en2, z_it8, z_en1, z_zp, z_zp1, z_rv, z_rv1, z_it1, z_it2, z_it3, z_it4, z_it5, z_it6, z_it7, z_itf, z_lc, z_lcG, z_calm, z_vlc0, z_vlc1, z_lcT, z_noO0, z_noO1, z_noS1, z_noS2, z_noS3, z_wipe0, z_wipe1, z_rest0, z_rest1, z_resS, z_she0, z_she1, z_sheS, z_fin1, z_fin2, z_fin3, z_f0, z_f1, z_f2, z_f3, z_f4, z_f5, z_f6, z_f7, z_finI1, z_finI2, z_ioS, t_add, t_addb, t_adds, t_addl, t_sub, t_mul, t_muls, t_mull, t_div, t_mod, t_neg, t_aug, t_augs, t_eq, t_ne, t_lt, t_le, t_gt, t_ge, t_eqi, t_eqs, t_eqb, t_eqn, t_is, t_isn, t_is1, t_is2, t_is3, t_is4, t_is5, t_is6, t_is7, t_is8, t_ixt, t_ixl, t_ixs, t_ixd, t_k1, t_k2, t_in, t_nin, t_ind, t_len1, t_len2, t_len3, t_abs, t_max, t_min, t_maxl, t_minl, t_minT1, t_minT0, t_ltt, z_orV, t_sum, t_all, t_any, t_int1, t_int2, t_int3, t_str, t_list1, t_list2, t_tup1, t_tup2, t_dm, t_ty1, t_ty2, t_ty3, t_ty4, t_ty5, t_ty6, t_ty7, t_inst, t_inst2, t_in1, t_in2, t_tt1, t_tt2, t_tt3, t_find, t_sw, t_part, t_split, t_join, t_upper, t_get, t_get2, t_sl1, t_sl3, t_app, t_ext1, t_ext2, t_clear, t_put, t_pop0, t_mI, t_mB, t_mS, t_dcg1, t_dcg2, t_dci1, t_dci2, t_dcn1, t_dcn2, t_dcx1, t_dcx2, t_kT1, t_kT2, z_disp1, z_dispX, z_dispY1, z_dispY2, z_ixs, z_ixk, z_ixd, z_ixz, z_own, z_own1, z_aug, y_ap, y_ap2, List.getElem?_cons_zero, List.getElem?_cons_succ, List.set_cons_zero, List.set_cons_succ, Option.map_some, Option.map_none, Option.bind_some, decide_true, decide_false, if_true, if_false, Int.reduceLT, Int.reduceLE, Bool.and_true, Bool.true_and, Bool.and_self, Bool.or_true, Bool.or_false, Bool.false_or, Bool.true_or, Bool.not_true, Bool.not_false, Bool.false_eq_true, List.length_cons, List.length_nil, Nat.reduceAdd, Nat.reduceLeDiff, Nat.zero_le, Nat.reduceLT, and_self, and_true, true_and, Bool.and_false, Bool.false_and, ite_true, ite_false, beq_self_eq_true, w_l_interval_s2, w_l_interval_s3, w_l_interval_s4, h5, h0, h0', hw]; all_goals rfl
    · have h0' : ¬ 0 < c % 6 := h0
      simp only [z_bind, z_bindx, z_ofO, z_slot, z_var, z_c, z_fl, z_pl, z_bin, z_un, z_nil, z_cons, z_fn, z_tup, z_lst, z_d0, z_B, z_tru, z_andT, z_orT, z_notT, z_and, z_or, z_not, z_if, z_chain, z_tBl, z_tru1, z_tru2, z_tru3, z_tru4, z_tru5, z_tru6, z_pn, z_ps, z_tInt, z_sl, z_mt, z_call, z_go, z_gox, z_ioC, z_callIO, z_goI, y_non, y_bl, y_int, y_str, y_ty, y_tup, y_nd, y_0, y_1, y_nI, y_sS, y_bS, y_sho, y_shs, y_shz, y_shw, y_boo, y_bos, y_boz, y_bow, y_uwo, y_uws, y_uwz, y_uww, y_fz, y_szo, y_szs, y_szz, y_szw, y_nwo, y_nws, y_nwz, y_nww, y_nzo, y_nzs, y_nzz, y_nzw, y_noo, y_nos, y_noz, y_now, y_a0, y_a1, y_anon, y_abl, y_aint, y_astr, y_aty, y_atup, y_and, y_anI, y_asS, y_abS, z_go_nx, z_go_ret, z_go_brk, z_go_cnt, z_go_ex, z_st, z_stx, z_wnil, z_seq, z_expr, z_ret, z_retV, z_retV1, z_retN, z_brk, z_cnt, z_wif, z_asgT, z_asg, z_tgn, z_tgu, z_tgu1, z_tgu2, z_tg0, z_tg1, z_augL, z_augT, z_augZ, z_mut, z_mutL, z_mutG, z_mutZ, z_put, z_putL, z_for, z_forG, z_loop0, z_loop1, z_loopT, z_loopn, z_loopc, z_loopb, z_loopr, z_loopx, z_while, z_wh, z_whn, z_whb, z_whr, z_iv, z_iv1, z_iv2, z_iv3, z_rg, z_r1, z_r2, z_en, z_en2, z_it8, z_en1, z_zp, z_zp1, z_rv, z_rv1, z_it1, z_it2, z_it3, z_it4, z_it5, z_it6, z_it7, z_itf, z_lc, z_lcG, z_calm, z_vlc0, z_vlc1, z_lcT, z_noO0, z_noO1, z_noS1, z_noS2, z_noS3, z_wipe0, z_wipe1, z_rest0, z_rest1, z_resS, z_she0, z_she1, z_sheS, z_fin1, z_fin2, z_fin3, z_f0, z_f1, z_f2, z_f3, z_f4, z_f5, z_f6, z_f7, z_finI1, z_finI2, z_ioS, t_add, t_addb, t_adds, t_addl, t_sub, t_mul, t_muls, t_mull, t_div, t_mod, t_neg, t_aug, t_augs, t_eq, t_ne, t_lt, t_le, t_gt, t_ge, t_eqi, t_eqs, t_eqb, t_eqn, t_is, t_isn, t_is1, t_is2, t_is3, t_is4, t_is5, t_is6, t_is7, t_is8, t_ixt, t_ixl, t_ixs, t_ixd, t_k1, t_k2, t_in, t_nin, t_ind, t_len1, t_len2, t_len3, t_abs, t_max, t_min, t_maxl, t_minl, t_minT1, t_minT0, t_ltt, z_orV, t_sum, t_all, t_any, t_int1, t_int2, t_int3, t_str, t_list1, t_list2, t_tup1, t_tup2, t_dm, t_ty1, t_ty2, t_ty3, t_ty4, t_ty5, t_ty6, t_ty7, t_inst, t_inst2, t_in1, t_in2, t_tt1, t_tt2, t_tt3, t_find, t_sw, t_part, t_split, t_join, t_upper, t_get, t_get2, t_sl1, t_sl3, t_app, t_ext1, t_ext2, t_clear, t_put, t_pop0, t_mI, t_mB, t_mS, t_dcg1, t_dcg2, t_dci1, t_dci2, t_dcn1, t_dcn2, t_dcx1, t_dcx2, t_kT1, t_kT2, z_disp1, z_dispX, z_dispY1, z_dispY2, z_ixs, z_ixk, z_ixd, z_ixz, z_own, z_own1, z_aug, y_ap, y_ap2, List.getElem?_cons_zero, List.getElem?_cons_succ, List.set_cons_zero, List.set_cons_succ, Option.map_some, Option.map_none, Option.bind_some, decide_true, decide_false, if_true, if_false, Int.reduceLT, Int.reduceLE, Bool.and_true, Bool.true_and, Bool.and_self, Bool.or_true, Bool.or_false, Bool.false_or, Bool.true_or, Bool.not_true, Bool.not_false, Bool.false_eq_true, List.length_cons, List.length_nil, Nat.reduceAdd, Nat.reduceLeDiff, Nat.zero_le, Nat.reduceLT, and_self, and_true, true_and, Bool.and_false, Bool.false_and, ite_true, ite_false, beq_self_eq_true, w_l_interval_s2, w_l_interval_s3, w_l_interval_s4, h5, h0, h0', hw]; all_goals rfl
theorem whole_run (x : Int) : W_is_whole [.int x] = .ok (.bl true) := by kernel_rfl
theorem among_run (x a b : Int) : W_is_among [.int x, .int a, .int b] = .ok (.bl (decide (a ≤ x) && decide (x ≤ b))) := by
  unfold W_is_among
  rw [z_f3]
  show (w_is_among [some (.int x), some (.int a), some (.int b)]).fin = _
  by_cases h1 : a ≤ x <;> by_cases h2 : x ≤ b <;> (simp only [z_bind, z_bindx, z_ofO, z_slot, z_var, z_c, z_fl, z_pl, z_bin, z_un, z_nil, z_cons, z_fn, z_tup, z_lst, z_d0, z_B, z_tru, z_andT, z_orT, z_notT, z_and, z_or, z_not, z_if, z_chain, z_tBl, z_tru1, z_tru2, z_tru3, z_tru4, z_tru5, z_tru6, z_pn, z_ps, z_tInt, z_sl, z_mt, z_call, z_go, z_gox, z_ioC, z_callIO, z_goI, y_non, y_bl, y_int, y_str, y_ty, y_tup, y_nd, y_0, y_1, y_nI, y_sS, y_bS, y_sho, y_shs, y_shz, y_shw, y_boo, y_bos, y_boz, y_bow, y_uwo, y_uws, y_uwz, y_uww, y_fz, y_szo, y_szs, y_szz, y_szw, y_nwo, y_nws, y_nwz, y_nww, y_nzo, y_nzs, y_nzz, y_nzw, y_noo, y_nos, y_noz, y_now, y_a0, y_a1, y_anon, y_abl, y_aint, y_astr, y_aty, y_atup, y_and, y_anI, y_asS, y_abS, z_go_nx, z_go_ret, z_go_brk, z_go_cnt, z_go_ex, z_st, z_stx, z_wnil, z_seq, z_expr, z_ret, z_retV, z_retV1, z_retN, z_brk, z_cnt, z_wif, z_asgT, z_asg, z_tgn, z_tgu, z_tgu1, z_tgu2, z_tg0, z_tg1, z_augL, z_augT, z_augZ, z_mut, z_mutL, z_mutG, z_mutZ, z_put, z_putL, z_for, z_forG, z_loop0, z_loop1, z_loopT, z_loopn, z_loopc, z_loopb, z_loopr, z_loopx, z_while, z_wh, z_whn, z_whb, z_whr, z_iv, z_iv1, z_iv2, z_iv3, z_rg, z_r1, z_r2, z_en, z_en2, z_it8, z_en1, z_zp, z_zp1, z_rv, z_rv1, z_it1, z_it2, z_it3, z_it4, z_it5, z_it6, z_it7, z_itf, z_lc, z_lcG, z_calm, z_vlc0, z_vlc1, z_lcT, z_noO0, z_noO1, z_noS1, z_noS2, z_noS3, z_wipe0, z_wipe1, z_rest0, z_rest1, z_resS, z_she0, z_she1, z_sheS, z_fin1, z_fin2, z_fin3, z_f0, z_f1, z_f2, z_f3, z_f4, z_f5, z_f6, z_f7, z_finI1, z_finI2, z_ioS, t_add, t_addb, t_adds, t_addl, t_sub, t_mul, t_muls, t_mull, t_div, t_mod, t_neg, t_aug, t_augs, t_eq, t_ne, t_lt, t_le, t_gt, t_ge, t_eqi, t_eqs, t_eqb, t_eqn, t_is, t_isn, t_is1, t_is2, t_is3, t_is4, t_is5, t_is6, t_is7, t_is8, t_ixt, t_ixl, t_ixs, t_ixd, t_k1, t_k2, t_in, t_nin, t_ind, t_len1, t_len2, t_len3, t_abs, t_max, t_min, t_maxl, t_minl, t_minT1, t_minT0, t_ltt, z_orV, t_sum, t_all, t_any, t_int1, t_int2, t_int3, t_str, t_list1, t_list2, t_tup1, t_tup2, t_dm, t_ty1, t_ty2, t_ty3, t_ty4, t_ty5, t_ty6, t_ty7, t_inst, t_inst2, t_in1, t_in2, t_tt1, t_tt2, t_tt3, t_find, t_sw, t_part, t_split, t_join, t_upper, t_get, t_get2, t_sl1, t_sl3, t_app, t_ext1, t_ext2, t_clear, t_put, t_pop0, t_mI, t_mB, t_mS, t_dcg1, t_dcg2, t_dci1, t_dci2, t_dcn1, t_dcn2, t_dcx1, t_dcx2, t_kT1, t_kT2, z_disp1, z_dispX, z_dispY1, z_dispY2, z_ixs, z_ixk, z_ixd, z_ixz, z_own, z_own1, z_aug, y_ap, y_ap2, List.getElem?_cons_zero, List.getElem?_cons_succ, List.set_cons_zero, List.set_cons_succ, Option.map_some, Option.map_none, Option.bind_some, decide_true, decide_false, if_true, if_false, Int.reduceLT, Int.reduceLE, Bool.and_true, Bool.true_and, Bool.and_self, Bool.or_true, Bool.or_false, Bool.false_or, Bool.true_or, Bool.not_true, Bool.not_false, Bool.false_eq_true, List.length_cons, List.length_nil, Nat.reduceAdd, Nat.reduceLeDiff, Nat.zero_le, Nat.reduceLT, and_self, and_true, true_and, Bool.and_false, Bool.false_and, ite_true, ite_false, beq_self_eq_true, w_is_among, whole_run, h1, h2]; all_goals rfl)
def inP (a b c : Int) : Bool := (decide (0 ≤ a) && decide (a ≤ 6)) && ((decide (-2 ≤ b) && decide (b ≤ 2)) && (decide (0 ≤ c) && decide (c ≤ 8)))
theorem isp_run (a b c : Int) : W_is_pitch [.tup [.int a, .int b, .int c]] = .ok (.bl (inP a b c)) := by
  unfold W_is_pitch
  rw [z_f1]
  show (w_is_pitch [some (.tup [.int a, .int b, .int c]), none, none, none]).fin = _
  have s1 : w_is_pitch_s1 [some (.tup [.int a, .int b, .int c]), none, none, none] = .nx [some (.tup [.int a, .int b, .int c]), none, none, none] := by kernel_rfl
  simp only [w_is_pitch, z_seq, s1, z_go_nx]
  have s2 : wAsg (.tu [(.nm 1), (.nm 2), (.nm 3)]) (vFl [0] (vVar 0)) [some (.tup [.int a, .int b, .int c]), none, none, none] = .nx [some (.tup [.int a, .int b, .int c]), some (.int a), some (.int b), some (.int c)] := by kernel_rfl
  rw [s2, z_go_nx]
  have e2 : (0 - 2 : Int) = -2 := by decide
  unfold inP
  cases h1 : (decide (0 ≤ a) && decide (a ≤ 6)) with
  | false => simp only [z_bind, z_bindx, z_ofO, z_slot, z_var, z_c, z_fl, z_pl, z_bin, z_un, z_nil, z_cons, z_fn, z_tup, z_lst, z_d0, z_B, z_tru, z_andT, z_orT, z_notT, z_and, z_or, z_not, z_if, z_chain, z_tBl, z_tru1, z_tru2, z_tru3, z_tru4, z_tru5, z_tru6, z_pn, z_ps, z_tInt, z_sl, z_mt, z_call, z_go, z_gox, z_ioC, z_callIO, z_goI, y_non, y_bl, y_int, y_str, y_ty, y_tup, y_nd, y_0, y_1, y_nI, y_sS, y_bS, y_sho, y_shs, y_shz, y_shw, y_boo, y_bos, y_boz, y_bow, y_uwo, y_uws, y_uwz, y_uww, y_fz, y_szo, y_szs, y_szz, y_szw, y_nwo, y_nws, y_nwz, y_nww, y_nzo, y_nzs, y_nzz, y_nzw, y_noo, y_nos, y_noz, y_now, y_a0, y_a1, y_anon, y_abl, y_aint, y_astr, y_aty, y_atup, y_and, y_anI, y_asS, y_abS, z_go_nx, z_go_ret, z_go_brk, z_go_cnt, z_go_ex, z_st, z_stx, z_wnil, z_seq, z_expr, z_ret, z_retV, z_retV1, z_retN, z_brk, z_cnt, z_wif, z_asgT, z_asg, z_tgn, z_tgu, z_tgu1, z_tgu2, z_tg0, z_tg1, z_augL, z_augT, z_augZ, z_mut, z_mutL, z_mutG, z_mutZ, z_put, z_putL, z_for, z_forG, z_loop0, z_loop1, z_loopT, z_loopn, z_loopc, z_loopb, z_loopr, z_loopx, z_while, z_wh, z_whn, z_whb, z_whr, z_iv, z_iv1, z_iv2, z_iv3, z_rg, z_r1, z_r2, z_en, z_en2, z_it8, z_en1, z_zp, z_zp1, z_rv, z_rv1, z_it1, z_it2, z_it3, z_it4, z_it5, z_it6, z_it7, z_itf, z_lc, z_lcG, z_calm, z_vlc0, z_vlc1, z_lcT, z_noO0, z_noO1, z_noS1, z_noS2, z_noS3, z_wipe0, z_wipe1, z_rest0, z_rest1, z_resS, z_she0, z_she1, z_sheS, z_fin1, z_fin2, z_fin3, z_f0, z_f1, z_f2, z_f3, z_f4, z_f5, z_f6, z_f7, z_finI1, z_finI2, z_ioS, t_add, t_addb, t_adds, t_addl, t_sub, t_mul, t_muls, t_mull, t_div, t_mod, t_neg, t_aug, t_augs, t_eq, t_ne, t_lt, t_le, t_gt, t_ge, t_eqi, t_eqs, t_eqb, t_eqn, t_is, t_isn, t_is1, t_is2, t_is3, t_is4, t_is5, t_is6, t_is7, t_is8, t_ixt, t_ixl, t_ixs, t_ixd, t_k1, t_k2, t_in, t_nin, t_ind, t_len1, t_len2, t_len3, t_abs, t_max, t_min, t_maxl, t_minl, t_minT1, t_minT0, t_ltt, z_orV, t_sum, t_all, t_any, t_int1, t_int2, t_int3, t_str, t_list1, t_list2, t_tup1, t_tup2, t_dm, t_ty1, t_ty2, t_ty3, t_ty4, t_ty5, t_ty6, t_ty7, t_inst, t_inst2, t_in1, t_in2, t_tt1, t_tt2, t_tt3, t_find, t_sw, t_part, t_split, t_join, t_upper, t_get, t_get2, t_sl1, t_sl3, t_app, t_ext1, t_ext2, t_clear, t_put, t_pop0, t_mI, t_mB, t_mS, t_dcg1, t_dcg2, t_dci1, t_dci2, t_dcn1, t_dcn2, t_dcx1, t_dcx2, t_kT1, t_kT2, z_disp1, z_dispX, z_dispY1, z_dispY2, z_ixs, z_ixk, z_ixd, z_ixz, z_own, z_own1, z_aug, y_ap, y_ap2, List.getElem?_cons_zero, List.getElem?_cons_succ, List.set_cons_zero, List.set_cons_succ, Option.map_some, Option.map_none, Option.bind_some, decide_true, decide_false, if_true, if_false, Int.reduceLT, Int.reduceLE, Bool.and_true, Bool.true_and, Bool.and_self, Bool.or_true, Bool.or_false, Bool.false_or, Bool.true_or, Bool.not_true, Bool.not_false, Bool.false_eq_true, List.length_cons, List.length_nil, Nat.reduceAdd, Nat.reduceLeDiff, Nat.zero_le, Nat.reduceLT, and_self, and_true, true_and, Bool.and_false, Bool.false_and, ite_true, ite_false, beq_self_eq_true, w_is_pitch_s2, w_is_pitch_s3, among_run, h1, e2]; all_goals rfl
  | true =>
    cases h2 : (decide (-2 ≤ b) && decide (b ≤ 2)) with
    | false => simp only [z_bind, z_bindx, z_ofO, z_slot, z_var, z_c, z_fl, z_pl, z_bin, z_un, z_nil, z_cons, z_fn, z_tup, z_lst, z_d0, z_B, z_tru, z_andT, z_orT, z_notT, z_and, z_or, z_not, z_if, z_chain, z_tBl, z_tru1, z_tru2, z_tru3, z_tru4, z_tru5, z_tru6, z_pn, z_ps, z_tInt, z_sl, z_mt, z_call, z_go, z_gox, z_ioC, z_callIO, z_goI, y_non, y_bl, y_int, y_str, y_ty, y_tup, y_nd, y_0, y_1, y_nI, y_sS, y_bS, y_sho, y_shs, y_shz, y_shw, y_boo, y_bos, y_boz, y_bow, y_uwo, y_uws, y_uwz, y_uww, y_fz, y_szo, y_szs, y_szz, y_szw, y_nwo, y_nws, y_nwz, y_nww, y_nzo, y_nzs, y_nzz, y_nzw, y_noo, y_nos, y_noz, y_now, y_a0, y_a1, y_anon, y_abl, y_aint, y_astr, y_aty, y_atup, y_and, y_anI, y_asS, y_abS, z_go_nx, z_go_ret, z_go_brk, z_go_cnt, z_go_ex, z_st, z_stx, z_wnil, z_seq, z_expr, z_ret, z_retV, z_retV1, z_retN, z_brk, z_cnt, z_wif, z_asgT, z_asg, z_tgn, z_tgu, z_tgu1, z_tgu2, z_tg0, z_tg1, z_augL, z_augT, z_augZ, z_mut, z_mutL, z_mutG, z_mutZ, z_put, z_putL, z_for, z_forG, z_loop0, z_loop1, z_loopT, z_loopn, z_loopc, z_loopb, z_loopr, z_loopx, z_while, z_wh, z_whn, z_whb, z_whr, z_iv, z_iv1, z_iv2, z_iv3, z_rg, z_r1, z_r2, z_en, z_en2, z_it8, z_en1, z_zp, z_zp1, z_rv, z_rv1, z_it1, z_it2, z_it3, z_it4, z_it5, z_it6, z_it7, z_itf, z_lc, z_lcG, z_calm, z_vlc0, z_vlc1, z_lcT, z_noO0, z_noO1, z_noS1, z_noS2, z_noS3, z_wipe0, z_wipe1, z_rest0, z_rest1, z_resS, z_she0, z_she1, z_sheS, z_fin1, z_fin2, z_fin3, z_f0, z_f1, z_f2, z_f3, z_f4, z_f5, z_f6, z_f7, z_finI1, z_finI2, z_ioS, t_add, t_addb, t_adds, t_addl, t_sub, t_mul, t_muls, t_mull, t_div, t_mod, t_neg, t_aug, t_augs, t_eq, t_ne, t_lt, t_le, t_gt, t_ge, t_eqi, t_eqs, t_eqb, t_eqn, t_is, t_isn, t_is1, t_is2, t_is3, t_is4, t_is5, t_is6, t_is7, t_is8, t_ixt, t_ixl, t_ixs, t_ixd, t_k1, t_k2, t_in, t_nin, t_ind, t_len1, t_len2, t_len3, t_abs, t_max, t_min, t_maxl, t_minl, t_minT1, t_minT0, t_ltt, z_orV, t_sum, t_all, t_any, t_int1, t_int2, t_int3, t_str, t_list1, t_list2, t_tup1, t_tup2, t_dm, t_ty1, t_ty2, t_ty3, t_ty4, t_ty5, t_ty6, t_ty7, t_inst, t_inst2, t_in1, t_in2, t_tt1, t_tt2, t_tt3, t_find, t_sw, t_part, t_split, t_join, t_upper, t_get, t_get2, t_sl1, t_sl3, t_app, t_ext1, t_ext2, t_clear, t_put, t_pop0, t_mI, t_mB, t_mS, t_dcg1, t_dcg2, t_dci1, t_dci2, t_dcn1, t_dcn2, t_dcx1, t_dcx2, t_kT1, t_kT2, z_disp1, z_dispX, z_dispY1, z_dispY2, z_ixs, z_ixk, z_ixd, z_ixz, z_own, z_own1, z_aug, y_ap, y_ap2, List.getElem?_cons_zero, List.getElem?_cons_succ, List.set_cons_zero, List.set_cons_succ, Option.map_some, Option.map_none, Option.bind_some, decide_true, decide_false, if_true, if_false, Int.reduceLT, Int.reduceLE, Bool.and_true, Bool.true_and, Bool.and_self, Bool.or_true, Bool.or_false, Bool.false_or, Bool.true_or, Bool.not_true, Bool.not_false, Bool.false_eq_true, List.length_cons, List.length_nil, Nat.reduceAdd, Nat.reduceLeDiff, Nat.zero_le, Nat.reduceLT, and_self, and_true, true_and, Bool.and_false, Bool.false_and, ite_true, ite_false, beq_self_eq_true, w_is_pitch_s2, w_is_pitch_s3, among_run, h1, h2, e2]; all_goals rfl
    | true => simp only [z_bind, z_bindx, z_ofO, z_slot, z_var, z_c, z_fl, z_pl, z_bin, z_un, z_nil, z_cons, z_fn, z_tup, z_lst, z_d0, z_B, z_tru, z_andT, z_orT, z_notT, z_and, z_or, z_not, z_if, z_chain, z_tBl, z_tru1, z_tru2, z_tru3, z_tru4, z_tru5, z_tru6, z_pn, z_ps, z_tInt, z_sl, z_mt, z_call, z_go, z_gox, z_ioC, z_callIO, z_goI, y_non, y_bl, y_int, y_str, y_ty, y_tup, y_nd, y_0, y_1, y_nI, y_sS, y_bS, y_sho, y_shs, y_shz, y_shw, y_boo, y_bos, y_boz, y_bow, y_uwo, y_uws, y_uwz, y_uww, y_fz, y_szo, y_szs, y_szz, y_szw, y_nwo, y_nws, y_nwz, y_nww, y_nzo, y_nzs, y_nzz, y_nzw, y_noo, y_nos, y_noz, y_now, y_a0, y_a1, y_anon, y_abl, y_aint, y_astr, y_aty, y_atup, y_and, y_anI, y_asS, y_abS, z_go_nx, z_go_ret, z_go_brk, z_go_cnt, z_go_ex, z_st, z_stx, z_wnil, z_seq, z_expr, z_ret, z_retV, z_retV1, z_retN, z_brk, z_cnt, z_wif, z_asgT, z_asg, z_tgn, z_tgu, z_tgu1, z_tgu2, z_tg0, z_tg1, z_augL, z_augT, z_augZ, z_mut, z_mutL, z_mutG, z_mutZ, z_put, z_putL, z_for, z_forG, z_loop0, z_loop1, z_loopT, z_loopn, z_loopc, z_loopb, z_loopr, z_loopx, z_while, z_wh, z_whn, z_whb, z_whr, z_iv, z_iv1, z_iv2, z_iv3, z_rg, z_r1, z_r2, z_en, z_en2, z_it8, z_en1, z_zp, z_zp1, z_rv, z_rv1, z_it1, z_it2, z_it3, z_it4, z_it5, z_it6, z_it7, z_itf, z_lc, z_lcG, z_calm, z_vlc0, z_vlc1, z_lcT, z_noO0, z_noO1, z_noS1, z_noS2, z_noS3, z_wipe0, z_wipe1, z_rest0, z_rest1, z_resS, z_she0, z_she1, z_sheS, z_fin1, z_fin2, z_fin3, z_f0, z_f1, z_f2, z_f3, z_f4, z_f5, z_f6, z_f7, z_finI1, z_finI2, z_ioS, t_add, t_addb, t_adds, t_addl, t_sub, t_mul, t_muls, t_mull, t_div, t_mod, t_neg, t_aug, t_augs, t_eq, t_ne, t_lt, t_le, t_gt, t_ge, t_eqi, t_eqs, t_eqb, t_eqn, t_is, t_isn, t_is1, t_is2, t_is3, t_is4, t_is5, t_is6, t_is7, t_is8, t_ixt, t_ixl, t_ixs, t_ixd, t_k1, t_k2, t_in, t_nin, t_ind, t_len1, t_len2, t_len3, t_abs, t_max, t_min, t_maxl, t_minl, t_minT1, t_minT0, t_ltt, z_orV, t_sum, t_all, t_any, t_int1, t_int2, t_int3, t_str, t_list1, t_list2, t_tup1, t_tup2, t_dm, t_ty1, t_ty2, t_ty3, t_ty4, t_ty5, t_ty6, t_ty7, t_inst, t_inst2, t_in1, t_in2, t_tt1, t_tt2, t_tt3, t_find, t_sw, t_part, t_split, t_join, t_upper, t_get, t_get2, t_sl1, t_sl3, t_app, t_ext1, t_ext2, t_clear, t_put, t_pop0, t_mI, t_mB, t_mS, t_dcg1, t_dcg2, t_dci1, t_dci2, t_dcn1, t_dcn2, t_dcx1, t_dcx2, t_kT1, t_kT2, z_disp1, z_dispX, z_dispY1, z_dispY2, z_ixs, z_ixk, z_ixd, z_ixz, z_own, z_own1, z_aug, y_ap, y_ap2, List.getElem?_cons_zero, List.getElem?_cons_succ, List.set_cons_zero, List.set_cons_succ, Option.map_some, Option.map_none, Option.bind_some, decide_true, decide_false, if_true, if_false, Int.reduceLT, Int.reduceLE, Bool.and_true, Bool.true_and, Bool.and_self, Bool.or_true, Bool.or_false, Bool.false_or, Bool.true_or, Bool.not_true, Bool.not_false, Bool.false_eq_true, List.length_cons, List.length_nil, Nat.reduceAdd, Nat.reduceLeDiff, Nat.zero_le, Nat.reduceLT, and_self, and_true, true_and, Bool.and_false, Bool.false_and, ite_true, ite_false, beq_self_eq_true, w_is_pitch_s2, w_is_pitch_s3, among_run, h1, h2, e2]; all_goals rfl
theorem line_run {p : Pt} (h : p.ok) : W_line [p.t] = .ok (.int (7 * p.o + p.s)) := by
  unfold W_line
  rw [z_f1]
  show (w_line [some p.t]).fin = _
  have m : okMul 7 p.o = true := okMul_l (by unfold Pt.ok at h; omega)
  have i2 : tIx (.tup [.int p.s, .int p.l, .int p.o]) (.int 2) = some (.int p.o) := rfl
  have i0 : tIx (.tup [.int p.s, .int p.l, .int p.o]) (.int 0) = some (.int p.s) := rfl
  simp only [z_bind, z_bindx, z_ofO, z_slot, z_var, z_c, z_fl, z_pl, z_bin, z_un, z_nil, z_cons, z_fn, z_tup, z_lst, z_d0, z_B, z_tru, z_andT, z_orT, z_notT, z_and, z_or, z_not, z_if, z_chain, z_tBl, z_tru1, z_tru2, z_tru3, z_tru4, z_tru5, z_tru6, z_pn, z_ps, z_tInt, z_sl, z_mt, z_call, z_go, z_gox, z_ioC, z_callIO, z_goI, y_non, y_bl, y_int, y_str, y_ty, y_tup, y_nd, y_0, y_1, y_nI, y_sS, y_bS, y_sho, y_shs, y_shz, y_shw, y_boo, y_bos, y_boz, y_bow, y_uwo, y_uws, y_uwz, y_uww, y_fz, y_szo, y_szs, y_szz, y_szw, y_nwo, y_nws, y_nwz, y_nww, y_nzo, y_nzs, y_nzz, y_nzw, y_noo, y_nos, y_noz, y_now, y_a0, y_a1, y_anon, y_abl, y_aint, y_astr, y_aty, y_atup, y_and, y_anI, y_asS, y_abS, z_go_nx, z_go_ret, z_go_brk, z_go_cnt, z_go_ex, z_st, z_stx, z_wnil, z_seq, z_expr, z_ret, z_retV, z_retV1, z_retN, z_brk, z_cnt, z_wif, z_asgT, z_asg, z_tgn, z_tgu, z_tgu1, z_tgu2, z_tg0, z_tg1, z_augL, z_augT, z_augZ, z_mut, z_mutL, z_mutG, z_mutZ, z_put, z_putL, z_for, z_forG, z_loop0, z_loop1, z_loopT, z_loopn, z_loopc, z_loopb, z_loopr, z_loopx, z_while, z_wh, z_whn, z_whb, z_whr, z_iv, z_iv1, z_iv2, z_iv3, z_rg, z_r1, z_r2, z_en, z_en2, z_it8, z_en1, z_zp, z_zp1, z_rv, z_rv1, z_it1, z_it2, z_it3, z_it4, z_it5, z_it6, z_it7, z_itf, z_lc, z_lcG, z_calm, z_vlc0, z_vlc1, z_lcT, z_noO0, z_noO1, z_noS1, z_noS2, z_noS3, z_wipe0, z_wipe1, z_rest0, z_rest1, z_resS, z_she0, z_she1, z_sheS, z_fin1, z_fin2, z_fin3, z_f0, z_f1, z_f2, z_f3, z_f4, z_f5, z_f6, z_f7, z_finI1, z_finI2, z_ioS, t_add, t_addb, t_adds, t_addl, t_sub, t_mul, t_muls, t_mull, t_div, t_mod, t_neg, t_aug, t_augs, t_eq, t_ne, t_lt, t_le, t_gt, t_ge, t_eqi, t_eqs, t_eqb, t_eqn, t_is, t_isn, t_is1, t_is2, t_is3, t_is4, t_is5, t_is6, t_is7, t_is8, t_ixt, t_ixl, t_ixs, t_ixd, t_k1, t_k2, t_in, t_nin, t_ind, t_len1, t_len2, t_len3, t_abs, t_max, t_min, t_maxl, t_minl, t_minT1, t_minT0, t_ltt, z_orV, t_sum, t_all, t_any, t_int1, t_int2, t_int3, t_str, t_list1, t_list2, t_tup1, t_tup2, t_dm, t_ty1, t_ty2, t_ty3, t_ty4, t_ty5, t_ty6, t_ty7, t_inst, t_inst2, t_in1, t_in2, t_tt1, t_tt2, t_tt3, t_find, t_sw, t_part, t_split, t_join, t_upper, t_get, t_get2, t_sl1, t_sl3, t_app, t_ext1, t_ext2, t_clear, t_put, t_pop0, t_mI, t_mB, t_mS, t_dcg1, t_dcg2, t_dci1, t_dci2, t_dcn1, t_dcn2, t_dcx1, t_dcx2, t_kT1, t_kT2, z_disp1, z_dispX, z_dispY1, z_dispY2, z_ixs, z_ixk, z_ixd, z_ixz, z_own, z_own1, z_aug, y_ap, y_ap2, List.getElem?_cons_zero, List.getElem?_cons_succ, List.set_cons_zero, List.set_cons_succ, Option.map_some, Option.map_none, Option.bind_some, decide_true, decide_false, if_true, if_false, Int.reduceLT, Int.reduceLE, Bool.and_true, Bool.true_and, Bool.and_self, Bool.or_true, Bool.or_false, Bool.false_or, Bool.true_or, Bool.not_true, Bool.not_false, Bool.false_eq_true, List.length_cons, List.length_nil, Nat.reduceAdd, Nat.reduceLeDiff, Nat.zero_le, Nat.reduceLT, and_self, and_true, true_and, Bool.and_false, Bool.false_and, ite_true, ite_false, beq_self_eq_true, w_line, Pt.t, m, i2, i0]
  all_goals rfl
theorem height_run {p : Pt} (h : p.ok) : W_height [p.t] = .ok (.int (12 * p.o + hv p.s + p.l)) := by
  unfold W_height
  rw [z_f1]
  show (w_height [some p.t]).fin = _
  have m : okMul 12 p.o = true := okMul_l (by unfold Pt.ok at h; omega)
  have i2 : tIx (.tup [.int p.s, .int p.l, .int p.o]) (.int 2) = some (.int p.o) := rfl
  have i1 : tIx (.tup [.int p.s, .int p.l, .int p.o]) (.int 1) = some (.int p.l) := rfl
  have i0 : tIx (.tup [.int p.s, .int p.l, .int p.o]) (.int 0) = some (.int p.s) := rfl
  have hh := hv_at h.1 h.2.1
  simp only [z_bind, z_bindx, z_ofO, z_slot, z_var, z_c, z_fl, z_pl, z_bin, z_un, z_nil, z_cons, z_fn, z_tup, z_lst, z_d0, z_B, z_tru, z_andT, z_orT, z_notT, z_and, z_or, z_not, z_if, z_chain, z_tBl, z_tru1, z_tru2, z_tru3, z_tru4, z_tru5, z_tru6, z_pn, z_ps, z_tInt, z_sl, z_mt, z_call, z_go, z_gox, z_ioC, z_callIO, z_goI, y_non, y_bl, y_int, y_str, y_ty, y_tup, y_nd, y_0, y_1, y_nI, y_sS, y_bS, y_sho, y_shs, y_shz, y_shw, y_boo, y_bos, y_boz, y_bow, y_uwo, y_uws, y_uwz, y_uww, y_fz, y_szo, y_szs, y_szz, y_szw, y_nwo, y_nws, y_nwz, y_nww, y_nzo, y_nzs, y_nzz, y_nzw, y_noo, y_nos, y_noz, y_now, y_a0, y_a1, y_anon, y_abl, y_aint, y_astr, y_aty, y_atup, y_and, y_anI, y_asS, y_abS, z_go_nx, z_go_ret, z_go_brk, z_go_cnt, z_go_ex, z_st, z_stx, z_wnil, z_seq, z_expr, z_ret, z_retV, z_retV1, z_retN, z_brk, z_cnt, z_wif, z_asgT, z_asg, z_tgn, z_tgu, z_tgu1, z_tgu2, z_tg0, z_tg1, z_augL, z_augT, z_augZ, z_mut, z_mutL, z_mutG, z_mutZ, z_put, z_putL, z_for, z_forG, z_loop0, z_loop1, z_loopT, z_loopn, z_loopc, z_loopb, z_loopr, z_loopx, z_while, z_wh, z_whn, z_whb, z_whr, z_iv, z_iv1, z_iv2, z_iv3, z_rg, z_r1, z_r2, z_en, z_en2, z_it8, z_en1, z_zp, z_zp1, z_rv, z_rv1, z_it1, z_it2, z_it3, z_it4, z_it5, z_it6, z_it7, z_itf, z_lc, z_lcG, z_calm, z_vlc0, z_vlc1, z_lcT, z_noO0, z_noO1, z_noS1, z_noS2, z_noS3, z_wipe0, z_wipe1, z_rest0, z_rest1, z_resS, z_she0, z_she1, z_sheS, z_fin1, z_fin2, z_fin3, z_f0, z_f1, z_f2, z_f3, z_f4, z_f5, z_f6, z_f7, z_finI1, z_finI2, z_ioS, t_add, t_addb, t_adds, t_addl, t_sub, t_mul, t_muls, t_mull, t_div, t_mod, t_neg, t_aug, t_augs, t_eq, t_ne, t_lt, t_le, t_gt, t_ge, t_eqi, t_eqs, t_eqb, t_eqn, t_is, t_isn, t_is1, t_is2, t_is3, t_is4, t_is5, t_is6, t_is7, t_is8, t_ixt, t_ixl, t_ixs, t_ixd, t_k1, t_k2, t_in, t_nin, t_ind, t_len1, t_len2, t_len3, t_abs, t_max, t_min, t_maxl, t_minl, t_minT1, t_minT0, t_ltt, z_orV, t_sum, t_all, t_any, t_int1, t_int2, t_int3, t_str, t_list1, t_list2, t_tup1, t_tup2, t_dm, t_ty1, t_ty2, t_ty3, t_ty4, t_ty5, t_ty6, t_ty7, t_inst, t_inst2, t_in1, t_in2, t_tt1, t_tt2, t_tt3, t_find, t_sw, t_part, t_split, t_join, t_upper, t_get, t_get2, t_sl1, t_sl3, t_app, t_ext1, t_ext2, t_clear, t_put, t_pop0, t_mI, t_mB, t_mS, t_dcg1, t_dcg2, t_dci1, t_dci2, t_dcn1, t_dcn2, t_dcx1, t_dcx2, t_kT1, t_kT2, z_disp1, z_dispX, z_dispY1, z_dispY2, z_ixs, z_ixk, z_ixd, z_ixz, z_own, z_own1, z_aug, y_ap, y_ap2, List.getElem?_cons_zero, List.getElem?_cons_succ, List.set_cons_zero, List.set_cons_succ, Option.map_some, Option.map_none, Option.bind_some, decide_true, decide_false, if_true, if_false, Int.reduceLT, Int.reduceLE, Bool.and_true, Bool.true_and, Bool.and_self, Bool.or_true, Bool.or_false, Bool.false_or, Bool.true_or, Bool.not_true, Bool.not_false, Bool.false_eq_true, List.length_cons, List.length_nil, Nat.reduceAdd, Nat.reduceLeDiff, Nat.zero_le, Nat.reduceLT, and_self, and_true, true_and, Bool.and_false, Bool.false_and, ite_true, ite_false, beq_self_eq_true, w_height, Pt.t, m, i2, i1, i0, hh]
  all_goals rfl
theorem fifths_run {p : Pt} (h : p.ok) : W_fifths [p.t] = .ok (.int (rv p.s + 7 * p.l)) := by
  unfold W_fifths
  rw [z_f1]
  show (w_fifths [some p.t]).fin = _
  have m : okMul 7 p.l = true := okMul_l (by unfold Pt.ok at h; omega)
  have i1 : tIx (.tup [.int p.s, .int p.l, .int p.o]) (.int 1) = some (.int p.l) := rfl
  have i0 : tIx (.tup [.int p.s, .int p.l, .int p.o]) (.int 0) = some (.int p.s) := rfl
  have hh := rv_at h.1 h.2.1
  simp only [z_bind, z_bindx, z_ofO, z_slot, z_var, z_c, z_fl, z_pl, z_bin, z_un, z_nil, z_cons, z_fn, z_tup, z_lst, z_d0, z_B, z_tru, z_andT, z_orT, z_notT, z_and, z_or, z_not, z_if, z_chain, z_tBl, z_tru1, z_tru2, z_tru3, z_tru4, z_tru5, z_tru6, z_pn, z_ps, z_tInt, z_sl, z_mt, z_call, z_go, z_gox, z_ioC, z_callIO, z_goI, y_non, y_bl, y_int, y_str, y_ty, y_tup, y_nd, y_0, y_1, y_nI, y_sS, y_bS, y_sho, y_shs, y_shz, y_shw, y_boo, y_bos, y_boz, y_bow, y_uwo, y_uws, y_uwz, y_uww, y_fz, y_szo, y_szs, y_szz, y_szw, y_nwo, y_nws, y_nwz, y_nww, y_nzo, y_nzs, y_nzz, y_nzw, y_noo, y_nos, y_noz, y_now, y_a0, y_a1, y_anon, y_abl, y_aint, y_astr, y_aty, y_atup, y_and, y_anI, y_asS, y_abS, z_go_nx, z_go_ret, z_go_brk, z_go_cnt, z_go_ex, z_st, z_stx, z_wnil, z_seq, z_expr, z_ret, z_retV, z_retV1, z_retN, z_brk, z_cnt, z_wif, z_asgT, z_asg, z_tgn, z_tgu, z_tgu1, z_tgu2, z_tg0, z_tg1, z_augL, z_augT, z_augZ, z_mut, z_mutL, z_mutG, z_mutZ, z_put, z_putL, z_for, z_forG, z_loop0, z_loop1, z_loopT, z_loopn, z_loopc, z_loopb, z_loopr, z_loopx, z_while, z_wh, z_whn, z_whb, z_whr, z_iv, z_iv1, z_iv2, z_iv3, z_rg, z_r1, z_r2, z_en, z_en2, z_it8, z_en1, z_zp, z_zp1, z_rv, z_rv1, z_it1, z_it2, z_it3, z_it4, z_it5, z_it6, z_it7, z_itf, z_lc, z_lcG, z_calm, z_vlc0, z_vlc1, z_lcT, z_noO0, z_noO1, z_noS1, z_noS2, z_noS3, z_wipe0, z_wipe1, z_rest0, z_rest1, z_resS, z_she0, z_she1, z_sheS, z_fin1, z_fin2, z_fin3, z_f0, z_f1, z_f2, z_f3, z_f4, z_f5, z_f6, z_f7, z_finI1, z_finI2, z_ioS, t_add, t_addb, t_adds, t_addl, t_sub, t_mul, t_muls, t_mull, t_div, t_mod, t_neg, t_aug, t_augs, t_eq, t_ne, t_lt, t_le, t_gt, t_ge, t_eqi, t_eqs, t_eqb, t_eqn, t_is, t_isn, t_is1, t_is2, t_is3, t_is4, t_is5, t_is6, t_is7, t_is8, t_ixt, t_ixl, t_ixs, t_ixd, t_k1, t_k2, t_in, t_nin, t_ind, t_len1, t_len2, t_len3, t_abs, t_max, t_min, t_maxl, t_minl, t_minT1, t_minT0, t_ltt, z_orV, t_sum, t_all, t_any, t_int1, t_int2, t_int3, t_str, t_list1, t_list2, t_tup1, t_tup2, t_dm, t_ty1, t_ty2, t_ty3, t_ty4, t_ty5, t_ty6, t_ty7, t_inst, t_inst2, t_in1, t_in2, t_tt1, t_tt2, t_tt3, t_find, t_sw, t_part, t_split, t_join, t_upper, t_get, t_get2, t_sl1, t_sl3, t_app, t_ext1, t_ext2, t_clear, t_put, t_pop0, t_mI, t_mB, t_mS, t_dcg1, t_dcg2, t_dci1, t_dci2, t_dcn1, t_dcn2, t_dcx1, t_dcx2, t_kT1, t_kT2, z_disp1, z_dispX, z_dispY1, z_dispY2, z_ixs, z_ixk, z_ixd, z_ixz, z_own, z_own1, z_aug, y_ap, y_ap2, List.getElem?_cons_zero, List.getElem?_cons_succ, List.set_cons_zero, List.set_cons_succ, Option.map_some, Option.map_none, Option.bind_some, decide_true, decide_false, if_true, if_false, Int.reduceLT, Int.reduceLE, Bool.and_true, Bool.true_and, Bool.and_self, Bool.or_true, Bool.or_false, Bool.false_or, Bool.true_or, Bool.not_true, Bool.not_false, Bool.false_eq_true, List.length_cons, List.length_nil, Nat.reduceAdd, Nat.reduceLeDiff, Nat.zero_le, Nat.reduceLT, and_self, and_true, true_and, Bool.and_false, Bool.false_and, ite_true, ite_false, beq_self_eq_true, w_fifths, Pt.t, m, i1, i0, hh]
  all_goals rfl
/-! ### moved -/
def mvT (p : Pt) (st h : Int) : Pt := ⟨(7 * p.o + p.s + st) % 7, 12 * p.o + hv p.s + p.l + h - 12 * ((7 * p.o + p.s + st) / 7) - hv ((7 * p.o + p.s + st) % 7), (7 * p.o + p.s + st) / 7⟩
instance (p : Pt) : Decidable p.ok := by unfold Pt.ok; exact inferInstance
theorem inP_ok (p : Pt) : inP p.s p.l p.o = decide p.ok := by
  unfold inP Pt.ok
  by_cases h1 : 0 ≤ p.s <;> by_cases h2 : p.s ≤ 6 <;> by_cases h3 : -2 ≤ p.l <;> by_cases h4 : p.l ≤ 2 <;> by_cases h5 : 0 ≤ p.o <;> by_cases h6 : p.o ≤ 8 <;> simp [h1, h2, h3, h4, h5, h6, Int.lt_iff_add_one_le] <;> omega
theorem mvp_run {p : Pt} {st h : Int} (k : p.ok) (h1 : -40 ≤ st) (h2 : st ≤ 40) : W_moved_pitch [p.t, .int st, .int h] = if (mvT p st h).ok then .ok (mvT p st h).t else .ex "OutOfReach" [] := by
  unfold W_moved_pitch
  rw [z_f3]
  show (w_moved_pitch [some p.t, some (.int st), some (.int h), none, none, none, none]).fin = _
  have a1 : p.t.all fNw = true := rfl
  have fz : ∀ f, TV.fl f p.t = p.t := fun _ => rfl
  have s1 : w_moved_pitch_s1 [some p.t, some (.int st), some (.int h), none, none, none, none] = .nx [some p.t, some (.int st), some (.int h), some (.int (mvT p st h).o), some (.int (mvT p st h).s), none, none] := by
    have e := line_run k
    simp only [z_bind, z_bindx, z_ofO, z_slot, z_var, z_c, z_fl, z_pl, z_bin, z_un, z_nil, z_cons, z_fn, z_tup, z_lst, z_d0, z_B, z_tru, z_andT, z_orT, z_notT, z_and, z_or, z_not, z_if, z_chain, z_tBl, z_tru1, z_tru2, z_tru3, z_tru4, z_tru5, z_tru6, z_pn, z_ps, z_tInt, z_sl, z_mt, z_call, z_go, z_gox, z_ioC, z_callIO, z_goI, y_non, y_bl, y_int, y_str, y_ty, y_tup, y_nd, y_0, y_1, y_nI, y_sS, y_bS, y_sho, y_shs, y_shz, y_shw, y_boo, y_bos, y_boz, y_bow, y_uwo, y_uws, y_uwz, y_uww, y_fz, y_szo, y_szs, y_szz, y_szw, y_nwo, y_nws, y_nwz, y_nww, y_nzo, y_nzs, y_nzz, y_nzw, y_noo, y_nos, y_noz, y_now, y_a0, y_a1, y_anon, y_abl, y_aint, y_astr, y_aty, y_atup, y_and, y_anI, y_asS, y_abS, z_go_nx, z_go_ret, z_go_brk, z_go_cnt, z_go_ex, z_st, z_stx, z_wnil, z_seq, z_expr, z_ret, z_retV, z_retV1, z_retN, z_brk, z_cnt, z_wif, z_asgT, z_asg, z_tgn, z_tgu, z_tgu1, z_tgu2, z_tg0, z_tg1, z_augL, z_augT, z_augZ, z_mut, z_mutL, z_mutG, z_mutZ, z_put, z_putL, z_for, z_forG, z_loop0, z_loop1, z_loopT, z_loopn, z_loopc, z_loopb, z_loopr, z_loopx, z_while, z_wh, z_whn, z_whb, z_whr, z_iv, z_iv1, z_iv2, z_iv3, z_rg, z_r1, z_r2, z_en, z_en2, z_it8, z_en1, z_zp, z_zp1, z_rv, z_rv1, z_it1, z_it2, z_it3, z_it4, z_it5, z_it6, z_it7, z_itf, z_lc, z_lcG, z_calm, z_vlc0, z_vlc1, z_lcT, z_noO0, z_noO1, z_noS1, z_noS2, z_noS3, z_wipe0, z_wipe1, z_rest0, z_rest1, z_resS, z_she0, z_she1, z_sheS, z_fin1, z_fin2, z_fin3, z_f0, z_f1, z_f2, z_f3, z_f4, z_f5, z_f6, z_f7, z_finI1, z_finI2, z_ioS, t_add, t_addb, t_adds, t_addl, t_sub, t_mul, t_muls, t_mull, t_div, t_mod, t_neg, t_aug, t_augs, t_eq, t_ne, t_lt, t_le, t_gt, t_ge, t_eqi, t_eqs, t_eqb, t_eqn, t_is, t_isn, t_is1, t_is2, t_is3, t_is4, t_is5, t_is6, t_is7, t_is8, t_ixt, t_ixl, t_ixs, t_ixd, t_k1, t_k2, t_in, t_nin, t_ind, t_len1, t_len2, t_len3, t_abs, t_max, t_min, t_maxl, t_minl, t_minT1, t_minT0, t_ltt, z_orV, t_sum, t_all, t_any, t_int1, t_int2, t_int3, t_str, t_list1, t_list2, t_tup1, t_tup2, t_dm, t_ty1, t_ty2, t_ty3, t_ty4, t_ty5, t_ty6, t_ty7, t_inst, t_inst2, t_in1, t_in2, t_tt1, t_tt2, t_tt3, t_find, t_sw, t_part, t_split, t_join, t_upper, t_get, t_get2, t_sl1, t_sl3, t_app, t_ext1, t_ext2, t_clear, t_put, t_pop0, t_mI, t_mB, t_mS, t_dcg1, t_dcg2, t_dci1, t_dci2, t_dcn1, t_dcn2, t_dcx1, t_dcx2, t_kT1, t_kT2, z_disp1, z_dispX, z_dispY1, z_dispY2, z_ixs, z_ixk, z_ixd, z_ixz, z_own, z_own1, z_aug, y_ap, y_ap2, List.getElem?_cons_zero, List.getElem?_cons_succ, List.set_cons_zero, List.set_cons_succ, Option.map_some, Option.map_none, Option.bind_some, decide_true, decide_false, if_true, if_false, Int.reduceLT, Int.reduceLE, Bool.and_true, Bool.true_and, Bool.and_self, Bool.or_true, Bool.or_false, Bool.false_or, Bool.true_or, Bool.not_true, Bool.not_false, Bool.false_eq_true, List.length_cons, List.length_nil, Nat.reduceAdd, Nat.reduceLeDiff, Nat.zero_le, Nat.reduceLT, and_self, and_true, true_and, Bool.and_false, Bool.false_and, ite_true, ite_false, beq_self_eq_true, w_moved_pitch_s1, TV.bo, TV.sh, TV.nw, TV.nz, fz, e, a1]; all_goals rfl
  have m : okMul 12 (mvT p st h).o = true := okMul_l (by omega)
  have hh := hv_at (j := (mvT p st h).s) (by unfold mvT; dsimp only; omega) (by unfold mvT; dsimp only; omega)
  have s2 : w_moved_pitch_s2 [some p.t, some (.int st), some (.int h), some (.int (mvT p st h).o), some (.int (mvT p st h).s), none, none] = .nx [some p.t, some (.int st), some (.int h), some (.int (mvT p st h).o), some (.int (mvT p st h).s), some (.int (mvT p st h).l), none] := by
    have e := height_run k
    simp only [z_bind, z_bindx, z_ofO, z_slot, z_var, z_c, z_fl, z_pl, z_bin, z_un, z_nil, z_cons, z_fn, z_tup, z_lst, z_d0, z_B, z_tru, z_andT, z_orT, z_notT, z_and, z_or, z_not, z_if, z_chain, z_tBl, z_tru1, z_tru2, z_tru3, z_tru4, z_tru5, z_tru6, z_pn, z_ps, z_tInt, z_sl, z_mt, z_call, z_go, z_gox, z_ioC, z_callIO, z_goI, y_non, y_bl, y_int, y_str, y_ty, y_tup, y_nd, y_0, y_1, y_nI, y_sS, y_bS, y_sho, y_shs, y_shz, y_shw, y_boo, y_bos, y_boz, y_bow, y_uwo, y_uws, y_uwz, y_uww, y_fz, y_szo, y_szs, y_szz, y_szw, y_nwo, y_nws, y_nwz, y_nww, y_nzo, y_nzs, y_nzz, y_nzw, y_noo, y_nos, y_noz, y_now, y_a0, y_a1, y_anon, y_abl, y_aint, y_astr, y_aty, y_atup, y_and, y_anI, y_asS, y_abS, z_go_nx, z_go_ret, z_go_brk, z_go_cnt, z_go_ex, z_st, z_stx, z_wnil, z_seq, z_expr, z_ret, z_retV, z_retV1, z_retN, z_brk, z_cnt, z_wif, z_asgT, z_asg, z_tgn, z_tgu, z_tgu1, z_tgu2, z_tg0, z_tg1, z_augL, z_augT, z_augZ, z_mut, z_mutL, z_mutG, z_mutZ, z_put, z_putL, z_for, z_forG, z_loop0, z_loop1, z_loopT, z_loopn, z_loopc, z_loopb, z_loopr, z_loopx, z_while, z_wh, z_whn, z_whb, z_whr, z_iv, z_iv1, z_iv2, z_iv3, z_rg, z_r1, z_r2, z_en, z_en2, z_it8, z_en1, z_zp, z_zp1, z_rv, z_rv1, z_it1, z_it2, z_it3, z_it4, z_it5, z_it6, z_it7, z_itf, z_lc, z_lcG, z_calm, z_vlc0, z_vlc1, z_lcT, z_noO0, z_noO1, z_noS1, z_noS2, z_noS3, z_wipe0, z_wipe1, z_rest0, z_rest1, z_resS, z_she0, z_she1, z_sheS, z_fin1, z_fin2, z_fin3, z_f0, z_f1, z_f2, z_f3, z_f4, z_f5, z_f6, z_f7, z_finI1, z_finI2, z_ioS, t_add, t_addb, t_adds, t_addl, t_sub, t_mul, t_muls, t_mull, t_div, t_mod, t_neg, t_aug, t_augs, t_eq, t_ne, t_lt, t_le, t_gt, t_ge, t_eqi, t_eqs, t_eqb, t_eqn, t_is, t_isn, t_is1, t_is2, t_is3, t_is4, t_is5, t_is6, t_is7, t_is8, t_ixt, t_ixl, t_ixs, t_ixd, t_k1, t_k2, t_in, t_nin, t_ind, t_len1, t_len2, t_len3, t_abs, t_max, t_min, t_maxl, t_minl, t_minT1, t_minT0, t_ltt, z_orV, t_sum, t_all, t_any, t_int1, t_int2, t_int3, t_str, t_list1, t_list2, t_tup1, t_tup2, t_dm, t_ty1, t_ty2, t_ty3, t_ty4, t_ty5, t_ty6, t_ty7, t_inst, t_inst2, t_in1, t_in2, t_tt1, t_tt2, t_tt3, t_find, t_sw, t_part, t_split, t_join, t_upper, t_get, t_get2, t_sl1, t_sl3, t_app, t_ext1, t_ext2, t_clear, t_put, t_pop0, t_mI, t_mB, t_mS, t_dcg1, t_dcg2, t_dci1, t_dci2, t_dcn1, t_dcn2, t_dcx1, t_dcx2, t_kT1, t_kT2, z_disp1, z_dispX, z_dispY1, z_dispY2, z_ixs, z_ixk, z_ixd, z_ixz, z_own, z_own1, z_aug, y_ap, y_ap2, List.getElem?_cons_zero, List.getElem?_cons_succ, List.set_cons_zero, List.set_cons_succ, Option.map_some, Option.map_none, Option.bind_some, decide_true, decide_false, if_true, if_false, Int.reduceLT, Int.reduceLE, Bool.and_true, Bool.true_and, Bool.and_self, Bool.or_true, Bool.or_false, Bool.false_or, Bool.true_or, Bool.not_true, Bool.not_false, Bool.false_eq_true, List.length_cons, List.length_nil, Nat.reduceAdd, Nat.reduceLeDiff, Nat.zero_le, Nat.reduceLT, and_self, and_true, true_and, Bool.and_false, Bool.false_and, ite_true, ite_false, beq_self_eq_true, w_moved_pitch_s2, TV.bo, TV.sh, TV.nw, TV.nz, fz, e, a1, m, hh]; all_goals rfl
  have s3 : w_moved_pitch_s3 [some p.t, some (.int st), some (.int h), some (.int (mvT p st h).o), some (.int (mvT p st h).s), some (.int (mvT p st h).l), none] = .nx [some p.t, some (.int st), some (.int h), some (.int (mvT p st h).o), some (.int (mvT p st h).s), some (.int (mvT p st h).l), some (mvT p st h).t] := by kernel_rfl
  simp only [w_moved_pitch, z_seq, s1, s2, s3, z_go_nx]
  have e := isp_run (mvT p st h).s (mvT p st h).l (mvT p st h).o
  rw [inP_ok] at e
  generalize mvT p st h = q at *
  have fq : ∀ f, TV.fl f q.t = q.t := fun _ => rfl
  have aq : q.t.all fNw = true := rfl
  have e' : W_is_pitch [q.t] = .ok (.bl (decide q.ok)) := e
  by_cases hq : q.ok
  · rw [decide_eq_true hq] at e'
    simp only [z_bind, z_bindx, z_ofO, z_slot, z_var, z_c, z_fl, z_pl, z_bin, z_un, z_nil, z_cons, z_fn, z_tup, z_lst, z_d0, z_B, z_tru, z_andT, z_orT, z_notT, z_and, z_or, z_not, z_if, z_chain, z_tBl, z_tru1, z_tru2, z_tru3, z_tru4, z_tru5, z_tru6, z_pn, z_ps, z_tInt, z_sl, z_mt, z_call, z_go, z_gox, z_ioC, z_callIO, z_goI, y_non, y_bl, y_int, y_str, y_ty, y_tup, y_nd, y_0, y_1, y_nI, y_sS, y_bS, y_sho, y_shs, y_shz, y_shw, y_boo, y_bos, y_boz, y_bow, y_uwo, y_uws, y_uwz, y_uww, y_fz, y_szo, y_szs, y_szz, y_szw, y_nwo, y_nws, y_nwz, y_nww, y_nzo, y_nzs, y_nzz, y_nzw, y_noo, y_nos, y_noz, y_now, y_a0, y_a1, y_anon, y_abl, y_aint, y_astr, y_aty, y_atup, y_and, y_anI, y_asS, y_abS, z_go_nx, z_go_ret, z_go_brk, z_go_cnt, z_go_ex, z_st, z_stx, z_wnil, z_seq, z_expr, z_ret, z_retV, z_retV1, z_retN, z_brk, z_cnt, z_wif, z_asgT, z_asg, z_tgn, z_tgu, z_tgu1, z_tgu2, z_tg0, z_tg1, z_augL, z_augT, z_augZ, z_mut, z_mutL, z_mutG, z_mutZ, z_put, z_putL, z_for, z_forG, z_loop0, z_loop1, z_loopT, z_loopn, z_loopc, z_loopb, z_loopr, z_loopx, z_while, z_wh, z_whn, z_whb, z_whr, z_iv, z_iv1, z_iv2, z_iv3, z_rg, z_r1, z_r2, z_en, z_en2, z_it8, z_en1, z_zp, z_zp1, z_rv, z_rv1, z_it1, z_it2, z_it3, z_it4, z_it5, z_it6, z_it7, z_itf, z_lc, z_lcG, z_calm, z_vlc0, z_vlc1, z_lcT, z_noO0, z_noO1, z_noS1, z_noS2, z_noS3, z_wipe0, z_wipe1, z_rest0, z_rest1, z_resS, z_she0, z_she1, z_sheS, z_fin1, z_fin2, z_fin3, z_f0, z_f1, z_f2, z_f3, z_f4, z_f5, z_f6, z_f7, z_finI1, z_finI2, z_ioS, t_add, t_addb, t_adds, t_addl, t_sub, t_mul, t_muls, t_mull, t_div, t_mod, t_neg, t_aug, t_augs, t_eq, t_ne, t_lt, t_le, t_gt, t_ge, t_eqi, t_eqs, t_eqb, t_eqn, t_is, t_isn, t_is1, t_is2, t_is3, t_is4, t_is5, t_is6, t_is7, t_is8, t_ixt, t_ixl, t_ixs, t_ixd, t_k1, t_k2, t_in, t_nin, t_ind, t_len1, t_len2, t_len3, t_abs, t_max, t_min, t_maxl, t_minl, t_minT1, t_minT0, t_ltt, z_orV, t_sum, t_all, t_any, t_int1, t_int2, t_int3, t_str, t_list1, t_list2, t_tup1, t_tup2, t_dm, t_ty1, t_ty2, t_ty3, t_ty4, t_ty5, t_ty6, t_ty7, t_inst, t_inst2, t_in1, t_in2, t_tt1, t_tt2, t_tt3, t_find, t_sw, t_part, t_split, t_join, t_upper, t_get, t_get2, t_sl1, t_sl3, t_app, t_ext1, t_ext2, t_clear, t_put, t_pop0, t_mI, t_mB, t_mS, t_dcg1, t_dcg2, t_dci1, t_dci2, t_dcn1, t_dcn2, t_dcx1, t_dcx2, t_kT1, t_kT2, z_disp1, z_dispX, z_dispY1, z_dispY2, z_ixs, z_ixk, z_ixd, z_ixz, z_own, z_own1, z_aug, y_ap, y_ap2, List.getElem?_cons_zero, List.getElem?_cons_succ, List.set_cons_zero, List.set_cons_succ, Option.map_some, Option.map_none, Option.bind_some, decide_true, decide_false, if_true, if_false, Int.reduceLT, Int.reduceLE, Bool.and_true, Bool.true_and, Bool.and_self, Bool.or_true, Bool.or_false, Bool.false_or, Bool.true_or, Bool.not_true, Bool.not_false, Bool.false_eq_true, List.length_cons, List.length_nil, Nat.reduceAdd, Nat.reduceLeDiff, Nat.zero_le, Nat.reduceLT, and_self, and_true, true_and, Bool.and_false, Bool.false_and, ite_true, ite_false, beq_self_eq_true, w_moved_pitch_s4, TV.bo, TV.sh, TV.nw, TV.nz, fq, aq, e', hq]; all_goals rfl
  · rw [decide_eq_false hq] at e'
    simp only [z_bind, z_bindx, z_ofO, z_slot, z_var, z_c, z_fl, z_pl, z_bin, z_un, z_nil, z_cons, z_fn, z_tup, z_lst, z_d0, z_B, z_tru, z_andT, z_orT, z_notT, z_and, z_or, z_not, z_if, z_chain, z_tBl, z_tru1, z_tru2, z_tru3, z_tru4, z_tru5, z_tru6, z_pn, z_ps, z_tInt, z_sl, z_mt, z_call, z_go, z_gox, z_ioC, z_callIO, z_goI, y_non, y_bl, y_int, y_str, y_ty, y_tup, y_nd, y_0, y_1, y_nI, y_sS, y_bS, y_sho, y_shs, y_shz, y_shw, y_boo, y_bos, y_boz, y_bow, y_uwo, y_uws, y_uwz, y_uww, y_fz, y_szo, y_szs, y_szz, y_szw, y_nwo, y_nws, y_nwz, y_nww, y_nzo, y_nzs, y_nzz, y_nzw, y_noo, y_nos, y_noz, y_now, y_a0, y_a1, y_anon, y_abl, y_aint, y_astr, y_aty, y_atup, y_and, y_anI, y_asS, y_abS, z_go_nx, z_go_ret, z_go_brk, z_go_cnt, z_go_ex, z_st, z_stx, z_wnil, z_seq, z_expr, z_ret, z_retV, z_retV1, z_retN, z_brk, z_cnt, z_wif, z_asgT, z_asg, z_tgn, z_tgu, z_tgu1, z_tgu2, z_tg0, z_tg1, z_augL, z_augT, z_augZ, z_mut, z_mutL, z_mutG, z_mutZ, z_put, z_putL, z_for, z_forG, z_loop0, z_loop1, z_loopT, z_loopn, z_loopc, z_loopb, z_loopr, z_loopx, z_while, z_wh, z_whn, z_whb, z_whr, z_iv, z_iv1, z_iv2, z_iv3, z_rg, z_r1, z_r2, z_en, z_en2, z_it8, z_en1, z_zp, z_zp1, z_rv, z_rv1, z_it1, z_it2, z_it3, z_it4, z_it5, z_it6, z_it7, z_itf, z_lc, z_lcG, z_calm, z_vlc0, z_vlc1, z_lcT, z_noO0, z_noO1, z_noS1, z_noS2, z_noS3, z_wipe0, z_wipe1, z_rest0, z_rest1, z_resS, z_she0, z_she1, z_sheS, z_fin1, z_fin2, z_fin3, z_f0, z_f1, z_f2, z_f3, z_f4, z_f5, z_f6, z_f7, z_finI1, z_finI2, z_ioS, t_add, t_addb, t_adds, t_addl, t_sub, t_mul, t_muls, t_mull, t_div, t_mod, t_neg, t_aug, t_augs, t_eq, t_ne, t_lt, t_le, t_gt, t_ge, t_eqi, t_eqs, t_eqb, t_eqn, t_is, t_isn, t_is1, t_is2, t_is3, t_is4, t_is5, t_is6, t_is7, t_is8, t_ixt, t_ixl, t_ixs, t_ixd, t_k1, t_k2, t_in, t_nin, t_ind, t_len1, t_len2, t_len3, t_abs, t_max, t_min, t_maxl, t_minl, t_minT1, t_minT0, t_ltt, z_orV, t_sum, t_all, t_any, t_int1, t_int2, t_int3, t_str, t_list1, t_list2, t_tup1, t_tup2, t_dm, t_ty1, t_ty2, t_ty3, t_ty4, t_ty5, t_ty6, t_ty7, t_inst, t_inst2, t_in1, t_in2, t_tt1, t_tt2, t_tt3, t_find, t_sw, t_part, t_split, t_join, t_upper, t_get, t_get2, t_sl1, t_sl3, t_app, t_ext1, t_ext2, t_clear, t_put, t_pop0, t_mI, t_mB, t_mS, t_dcg1, t_dcg2, t_dci1, t_dci2, t_dcn1, t_dcn2, t_dcx1, t_dcx2, t_kT1, t_kT2, z_disp1, z_dispX, z_dispY1, z_dispY2, z_ixs, z_ixk, z_ixd, z_ixz, z_own, z_own1, z_aug, y_ap, y_ap2, List.getElem?_cons_zero, List.getElem?_cons_succ, List.set_cons_zero, List.set_cons_succ, Option.map_some, Option.map_none, Option.bind_some, decide_true, decide_false, if_true, if_false, Int.reduceLT, Int.reduceLE, Bool.and_true, Bool.true_and, Bool.and_self, Bool.or_true, Bool.or_false, Bool.false_or, Bool.true_or, Bool.not_true, Bool.not_false, Bool.false_eq_true, List.length_cons, List.length_nil, Nat.reduceAdd, Nat.reduceLeDiff, Nat.zero_le, Nat.reduceLT, and_self, and_true, true_and, Bool.and_false, Bool.false_and, ite_true, ite_false, beq_self_eq_true, w_moved_pitch_s4, TV.bo, TV.sh, TV.nw, TV.nz, fq, aq, e', hq, wRaise]; all_goals rfl
def foT (q : Pt) : TV := if q.ok then .nd .o .lst [q.t] else .tup [.str "reach"]
def duT (q : Pt) : TV := .nd .o .lst (if q.ok then [q.t] else [])
theorem told_run {p : Pt} {st h : Int} (k : p.ok) (h1 : -40 ≤ st) (h2 : st ≤ 40) : W_l_moved [p.t, .int st, .int h] = .ok (foT (mvT p st h)) := by
  unfold W_l_moved
  rw [z_f3]
  show (w_l_moved ([some p.t, some (.int st), some (.int h)] ++ List.replicate (N_l_moved.length - 3) none)).fin = _
  have e0 : ([some p.t, some (.int st), some (.int h)] ++ List.replicate (N_l_moved.length - 3) none) = [some p.t, some (.int st), some (.int h), none] := rfl
  have e := mvp_run (h := h) k h1 h2
  have fz : ∀ f, TV.fl f p.t = p.t := fun _ => rfl
  have a1 : ∀ f, p.t.all f = true := fun _ => rfl
  rw [e0]
  unfold foT
  generalize mvT p st h = q at *
  have fq : ∀ f, TV.fl f q.t = q.t := fun _ => rfl
  have aq : ∀ f, q.t.all f = true := fun _ => rfl
  by_cases hq : q.ok
  · rw [if_pos hq] at e
    have s1 : w_l_moved_s1 [some p.t, some (.int st), some (.int h), none] = .ret (.nd .o .lst [q.t]) [some p.t, some (.int st), some (.int h), none] := by
      simp only [z_bind, z_bindx, z_ofO, z_slot, z_var, z_c, z_fl, z_pl, z_bin, z_un, z_nil, z_cons, z_fn, z_tup, z_lst, z_d0, z_B, z_tru, z_andT, z_orT, z_notT, z_and, z_or, z_not, z_if, z_chain, z_tBl, z_tru1, z_tru2, z_tru3, z_tru4, z_tru5, z_tru6, z_pn, z_ps, z_tInt, z_sl, z_mt, z_call, z_go, z_gox, z_ioC, z_callIO, z_goI, y_non, y_bl, y_int, y_str, y_ty, y_tup, y_nd, y_0, y_1, y_nI, y_sS, y_bS, y_sho, y_shs, y_shz, y_shw, y_boo, y_bos, y_boz, y_bow, y_uwo, y_uws, y_uwz, y_uww, y_fz, y_szo, y_szs, y_szz, y_szw, y_nwo, y_nws, y_nwz, y_nww, y_nzo, y_nzs, y_nzz, y_nzw, y_noo, y_nos, y_noz, y_now, y_a0, y_a1, y_anon, y_abl, y_aint, y_astr, y_aty, y_atup, y_and, y_anI, y_asS, y_abS, z_go_nx, z_go_ret, z_go_brk, z_go_cnt, z_go_ex, z_st, z_stx, z_wnil, z_seq, z_expr, z_ret, z_retV, z_retV1, z_retN, z_brk, z_cnt, z_wif, z_asgT, z_asg, z_tgn, z_tgu, z_tgu1, z_tgu2, z_tg0, z_tg1, z_augL, z_augT, z_augZ, z_mut, z_mutL, z_mutG, z_mutZ, z_put, z_putL, z_for, z_forG, z_loop0, z_loop1, z_loopT, z_loopn, z_loopc, z_loopb, z_loopr, z_loopx, z_while, z_wh, z_whn, z_whb, z_whr, z_iv, z_iv1, z_iv2, z_iv3, z_rg, z_r1, z_r2, z_en, z_en2, z_it8, z_en1, z_zp, z_zp1, z_rv, z_rv1, z_it1, z_it2, z_it3, z_it4, z_it5, z_it6, z_it7, z_itf, z_lc, z_lcG, z_calm, z_vlc0, z_vlc1, z_lcT, z_noO0, z_noO1, z_noS1, z_noS2, z_noS3, z_wipe0, z_wipe1, z_rest0, z_rest1, z_resS, z_she0, z_she1, z_sheS, z_fin1, z_fin2, z_fin3, z_f0, z_f1, z_f2, z_f3, z_f4, z_f5, z_f6, z_f7, z_finI1, z_finI2, z_ioS, t_add, t_addb, t_adds, t_addl, t_sub, t_mul, t_muls, t_mull, t_div, t_mod, t_neg, t_aug, t_augs, t_eq, t_ne, t_lt, t_le, t_gt, t_ge, t_eqi, t_eqs, t_eqb, t_eqn, t_is, t_isn, t_is1, t_is2, t_is3, t_is4, t_is5, t_is6, t_is7, t_is8, t_ixt, t_ixl, t_ixs, t_ixd, t_k1, t_k2, t_in, t_nin, t_ind, t_len1, t_len2, t_len3, t_abs, t_max, t_min, t_maxl, t_minl, t_minT1, t_minT0, t_ltt, z_orV, t_sum, t_all, t_any, t_int1, t_int2, t_int3, t_str, t_list1, t_list2, t_tup1, t_tup2, t_dm, t_ty1, t_ty2, t_ty3, t_ty4, t_ty5, t_ty6, t_ty7, t_inst, t_inst2, t_in1, t_in2, t_tt1, t_tt2, t_tt3, t_find, t_sw, t_part, t_split, t_join, t_upper, t_get, t_get2, t_sl1, t_sl3, t_app, t_ext1, t_ext2, t_clear, t_put, t_pop0, t_mI, t_mB, t_mS, t_dcg1, t_dcg2, t_dci1, t_dci2, t_dcn1, t_dcn2, t_dcx1, t_dcx2, t_kT1, t_kT2, z_disp1, z_dispX, z_dispY1, z_dispY2, z_ixs, z_ixk, z_ixd, z_ixz, z_own, z_own1, z_aug, y_ap, y_ap2, List.getElem?_cons_zero, List.getElem?_cons_succ, List.set_cons_zero, List.set_cons_succ, Option.map_some, Option.map_none, Option.bind_some, decide_true, decide_false, if_true, if_false, Int.reduceLT, Int.reduceLE, Bool.and_true, Bool.true_and, Bool.and_self, Bool.or_true, Bool.or_false, Bool.false_or, Bool.true_or, Bool.not_true, Bool.not_false, Bool.false_eq_true, List.length_cons, List.length_nil, Nat.reduceAdd, Nat.reduceLeDiff, Nat.zero_le, Nat.reduceLT, and_self, and_true, true_and, Bool.and_false, Bool.false_and, ite_true, ite_false, beq_self_eq_true, w_l_moved_s1, TV.bo, TV.sh, TV.nw, TV.nz, fz, a1, e, fq, aq]; all_goals rfl
    unfold w_l_moved wTold
    rw [s1, if_pos hq]
    rfl
  · rw [if_neg hq] at e
    have s1 : w_l_moved_s1 [some p.t, some (.int st), some (.int h), none] = .ex "OutOfReach" [] [some p.t, some (.int st), some (.int h), none] := by
      simp only [z_bind, z_bindx, z_ofO, z_slot, z_var, z_c, z_fl, z_pl, z_bin, z_un, z_nil, z_cons, z_fn, z_tup, z_lst, z_d0, z_B, z_tru, z_andT, z_orT, z_notT, z_and, z_or, z_not, z_if, z_chain, z_tBl, z_tru1, z_tru2, z_tru3, z_tru4, z_tru5, z_tru6, z_pn, z_ps, z_tInt, z_sl, z_mt, z_call, z_go, z_gox, z_ioC, z_callIO, z_goI, y_non, y_bl, y_int, y_str, y_ty, y_tup, y_nd, y_0, y_1, y_nI, y_sS, y_bS, y_sho, y_shs, y_shz, y_shw, y_boo, y_bos, y_boz, y_bow, y_uwo, y_uws, y_uwz, y_uww, y_fz, y_szo, y_szs, y_szz, y_szw, y_nwo, y_nws, y_nwz, y_nww, y_nzo, y_nzs, y_nzz, y_nzw, y_noo, y_nos, y_noz, y_now, y_a0, y_a1, y_anon, y_abl, y_aint, y_astr, y_aty, y_atup, y_and, y_anI, y_asS, y_abS, z_go_nx, z_go_ret, z_go_brk, z_go_cnt, z_go_ex, z_st, z_stx, z_wnil, z_seq, z_expr, z_ret, z_retV, z_retV1, z_retN, z_brk, z_cnt, z_wif, z_asgT, z_asg, z_tgn, z_tgu, z_tgu1, z_tgu2, z_tg0, z_tg1, z_augL, z_augT, z_augZ, z_mut, z_mutL, z_mutG, z_mutZ, z_put, z_putL, z_for, z_forG, z_loop0, z_loop1, z_loopT, z_loopn, z_loopc, z_loopb, z_loopr, z_loopx, z_while, z_wh, z_whn, z_whb, z_whr, z_iv, z_iv1, z_iv2, z_iv3, z_rg, z_r1, z_r2, z_en, z_en2, z_it8, z_en1, z_zp, z_zp1, z_rv, z_rv1, z_it1, z_it2, z_it3, z_it4, z_it5, z_it6, z_it7, z_itf, z_lc, z_lcG, z_calm, z_vlc0, z_vlc1, z_lcT, z_noO0, z_noO1, z_noS1, z_noS2, z_noS3, z_wipe0, z_wipe1, z_rest0, z_rest1, z_resS, z_she0, z_she1, z_sheS, z_fin1, z_fin2, z_fin3, z_f0, z_f1, z_f2, z_f3, z_f4, z_f5, z_f6, z_f7, z_finI1, z_finI2, z_ioS, t_add, t_addb, t_adds, t_addl, t_sub, t_mul, t_muls, t_mull, t_div, t_mod, t_neg, t_aug, t_augs, t_eq, t_ne, t_lt, t_le, t_gt, t_ge, t_eqi, t_eqs, t_eqb, t_eqn, t_is, t_isn, t_is1, t_is2, t_is3, t_is4, t_is5, t_is6, t_is7, t_is8, t_ixt, t_ixl, t_ixs, t_ixd, t_k1, t_k2, t_in, t_nin, t_ind, t_len1, t_len2, t_len3, t_abs, t_max, t_min, t_maxl, t_minl, t_minT1, t_minT0, t_ltt, z_orV, t_sum, t_all, t_any, t_int1, t_int2, t_int3, t_str, t_list1, t_list2, t_tup1, t_tup2, t_dm, t_ty1, t_ty2, t_ty3, t_ty4, t_ty5, t_ty6, t_ty7, t_inst, t_inst2, t_in1, t_in2, t_tt1, t_tt2, t_tt3, t_find, t_sw, t_part, t_split, t_join, t_upper, t_get, t_get2, t_sl1, t_sl3, t_app, t_ext1, t_ext2, t_clear, t_put, t_pop0, t_mI, t_mB, t_mS, t_dcg1, t_dcg2, t_dci1, t_dci2, t_dcn1, t_dcn2, t_dcx1, t_dcx2, t_kT1, t_kT2, z_disp1, z_dispX, z_dispY1, z_dispY2, z_ixs, z_ixk, z_ixd, z_ixz, z_own, z_own1, z_aug, y_ap, y_ap2, List.getElem?_cons_zero, List.getElem?_cons_succ, List.set_cons_zero, List.set_cons_succ, Option.map_some, Option.map_none, Option.bind_some, decide_true, decide_false, if_true, if_false, Int.reduceLT, Int.reduceLE, Bool.and_true, Bool.true_and, Bool.and_self, Bool.or_true, Bool.or_false, Bool.false_or, Bool.true_or, Bool.not_true, Bool.not_false, Bool.false_eq_true, List.length_cons, List.length_nil, Nat.reduceAdd, Nat.reduceLeDiff, Nat.zero_le, Nat.reduceLT, and_self, and_true, true_and, Bool.and_false, Bool.false_and, ite_true, ite_false, beq_self_eq_true, w_l_moved_s1, TV.bo, TV.sh, TV.nw, TV.nz, fz, a1, e, fq, aq]; all_goals rfl
    unfold w_l_moved wTold
    rw [s1, if_neg hq]
    kernel_rfl
theorem due_run {p : Pt} {st h : Int} (k : p.ok) (h1 : -40 ≤ st) (h2 : st ≤ 40) : W_l_due [p.t, .int st, .int h] = .ok (duT (mvT p st h)) := by
  unfold W_l_due
  rw [z_f3]
  show (w_l_due [some p.t, some (.int st), some (.int h), none, none, none]).fin = _
  have m7 : okMul 7 p.o = true := okMul_l (by omega)
  have i2 : tIx (.tup [.int p.s, .int p.l, .int p.o]) (.int 2) = some (.int p.o) := rfl
  have i1 : tIx (.tup [.int p.s, .int p.l, .int p.o]) (.int 1) = some (.int p.l) := rfl
  have i0 : tIx (.tup [.int p.s, .int p.l, .int p.o]) (.int 0) = some (.int p.s) := rfl
  have kk := k
  unfold Pt.ok at kk
  have hp : p.t = .tup [.int p.s, .int p.l, .int p.o] := rfl
  have s1 : w_l_due_s1 [some p.t, some (.int st), some (.int h), none, none, none] = .nx [some p.t, some (.int st), some (.int h), some (.int (7 * p.o + p.s + st)), none, none] := by
    simp only [z_bind, z_bindx, z_ofO, z_slot, z_var, z_c, z_fl, z_pl, z_bin, z_un, z_nil, z_cons, z_fn, z_tup, z_lst, z_d0, z_B, z_tru, z_andT, z_orT, z_notT, z_and, z_or, z_not, z_if, z_chain, z_tBl, z_tru1, z_tru2, z_tru3, z_tru4, z_tru5, z_tru6, z_pn, z_ps, z_tInt, z_sl, z_mt, z_call, z_go, z_gox, z_ioC, z_callIO, z_goI, y_non, y_bl, y_int, y_str, y_ty, y_tup, y_nd, y_0, y_1, y_nI, y_sS, y_bS, y_sho, y_shs, y_shz, y_shw, y_boo, y_bos, y_boz, y_bow, y_uwo, y_uws, y_uwz, y_uww, y_fz, y_szo, y_szs, y_szz, y_szw, y_nwo, y_nws, y_nwz, y_nww, y_nzo, y_nzs, y_nzz, y_nzw, y_noo, y_nos, y_noz, y_now, y_a0, y_a1, y_anon, y_abl, y_aint, y_astr, y_aty, y_atup, y_and, y_anI, y_asS, y_abS, z_go_nx, z_go_ret, z_go_brk, z_go_cnt, z_go_ex, z_st, z_stx, z_wnil, z_seq, z_expr, z_ret, z_retV, z_retV1, z_retN, z_brk, z_cnt, z_wif, z_asgT, z_asg, z_tgn, z_tgu, z_tgu1, z_tgu2, z_tg0, z_tg1, z_augL, z_augT, z_augZ, z_mut, z_mutL, z_mutG, z_mutZ, z_put, z_putL, z_for, z_forG, z_loop0, z_loop1, z_loopT, z_loopn, z_loopc, z_loopb, z_loopr, z_loopx, z_while, z_wh, z_whn, z_whb, z_whr, z_iv, z_iv1, z_iv2, z_iv3, z_rg, z_r1, z_r2, z_en, z_en2, z_it8, z_en1, z_zp, z_zp1, z_rv, z_rv1, z_it1, z_it2, z_it3, z_it4, z_it5, z_it6, z_it7, z_itf, z_lc, z_lcG, z_calm, z_vlc0, z_vlc1, z_lcT, z_noO0, z_noO1, z_noS1, z_noS2, z_noS3, z_wipe0, z_wipe1, z_rest0, z_rest1, z_resS, z_she0, z_she1, z_sheS, z_fin1, z_fin2, z_fin3, z_f0, z_f1, z_f2, z_f3, z_f4, z_f5, z_f6, z_f7, z_finI1, z_finI2, z_ioS, t_add, t_addb, t_adds, t_addl, t_sub, t_mul, t_muls, t_mull, t_div, t_mod, t_neg, t_aug, t_augs, t_eq, t_ne, t_lt, t_le, t_gt, t_ge, t_eqi, t_eqs, t_eqb, t_eqn, t_is, t_isn, t_is1, t_is2, t_is3, t_is4, t_is5, t_is6, t_is7, t_is8, t_ixt, t_ixl, t_ixs, t_ixd, t_k1, t_k2, t_in, t_nin, t_ind, t_len1, t_len2, t_len3, t_abs, t_max, t_min, t_maxl, t_minl, t_minT1, t_minT0, t_ltt, z_orV, t_sum, t_all, t_any, t_int1, t_int2, t_int3, t_str, t_list1, t_list2, t_tup1, t_tup2, t_dm, t_ty1, t_ty2, t_ty3, t_ty4, t_ty5, t_ty6, t_ty7, t_inst, t_inst2, t_in1, t_in2, t_tt1, t_tt2, t_tt3, t_find, t_sw, t_part, t_split, t_join, t_upper, t_get, t_get2, t_sl1, t_sl3, t_app, t_ext1, t_ext2, t_clear, t_put, t_pop0, t_mI, t_mB, t_mS, t_dcg1, t_dcg2, t_dci1, t_dci2, t_dcn1, t_dcn2, t_dcx1, t_dcx2, t_kT1, t_kT2, z_disp1, z_dispX, z_dispY1, z_dispY2, z_ixs, z_ixk, z_ixd, z_ixz, z_own, z_own1, z_aug, y_ap, y_ap2, List.getElem?_cons_zero, List.getElem?_cons_succ, List.set_cons_zero, List.set_cons_succ, Option.map_some, Option.map_none, Option.bind_some, decide_true, decide_false, if_true, if_false, Int.reduceLT, Int.reduceLE, Bool.and_true, Bool.true_and, Bool.and_self, Bool.or_true, Bool.or_false, Bool.false_or, Bool.true_or, Bool.not_true, Bool.not_false, Bool.false_eq_true, List.length_cons, List.length_nil, Nat.reduceAdd, Nat.reduceLeDiff, Nat.zero_le, Nat.reduceLT, and_self, and_true, true_and, Bool.and_false, Bool.false_and, ite_true, ite_false, beq_self_eq_true, w_l_due_s1, hp, m7, i2, i1, i0]; all_goals rfl
  have s1b : wAsg (.nm 4) (vPl (vBin tFdiv (vVar 3) (vC (.int 7)))) [some p.t, some (.int st), some (.int h), some (.int (7 * p.o + p.s + st)), none, none] = .nx [some p.t, some (.int st), some (.int h), some (.int (7 * p.o + p.s + st)), some (.int ((7 * p.o + p.s + st) / 7)), none] := by
    simp only [z_bind, z_bindx, z_ofO, z_slot, z_var, z_c, z_fl, z_pl, z_bin, z_un, z_nil, z_cons, z_fn, z_tup, z_lst, z_d0, z_B, z_tru, z_andT, z_orT, z_notT, z_and, z_or, z_not, z_if, z_chain, z_tBl, z_tru1, z_tru2, z_tru3, z_tru4, z_tru5, z_tru6, z_pn, z_ps, z_tInt, z_sl, z_mt, z_call, z_go, z_gox, z_ioC, z_callIO, z_goI, y_non, y_bl, y_int, y_str, y_ty, y_tup, y_nd, y_0, y_1, y_nI, y_sS, y_bS, y_sho, y_shs, y_shz, y_shw, y_boo, y_bos, y_boz, y_bow, y_uwo, y_uws, y_uwz, y_uww, y_fz, y_szo, y_szs, y_szz, y_szw, y_nwo, y_nws, y_nwz, y_nww, y_nzo, y_nzs, y_nzz, y_nzw, y_noo, y_nos, y_noz, y_now, y_a0, y_a1, y_anon, y_abl, y_aint, y_astr, y_aty, y_atup, y_and, y_anI, y_asS, y_abS, z_go_nx, z_go_ret, z_go_brk, z_go_cnt, z_go_ex, z_st, z_stx, z_wnil, z_seq, z_expr, z_ret, z_retV, z_retV1, z_retN, z_brk, z_cnt, z_wif, z_asgT, z_asg, z_tgn, z_tgu, z_tgu1, z_tgu2, z_tg0, z_tg1, z_augL, z_augT, z_augZ, z_mut, z_mutL, z_mutG, z_mutZ, z_put, z_putL, z_for, z_forG, z_loop0, z_loop1, z_loopT, z_loopn, z_loopc, z_loopb, z_loopr, z_loopx, z_while, z_wh, z_whn, z_whb, z_whr, z_iv, z_iv1, z_iv2, z_iv3, z_rg, z_r1, z_r2, z_en, z_en2, z_it8, z_en1, z_zp, z_zp1, z_rv, z_rv1, z_it1, z_it2, z_it3, z_it4, z_it5, z_it6, z_it7, z_itf, z_lc, z_lcG, z_calm, z_vlc0, z_vlc1, z_lcT, z_noO0, z_noO1, z_noS1, z_noS2, z_noS3, z_wipe0, z_wipe1, z_rest0, z_rest1, z_resS, z_she0, z_she1, z_sheS, z_fin1, z_fin2, z_fin3, z_f0, z_f1, z_f2, z_f3, z_f4, z_f5, z_f6, z_f7, z_finI1, z_finI2, z_ioS, t_add, t_addb, t_adds, t_addl, t_sub, t_mul, t_muls, t_mull, t_div, t_mod, t_neg, t_aug, t_augs, t_eq, t_ne, t_lt, t_le, t_gt, t_ge, t_eqi, t_eqs, t_eqb, t_eqn, t_is, t_isn, t_is1, t_is2, t_is3, t_is4, t_is5, t_is6, t_is7, t_is8, t_ixt, t_ixl, t_ixs, t_ixd, t_k1, t_k2, t_in, t_nin, t_ind, t_len1, t_len2, t_len3, t_abs, t_max, t_min, t_maxl, t_minl, t_minT1, t_minT0, t_ltt, z_orV, t_sum, t_all, t_any, t_int1, t_int2, t_int3, t_str, t_list1, t_list2, t_tup1, t_tup2, t_dm, t_ty1, t_ty2, t_ty3, t_ty4, t_ty5, t_ty6, t_ty7, t_inst, t_inst2, t_in1, t_in2, t_tt1, t_tt2, t_tt3, t_find, t_sw, t_part, t_split, t_join, t_upper, t_get, t_get2, t_sl1, t_sl3, t_app, t_ext1, t_ext2, t_clear, t_put, t_pop0, t_mI, t_mB, t_mS, t_dcg1, t_dcg2, t_dci1, t_dci2, t_dcn1, t_dcn2, t_dcx1, t_dcx2, t_kT1, t_kT2, z_disp1, z_dispX, z_dispY1, z_dispY2, z_ixs, z_ixk, z_ixd, z_ixz, z_own, z_own1, z_aug, y_ap, y_ap2, List.getElem?_cons_zero, List.getElem?_cons_succ, List.set_cons_zero, List.set_cons_succ, Option.map_some, Option.map_none, Option.bind_some, decide_true, decide_false, if_true, if_false, Int.reduceLT, Int.reduceLE, Bool.and_true, Bool.true_and, Bool.and_self, Bool.or_true, Bool.or_false, Bool.false_or, Bool.true_or, Bool.not_true, Bool.not_false, Bool.false_eq_true, List.length_cons, List.length_nil, Nat.reduceAdd, Nat.reduceLeDiff, Nat.zero_le, Nat.reduceLT, and_self, and_true, true_and, Bool.and_false, Bool.false_and, ite_true, ite_false, beq_self_eq_true]; all_goals rfl
  have w1 := walk_run (l := 7 * p.o + p.s) (by omega) (by omega)
  have w2 := walk_run (l := 7 * p.o + p.s + st) (by omega) (by omega)
  have s2 : w_l_due_s2 [some p.t, some (.int st), some (.int h), some (.int (7 * p.o + p.s + st)), some (.int ((7 * p.o + p.s + st) / 7)), none] = .nx [some p.t, some (.int st), some (.int h), some (.int (7 * p.o + p.s + st)), some (.int ((7 * p.o + p.s + st) / 7)), some (.int (wk (7 * p.o + p.s) + p.l))] := by
    simp only [z_bind, z_bindx, z_ofO, z_slot, z_var, z_c, z_fl, z_pl, z_bin, z_un, z_nil, z_cons, z_fn, z_tup, z_lst, z_d0, z_B, z_tru, z_andT, z_orT, z_notT, z_and, z_or, z_not, z_if, z_chain, z_tBl, z_tru1, z_tru2, z_tru3, z_tru4, z_tru5, z_tru6, z_pn, z_ps, z_tInt, z_sl, z_mt, z_call, z_go, z_gox, z_ioC, z_callIO, z_goI, y_non, y_bl, y_int, y_str, y_ty, y_tup, y_nd, y_0, y_1, y_nI, y_sS, y_bS, y_sho, y_shs, y_shz, y_shw, y_boo, y_bos, y_boz, y_bow, y_uwo, y_uws, y_uwz, y_uww, y_fz, y_szo, y_szs, y_szz, y_szw, y_nwo, y_nws, y_nwz, y_nww, y_nzo, y_nzs, y_nzz, y_nzw, y_noo, y_nos, y_noz, y_now, y_a0, y_a1, y_anon, y_abl, y_aint, y_astr, y_aty, y_atup, y_and, y_anI, y_asS, y_abS, z_go_nx, z_go_ret, z_go_brk, z_go_cnt, z_go_ex, z_st, z_stx, z_wnil, z_seq, z_expr, z_ret, z_retV, z_retV1, z_retN, z_brk, z_cnt, z_wif, z_asgT, z_asg, z_tgn, z_tgu, z_tgu1, z_tgu2, z_tg0, z_tg1, z_augL, z_augT, z_augZ, z_mut, z_mutL, z_mutG, z_mutZ, z_put, z_putL, z_for, z_forG, z_loop0, z_loop1, z_loopT, z_loopn, z_loopc, z_loopb, z_loopr, z_loopx, z_while, z_wh, z_whn, z_whb, z_whr, z_iv, z_iv1, z_iv2, z_iv3, z_rg, z_r1, z_r2, z_en, z_en2, z_it8, z_en1, z_zp, z_zp1, z_rv, z_rv1, z_it1, z_it2, z_it3, z_it4, z_it5, z_it6, z_it7, z_itf, z_lc, z_lcG, z_calm, z_vlc0, z_vlc1, z_lcT, z_noO0, z_noO1, z_noS1, z_noS2, z_noS3, z_wipe0, z_wipe1, z_rest0, z_rest1, z_resS, z_she0, z_she1, z_sheS, z_fin1, z_fin2, z_fin3, z_f0, z_f1, z_f2, z_f3, z_f4, z_f5, z_f6, z_f7, z_finI1, z_finI2, z_ioS, t_add, t_addb, t_adds, t_addl, t_sub, t_mul, t_muls, t_mull, t_div, t_mod, t_neg, t_aug, t_augs, t_eq, t_ne, t_lt, t_le, t_gt, t_ge, t_eqi, t_eqs, t_eqb, t_eqn, t_is, t_isn, t_is1, t_is2, t_is3, t_is4, t_is5, t_is6, t_is7, t_is8, t_ixt, t_ixl, t_ixs, t_ixd, t_k1, t_k2, t_in, t_nin, t_ind, t_len1, t_len2, t_len3, t_abs, t_max, t_min, t_maxl, t_minl, t_minT1, t_minT0, t_ltt, z_orV, t_sum, t_all, t_any, t_int1, t_int2, t_int3, t_str, t_list1, t_list2, t_tup1, t_tup2, t_dm, t_ty1, t_ty2, t_ty3, t_ty4, t_ty5, t_ty6, t_ty7, t_inst, t_inst2, t_in1, t_in2, t_tt1, t_tt2, t_tt3, t_find, t_sw, t_part, t_split, t_join, t_upper, t_get, t_get2, t_sl1, t_sl3, t_app, t_ext1, t_ext2, t_clear, t_put, t_pop0, t_mI, t_mB, t_mS, t_dcg1, t_dcg2, t_dci1, t_dci2, t_dcn1, t_dcn2, t_dcx1, t_dcx2, t_kT1, t_kT2, z_disp1, z_dispX, z_dispY1, z_dispY2, z_ixs, z_ixk, z_ixd, z_ixz, z_own, z_own1, z_aug, y_ap, y_ap2, List.getElem?_cons_zero, List.getElem?_cons_succ, List.set_cons_zero, List.set_cons_succ, Option.map_some, Option.map_none, Option.bind_some, decide_true, decide_false, if_true, if_false, Int.reduceLT, Int.reduceLE, Bool.and_true, Bool.true_and, Bool.and_self, Bool.or_true, Bool.or_false, Bool.false_or, Bool.true_or, Bool.not_true, Bool.not_false, Bool.false_eq_true, List.length_cons, List.length_nil, Nat.reduceAdd, Nat.reduceLeDiff, Nat.zero_le, Nat.reduceLT, and_self, and_true, true_and, Bool.and_false, Bool.false_and, ite_true, ite_false, beq_self_eq_true, w_l_due_s2, hp, m7, i2, i1, i0, w1]; all_goals rfl
  have s3 : w_l_due_s3 [some p.t, some (.int st), some (.int h), some (.int (7 * p.o + p.s + st)), some (.int ((7 * p.o + p.s + st) / 7)), some (.int (wk (7 * p.o + p.s) + p.l))] = .nx [some p.t, some (.int st), some (.int h), some (.int (7 * p.o + p.s + st)), some (.int ((7 * p.o + p.s + st) / 7)), some (.int (mvT p st h).l)] := by
    have e : wk (7 * p.o + p.s) + p.l + h - wk (7 * p.o + p.s + st) = (mvT p st h).l := by
      unfold mvT wk
      dsimp only
      have a1 : (7 * p.o + p.s) / 7 = p.o := by omega
      have a2 : (7 * p.o + p.s) % 7 = p.s := by omega
      rw [a1, a2]
      omega
    simp only [z_bind, z_bindx, z_ofO, z_slot, z_var, z_c, z_fl, z_pl, z_bin, z_un, z_nil, z_cons, z_fn, z_tup, z_lst, z_d0, z_B, z_tru, z_andT, z_orT, z_notT, z_and, z_or, z_not, z_if, z_chain, z_tBl, z_tru1, z_tru2, z_tru3, z_tru4, z_tru5, z_tru6, z_pn, z_ps, z_tInt, z_sl, z_mt, z_call, z_go, z_gox, z_ioC, z_callIO, z_goI, y_non, y_bl, y_int, y_str, y_ty, y_tup, y_nd, y_0, y_1, y_nI, y_sS, y_bS, y_sho, y_shs, y_shz, y_shw, y_boo, y_bos, y_boz, y_bow, y_uwo, y_uws, y_uwz, y_uww, y_fz, y_szo, y_szs, y_szz, y_szw, y_nwo, y_nws, y_nwz, y_nww, y_nzo, y_nzs, y_nzz, y_nzw, y_noo, y_nos, y_noz, y_now, y_a0, y_a1, y_anon, y_abl, y_aint, y_astr, y_aty, y_atup, y_and, y_anI, y_asS, y_abS, z_go_nx, z_go_ret, z_go_brk, z_go_cnt, z_go_ex, z_st, z_stx, z_wnil, z_seq, z_expr, z_ret, z_retV, z_retV1, z_retN, z_brk, z_cnt, z_wif, z_asgT, z_asg, z_tgn, z_tgu, z_tgu1, z_tgu2, z_tg0, z_tg1, z_augL, z_augT, z_augZ, z_mut, z_mutL, z_mutG, z_mutZ, z_put, z_putL, z_for, z_forG, z_loop0, z_loop1, z_loopT, z_loopn, z_loopc, z_loopb, z_loopr, z_loopx, z_while, z_wh, z_whn, z_whb, z_whr, z_iv, z_iv1, z_iv2, z_iv3, z_rg, z_r1, z_r2, z_en, z_en2, z_it8, z_en1, z_zp, z_zp1, z_rv, z_rv1, z_it1, z_it2, z_it3, z_it4, z_it5, z_it6, z_it7, z_itf, z_lc, z_lcG, z_calm, z_vlc0, z_vlc1, z_lcT, z_noO0, z_noO1, z_noS1, z_noS2, z_noS3, z_wipe0, z_wipe1, z_rest0, z_rest1, z_resS, z_she0, z_she1, z_sheS, z_fin1, z_fin2, z_fin3, z_f0, z_f1, z_f2, z_f3, z_f4, z_f5, z_f6, z_f7, z_finI1, z_finI2, z_ioS, t_add, t_addb, t_adds, t_addl, t_sub, t_mul, t_muls, t_mull, t_div, t_mod, t_neg, t_aug, t_augs, t_eq, t_ne, t_lt, t_le, t_gt, t_ge, t_eqi, t_eqs, t_eqb, t_eqn, t_is, t_isn, t_is1, t_is2, t_is3, t_is4, t_is5, t_is6, t_is7, t_is8, t_ixt, t_ixl, t_ixs, t_ixd, t_k1, t_k2, t_in, t_nin, t_ind, t_len1, t_len2, t_len3, t_abs, t_max, t_min, t_maxl, t_minl, t_minT1, t_minT0, t_ltt, z_orV, t_sum, t_all, t_any, t_int1, t_int2, t_int3, t_str, t_list1, t_list2, t_tup1, t_tup2, t_dm, t_ty1, t_ty2, t_ty3, t_ty4, t_ty5, t_ty6, t_ty7, t_inst, t_inst2, t_in1, t_in2, t_tt1, t_tt2, t_tt3, t_find, t_sw, t_part, t_split, t_join, t_upper, t_get, t_get2, t_sl1, t_sl3, t_app, t_ext1, t_ext2, t_clear, t_put, t_pop0, t_mI, t_mB, t_mS, t_dcg1, t_dcg2, t_dci1, t_dci2, t_dcn1, t_dcn2, t_dcx1, t_dcx2, t_kT1, t_kT2, z_disp1, z_dispX, z_dispY1, z_dispY2, z_ixs, z_ixk, z_ixd, z_ixz, z_own, z_own1, z_aug, y_ap, y_ap2, List.getElem?_cons_zero, List.getElem?_cons_succ, List.set_cons_zero, List.set_cons_succ, Option.map_some, Option.map_none, Option.bind_some, decide_true, decide_false, if_true, if_false, Int.reduceLT, Int.reduceLE, Bool.and_true, Bool.true_and, Bool.and_self, Bool.or_true, Bool.or_false, Bool.false_or, Bool.true_or, Bool.not_true, Bool.not_false, Bool.false_eq_true, List.length_cons, List.length_nil, Nat.reduceAdd, Nat.reduceLeDiff, Nat.zero_le, Nat.reduceLT, and_self, and_true, true_and, Bool.and_false, Bool.false_and, ite_true, ite_false, beq_self_eq_true, w_l_due_s3, w2, e]; all_goals rfl
  simp only [w_l_due, z_seq, s1, s1b, s2, s3, z_go_nx]
  have eo : (mvT p st h).o = (7 * p.o + p.s + st) / 7 := rfl
  have es : (mvT p st h).s = (7 * p.o + p.s + st) % 7 := rfl
  unfold duT
  generalize mvT p st h = q at *
  generalize 7 * p.o + p.s + st = L at *
  have m8 : okMul 7 (L / 7) = true := okMul_l (by omega)
  have e5 : L - 7 * (L / 7) = q.s := by omega
  by_cases c1 : L < 0
  · have hq : ¬ q.ok := by unfold Pt.ok; omega
    simp only [z_bind, z_bindx, z_ofO, z_slot, z_var, z_c, z_fl, z_pl, z_bin, z_un, z_nil, z_cons, z_fn, z_tup, z_lst, z_d0, z_B, z_tru, z_andT, z_orT, z_notT, z_and, z_or, z_not, z_if, z_chain, z_tBl, z_tru1, z_tru2, z_tru3, z_tru4, z_tru5, z_tru6, z_pn, z_ps, z_tInt, z_sl, z_mt, z_call, z_go, z_gox, z_ioC, z_callIO, z_goI, y_non, y_bl, y_int, y_str, y_ty, y_tup, y_nd, y_0, y_1, y_nI, y_sS, y_bS, y_sho, y_shs, y_shz, y_shw, y_boo, y_bos, y_boz, y_bow, y_uwo, y_uws, y_uwz, y_uww, y_fz, y_szo, y_szs, y_szz, y_szw, y_nwo, y_nws, y_nwz, y_nww, y_nzo, y_nzs, y_nzz, y_nzw, y_noo, y_nos, y_noz, y_now, y_a0, y_a1, y_anon, y_abl, y_aint, y_astr, y_aty, y_atup, y_and, y_anI, y_asS, y_abS, z_go_nx, z_go_ret, z_go_brk, z_go_cnt, z_go_ex, z_st, z_stx, z_wnil, z_seq, z_expr, z_ret, z_retV, z_retV1, z_retN, z_brk, z_cnt, z_wif, z_asgT, z_asg, z_tgn, z_tgu, z_tgu1, z_tgu2, z_tg0, z_tg1, z_augL, z_augT, z_augZ, z_mut, z_mutL, z_mutG, z_mutZ, z_put, z_putL, z_for, z_forG, z_loop0, z_loop1, z_loopT, z_loopn, z_loopc, z_loopb, z_loopr, z_loopx, z_while, z_wh, z_whn, z_whb, z_whr, z_iv, z_iv1, z_iv2, z_iv3, z_rg, z_r1, z_r2, z_en, z_en2, z_it8, z_en1, z_zp, z_zp1, z_rv, z_rv1, z_it1, z_it2, z_it3, z_it4, z_it5, z_it6, z_it7, z_itf, z_lc, z_lcG, z_calm, z_vlc0, z_vlc1, z_lcT, z_noO0, z_noO1, z_noS1, z_noS2, z_noS3, z_wipe0, z_wipe1, z_rest0, z_rest1, z_resS, z_she0, z_she1, z_sheS, z_fin1, z_fin2, z_fin3, z_f0, z_f1, z_f2, z_f3, z_f4, z_f5, z_f6, z_f7, z_finI1, z_finI2, z_ioS, t_add, t_addb, t_adds, t_addl, t_sub, t_mul, t_muls, t_mull, t_div, t_mod, t_neg, t_aug, t_augs, t_eq, t_ne, t_lt, t_le, t_gt, t_ge, t_eqi, t_eqs, t_eqb, t_eqn, t_is, t_isn, t_is1, t_is2, t_is3, t_is4, t_is5, t_is6, t_is7, t_is8, t_ixt, t_ixl, t_ixs, t_ixd, t_k1, t_k2, t_in, t_nin, t_ind, t_len1, t_len2, t_len3, t_abs, t_max, t_min, t_maxl, t_minl, t_minT1, t_minT0, t_ltt, z_orV, t_sum, t_all, t_any, t_int1, t_int2, t_int3, t_str, t_list1, t_list2, t_tup1, t_tup2, t_dm, t_ty1, t_ty2, t_ty3, t_ty4, t_ty5, t_ty6, t_ty7, t_inst, t_inst2, t_in1, t_in2, t_tt1, t_tt2, t_tt3, t_find, t_sw, t_part, t_split, t_join, t_upper, t_get, t_get2, t_sl1, t_sl3, t_app, t_ext1, t_ext2, t_clear, t_put, t_pop0, t_mI, t_mB, t_mS, t_dcg1, t_dcg2, t_dci1, t_dci2, t_dcn1, t_dcn2, t_dcx1, t_dcx2, t_kT1, t_kT2, z_disp1, z_dispX, z_dispY1, z_dispY2, z_ixs, z_ixk, z_ixd, z_ixz, z_own, z_own1, z_aug, y_ap, y_ap2, List.getElem?_cons_zero, List.getElem?_cons_succ, List.set_cons_zero, List.set_cons_succ, Option.map_some, Option.map_none, Option.bind_some, decide_true, decide_false, if_true, if_false, Int.reduceLT, Int.reduceLE, Bool.and_true, Bool.true_and, Bool.and_self, Bool.or_true, Bool.or_false, Bool.false_or, Bool.true_or, Bool.not_true, Bool.not_false, Bool.false_eq_true, List.length_cons, List.length_nil, Nat.reduceAdd, Nat.reduceLeDiff, Nat.zero_le, Nat.reduceLT, and_self, and_true, true_and, Bool.and_false, Bool.false_and, ite_true, ite_false, beq_self_eq_true, w_l_due_s4, w_l_due_s5, c1, hq]; all_goals rfl
  · by_cases c2 : 8 < L / 7
    · have hq : ¬ q.ok := by unfold Pt.ok; omega
      simp only [z_bind, z_bindx, z_ofO, z_slot, z_var, z_c, z_fl, z_pl, z_bin, z_un, z_nil, z_cons, z_fn, z_tup, z_lst, z_d0, z_B, z_tru, z_andT, z_orT, z_notT, z_and, z_or, z_not, z_if, z_chain, z_tBl, z_tru1, z_tru2, z_tru3, z_tru4, z_tru5, z_tru6, z_pn, z_ps, z_tInt, z_sl, z_mt, z_call, z_go, z_gox, z_ioC, z_callIO, z_goI, y_non, y_bl, y_int, y_str, y_ty, y_tup, y_nd, y_0, y_1, y_nI, y_sS, y_bS, y_sho, y_shs, y_shz, y_shw, y_boo, y_bos, y_boz, y_bow, y_uwo, y_uws, y_uwz, y_uww, y_fz, y_szo, y_szs, y_szz, y_szw, y_nwo, y_nws, y_nwz, y_nww, y_nzo, y_nzs, y_nzz, y_nzw, y_noo, y_nos, y_noz, y_now, y_a0, y_a1, y_anon, y_abl, y_aint, y_astr, y_aty, y_atup, y_and, y_anI, y_asS, y_abS, z_go_nx, z_go_ret, z_go_brk, z_go_cnt, z_go_ex, z_st, z_stx, z_wnil, z_seq, z_expr, z_ret, z_retV, z_retV1, z_retN, z_brk, z_cnt, z_wif, z_asgT, z_asg, z_tgn, z_tgu, z_tgu1, z_tgu2, z_tg0, z_tg1, z_augL, z_augT, z_augZ, z_mut, z_mutL, z_mutG, z_mutZ, z_put, z_putL, z_for, z_forG, z_loop0, z_loop1, z_loopT, z_loopn, z_loopc, z_loopb, z_loopr, z_loopx, z_while, z_wh, z_whn, z_whb, z_whr, z_iv, z_iv1, z_iv2, z_iv3, z_rg, z_r1, z_r2, z_en, z_en2, z_it8, z_en1, z_zp, z_zp1, z_rv, z_rv1, z_it1, z_it2, z_it3, z_it4, z_it5, z_it6, z_it7, z_itf, z_lc, z_lcG, z_calm, z_vlc0, z_vlc1, z_lcT, z_noO0, z_noO1, z_noS1, z_noS2, z_noS3, z_wipe0, z_wipe1, z_rest0, z_rest1, z_resS, z_she0, z_she1, z_sheS, z_fin1, z_fin2, z_fin3, z_f0, z_f1, z_f2, z_f3, z_f4, z_f5, z_f6, z_f7, z_finI1, z_finI2, z_ioS, t_add, t_addb, t_adds, t_addl, t_sub, t_mul, t_muls, t_mull, t_div, t_mod, t_neg, t_aug, t_augs, t_eq, t_ne, t_lt, t_le, t_gt, t_ge, t_eqi, t_eqs, t_eqb, t_eqn, t_is, t_isn, t_is1, t_is2, t_is3, t_is4, t_is5, t_is6, t_is7, t_is8, t_ixt, t_ixl, t_ixs, t_ixd, t_k1, t_k2, t_in, t_nin, t_ind, t_len1, t_len2, t_len3, t_abs, t_max, t_min, t_maxl, t_minl, t_minT1, t_minT0, t_ltt, z_orV, t_sum, t_all, t_any, t_int1, t_int2, t_int3, t_str, t_list1, t_list2, t_tup1, t_tup2, t_dm, t_ty1, t_ty2, t_ty3, t_ty4, t_ty5, t_ty6, t_ty7, t_inst, t_inst2, t_in1, t_in2, t_tt1, t_tt2, t_tt3, t_find, t_sw, t_part, t_split, t_join, t_upper, t_get, t_get2, t_sl1, t_sl3, t_app, t_ext1, t_ext2, t_clear, t_put, t_pop0, t_mI, t_mB, t_mS, t_dcg1, t_dcg2, t_dci1, t_dci2, t_dcn1, t_dcn2, t_dcx1, t_dcx2, t_kT1, t_kT2, z_disp1, z_dispX, z_dispY1, z_dispY2, z_ixs, z_ixk, z_ixd, z_ixz, z_own, z_own1, z_aug, y_ap, y_ap2, List.getElem?_cons_zero, List.getElem?_cons_succ, List.set_cons_zero, List.set_cons_succ, Option.map_some, Option.map_none, Option.bind_some, decide_true, decide_false, if_true, if_false, Int.reduceLT, Int.reduceLE, Bool.and_true, Bool.true_and, Bool.and_self, Bool.or_true, Bool.or_false, Bool.false_or, Bool.true_or, Bool.not_true, Bool.not_false, Bool.false_eq_true, List.length_cons, List.length_nil, Nat.reduceAdd, Nat.reduceLeDiff, Nat.zero_le, Nat.reduceLT, and_self, and_true, true_and, Bool.and_false, Bool.false_and, ite_true, ite_false, beq_self_eq_true, w_l_due_s4, w_l_due_s5, c1, c2, hq]; all_goals rfl
    · by_cases c3 : q.l < -2
      · have hq : ¬ q.ok := by unfold Pt.ok; omega
        simp only [z_bind, z_bindx, z_ofO, z_slot, z_var, z_c, z_fl, z_pl, z_bin, z_un, z_nil, z_cons, z_fn, z_tup, z_lst, z_d0, z_B, z_tru, z_andT, z_orT, z_notT, z_and, z_or, z_not, z_if, z_chain, z_tBl, z_tru1, z_tru2, z_tru3, z_tru4, z_tru5, z_tru6, z_pn, z_ps, z_tInt, z_sl, z_mt, z_call, z_go, z_gox, z_ioC, z_callIO, z_goI, y_non, y_bl, y_int, y_str, y_ty, y_tup, y_nd, y_0, y_1, y_nI, y_sS, y_bS, y_sho, y_shs, y_shz, y_shw, y_boo, y_bos, y_boz, y_bow, y_uwo, y_uws, y_uwz, y_uww, y_fz, y_szo, y_szs, y_szz, y_szw, y_nwo, y_nws, y_nwz, y_nww, y_nzo, y_nzs, y_nzz, y_nzw, y_noo, y_nos, y_noz, y_now, y_a0, y_a1, y_anon, y_abl, y_aint, y_astr, y_aty, y_atup, y_and, y_anI, y_asS, y_abS, z_go_nx, z_go_ret, z_go_brk, z_go_cnt, z_go_ex, z_st, z_stx, z_wnil, z_seq, z_expr, z_ret, z_retV, z_retV1, z_retN, z_brk, z_cnt, z_wif, z_asgT, z_asg, z_tgn, z_tgu, z_tgu1, z_tgu2, z_tg0, z_tg1, z_augL, z_augT, z_augZ, z_mut, z_mutL, z_mutG, z_mutZ, z_put, z_putL, z_for, z_forG, z_loop0, z_loop1, z_loopT, z_loopn, z_loopc, z_loopb, z_loopr, z_loopx, z_while, z_wh, z_whn, z_whb, z_whr, z_iv, z_iv1, z_iv2, z_iv3, z_rg, z_r1, z_r2, z_en, z_en2, z_it8, z_en1, z_zp, z_zp1, z_rv, z_rv1, z_it1, z_it2, z_it3, z_it4, z_it5, z_it6, z_it7, z_itf, z_lc, z_lcG, z_calm, z_vlc0, z_vlc1, z_lcT, z_noO0, z_noO1, z_noS1, z_noS2, z_noS3, z_wipe0, z_wipe1, z_rest0, z_rest1, z_resS, z_she0, z_she1, z_sheS, z_fin1, z_fin2, z_fin3, z_f0, z_f1, z_f2, z_f3, z_f4, z_f5, z_f6, z_f7, z_finI1, z_finI2, z_ioS, t_add, t_addb, t_adds, t_addl, t_sub, t_mul, t_muls, t_mull, t_div, t_mod, t_neg, t_aug, t_augs, t_eq, t_ne, t_lt, t_le, t_gt, t_ge, t_eqi, t_eqs, t_eqb, t_eqn, t_is, t_isn, t_is1, t_is2, t_is3, t_is4, t_is5, t_is6, t_is7, t_is8, t_ixt, t_ixl, t_ixs, t_ixd, t_k1, t_k2, t_in, t_nin, t_ind, t_len1, t_len2, t_len3, t_abs, t_max, t_min, t_maxl, t_minl, t_minT1, t_minT0, t_ltt, z_orV, t_sum, t_all, t_any, t_int1, t_int2, t_int3, t_str, t_list1, t_list2, t_tup1, t_tup2, t_dm, t_ty1, t_ty2, t_ty3, t_ty4, t_ty5, t_ty6, t_ty7, t_inst, t_inst2, t_in1, t_in2, t_tt1, t_tt2, t_tt3, t_find, t_sw, t_part, t_split, t_join, t_upper, t_get, t_get2, t_sl1, t_sl3, t_app, t_ext1, t_ext2, t_clear, t_put, t_pop0, t_mI, t_mB, t_mS, t_dcg1, t_dcg2, t_dci1, t_dci2, t_dcn1, t_dcn2, t_dcx1, t_dcx2, t_kT1, t_kT2, z_disp1, z_dispX, z_dispY1, z_dispY2, z_ixs, z_ixk, z_ixd, z_ixz, z_own, z_own1, z_aug, y_ap, y_ap2, List.getElem?_cons_zero, List.getElem?_cons_succ, List.set_cons_zero, List.set_cons_succ, Option.map_some, Option.map_none, Option.bind_some, decide_true, decide_false, if_true, if_false, Int.reduceLT, Int.reduceLE, Bool.and_true, Bool.true_and, Bool.and_self, Bool.or_true, Bool.or_false, Bool.false_or, Bool.true_or, Bool.not_true, Bool.not_false, Bool.false_eq_true, List.length_cons, List.length_nil, Nat.reduceAdd, Nat.reduceLeDiff, Nat.zero_le, Nat.reduceLT, and_self, and_true, true_and, Bool.and_false, Bool.false_and, ite_true, ite_false, beq_self_eq_true, w_l_due_s4, w_l_due_s5, c1, c2, c3, hq]; all_goals rfl
      · by_cases c4 : 2 < q.l
        · have hq : ¬ q.ok := by unfold Pt.ok; omega
          simp only [z_bind, z_bindx, z_ofO, z_slot, z_var, z_c, z_fl, z_pl, z_bin, z_un, z_nil, z_cons, z_fn, z_tup, z_lst, z_d0, z_B, z_tru, z_andT, z_orT, z_notT, z_and, z_or, z_not, z_if, z_chain, z_tBl, z_tru1, z_tru2, z_tru3, z_tru4, z_tru5, z_tru6, z_pn, z_ps, z_tInt, z_sl, z_mt, z_call, z_go, z_gox, z_ioC, z_callIO, z_goI, y_non, y_bl, y_int, y_str, y_ty, y_tup, y_nd, y_0, y_1, y_nI, y_sS, y_bS, y_sho, y_shs, y_shz, y_shw, y_boo, y_bos, y_boz, y_bow, y_uwo, y_uws, y_uwz, y_uww, y_fz, y_szo, y_szs, y_szz, y_szw, y_nwo, y_nws, y_nwz, y_nww, y_nzo, y_nzs, y_nzz, y_nzw, y_noo, y_nos, y_noz, y_now, y_a0, y_a1, y_anon, y_abl, y_aint, y_astr, y_aty, y_atup, y_and, y_anI, y_asS, y_abS, z_go_nx, z_go_ret, z_go_brk, z_go_cnt, z_go_ex, z_st, z_stx, z_wnil, z_seq, z_expr, z_ret, z_retV, z_retV1, z_retN, z_brk, z_cnt, z_wif, z_asgT, z_asg, z_tgn, z_tgu, z_tgu1, z_tgu2, z_tg0, z_tg1, z_augL, z_augT, z_augZ, z_mut, z_mutL, z_mutG, z_mutZ, z_put, z_putL, z_for, z_forG, z_loop0, z_loop1, z_loopT, z_loopn, z_loopc, z_loopb, z_loopr, z_loopx, z_while, z_wh, z_whn, z_whb, z_whr, z_iv, z_iv1, z_iv2, z_iv3, z_rg, z_r1, z_r2, z_en, z_en2, z_it8, z_en1, z_zp, z_zp1, z_rv, z_rv1, z_it1, z_it2, z_it3, z_it4, z_it5, z_it6, z_it7, z_itf, z_lc, z_lcG, z_calm, z_vlc0, z_vlc1, z_lcT, z_noO0, z_noO1, z_noS1, z_noS2, z_noS3, z_wipe0, z_wipe1, z_rest0, z_rest1, z_resS, z_she0, z_she1, z_sheS, z_fin1, z_fin2, z_fin3, z_f0, z_f1, z_f2, z_f3, z_f4, z_f5, z_f6, z_f7, z_finI1, z_finI2, z_ioS, t_add, t_addb, t_adds, t_addl, t_sub, t_mul, t_muls, t_mull, t_div, t_mod, t_neg, t_aug, t_augs, t_eq, t_ne, t_lt, t_le, t_gt, t_ge, t_eqi, t_eqs, t_eqb, t_eqn, t_is, t_isn, t_is1, t_is2, t_is3, t_is4, t_is5, t_is6, t_is7, t_is8, t_ixt, t_ixl, t_ixs, t_ixd, t_k1, t_k2, t_in, t_nin, t_ind, t_len1, t_len2, t_len3, t_abs, t_max, t_min, t_maxl, t_minl, t_minT1, t_minT0, t_ltt, z_orV, t_sum, t_all, t_any, t_int1, t_int2, t_int3, t_str, t_list1, t_list2, t_tup1, t_tup2, t_dm, t_ty1, t_ty2, t_ty3, t_ty4, t_ty5, t_ty6, t_ty7, t_inst, t_inst2, t_in1, t_in2, t_tt1, t_tt2, t_tt3, t_find, t_sw, t_part, t_split, t_join, t_upper, t_get, t_get2, t_sl1, t_sl3, t_app, t_ext1, t_ext2, t_clear, t_put, t_pop0, t_mI, t_mB, t_mS, t_dcg1, t_dcg2, t_dci1, t_dci2, t_dcn1, t_dcn2, t_dcx1, t_dcx2, t_kT1, t_kT2, z_disp1, z_dispX, z_dispY1, z_dispY2, z_ixs, z_ixk, z_ixd, z_ixz, z_own, z_own1, z_aug, y_ap, y_ap2, List.getElem?_cons_zero, List.getElem?_cons_succ, List.set_cons_zero, List.set_cons_succ, Option.map_some, Option.map_none, Option.bind_some, decide_true, decide_false, if_true, if_false, Int.reduceLT, Int.reduceLE, Bool.and_true, Bool.true_and, Bool.and_self, Bool.or_true, Bool.or_false, Bool.false_or, Bool.true_or, Bool.not_true, Bool.not_false, Bool.false_eq_true, List.length_cons, List.length_nil, Nat.reduceAdd, Nat.reduceLeDiff, Nat.zero_le, Nat.reduceLT, and_self, and_true, true_and, Bool.and_false, Bool.false_and, ite_true, ite_false, beq_self_eq_true, w_l_due_s4, w_l_due_s5, c1, c2, c3, c4, hq]; all_goals rfl
        · have hq : q.ok := by unfold Pt.ok; omega
          simp only [z_bind, z_bindx, z_ofO, z_slot, z_var, z_c, z_fl, z_pl, z_bin, z_un, z_nil, z_cons, z_fn, z_tup, z_lst, z_d0, z_B, z_tru, z_andT, z_orT, z_notT, z_and, z_or, z_not, z_if, z_chain, z_tBl, z_tru1, z_tru2, z_tru3, z_tru4, z_tru5, z_tru6, z_pn, z_ps, z_tInt, z_sl, z_mt, z_call, z_go, z_gox, z_ioC, z_callIO, z_goI, y_non, y_bl, y_int, y_str, y_ty, y_tup, y_nd, y_0, y_1, y_nI, y_sS, y_bS, y_sho, y_shs, y_shz, y_shw, y_boo, y_bos, y_boz, y_bow, y_uwo, y_uws, y_uwz, y_uww, y_fz, y_szo, y_szs, y_szz, y_szw, y_nwo, y_nws, y_nwz, y_nww, y_nzo, y_nzs, y_nzz, y_nzw, y_noo, y_nos, y_noz, y_now, y_a0, y_a1, y_anon, y_abl, y_aint, y_astr, y_aty, y_atup, y_and, y_anI, y_asS, y_abS, z_go_nx, z_go_ret, z_go_brk, z_go_cnt, z_go_ex, z_st, z_stx, z_wnil, z_seq, z_expr, z_ret, z_retV, z_retV1, z_retN, z_brk, z_cnt, z_wif, z_asgT, z_asg, z_tgn, z_tgu, z_tgu1, z_tgu2, z_tg0, z_tg1, z_augL, z_augT, z_augZ, z_mut, z_mutL, z_mutG, z_mutZ, z_put, z_putL, z_for, z_forG, z_loop0, z_loop1, z_loopT, z_loopn, z_loopc, z_loopb, z_loopr, z_loopx, z_while, z_wh, z_whn, z_whb, z_whr, z_iv, z_iv1, z_iv2, z_iv3, z_rg, z_r1, z_r2, z_en, z_en2, z_it8, z_en1, z_zp, z_zp1, z_rv, z_rv1, z_it1, z_it2, z_it3, z_it4, z_it5, z_it6, z_it7, z_itf, z_lc, z_lcG, z_calm, z_vlc0, z_vlc1, z_lcT, z_noO0, z_noO1, z_noS1, z_noS2, z_noS3, z_wipe0, z_wipe1, z_rest0, z_rest1, z_resS, z_she0, z_she1, z_sheS, z_fin1, z_fin2, z_fin3, z_f0, z_f1, z_f2, z_f3, z_f4, z_f5, z_f6, z_f7, z_finI1, z_finI2, z_ioS, t_add, t_addb, t_adds, t_addl, t_sub, t_mul, t_muls, t_mull, t_div, t_mod, t_neg, t_aug, t_augs, t_eq, t_ne, t_lt, t_le, t_gt, t_ge, t_eqi, t_eqs, t_eqb, t_eqn, t_is, t_isn, t_is1, t_is2, t_is3, t_is4, t_is5, t_is6, t_is7, t_is8, t_ixt, t_ixl, t_ixs, t_ixd, t_k1, t_k2, t_in, t_nin, t_ind, t_len1, t_len2, t_len3, t_abs, t_max, t_min, t_maxl, t_minl, t_minT1, t_minT0, t_ltt, z_orV, t_sum, t_all, t_any, t_int1, t_int2, t_int3, t_str, t_list1, t_list2, t_tup1, t_tup2, t_dm, t_ty1, t_ty2, t_ty3, t_ty4, t_ty5, t_ty6, t_ty7, t_inst, t_inst2, t_in1, t_in2, t_tt1, t_tt2, t_tt3, t_find, t_sw, t_part, t_split, t_join, t_upper, t_get, t_get2, t_sl1, t_sl3, t_app, t_ext1, t_ext2, t_clear, t_put, t_pop0, t_mI, t_mB, t_mS, t_dcg1, t_dcg2, t_dci1, t_dci2, t_dcn1, t_dcn2, t_dcx1, t_dcx2, t_kT1, t_kT2, z_disp1, z_dispX, z_dispY1, z_dispY2, z_ixs, z_ixk, z_ixd, z_ixz, z_own, z_own1, z_aug, y_ap, y_ap2, List.getElem?_cons_zero, List.getElem?_cons_succ, List.set_cons_zero, List.set_cons_succ, Option.map_some, Option.map_none, Option.bind_some, decide_true, decide_false, if_true, if_false, Int.reduceLT, Int.reduceLE, Bool.and_true, Bool.true_and, Bool.and_self, Bool.or_true, Bool.or_false, Bool.false_or, Bool.true_or, Bool.not_true, Bool.not_false, Bool.false_eq_true, List.length_cons, List.length_nil, Nat.reduceAdd, Nat.reduceLeDiff, Nat.zero_le, Nat.reduceLT, and_self, and_true, true_and, Bool.and_false, Bool.false_and, ite_true, ite_false, beq_self_eq_true, w_l_due_s4, w_l_due_s5, c1, c2, c3, c4, hq, m8, e5]; rw [← eo]; all_goals rfl
theorem eq_one (q : Pt) (k k' : Fl) : eqT (.nd k .lst [q.t]) (.nd k' .lst [q.t]) = some true := eq_same rfl rfl
theorem eq_ne (q : Pt) (k k' : Fl) : eqT (.nd k .lst [q.t]) (.nd k' .lst []) = some false := eq_len (by simp)
theorem eq_00 (k k' : Fl) : eqT (.nd k .lst []) (.nd k' .lst []) = some true := eq_nI (ms := []) (ns := [])
theorem eq_reach : eqT (.tup [.str "reach"]) (.tup [.str "reach"]) = some true := by kernel_rfl
theorem good_turn {p : Pt} {st h : Int} (k : p.ok) (h1 : -40 ≤ st) (h2 : st ≤ 40) (i : TV) (x : Option TV) : w_l_good_5 [some p.t, some (.int st), some (.int h), some (duT (mvT p st h)), some i, x, none, none] = .nx [some p.t, some (.int st), some (.int h), some (duT (mvT p st h)), some i, some (foT (mvT p st h)), none, none] := by
  have e := told_run (h := h) k h1 h2
  have fz : ∀ f, TV.fl f p.t = p.t := fun _ => rfl
  have a1 : ∀ f, p.t.all f = true := fun _ => rfl
  have nf : (foT (mvT p st h)).nw = true ∧ (foT (mvT p st h)).nz = true := by unfold foT; split <;> exact ⟨rfl, rfl⟩
  have s1 : w_l_good_s1 [some p.t, some (.int st), some (.int h), some (duT (mvT p st h)), some i, x, none, none] = .nx [some p.t, some (.int st), some (.int h), some (duT (mvT p st h)), some i, some (foT (mvT p st h)), none, none] := by
    simp only [z_bind, z_bindx, z_ofO, z_slot, z_var, z_c, z_fl, z_pl, z_bin, z_un, z_nil, z_cons, z_fn, z_tup, z_lst, z_d0, z_B, z_tru, z_andT, z_orT, z_notT, z_and, z_or, z_not, z_if, z_chain, z_tBl, z_tru1, z_tru2, z_tru3, z_tru4, z_tru5, z_tru6, z_pn, z_ps, z_tInt, z_sl, z_mt, z_call, z_go, z_gox, z_ioC, z_callIO, z_goI, y_non, y_bl, y_int, y_str, y_ty, y_tup, y_nd, y_0, y_1, y_nI, y_sS, y_bS, y_sho, y_shs, y_shz, y_shw, y_boo, y_bos, y_boz, y_bow, y_uwo, y_uws, y_uwz, y_uww, y_fz, y_szo, y_szs, y_szz, y_szw, y_nwo, y_nws, y_nwz, y_nww, y_nzo, y_nzs, y_nzz, y_nzw, y_noo, y_nos, y_noz, y_now, y_a0, y_a1, y_anon, y_abl, y_aint, y_astr, y_aty, y_atup, y_and, y_anI, y_asS, y_abS, z_go_nx, z_go_ret, z_go_brk, z_go_cnt, z_go_ex, z_st, z_stx, z_wnil, z_seq, z_expr, z_ret, z_retV, z_retV1, z_retN, z_brk, z_cnt, z_wif, z_asgT, z_asg, z_tgn, z_tgu, z_tgu1, z_tgu2, z_tg0, z_tg1, z_augL, z_augT, z_augZ, z_mut, z_mutL, z_mutG, z_mutZ, z_put, z_putL, z_for, z_forG, z_loop0, z_loop1, z_loopT, z_loopn, z_loopc, z_loopb, z_loopr, z_loopx, z_while, z_wh, z_whn, z_whb, z_whr, z_iv, z_iv1, z_iv2, z_iv3, z_rg, z_r1, z_r2, z_en, z_en2, z_it8, z_en1, z_zp, z_zp1, z_rv, z_rv1, z_it1, z_it2, z_it3, z_it4, z_it5, z_it6, z_it7, z_itf, z_lc, z_lcG, z_calm, z_vlc0, z_vlc1, z_lcT, z_noO0, z_noO1, z_noS1, z_noS2, z_noS3, z_wipe0, z_wipe1, z_rest0, z_rest1, z_resS, z_she0, z_she1, z_sheS, z_fin1, z_fin2, z_fin3, z_f0, z_f1, z_f2, z_f3, z_f4, z_f5, z_f6, z_f7, z_finI1, z_finI2, z_ioS, t_add, t_addb, t_adds, t_addl, t_sub, t_mul, t_muls, t_mull, t_div, t_mod, t_neg, t_aug, t_augs, t_eq, t_ne, t_lt, t_le, t_gt, t_ge, t_eqi, t_eqs, t_eqb, t_eqn, t_is, t_isn, t_is1, t_is2, t_is3, t_is4, t_is5, t_is6, t_is7, t_is8, t_ixt, t_ixl, t_ixs, t_ixd, t_k1, t_k2, t_in, t_nin, t_ind, t_len1, t_len2, t_len3, t_abs, t_max, t_min, t_maxl, t_minl, t_minT1, t_minT0, t_ltt, z_orV, t_sum, t_all, t_any, t_int1, t_int2, t_int3, t_str, t_list1, t_list2, t_tup1, t_tup2, t_dm, t_ty1, t_ty2, t_ty3, t_ty4, t_ty5, t_ty6, t_ty7, t_inst, t_inst2, t_in1, t_in2, t_tt1, t_tt2, t_tt3, t_find, t_sw, t_part, t_split, t_join, t_upper, t_get, t_get2, t_sl1, t_sl3, t_app, t_ext1, t_ext2, t_clear, t_put, t_pop0, t_mI, t_mB, t_mS, t_dcg1, t_dcg2, t_dci1, t_dci2, t_dcn1, t_dcn2, t_dcx1, t_dcx2, t_kT1, t_kT2, z_disp1, z_dispX, z_dispY1, z_dispY2, z_ixs, z_ixk, z_ixd, z_ixz, z_own, z_own1, z_aug, y_ap, y_ap2, List.getElem?_cons_zero, List.getElem?_cons_succ, List.set_cons_zero, List.set_cons_succ, Option.map_some, Option.map_none, Option.bind_some, decide_true, decide_false, if_true, if_false, Int.reduceLT, Int.reduceLE, Bool.and_true, Bool.true_and, Bool.and_self, Bool.or_true, Bool.or_false, Bool.false_or, Bool.true_or, Bool.not_true, Bool.not_false, Bool.false_eq_true, List.length_cons, List.length_nil, Nat.reduceAdd, Nat.reduceLeDiff, Nat.zero_le, Nat.reduceLT, and_self, and_true, true_and, Bool.and_false, Bool.false_and, ite_true, ite_false, beq_self_eq_true, w_l_good_s1, TV.bo, TV.sh, fz, e, a1, nf.2]; all_goals rfl
  simp only [w_l_good_5, z_seq, s1, z_go_nx]
  generalize mvT p st h = q
  unfold duT foT
  have fq : ∀ f, TV.fl f q.t = q.t := fun _ => rfl
  have aq : ∀ f, q.t.all f = true := fun _ => rfl
  by_cases hq : q.ok
  · rw [if_pos hq, if_pos hq]
    have s2 : w_l_good_s2 [some p.t, some (.int st), some (.int h), some (.nd .o .lst [q.t]), some i, some (.nd .o .lst [q.t]), none, none] = .nx [some p.t, some (.int st), some (.int h), some (.nd .o .lst [q.t]), some i, some (.nd .o .lst [q.t]), none, none] := by
      simp only [z_bind, z_bindx, z_ofO, z_slot, z_var, z_c, z_fl, z_pl, z_bin, z_un, z_nil, z_cons, z_fn, z_tup, z_lst, z_d0, z_B, z_tru, z_andT, z_orT, z_notT, z_and, z_or, z_not, z_if, z_chain, z_tBl, z_tru1, z_tru2, z_tru3, z_tru4, z_tru5, z_tru6, z_pn, z_ps, z_tInt, z_sl, z_mt, z_call, z_go, z_gox, z_ioC, z_callIO, z_goI, y_non, y_bl, y_int, y_str, y_ty, y_tup, y_nd, y_0, y_1, y_nI, y_sS, y_bS, y_sho, y_shs, y_shz, y_shw, y_boo, y_bos, y_boz, y_bow, y_uwo, y_uws, y_uwz, y_uww, y_fz, y_szo, y_szs, y_szz, y_szw, y_nwo, y_nws, y_nwz, y_nww, y_nzo, y_nzs, y_nzz, y_nzw, y_noo, y_nos, y_noz, y_now, y_a0, y_a1, y_anon, y_abl, y_aint, y_astr, y_aty, y_atup, y_and, y_anI, y_asS, y_abS, z_go_nx, z_go_ret, z_go_brk, z_go_cnt, z_go_ex, z_st, z_stx, z_wnil, z_seq, z_expr, z_ret, z_retV, z_retV1, z_retN, z_brk, z_cnt, z_wif, z_asgT, z_asg, z_tgn, z_tgu, z_tgu1, z_tgu2, z_tg0, z_tg1, z_augL, z_augT, z_augZ, z_mut, z_mutL, z_mutG, z_mutZ, z_put, z_putL, z_for, z_forG, z_loop0, z_loop1, z_loopT, z_loopn, z_loopc, z_loopb, z_loopr, z_loopx, z_while, z_wh, z_whn, z_whb, z_whr, z_iv, z_iv1, z_iv2, z_iv3, z_rg, z_r1, z_r2, z_en, z_en2, z_it8, z_en1, z_zp, z_zp1, z_rv, z_rv1, z_it1, z_it2, z_it3, z_it4, z_it5, z_it6, z_it7, z_itf, z_lc, z_lcG, z_calm, z_vlc0, z_vlc1, z_lcT, z_noO0, z_noO1, z_noS1, z_noS2, z_noS3, z_wipe0, z_wipe1, z_rest0, z_rest1, z_resS, z_she0, z_she1, z_sheS, z_fin1, z_fin2, z_fin3, z_f0, z_f1, z_f2, z_f3, z_f4, z_f5, z_f6, z_f7, z_finI1, z_finI2, z_ioS, t_add, t_addb, t_adds, t_addl, t_sub, t_mul, t_muls, t_mull, t_div, t_mod, t_neg, t_aug, t_augs, t_eq, t_ne, t_lt, t_le, t_gt, t_ge, t_eqi, t_eqs, t_eqb, t_eqn, t_is, t_isn, t_is1, t_is2, t_is3, t_is4, t_is5, t_is6, t_is7, t_is8, t_ixt, t_ixl, t_ixs, t_ixd, t_k1, t_k2, t_in, t_nin, t_ind, t_len1, t_len2, t_len3, t_abs, t_max, t_min, t_maxl, t_minl, t_minT1, t_minT0, t_ltt, z_orV, t_sum, t_all, t_any, t_int1, t_int2, t_int3, t_str, t_list1, t_list2, t_tup1, t_tup2, t_dm, t_ty1, t_ty2, t_ty3, t_ty4, t_ty5, t_ty6, t_ty7, t_inst, t_inst2, t_in1, t_in2, t_tt1, t_tt2, t_tt3, t_find, t_sw, t_part, t_split, t_join, t_upper, t_get, t_get2, t_sl1, t_sl3, t_app, t_ext1, t_ext2, t_clear, t_put, t_pop0, t_mI, t_mB, t_mS, t_dcg1, t_dcg2, t_dci1, t_dci2, t_dcn1, t_dcn2, t_dcx1, t_dcx2, t_kT1, t_kT2, z_disp1, z_dispX, z_dispY1, z_dispY2, z_ixs, z_ixk, z_ixd, z_ixz, z_own, z_own1, z_aug, y_ap, y_ap2, List.getElem?_cons_zero, List.getElem?_cons_succ, List.set_cons_zero, List.set_cons_succ, Option.map_some, Option.map_none, Option.bind_some, decide_true, decide_false, if_true, if_false, Int.reduceLT, Int.reduceLE, Bool.and_true, Bool.true_and, Bool.and_self, Bool.or_true, Bool.or_false, Bool.false_or, Bool.true_or, Bool.not_true, Bool.not_false, Bool.false_eq_true, List.length_cons, List.length_nil, Nat.reduceAdd, Nat.reduceLeDiff, Nat.zero_le, Nat.reduceLT, and_self, and_true, true_and, Bool.and_false, Bool.false_and, ite_true, ite_false, beq_self_eq_true, w_l_good_s2, TV.bo, TV.sh, fq, aq, eq_one, eq_ne]; all_goals rfl
    have s3 : w_l_good_s3 [some p.t, some (.int st), some (.int h), some (.nd .o .lst [q.t]), some i, some (.nd .o .lst [q.t]), none, none] = .nx [some p.t, some (.int st), some (.int h), some (.nd .o .lst [q.t]), some i, some (.nd .o .lst [q.t]), none, none] := by kernel_rfl
    have s4 : w_l_good_s4 [some p.t, some (.int st), some (.int h), some (.nd .o .lst [q.t]), some i, some (.nd .o .lst [q.t]), none, none] = .nx [some p.t, some (.int st), some (.int h), some (.nd .o .lst [q.t]), some i, some (.nd .o .lst [q.t]), none, none] := by kernel_rfl
    simp only [z_seq, s2, s3, s4, z_go_nx]
  · rw [if_neg hq, if_neg hq]
    have s2 : w_l_good_s2 [some p.t, some (.int st), some (.int h), some (.nd .o .lst []), some i, some (.tup [.str "reach"]), none, none] = .nx [some p.t, some (.int st), some (.int h), some (.nd .o .lst []), some i, some (.tup [.str "reach"]), none, none] := by kernel_rfl
    have s3 : w_l_good_s3 [some p.t, some (.int st), some (.int h), some (.nd .o .lst []), some i, some (.tup [.str "reach"]), none, none] = .nx [some p.t, some (.int st), some (.int h), some (.nd .o .lst []), some i, some (.tup [.str "reach"]), none, none] := by kernel_rfl
    have s4 : w_l_good_s4 [some p.t, some (.int st), some (.int h), some (.nd .o .lst []), some i, some (.tup [.str "reach"]), none, none] = .nx [some p.t, some (.int st), some (.int h), some (.nd .o .lst []), some i, some (.tup [.str "reach"]), none, none] := by kernel_rfl
    simp only [z_seq, s2, s3, s4, z_go_nx]
theorem good_run {p : Pt} {st h : Int} (k : p.ok) (h1 : -40 ≤ st) (h2 : st ≤ 40) : W_l_good [p.t, .int st, .int h] = .ok (.bl true) := by
  unfold W_l_good
  rw [z_f3]
  show (w_l_good [some p.t, some (.int st), some (.int h), none, none, none, none, none]).fin = _
  have e := due_run (h := h) k h1 h2
  have fz : ∀ f, TV.fl f p.t = p.t := fun _ => rfl
  have a1 : ∀ f, p.t.all f = true := fun _ => rfl
  have nf : (duT (mvT p st h)).nz = true := by unfold duT; split <;> rfl
  have s6 : w_l_good_s6 [some p.t, some (.int st), some (.int h), none, none, none, none, none] = .nx [some p.t, some (.int st), some (.int h), some (duT (mvT p st h)), none, none, none, none] := by
    simp only [z_bind, z_bindx, z_ofO, z_slot, z_var, z_c, z_fl, z_pl, z_bin, z_un, z_nil, z_cons, z_fn, z_tup, z_lst, z_d0, z_B, z_tru, z_andT, z_orT, z_notT, z_and, z_or, z_not, z_if, z_chain, z_tBl, z_tru1, z_tru2, z_tru3, z_tru4, z_tru5, z_tru6, z_pn, z_ps, z_tInt, z_sl, z_mt, z_call, z_go, z_gox, z_ioC, z_callIO, z_goI, y_non, y_bl, y_int, y_str, y_ty, y_tup, y_nd, y_0, y_1, y_nI, y_sS, y_bS, y_sho, y_shs, y_shz, y_shw, y_boo, y_bos, y_boz, y_bow, y_uwo, y_uws, y_uwz, y_uww, y_fz, y_szo, y_szs, y_szz, y_szw, y_nwo, y_nws, y_nwz, y_nww, y_nzo, y_nzs, y_nzz, y_nzw, y_noo, y_nos, y_noz, y_now, y_a0, y_a1, y_anon, y_abl, y_aint, y_astr, y_aty, y_atup, y_and, y_anI, y_asS, y_abS, z_go_nx, z_go_ret, z_go_brk, z_go_cnt, z_go_ex, z_st, z_stx, z_wnil, z_seq, z_expr, z_ret, z_retV, z_retV1, z_retN, z_brk, z_cnt, z_wif, z_asgT, z_asg, z_tgn, z_tgu, z_tgu1, z_tgu2, z_tg0, z_tg1, z_augL, z_augT, z_augZ, z_mut, z_mutL, z_mutG, z_mutZ, z_put, z_putL, z_for, z_forG, z_loop0, z_loop1, z_loopT, z_loopn, z_loopc, z_loopb, z_loopr, z_loopx, z_while, z_wh, z_whn, z_whb, z_whr, z_iv, z_iv1, z_iv2, z_iv3, z_rg, z_r1, z_r2, z_en, z_en2, z_it8, z_en1, z_zp, z_zp1, z_rv, z_rv1, z_it1, z_it2, z_it3, z_it4, z_it5, z_it6, z_it7, z_itf, z_lc, z_lcG, z_calm, z_vlc0, z_vlc1, z_lcT, z_noO0, z_noO1, z_noS1, z_noS2, z_noS3, z_wipe0, z_wipe1, z_rest0, z_rest1, z_resS, z_she0, z_she1, z_sheS, z_fin1, z_fin2, z_fin3, z_f0, z_f1, z_f2, z_f3, z_f4, z_f5, z_f6, z_f7, z_finI1, z_finI2, z_ioS, t_add, t_addb, t_adds, t_addl, t_sub, t_mul, t_muls, t_mull, t_div, t_mod, t_neg, t_aug, t_augs, t_eq, t_ne, t_lt, t_le, t_gt, t_ge, t_eqi, t_eqs, t_eqb, t_eqn, t_is, t_isn, t_is1, t_is2, t_is3, t_is4, t_is5, t_is6, t_is7, t_is8, t_ixt, t_ixl, t_ixs, t_ixd, t_k1, t_k2, t_in, t_nin, t_ind, t_len1, t_len2, t_len3, t_abs, t_max, t_min, t_maxl, t_minl, t_minT1, t_minT0, t_ltt, z_orV, t_sum, t_all, t_any, t_int1, t_int2, t_int3, t_str, t_list1, t_list2, t_tup1, t_tup2, t_dm, t_ty1, t_ty2, t_ty3, t_ty4, t_ty5, t_ty6, t_ty7, t_inst, t_inst2, t_in1, t_in2, t_tt1, t_tt2, t_tt3, t_find, t_sw, t_part, t_split, t_join, t_upper, t_get, t_get2, t_sl1, t_sl3, t_app, t_ext1, t_ext2, t_clear, t_put, t_pop0, t_mI, t_mB, t_mS, t_dcg1, t_dcg2, t_dci1, t_dci2, t_dcn1, t_dcn2, t_dcx1, t_dcx2, t_kT1, t_kT2, z_disp1, z_dispX, z_dispY1, z_dispY2, z_ixs, z_ixk, z_ixd, z_ixz, z_own, z_own1, z_aug, y_ap, y_ap2, List.getElem?_cons_zero, List.getElem?_cons_succ, List.set_cons_zero, List.set_cons_succ, Option.map_some, Option.map_none, Option.bind_some, decide_true, decide_false, if_true, if_false, Int.reduceLT, Int.reduceLE, Bool.and_true, Bool.true_and, Bool.and_self, Bool.or_true, Bool.or_false, Bool.false_or, Bool.true_or, Bool.not_true, Bool.not_false, Bool.false_eq_true, List.length_cons, List.length_nil, Nat.reduceAdd, Nat.reduceLeDiff, Nat.zero_le, Nat.reduceLT, and_self, and_true, true_and, Bool.and_false, Bool.false_and, ite_true, ite_false, beq_self_eq_true, w_l_good_s6, TV.bo, TV.sh, fz, e, a1, nf]; all_goals rfl
  have t := good_turn (h := h) k h1 h2
  have s7 : w_l_good_s7 [some p.t, some (.int st), some (.int h), some (duT (mvT p st h)), none, none, none, none] = .nx [some p.t, some (.int st), some (.int h), some (duT (mvT p st h)), some (.int 1), some (foT (mvT p st h)), none, none] := by
    have hs : small62 2 = true := by decide
    have hi : itemsT (.rng 0 1 (Int.toNat 2)) [] = some [.int 0, .int 1] := by kernel_rfl
    simp only [z_bind, z_bindx, z_ofO, z_slot, z_var, z_c, z_fl, z_pl, z_bin, z_un, z_nil, z_cons, z_fn, z_tup, z_lst, z_d0, z_B, z_tru, z_andT, z_orT, z_notT, z_and, z_or, z_not, z_if, z_chain, z_tBl, z_tru1, z_tru2, z_tru3, z_tru4, z_tru5, z_tru6, z_pn, z_ps, z_tInt, z_sl, z_mt, z_call, z_go, z_gox, z_ioC, z_callIO, z_goI, y_non, y_bl, y_int, y_str, y_ty, y_tup, y_nd, y_0, y_1, y_nI, y_sS, y_bS, y_sho, y_shs, y_shz, y_shw, y_boo, y_bos, y_boz, y_bow, y_uwo, y_uws, y_uwz, y_uww, y_fz, y_szo, y_szs, y_szz, y_szw, y_nwo, y_nws, y_nwz, y_nww, y_nzo, y_nzs, y_nzz, y_nzw, y_noo, y_nos, y_noz, y_now, y_a0, y_a1, y_anon, y_abl, y_aint, y_astr, y_aty, y_atup, y_and, y_anI, y_asS, y_abS, z_go_nx, z_go_ret, z_go_brk, z_go_cnt, z_go_ex, z_st, z_stx, z_wnil, z_seq, z_expr, z_ret, z_retV, z_retV1, z_retN, z_brk, z_cnt, z_wif, z_asgT, z_asg, z_tgn, z_tgu, z_tgu1, z_tgu2, z_tg0, z_tg1, z_augL, z_augT, z_augZ, z_mut, z_mutL, z_mutG, z_mutZ, z_put, z_putL, z_for, z_forG, z_loop0, z_loop1, z_loopT, z_loopn, z_loopc, z_loopb, z_loopr, z_loopx, z_while, z_wh, z_whn, z_whb, z_whr, z_iv, z_iv1, z_iv2, z_iv3, z_rg, z_r1, z_r2, z_en, z_en2, z_it8, z_en1, z_zp, z_zp1, z_rv, z_rv1, z_it1, z_it2, z_it3, z_it4, z_it5, z_it6, z_it7, z_itf, z_lc, z_lcG, z_calm, z_vlc0, z_vlc1, z_lcT, z_noO0, z_noO1, z_noS1, z_noS2, z_noS3, z_wipe0, z_wipe1, z_rest0, z_rest1, z_resS, z_she0, z_she1, z_sheS, z_fin1, z_fin2, z_fin3, z_f0, z_f1, z_f2, z_f3, z_f4, z_f5, z_f6, z_f7, z_finI1, z_finI2, z_ioS, t_add, t_addb, t_adds, t_addl, t_sub, t_mul, t_muls, t_mull, t_div, t_mod, t_neg, t_aug, t_augs, t_eq, t_ne, t_lt, t_le, t_gt, t_ge, t_eqi, t_eqs, t_eqb, t_eqn, t_is, t_isn, t_is1, t_is2, t_is3, t_is4, t_is5, t_is6, t_is7, t_is8, t_ixt, t_ixl, t_ixs, t_ixd, t_k1, t_k2, t_in, t_nin, t_ind, t_len1, t_len2, t_len3, t_abs, t_max, t_min, t_maxl, t_minl, t_minT1, t_minT0, t_ltt, z_orV, t_sum, t_all, t_any, t_int1, t_int2, t_int3, t_str, t_list1, t_list2, t_tup1, t_tup2, t_dm, t_ty1, t_ty2, t_ty3, t_ty4, t_ty5, t_ty6, t_ty7, t_inst, t_inst2, t_in1, t_in2, t_tt1, t_tt2, t_tt3, t_find, t_sw, t_part, t_split, t_join, t_upper, t_get, t_get2, t_sl1, t_sl3, t_app, t_ext1, t_ext2, t_clear, t_put, t_pop0, t_mI, t_mB, t_mS, t_dcg1, t_dcg2, t_dci1, t_dci2, t_dcn1, t_dcn2, t_dcx1, t_dcx2, t_kT1, t_kT2, z_disp1, z_dispX, z_dispY1, z_dispY2, z_ixs, z_ixk, z_ixd, z_ixz, z_own, z_own1, z_aug, y_ap, y_ap2, List.getElem?_cons_zero, List.getElem?_cons_succ, List.set_cons_zero, List.set_cons_succ, Option.map_some, Option.map_none, Option.bind_some, decide_true, decide_false, if_true, if_false, Int.reduceLT, Int.reduceLE, Bool.and_true, Bool.true_and, Bool.and_self, Bool.or_true, Bool.or_false, Bool.false_or, Bool.true_or, Bool.not_true, Bool.not_false, Bool.false_eq_true, List.length_cons, List.length_nil, Nat.reduceAdd, Nat.reduceLeDiff, Nat.zero_le, Nat.reduceLT, and_self, and_true, true_and, Bool.and_false, Bool.false_and, ite_true, ite_false, beq_self_eq_true, w_l_good_s7, t, hs, hi]; all_goals rfl
  simp only [w_l_good, z_seq, s6, s7, z_go_nx]
  rfl
/-! ### the law -/
theorem mv_zero {p : Pt} (k : p.ok) : mvT p 0 0 = p := by
  rcases p with ⟨s, l, o⟩
  unfold Pt.ok at k
  unfold mvT
  dsimp only at k ⊢
  have a1 : (7 * o + s + 0) / 7 = o := by omega
  have a2 : (7 * o + s + 0) % 7 = s := by omega
  rw [a1, a2]
  congr 1
  omega
theorem mv_back {p : Pt} (k : p.ok) (st h : Int) : mvT (mvT p st h) (0 - st) (0 - h) = p := by
  rcases p with ⟨s, l, o⟩
  unfold Pt.ok at k
  unfold mvT
  dsimp only at k ⊢
  have a0 : 7 * ((7 * o + s + st) / 7) + (7 * o + s + st) % 7 + (0 - st) = 7 * o + s := by omega
  rw [a0]
  have a1 : (7 * o + s) / 7 = o := by omega
  have a2 : (7 * o + s) % 7 = s := by omega
  rw [a1, a2]
  congr 1
  omega
theorem mv_two (p : Pt) (st h st' h' : Int) : mvT (mvT p st h) st' h' = mvT p (st + st') (h + h') := by
  rcases p with ⟨s, l, o⟩
  unfold mvT
  dsimp only
  have a0 : 7 * ((7 * o + s + st) / 7) + (7 * o + s + st) % 7 + st' = 7 * o + s + (st + st') := by omega
  rw [a0]
  congr 1
  omega
theorem mv_fifths {p : Pt} (k : p.ok) (st h : Int) : rv (mvT p st h).s + 7 * (mvT p st h).l = rv p.s + 7 * p.l + 7 * h - 12 * st := by
  rcases p with ⟨s, l, o⟩
  unfold Pt.ok at k
  unfold mvT
  dsimp only at k ⊢
  rw [hv_rv (j := (7 * o + s + st) % 7) (by omega) (by omega), hv_rv (j := s) (by omega) (by omega)]
  generalize hv ((7 * o + s + st) % 7) = a
  generalize hv s = b
  omega
theorem ivH_b (c n : Int) : -200 ≤ ivH c n ∧ ivH c n ≤ 300 := by
  unfold ivH
  have := wk_b (l := n % 41 - 20) (by omega) (by omega)
  split
  · omega
  · split <;> omega
theorem runV (ns : List Int) (hl : ns.length ≤ 63) (hf : ∀ z ∈ ns, Builtin.Int.intBits z ≤ 1048576) : W_law [.nd .z .lst (nI ns)] = .ok (.bl true) := by
  unfold W_law
  rw [z_f1]
  show (w_law [some (.nd .z .lst (nI ns)), none, none, none, none, none]).fin = _
  have x0 := mix_run (cell_bits hf 0) (k := 1) (by decide) (by decide)
  have x1 := mix_run (cell_bits hf 2) (k := 2) (by decide) (by decide)
  have x2 := mix_run (cell_bits hf 4) (k := 3) (by decide) (by decide)
  have c0 := cell_run ns 0
  have c1 := cell_run ns 1
  have c2 := cell_run ns 2
  have c3 := cell_run ns 3
  have c4 := cell_run ns 4
  simp only [Int.ofNat_eq_natCast, Int.cast_ofNat_Int] at c0 c1 c2 c3 c4
  generalize ns[0]?.getD 0 = v0 at *
  generalize ns[1]?.getD 0 = v1 at *
  generalize ns[2]?.getD 0 = v2 at *
  generalize ns[3]?.getD 0 = v3 at *
  generalize ns[4]?.getD 0 = v4 at *
  have n0 := pitch_run (n := mixZ v0 1)
  have o0 := pitch_ok (mixZ v0 1)
  generalize (⟨mixZ v0 1 % 7, mixZ v0 1 / 7 % 5 - 2, mixZ v0 1 / 35 % 9⟩ : Pt) = p at *
  have j1 := interval_run v1 (mixZ v2 2)
  have j2 := interval_run v3 (mixZ v4 3)
  have bb1 := ivH_b v1 (mixZ v2 2)
  have bb2 := ivH_b v3 (mixZ v4 3)
  have ab1 : -20 ≤ mixZ v2 2 % 41 - 20 ∧ mixZ v2 2 % 41 - 20 ≤ 20 := by omega
  have ab2 : -20 ≤ mixZ v4 3 % 41 - 20 ∧ mixZ v4 3 % 41 - 20 ≤ 20 := by omega
  generalize mixZ v2 2 % 41 - 20 = a1 at *
  generalize mixZ v4 3 % 41 - 20 = a2 at *
  generalize ivH v1 (mixZ v2 2) = b1 at *
  generalize ivH v3 (mixZ v4 3) = b2 at *
  have fz : ∀ f, TV.fl f p.t = p.t := fun _ => rfl
  have pa : ∀ f, p.t.all f = true := fun _ => rfl
  have ix0 : ∀ a b : Int, tIx (.tup [.int a, .int b]) (.int 0) = some (.int a) := fun _ _ => rfl
  have ix1 : ∀ a b : Int, tIx (.tup [.int a, .int b]) (.int 1) = some (.int b) := fun _ _ => rfl
  have g1 := good_run (h := b1) o0 (by omega : -40 ≤ a1) (by omega)
  have g2 := good_run (h := b1 + b2) o0 (by omega : -40 ≤ a1 + a2) (by omega)
  have t0 := told_run (h := 0) o0 (by omega : -40 ≤ (0 : Int)) (by omega)
  have t1 := told_run (h := b1) o0 (by omega : -40 ≤ a1) (by omega)
  have t2 := told_run (h := b1 + b2) o0 (by omega : -40 ≤ a1 + a2) (by omega)
  rw [mv_zero o0] at t0
  have s1 : w_law_s1 [some (.nd .z .lst (nI ns)), none, none, none, none, none] = .nx [some (.nd .z .lst (nI ns)), some p.t, none, none, none, none] := by
    simp only [z_bind, z_bindx, z_ofO, z_slot, z_var, z_c, z_fl, z_pl, z_bin, z_un, z_nil, z_cons, z_fn, z_tup, z_lst, z_d0, z_B, z_tru, z_andT, z_orT, z_notT, z_and, z_or, z_not, z_if, z_chain, z_tBl, z_tru1, z_tru2, z_tru3, z_tru4, z_tru5, z_tru6, z_pn, z_ps, z_tInt, z_sl, z_mt, z_call, z_go, z_gox, z_ioC, z_callIO, z_goI, y_non, y_bl, y_int, y_str, y_ty, y_tup, y_nd, y_0, y_1, y_nI, y_sS, y_bS, y_sho, y_shs, y_shz, y_shw, y_boo, y_bos, y_boz, y_bow, y_uwo, y_uws, y_uwz, y_uww, y_fz, y_szo, y_szs, y_szz, y_szw, y_nwo, y_nws, y_nwz, y_nww, y_nzo, y_nzs, y_nzz, y_nzw, y_noo, y_nos, y_noz, y_now, y_a0, y_a1, y_anon, y_abl, y_aint, y_astr, y_aty, y_atup, y_and, y_anI, y_asS, y_abS, z_go_nx, z_go_ret, z_go_brk, z_go_cnt, z_go_ex, z_st, z_stx, z_wnil, z_seq, z_expr, z_ret, z_retV, z_retV1, z_retN, z_brk, z_cnt, z_wif, z_asgT, z_asg, z_tgn, z_tgu, z_tgu1, z_tgu2, z_tg0, z_tg1, z_augL, z_augT, z_augZ, z_mut, z_mutL, z_mutG, z_mutZ, z_put, z_putL, z_for, z_forG, z_loop0, z_loop1, z_loopT, z_loopn, z_loopc, z_loopb, z_loopr, z_loopx, z_while, z_wh, z_whn, z_whb, z_whr, z_iv, z_iv1, z_iv2, z_iv3, z_rg, z_r1, z_r2, z_en, z_en2, z_it8, z_en1, z_zp, z_zp1, z_rv, z_rv1, z_it1, z_it2, z_it3, z_it4, z_it5, z_it6, z_it7, z_itf, z_lc, z_lcG, z_calm, z_vlc0, z_vlc1, z_lcT, z_noO0, z_noO1, z_noS1, z_noS2, z_noS3, z_wipe0, z_wipe1, z_rest0, z_rest1, z_resS, z_she0, z_she1, z_sheS, z_fin1, z_fin2, z_fin3, z_f0, z_f1, z_f2, z_f3, z_f4, z_f5, z_f6, z_f7, z_finI1, z_finI2, z_ioS, t_add, t_addb, t_adds, t_addl, t_sub, t_mul, t_muls, t_mull, t_div, t_mod, t_neg, t_aug, t_augs, t_eq, t_ne, t_lt, t_le, t_gt, t_ge, t_eqi, t_eqs, t_eqb, t_eqn, t_is, t_isn, t_is1, t_is2, t_is3, t_is4, t_is5, t_is6, t_is7, t_is8, t_ixt, t_ixl, t_ixs, t_ixd, t_k1, t_k2, t_in, t_nin, t_ind, t_len1, t_len2, t_len3, t_abs, t_max, t_min, t_maxl, t_minl, t_minT1, t_minT0, t_ltt, z_orV, t_sum, t_all, t_any, t_int1, t_int2, t_int3, t_str, t_list1, t_list2, t_tup1, t_tup2, t_dm, t_ty1, t_ty2, t_ty3, t_ty4, t_ty5, t_ty6, t_ty7, t_inst, t_inst2, t_in1, t_in2, t_tt1, t_tt2, t_tt3, t_find, t_sw, t_part, t_split, t_join, t_upper, t_get, t_get2, t_sl1, t_sl3, t_app, t_ext1, t_ext2, t_clear, t_put, t_pop0, t_mI, t_mB, t_mS, t_dcg1, t_dcg2, t_dci1, t_dci2, t_dcn1, t_dcn2, t_dcx1, t_dcx2, t_kT1, t_kT2, z_disp1, z_dispX, z_dispY1, z_dispY2, z_ixs, z_ixk, z_ixd, z_ixz, z_own, z_own1, z_aug, y_ap, y_ap2, List.getElem?_cons_zero, List.getElem?_cons_succ, List.set_cons_zero, List.set_cons_succ, Option.map_some, Option.map_none, Option.bind_some, decide_true, decide_false, if_true, if_false, Int.reduceLT, Int.reduceLE, Bool.and_true, Bool.true_and, Bool.and_self, Bool.or_true, Bool.or_false, Bool.false_or, Bool.true_or, Bool.not_true, Bool.not_false, Bool.false_eq_true, List.length_cons, List.length_nil, Nat.reduceAdd, Nat.reduceLeDiff, Nat.zero_le, Nat.reduceLT, and_self, and_true, true_and, Bool.and_false, Bool.false_and, ite_true, ite_false, beq_self_eq_true, w_law_s1, TV.bo, TV.sh, TV.nw, TV.nz, c0, x0, n0, fz, pa]; all_goals rfl
  have s2 : w_law_s2 [some (.nd .z .lst (nI ns)), some p.t, none, none, none, none] = .nx [some (.nd .z .lst (nI ns)), some p.t, some (.tup [.int a1, .int b1]), none, none, none] := by
    simp only [z_bind, z_bindx, z_ofO, z_slot, z_var, z_c, z_fl, z_pl, z_bin, z_un, z_nil, z_cons, z_fn, z_tup, z_lst, z_d0, z_B, z_tru, z_andT, z_orT, z_notT, z_and, z_or, z_not, z_if, z_chain, z_tBl, z_tru1, z_tru2, z_tru3, z_tru4, z_tru5, z_tru6, z_pn, z_ps, z_tInt, z_sl, z_mt, z_call, z_go, z_gox, z_ioC, z_callIO, z_goI, y_non, y_bl, y_int, y_str, y_ty, y_tup, y_nd, y_0, y_1, y_nI, y_sS, y_bS, y_sho, y_shs, y_shz, y_shw, y_boo, y_bos, y_boz, y_bow, y_uwo, y_uws, y_uwz, y_uww, y_fz, y_szo, y_szs, y_szz, y_szw, y_nwo, y_nws, y_nwz, y_nww, y_nzo, y_nzs, y_nzz, y_nzw, y_noo, y_nos, y_noz, y_now, y_a0, y_a1, y_anon, y_abl, y_aint, y_astr, y_aty, y_atup, y_and, y_anI, y_asS, y_abS, z_go_nx, z_go_ret, z_go_brk, z_go_cnt, z_go_ex, z_st, z_stx, z_wnil, z_seq, z_expr, z_ret, z_retV, z_retV1, z_retN, z_brk, z_cnt, z_wif, z_asgT, z_asg, z_tgn, z_tgu, z_tgu1, z_tgu2, z_tg0, z_tg1, z_augL, z_augT, z_augZ, z_mut, z_mutL, z_mutG, z_mutZ, z_put, z_putL, z_for, z_forG, z_loop0, z_loop1, z_loopT, z_loopn, z_loopc, z_loopb, z_loopr, z_loopx, z_while, z_wh, z_whn, z_whb, z_whr, z_iv, z_iv1, z_iv2, z_iv3, z_rg, z_r1, z_r2, z_en, z_en2, z_it8, z_en1, z_zp, z_zp1, z_rv, z_rv1, z_it1, z_it2, z_it3, z_it4, z_it5, z_it6, z_it7, z_itf, z_lc, z_lcG, z_calm, z_vlc0, z_vlc1, z_lcT, z_noO0, z_noO1, z_noS1, z_noS2, z_noS3, z_wipe0, z_wipe1, z_rest0, z_rest1, z_resS, z_she0, z_she1, z_sheS, z_fin1, z_fin2, z_fin3, z_f0, z_f1, z_f2, z_f3, z_f4, z_f5, z_f6, z_f7, z_finI1, z_finI2, z_ioS, t_add, t_addb, t_adds, t_addl, t_sub, t_mul, t_muls, t_mull, t_div, t_mod, t_neg, t_aug, t_augs, t_eq, t_ne, t_lt, t_le, t_gt, t_ge, t_eqi, t_eqs, t_eqb, t_eqn, t_is, t_isn, t_is1, t_is2, t_is3, t_is4, t_is5, t_is6, t_is7, t_is8, t_ixt, t_ixl, t_ixs, t_ixd, t_k1, t_k2, t_in, t_nin, t_ind, t_len1, t_len2, t_len3, t_abs, t_max, t_min, t_maxl, t_minl, t_minT1, t_minT0, t_ltt, z_orV, t_sum, t_all, t_any, t_int1, t_int2, t_int3, t_str, t_list1, t_list2, t_tup1, t_tup2, t_dm, t_ty1, t_ty2, t_ty3, t_ty4, t_ty5, t_ty6, t_ty7, t_inst, t_inst2, t_in1, t_in2, t_tt1, t_tt2, t_tt3, t_find, t_sw, t_part, t_split, t_join, t_upper, t_get, t_get2, t_sl1, t_sl3, t_app, t_ext1, t_ext2, t_clear, t_put, t_pop0, t_mI, t_mB, t_mS, t_dcg1, t_dcg2, t_dci1, t_dci2, t_dcn1, t_dcn2, t_dcx1, t_dcx2, t_kT1, t_kT2, z_disp1, z_dispX, z_dispY1, z_dispY2, z_ixs, z_ixk, z_ixd, z_ixz, z_own, z_own1, z_aug, y_ap, y_ap2, List.getElem?_cons_zero, List.getElem?_cons_succ, List.set_cons_zero, List.set_cons_succ, Option.map_some, Option.map_none, Option.bind_some, decide_true, decide_false, if_true, if_false, Int.reduceLT, Int.reduceLE, Bool.and_true, Bool.true_and, Bool.and_self, Bool.or_true, Bool.or_false, Bool.false_or, Bool.true_or, Bool.not_true, Bool.not_false, Bool.false_eq_true, List.length_cons, List.length_nil, Nat.reduceAdd, Nat.reduceLeDiff, Nat.zero_le, Nat.reduceLT, and_self, and_true, true_and, Bool.and_false, Bool.false_and, ite_true, ite_false, beq_self_eq_true, w_law_s2, TV.bo, TV.sh, TV.nw, TV.nz, c1, c2, x1, j1, fz, pa]; all_goals rfl
  have s3 : w_law_s3 [some (.nd .z .lst (nI ns)), some p.t, some (.tup [.int a1, .int b1]), none, none, none] = .nx [some (.nd .z .lst (nI ns)), some p.t, some (.tup [.int a1, .int b1]), some (.tup [.int a2, .int b2]), none, none] := by
    simp only [z_bind, z_bindx, z_ofO, z_slot, z_var, z_c, z_fl, z_pl, z_bin, z_un, z_nil, z_cons, z_fn, z_tup, z_lst, z_d0, z_B, z_tru, z_andT, z_orT, z_notT, z_and, z_or, z_not, z_if, z_chain, z_tBl, z_tru1, z_tru2, z_tru3, z_tru4, z_tru5, z_tru6, z_pn, z_ps, z_tInt, z_sl, z_mt, z_call, z_go, z_gox, z_ioC, z_callIO, z_goI, y_non, y_bl, y_int, y_str, y_ty, y_tup, y_nd, y_0, y_1, y_nI, y_sS, y_bS, y_sho, y_shs, y_shz, y_shw, y_boo, y_bos, y_boz, y_bow, y_uwo, y_uws, y_uwz, y_uww, y_fz, y_szo, y_szs, y_szz, y_szw, y_nwo, y_nws, y_nwz, y_nww, y_nzo, y_nzs, y_nzz, y_nzw, y_noo, y_nos, y_noz, y_now, y_a0, y_a1, y_anon, y_abl, y_aint, y_astr, y_aty, y_atup, y_and, y_anI, y_asS, y_abS, z_go_nx, z_go_ret, z_go_brk, z_go_cnt, z_go_ex, z_st, z_stx, z_wnil, z_seq, z_expr, z_ret, z_retV, z_retV1, z_retN, z_brk, z_cnt, z_wif, z_asgT, z_asg, z_tgn, z_tgu, z_tgu1, z_tgu2, z_tg0, z_tg1, z_augL, z_augT, z_augZ, z_mut, z_mutL, z_mutG, z_mutZ, z_put, z_putL, z_for, z_forG, z_loop0, z_loop1, z_loopT, z_loopn, z_loopc, z_loopb, z_loopr, z_loopx, z_while, z_wh, z_whn, z_whb, z_whr, z_iv, z_iv1, z_iv2, z_iv3, z_rg, z_r1, z_r2, z_en, z_en2, z_it8, z_en1, z_zp, z_zp1, z_rv, z_rv1, z_it1, z_it2, z_it3, z_it4, z_it5, z_it6, z_it7, z_itf, z_lc, z_lcG, z_calm, z_vlc0, z_vlc1, z_lcT, z_noO0, z_noO1, z_noS1, z_noS2, z_noS3, z_wipe0, z_wipe1, z_rest0, z_rest1, z_resS, z_she0, z_she1, z_sheS, z_fin1, z_fin2, z_fin3, z_f0, z_f1, z_f2, z_f3, z_f4, z_f5, z_f6, z_f7, z_finI1, z_finI2, z_ioS, t_add, t_addb, t_adds, t_addl, t_sub, t_mul, t_muls, t_mull, t_div, t_mod, t_neg, t_aug, t_augs, t_eq, t_ne, t_lt, t_le, t_gt, t_ge, t_eqi, t_eqs, t_eqb, t_eqn, t_is, t_isn, t_is1, t_is2, t_is3, t_is4, t_is5, t_is6, t_is7, t_is8, t_ixt, t_ixl, t_ixs, t_ixd, t_k1, t_k2, t_in, t_nin, t_ind, t_len1, t_len2, t_len3, t_abs, t_max, t_min, t_maxl, t_minl, t_minT1, t_minT0, t_ltt, z_orV, t_sum, t_all, t_any, t_int1, t_int2, t_int3, t_str, t_list1, t_list2, t_tup1, t_tup2, t_dm, t_ty1, t_ty2, t_ty3, t_ty4, t_ty5, t_ty6, t_ty7, t_inst, t_inst2, t_in1, t_in2, t_tt1, t_tt2, t_tt3, t_find, t_sw, t_part, t_split, t_join, t_upper, t_get, t_get2, t_sl1, t_sl3, t_app, t_ext1, t_ext2, t_clear, t_put, t_pop0, t_mI, t_mB, t_mS, t_dcg1, t_dcg2, t_dci1, t_dci2, t_dcn1, t_dcn2, t_dcx1, t_dcx2, t_kT1, t_kT2, z_disp1, z_dispX, z_dispY1, z_dispY2, z_ixs, z_ixk, z_ixd, z_ixz, z_own, z_own1, z_aug, y_ap, y_ap2, List.getElem?_cons_zero, List.getElem?_cons_succ, List.set_cons_zero, List.set_cons_succ, Option.map_some, Option.map_none, Option.bind_some, decide_true, decide_false, if_true, if_false, Int.reduceLT, Int.reduceLE, Bool.and_true, Bool.true_and, Bool.and_self, Bool.or_true, Bool.or_false, Bool.false_or, Bool.true_or, Bool.not_true, Bool.not_false, Bool.false_eq_true, List.length_cons, List.length_nil, Nat.reduceAdd, Nat.reduceLeDiff, Nat.zero_le, Nat.reduceLT, and_self, and_true, true_and, Bool.and_false, Bool.false_and, ite_true, ite_false, beq_self_eq_true, w_law_s3, TV.bo, TV.sh, TV.nw, TV.nz, c3, c4, x2, j2, fz, pa]; all_goals rfl
  have s4 : w_law_s4 [some (.nd .z .lst (nI ns)), some p.t, some (.tup [.int a1, .int b1]), some (.tup [.int a2, .int b2]), none, none] = .nx [some (.nd .z .lst (nI ns)), some p.t, some (.tup [.int a1, .int b1]), some (.tup [.int a2, .int b2]), none, none] := by
    simp only [z_bind, z_bindx, z_ofO, z_slot, z_var, z_c, z_fl, z_pl, z_bin, z_un, z_nil, z_cons, z_fn, z_tup, z_lst, z_d0, z_B, z_tru, z_andT, z_orT, z_notT, z_and, z_or, z_not, z_if, z_chain, z_tBl, z_tru1, z_tru2, z_tru3, z_tru4, z_tru5, z_tru6, z_pn, z_ps, z_tInt, z_sl, z_mt, z_call, z_go, z_gox, z_ioC, z_callIO, z_goI, y_non, y_bl, y_int, y_str, y_ty, y_tup, y_nd, y_0, y_1, y_nI, y_sS, y_bS, y_sho, y_shs, y_shz, y_shw, y_boo, y_bos, y_boz, y_bow, y_uwo, y_uws, y_uwz, y_uww, y_fz, y_szo, y_szs, y_szz, y_szw, y_nwo, y_nws, y_nwz, y_nww, y_nzo, y_nzs, y_nzz, y_nzw, y_noo, y_nos, y_noz, y_now, y_a0, y_a1, y_anon, y_abl, y_aint, y_astr, y_aty, y_atup, y_and, y_anI, y_asS, y_abS, z_go_nx, z_go_ret, z_go_brk, z_go_cnt, z_go_ex, z_st, z_stx, z_wnil, z_seq, z_expr, z_ret, z_retV, z_retV1, z_retN, z_brk, z_cnt, z_wif, z_asgT, z_asg, z_tgn, z_tgu, z_tgu1, z_tgu2, z_tg0, z_tg1, z_augL, z_augT, z_augZ, z_mut, z_mutL, z_mutG, z_mutZ, z_put, z_putL, z_for, z_forG, z_loop0, z_loop1, z_loopT, z_loopn, z_loopc, z_loopb, z_loopr, z_loopx, z_while, z_wh, z_whn, z_whb, z_whr, z_iv, z_iv1, z_iv2, z_iv3, z_rg, z_r1, z_r2, z_en, z_en2, z_it8, z_en1, z_zp, z_zp1, z_rv, z_rv1, z_it1, z_it2, z_it3, z_it4, z_it5, z_it6, z_it7, z_itf, z_lc, z_lcG, z_calm, z_vlc0, z_vlc1, z_lcT, z_noO0, z_noO1, z_noS1, z_noS2, z_noS3, z_wipe0, z_wipe1, z_rest0, z_rest1, z_resS, z_she0, z_she1, z_sheS, z_fin1, z_fin2, z_fin3, z_f0, z_f1, z_f2, z_f3, z_f4, z_f5, z_f6, z_f7, z_finI1, z_finI2, z_ioS, t_add, t_addb, t_adds, t_addl, t_sub, t_mul, t_muls, t_mull, t_div, t_mod, t_neg, t_aug, t_augs, t_eq, t_ne, t_lt, t_le, t_gt, t_ge, t_eqi, t_eqs, t_eqb, t_eqn, t_is, t_isn, t_is1, t_is2, t_is3, t_is4, t_is5, t_is6, t_is7, t_is8, t_ixt, t_ixl, t_ixs, t_ixd, t_k1, t_k2, t_in, t_nin, t_ind, t_len1, t_len2, t_len3, t_abs, t_max, t_min, t_maxl, t_minl, t_minT1, t_minT0, t_ltt, z_orV, t_sum, t_all, t_any, t_int1, t_int2, t_int3, t_str, t_list1, t_list2, t_tup1, t_tup2, t_dm, t_ty1, t_ty2, t_ty3, t_ty4, t_ty5, t_ty6, t_ty7, t_inst, t_inst2, t_in1, t_in2, t_tt1, t_tt2, t_tt3, t_find, t_sw, t_part, t_split, t_join, t_upper, t_get, t_get2, t_sl1, t_sl3, t_app, t_ext1, t_ext2, t_clear, t_put, t_pop0, t_mI, t_mB, t_mS, t_dcg1, t_dcg2, t_dci1, t_dci2, t_dcn1, t_dcn2, t_dcx1, t_dcx2, t_kT1, t_kT2, z_disp1, z_dispX, z_dispY1, z_dispY2, z_ixs, z_ixk, z_ixd, z_ixz, z_own, z_own1, z_aug, y_ap, y_ap2, List.getElem?_cons_zero, List.getElem?_cons_succ, List.set_cons_zero, List.set_cons_succ, Option.map_some, Option.map_none, Option.bind_some, decide_true, decide_false, if_true, if_false, Int.reduceLT, Int.reduceLE, Bool.and_true, Bool.true_and, Bool.and_self, Bool.or_true, Bool.or_false, Bool.false_or, Bool.true_or, Bool.not_true, Bool.not_false, Bool.false_eq_true, List.length_cons, List.length_nil, Nat.reduceAdd, Nat.reduceLeDiff, Nat.zero_le, Nat.reduceLT, and_self, and_true, true_and, Bool.and_false, Bool.false_and, ite_true, ite_false, beq_self_eq_true, w_law_s4, TV.bo, TV.sh, TV.nw, TV.nz, ix0, ix1, g1, fz, pa]; all_goals rfl
  have s5 : w_law_s5 [some (.nd .z .lst (nI ns)), some p.t, some (.tup [.int a1, .int b1]), some (.tup [.int a2, .int b2]), none, none] = .nx [some (.nd .z .lst (nI ns)), some p.t, some (.tup [.int a1, .int b1]), some (.tup [.int a2, .int b2]), none, none] := by
    simp only [z_bind, z_bindx, z_ofO, z_slot, z_var, z_c, z_fl, z_pl, z_bin, z_un, z_nil, z_cons, z_fn, z_tup, z_lst, z_d0, z_B, z_tru, z_andT, z_orT, z_notT, z_and, z_or, z_not, z_if, z_chain, z_tBl, z_tru1, z_tru2, z_tru3, z_tru4, z_tru5, z_tru6, z_pn, z_ps, z_tInt, z_sl, z_mt, z_call, z_go, z_gox, z_ioC, z_callIO, z_goI, y_non, y_bl, y_int, y_str, y_ty, y_tup, y_nd, y_0, y_1, y_nI, y_sS, y_bS, y_sho, y_shs, y_shz, y_shw, y_boo, y_bos, y_boz, y_bow, y_uwo, y_uws, y_uwz, y_uww, y_fz, y_szo, y_szs, y_szz, y_szw, y_nwo, y_nws, y_nwz, y_nww, y_nzo, y_nzs, y_nzz, y_nzw, y_noo, y_nos, y_noz, y_now, y_a0, y_a1, y_anon, y_abl, y_aint, y_astr, y_aty, y_atup, y_and, y_anI, y_asS, y_abS, z_go_nx, z_go_ret, z_go_brk, z_go_cnt, z_go_ex, z_st, z_stx, z_wnil, z_seq, z_expr, z_ret, z_retV, z_retV1, z_retN, z_brk, z_cnt, z_wif, z_asgT, z_asg, z_tgn, z_tgu, z_tgu1, z_tgu2, z_tg0, z_tg1, z_augL, z_augT, z_augZ, z_mut, z_mutL, z_mutG, z_mutZ, z_put, z_putL, z_for, z_forG, z_loop0, z_loop1, z_loopT, z_loopn, z_loopc, z_loopb, z_loopr, z_loopx, z_while, z_wh, z_whn, z_whb, z_whr, z_iv, z_iv1, z_iv2, z_iv3, z_rg, z_r1, z_r2, z_en, z_en2, z_it8, z_en1, z_zp, z_zp1, z_rv, z_rv1, z_it1, z_it2, z_it3, z_it4, z_it5, z_it6, z_it7, z_itf, z_lc, z_lcG, z_calm, z_vlc0, z_vlc1, z_lcT, z_noO0, z_noO1, z_noS1, z_noS2, z_noS3, z_wipe0, z_wipe1, z_rest0, z_rest1, z_resS, z_she0, z_she1, z_sheS, z_fin1, z_fin2, z_fin3, z_f0, z_f1, z_f2, z_f3, z_f4, z_f5, z_f6, z_f7, z_finI1, z_finI2, z_ioS, t_add, t_addb, t_adds, t_addl, t_sub, t_mul, t_muls, t_mull, t_div, t_mod, t_neg, t_aug, t_augs, t_eq, t_ne, t_lt, t_le, t_gt, t_ge, t_eqi, t_eqs, t_eqb, t_eqn, t_is, t_isn, t_is1, t_is2, t_is3, t_is4, t_is5, t_is6, t_is7, t_is8, t_ixt, t_ixl, t_ixs, t_ixd, t_k1, t_k2, t_in, t_nin, t_ind, t_len1, t_len2, t_len3, t_abs, t_max, t_min, t_maxl, t_minl, t_minT1, t_minT0, t_ltt, z_orV, t_sum, t_all, t_any, t_int1, t_int2, t_int3, t_str, t_list1, t_list2, t_tup1, t_tup2, t_dm, t_ty1, t_ty2, t_ty3, t_ty4, t_ty5, t_ty6, t_ty7, t_inst, t_inst2, t_in1, t_in2, t_tt1, t_tt2, t_tt3, t_find, t_sw, t_part, t_split, t_join, t_upper, t_get, t_get2, t_sl1, t_sl3, t_app, t_ext1, t_ext2, t_clear, t_put, t_pop0, t_mI, t_mB, t_mS, t_dcg1, t_dcg2, t_dci1, t_dci2, t_dcn1, t_dcn2, t_dcx1, t_dcx2, t_kT1, t_kT2, z_disp1, z_dispX, z_dispY1, z_dispY2, z_ixs, z_ixk, z_ixd, z_ixz, z_own, z_own1, z_aug, y_ap, y_ap2, List.getElem?_cons_zero, List.getElem?_cons_succ, List.set_cons_zero, List.set_cons_succ, Option.map_some, Option.map_none, Option.bind_some, decide_true, decide_false, if_true, if_false, Int.reduceLT, Int.reduceLE, Bool.and_true, Bool.true_and, Bool.and_self, Bool.or_true, Bool.or_false, Bool.false_or, Bool.true_or, Bool.not_true, Bool.not_false, Bool.false_eq_true, List.length_cons, List.length_nil, Nat.reduceAdd, Nat.reduceLeDiff, Nat.zero_le, Nat.reduceLT, and_self, and_true, true_and, Bool.and_false, Bool.false_and, ite_true, ite_false, beq_self_eq_true, w_law_s5, TV.bo, TV.sh, TV.nw, TV.nz, ix0, ix1, g2, fz, pa]; all_goals rfl
  have fo0 : foT p = .nd .o .lst [p.t] := by unfold foT; rw [if_pos o0]
  rw [fo0] at t0
  have eqp := eq_one p
  have s6 : w_law_s6 [some (.nd .z .lst (nI ns)), some p.t, some (.tup [.int a1, .int b1]), some (.tup [.int a2, .int b2]), none, none] = .nx [some (.nd .z .lst (nI ns)), some p.t, some (.tup [.int a1, .int b1]), some (.tup [.int a2, .int b2]), none, none] := by
    simp only [z_bind, z_bindx, z_ofO, z_slot, z_var, z_c, z_fl, z_pl, z_bin, z_un, z_nil, z_cons, z_fn, z_tup, z_lst, z_d0, z_B, z_tru, z_andT, z_orT, z_notT, z_and, z_or, z_not, z_if, z_chain, z_tBl, z_tru1, z_tru2, z_tru3, z_tru4, z_tru5, z_tru6, z_pn, z_ps, z_tInt, z_sl, z_mt, z_call, z_go, z_gox, z_ioC, z_callIO, z_goI, y_non, y_bl, y_int, y_str, y_ty, y_tup, y_nd, y_0, y_1, y_nI, y_sS, y_bS, y_sho, y_shs, y_shz, y_shw, y_boo, y_bos, y_boz, y_bow, y_uwo, y_uws, y_uwz, y_uww, y_fz, y_szo, y_szs, y_szz, y_szw, y_nwo, y_nws, y_nwz, y_nww, y_nzo, y_nzs, y_nzz, y_nzw, y_noo, y_nos, y_noz, y_now, y_a0, y_a1, y_anon, y_abl, y_aint, y_astr, y_aty, y_atup, y_and, y_anI, y_asS, y_abS, z_go_nx, z_go_ret, z_go_brk, z_go_cnt, z_go_ex, z_st, z_stx, z_wnil, z_seq, z_expr, z_ret, z_retV, z_retV1, z_retN, z_brk, z_cnt, z_wif, z_asgT, z_asg, z_tgn, z_tgu, z_tgu1, z_tgu2, z_tg0, z_tg1, z_augL, z_augT, z_augZ, z_mut, z_mutL, z_mutG, z_mutZ, z_put, z_putL, z_for, z_forG, z_loop0, z_loop1, z_loopT, z_loopn, z_loopc, z_loopb, z_loopr, z_loopx, z_while, z_wh, z_whn, z_whb, z_whr, z_iv, z_iv1, z_iv2, z_iv3, z_rg, z_r1, z_r2, z_en, z_en2, z_it8, z_en1, z_zp, z_zp1, z_rv, z_rv1, z_it1, z_it2, z_it3, z_it4, z_it5, z_it6, z_it7, z_itf, z_lc, z_lcG, z_calm, z_vlc0, z_vlc1, z_lcT, z_noO0, z_noO1, z_noS1, z_noS2, z_noS3, z_wipe0, z_wipe1, z_rest0, z_rest1, z_resS, z_she0, z_she1, z_sheS, z_fin1, z_fin2, z_fin3, z_f0, z_f1, z_f2, z_f3, z_f4, z_f5, z_f6, z_f7, z_finI1, z_finI2, z_ioS, t_add, t_addb, t_adds, t_addl, t_sub, t_mul, t_muls, t_mull, t_div, t_mod, t_neg, t_aug, t_augs, t_eq, t_ne, t_lt, t_le, t_gt, t_ge, t_eqi, t_eqs, t_eqb, t_eqn, t_is, t_isn, t_is1, t_is2, t_is3, t_is4, t_is5, t_is6, t_is7, t_is8, t_ixt, t_ixl, t_ixs, t_ixd, t_k1, t_k2, t_in, t_nin, t_ind, t_len1, t_len2, t_len3, t_abs, t_max, t_min, t_maxl, t_minl, t_minT1, t_minT0, t_ltt, z_orV, t_sum, t_all, t_any, t_int1, t_int2, t_int3, t_str, t_list1, t_list2, t_tup1, t_tup2, t_dm, t_ty1, t_ty2, t_ty3, t_ty4, t_ty5, t_ty6, t_ty7, t_inst, t_inst2, t_in1, t_in2, t_tt1, t_tt2, t_tt3, t_find, t_sw, t_part, t_split, t_join, t_upper, t_get, t_get2, t_sl1, t_sl3, t_app, t_ext1, t_ext2, t_clear, t_put, t_pop0, t_mI, t_mB, t_mS, t_dcg1, t_dcg2, t_dci1, t_dci2, t_dcn1, t_dcn2, t_dcx1, t_dcx2, t_kT1, t_kT2, z_disp1, z_dispX, z_dispY1, z_dispY2, z_ixs, z_ixk, z_ixd, z_ixz, z_own, z_own1, z_aug, y_ap, y_ap2, List.getElem?_cons_zero, List.getElem?_cons_succ, List.set_cons_zero, List.set_cons_succ, Option.map_some, Option.map_none, Option.bind_some, decide_true, decide_false, if_true, if_false, Int.reduceLT, Int.reduceLE, Bool.and_true, Bool.true_and, Bool.and_self, Bool.or_true, Bool.or_false, Bool.false_or, Bool.true_or, Bool.not_true, Bool.not_false, Bool.false_eq_true, List.length_cons, List.length_nil, Nat.reduceAdd, Nat.reduceLeDiff, Nat.zero_le, Nat.reduceLT, and_self, and_true, true_and, Bool.and_false, Bool.false_and, ite_true, ite_false, beq_self_eq_true, w_law_s6, TV.bo, TV.sh, TV.nw, TV.nz, t0, eqp, fz, pa]; all_goals rfl
  simp only [w_law, z_seq, s1, s2, s3, s4, s5, s6, z_go_nx]
  by_cases hq : (mvT p a1 b1).ok
  · have q0 := told_run (h := 0 - b1) hq (by omega : -40 ≤ 0 - a1) (by omega)
    have q1 := good_run (h := b2) hq (by omega : -40 ≤ a2) (by omega)
    have q2 := told_run (h := b2) hq (by omega : -40 ≤ a2) (by omega)
    have f1 := fifths_run hq
    have f0 := fifths_run o0
    have fe := mv_fifths o0 a1 b1
    rw [mv_back o0, fo0] at q0
    rw [mv_two] at q2
    have fo1 : foT (mvT p a1 b1) = .nd .o .lst [(mvT p a1 b1).t] := by unfold foT; rw [if_pos hq]
    rw [fo1] at t1
    have fdt : ∀ r : Pt, (∀ f, (foT r).fl f = .nd (f .o) .lst [r.t] ∨ (foT r).fl f = .tup [.str "reach"]) ∧ (foT r).nw = true ∧ (foT r).nz = true := fun r => by
      unfold foT
      split
      · exact ⟨fun f => .inl rfl, rfl, rfl⟩
      · exact ⟨fun f => .inr rfl, rfl, rfl⟩
    have ef : ∀ (r : Pt) (f g : Fl → Fl), eqT ((foT r).fl f) ((foT r).fl g) = some true := fun r f g => by
      unfold foT
      split
      · exact eq_one r _ _
      · exact eq_reach
    generalize mvT p a1 b1 = q at *
    generalize mvT p (a1 + a2) (b1 + b2) = r at *
    have fq : ∀ f, TV.fl f q.t = q.t := fun _ => rfl
    have qa : ∀ f, q.t.all f = true := fun _ => rfl
    have iq : ∀ k, tIx (.nd k .lst [q.t]) (.int 0) = some q.t := fun _ => rfl
    have s7 : w_law_s7 [some (.nd .z .lst (nI ns)), some p.t, some (.tup [.int a1, .int b1]), some (.tup [.int a2, .int b2]), none, none] = .nx [some (.nd .z .lst (nI ns)), some p.t, some (.tup [.int a1, .int b1]), some (.tup [.int a2, .int b2]), some (.nd .o .lst [q.t]), none] := by
      simp only [z_bind, z_bindx, z_ofO, z_slot, z_var, z_c, z_fl, z_pl, z_bin, z_un, z_nil, z_cons, z_fn, z_tup, z_lst, z_d0, z_B, z_tru, z_andT, z_orT, z_notT, z_and, z_or, z_not, z_if, z_chain, z_tBl, z_tru1, z_tru2, z_tru3, z_tru4, z_tru5, z_tru6, z_pn, z_ps, z_tInt, z_sl, z_mt, z_call, z_go, z_gox, z_ioC, z_callIO, z_goI, y_non, y_bl, y_int, y_str, y_ty, y_tup, y_nd, y_0, y_1, y_nI, y_sS, y_bS, y_sho, y_shs, y_shz, y_shw, y_boo, y_bos, y_boz, y_bow, y_uwo, y_uws, y_uwz, y_uww, y_fz, y_szo, y_szs, y_szz, y_szw, y_nwo, y_nws, y_nwz, y_nww, y_nzo, y_nzs, y_nzz, y_nzw, y_noo, y_nos, y_noz, y_now, y_a0, y_a1, y_anon, y_abl, y_aint, y_astr, y_aty, y_atup, y_and, y_anI, y_asS, y_abS, z_go_nx, z_go_ret, z_go_brk, z_go_cnt, z_go_ex, z_st, z_stx, z_wnil, z_seq, z_expr, z_ret, z_retV, z_retV1, z_retN, z_brk, z_cnt, z_wif, z_asgT, z_asg, z_tgn, z_tgu, z_tgu1, z_tgu2, z_tg0, z_tg1, z_augL, z_augT, z_augZ, z_mut, z_mutL, z_mutG, z_mutZ, z_put, z_putL, z_for, z_forG, z_loop0, z_loop1, z_loopT, z_loopn, z_loopc, z_loopb, z_loopr, z_loopx, z_while, z_wh, z_whn, z_whb, z_whr, z_iv, z_iv1, z_iv2, z_iv3, z_rg, z_r1, z_r2, z_en, z_en2, z_it8, z_en1, z_zp, z_zp1, z_rv, z_rv1, z_it1, z_it2, z_it3, z_it4, z_it5, z_it6, z_it7, z_itf, z_lc, z_lcG, z_calm, z_vlc0, z_vlc1, z_lcT, z_noO0, z_noO1, z_noS1, z_noS2, z_noS3, z_wipe0, z_wipe1, z_rest0, z_rest1, z_resS, z_she0, z_she1, z_sheS, z_fin1, z_fin2, z_fin3, z_f0, z_f1, z_f2, z_f3, z_f4, z_f5, z_f6, z_f7, z_finI1, z_finI2, z_ioS, t_add, t_addb, t_adds, t_addl, t_sub, t_mul, t_muls, t_mull, t_div, t_mod, t_neg, t_aug, t_augs, t_eq, t_ne, t_lt, t_le, t_gt, t_ge, t_eqi, t_eqs, t_eqb, t_eqn, t_is, t_isn, t_is1, t_is2, t_is3, t_is4, t_is5, t_is6, t_is7, t_is8, t_ixt, t_ixl, t_ixs, t_ixd, t_k1, t_k2, t_in, t_nin, t_ind, t_len1, t_len2, t_len3, t_abs, t_max, t_min, t_maxl, t_minl, t_minT1, t_minT0, t_ltt, z_orV, t_sum, t_all, t_any, t_int1, t_int2, t_int3, t_str, t_list1, t_list2, t_tup1, t_tup2, t_dm, t_ty1, t_ty2, t_ty3, t_ty4, t_ty5, t_ty6, t_ty7, t_inst, t_inst2, t_in1, t_in2, t_tt1, t_tt2, t_tt3, t_find, t_sw, t_part, t_split, t_join, t_upper, t_get, t_get2, t_sl1, t_sl3, t_app, t_ext1, t_ext2, t_clear, t_put, t_pop0, t_mI, t_mB, t_mS, t_dcg1, t_dcg2, t_dci1, t_dci2, t_dcn1, t_dcn2, t_dcx1, t_dcx2, t_kT1, t_kT2, z_disp1, z_dispX, z_dispY1, z_dispY2, z_ixs, z_ixk, z_ixd, z_ixz, z_own, z_own1, z_aug, y_ap, y_ap2, List.getElem?_cons_zero, List.getElem?_cons_succ, List.set_cons_zero, List.set_cons_succ, Option.map_some, Option.map_none, Option.bind_some, decide_true, decide_false, if_true, if_false, Int.reduceLT, Int.reduceLE, Bool.and_true, Bool.true_and, Bool.and_self, Bool.or_true, Bool.or_false, Bool.false_or, Bool.true_or, Bool.not_true, Bool.not_false, Bool.false_eq_true, List.length_cons, List.length_nil, Nat.reduceAdd, Nat.reduceLeDiff, Nat.zero_le, Nat.reduceLT, and_self, and_true, true_and, Bool.and_false, Bool.false_and, ite_true, ite_false, beq_self_eq_true, w_law_s7, TV.bo, TV.sh, TV.nw, TV.nz, ix0, ix1, t1, fz, pa, fq, qa]; all_goals rfl
    have s8 : w_law_s8 [some (.nd .z .lst (nI ns)), some p.t, some (.tup [.int a1, .int b1]), some (.tup [.int a2, .int b2]), some (.nd .o .lst [q.t]), none] = .nx [some (.nd .z .lst (nI ns)), some p.t, some (.tup [.int a1, .int b1]), some (.tup [.int a2, .int b2]), some (.nd .o .lst [q.t]), none] := by
      kernel_rfl
    have m7 : okMul 7 b1 = true := okMul_l (by omega)
    have m12 : okMul 12 a1 = true := okMul_l (by omega)
    have s9 : w_law_s9 [some (.nd .z .lst (nI ns)), some p.t, some (.tup [.int a1, .int b1]), some (.tup [.int a2, .int b2]), some (.nd .o .lst [q.t]), none] = .nx [some (.nd .z .lst (nI ns)), some p.t, some (.tup [.int a1, .int b1]), some (.tup [.int a2, .int b2]), some (.nd .o .lst [q.t]), none] := by
      simp only [z_bind, z_bindx, z_ofO, z_slot, z_var, z_c, z_fl, z_pl, z_bin, z_un, z_nil, z_cons, z_fn, z_tup, z_lst, z_d0, z_B, z_tru, z_andT, z_orT, z_notT, z_and, z_or, z_not, z_if, z_chain, z_tBl, z_tru1, z_tru2, z_tru3, z_tru4, z_tru5, z_tru6, z_pn, z_ps, z_tInt, z_sl, z_mt, z_call, z_go, z_gox, z_ioC, z_callIO, z_goI, y_non, y_bl, y_int, y_str, y_ty, y_tup, y_nd, y_0, y_1, y_nI, y_sS, y_bS, y_sho, y_shs, y_shz, y_shw, y_boo, y_bos, y_boz, y_bow, y_uwo, y_uws, y_uwz, y_uww, y_fz, y_szo, y_szs, y_szz, y_szw, y_nwo, y_nws, y_nwz, y_nww, y_nzo, y_nzs, y_nzz, y_nzw, y_noo, y_nos, y_noz, y_now, y_a0, y_a1, y_anon, y_abl, y_aint, y_astr, y_aty, y_atup, y_and, y_anI, y_asS, y_abS, z_go_nx, z_go_ret, z_go_brk, z_go_cnt, z_go_ex, z_st, z_stx, z_wnil, z_seq, z_expr, z_ret, z_retV, z_retV1, z_retN, z_brk, z_cnt, z_wif, z_asgT, z_asg, z_tgn, z_tgu, z_tgu1, z_tgu2, z_tg0, z_tg1, z_augL, z_augT, z_augZ, z_mut, z_mutL, z_mutG, z_mutZ, z_put, z_putL, z_for, z_forG, z_loop0, z_loop1, z_loopT, z_loopn, z_loopc, z_loopb, z_loopr, z_loopx, z_while, z_wh, z_whn, z_whb, z_whr, z_iv, z_iv1, z_iv2, z_iv3, z_rg, z_r1, z_r2, z_en, z_en2, z_it8, z_en1, z_zp, z_zp1, z_rv, z_rv1, z_it1, z_it2, z_it3, z_it4, z_it5, z_it6, z_it7, z_itf, z_lc, z_lcG, z_calm, z_vlc0, z_vlc1, z_lcT, z_noO0, z_noO1, z_noS1, z_noS2, z_noS3, z_wipe0, z_wipe1, z_rest0, z_rest1, z_resS, z_she0, z_she1, z_sheS, z_fin1, z_fin2, z_fin3, z_f0, z_f1, z_f2, z_f3, z_f4, z_f5, z_f6, z_f7, z_finI1, z_finI2, z_ioS, t_add, t_addb, t_adds, t_addl, t_sub, t_mul, t_muls, t_mull, t_div, t_mod, t_neg, t_aug, t_augs, t_eq, t_ne, t_lt, t_le, t_gt, t_ge, t_eqi, t_eqs, t_eqb, t_eqn, t_is, t_isn, t_is1, t_is2, t_is3, t_is4, t_is5, t_is6, t_is7, t_is8, t_ixt, t_ixl, t_ixs, t_ixd, t_k1, t_k2, t_in, t_nin, t_ind, t_len1, t_len2, t_len3, t_abs, t_max, t_min, t_maxl, t_minl, t_minT1, t_minT0, t_ltt, z_orV, t_sum, t_all, t_any, t_int1, t_int2, t_int3, t_str, t_list1, t_list2, t_tup1, t_tup2, t_dm, t_ty1, t_ty2, t_ty3, t_ty4, t_ty5, t_ty6, t_ty7, t_inst, t_inst2, t_in1, t_in2, t_tt1, t_tt2, t_tt3, t_find, t_sw, t_part, t_split, t_join, t_upper, t_get, t_get2, t_sl1, t_sl3, t_app, t_ext1, t_ext2, t_clear, t_put, t_pop0, t_mI, t_mB, t_mS, t_dcg1, t_dcg2, t_dci1, t_dci2, t_dcn1, t_dcn2, t_dcx1, t_dcx2, t_kT1, t_kT2, z_disp1, z_dispX, z_dispY1, z_dispY2, z_ixs, z_ixk, z_ixd, z_ixz, z_own, z_own1, z_aug, y_ap, y_ap2, List.getElem?_cons_zero, List.getElem?_cons_succ, List.set_cons_zero, List.set_cons_succ, Option.map_some, Option.map_none, Option.bind_some, decide_true, decide_false, if_true, if_false, Int.reduceLT, Int.reduceLE, Bool.and_true, Bool.true_and, Bool.and_self, Bool.or_true, Bool.or_false, Bool.false_or, Bool.true_or, Bool.not_true, Bool.not_false, Bool.false_eq_true, List.length_cons, List.length_nil, Nat.reduceAdd, Nat.reduceLeDiff, Nat.zero_le, Nat.reduceLT, and_self, and_true, true_and, Bool.and_false, Bool.false_and, ite_true, ite_false, beq_self_eq_true, w_law_s9, TV.bo, TV.sh, TV.nw, TV.nz, ix0, ix1, iq, f1, f0, fz, pa, fq, qa, m7, m12, fe]; all_goals rfl
    have s10 : w_law_s10 [some (.nd .z .lst (nI ns)), some p.t, some (.tup [.int a1, .int b1]), some (.tup [.int a2, .int b2]), some (.nd .o .lst [q.t]), none] = .nx [some (.nd .z .lst (nI ns)), some p.t, some (.tup [.int a1, .int b1]), some (.tup [.int a2, .int b2]), some (.nd .o .lst [q.t]), none] := by
      simp only [z_bind, z_bindx, z_ofO, z_slot, z_var, z_c, z_fl, z_pl, z_bin, z_un, z_nil, z_cons, z_fn, z_tup, z_lst, z_d0, z_B, z_tru, z_andT, z_orT, z_notT, z_and, z_or, z_not, z_if, z_chain, z_tBl, z_tru1, z_tru2, z_tru3, z_tru4, z_tru5, z_tru6, z_pn, z_ps, z_tInt, z_sl, z_mt, z_call, z_go, z_gox, z_ioC, z_callIO, z_goI, y_non, y_bl, y_int, y_str, y_ty, y_tup, y_nd, y_0, y_1, y_nI, y_sS, y_bS, y_sho, y_shs, y_shz, y_shw, y_boo, y_bos, y_boz, y_bow, y_uwo, y_uws, y_uwz, y_uww, y_fz, y_szo, y_szs, y_szz, y_szw, y_nwo, y_nws, y_nwz, y_nww, y_nzo, y_nzs, y_nzz, y_nzw, y_noo, y_nos, y_noz, y_now, y_a0, y_a1, y_anon, y_abl, y_aint, y_astr, y_aty, y_atup, y_and, y_anI, y_asS, y_abS, z_go_nx, z_go_ret, z_go_brk, z_go_cnt, z_go_ex, z_st, z_stx, z_wnil, z_seq, z_expr, z_ret, z_retV, z_retV1, z_retN, z_brk, z_cnt, z_wif, z_asgT, z_asg, z_tgn, z_tgu, z_tgu1, z_tgu2, z_tg0, z_tg1, z_augL, z_augT, z_augZ, z_mut, z_mutL, z_mutG, z_mutZ, z_put, z_putL, z_for, z_forG, z_loop0, z_loop1, z_loopT, z_loopn, z_loopc, z_loopb, z_loopr, z_loopx, z_while, z_wh, z_whn, z_whb, z_whr, z_iv, z_iv1, z_iv2, z_iv3, z_rg, z_r1, z_r2, z_en, z_en2, z_it8, z_en1, z_zp, z_zp1, z_rv, z_rv1, z_it1, z_it2, z_it3, z_it4, z_it5, z_it6, z_it7, z_itf, z_lc, z_lcG, z_calm, z_vlc0, z_vlc1, z_lcT, z_noO0, z_noO1, z_noS1, z_noS2, z_noS3, z_wipe0, z_wipe1, z_rest0, z_rest1, z_resS, z_she0, z_she1, z_sheS, z_fin1, z_fin2, z_fin3, z_f0, z_f1, z_f2, z_f3, z_f4, z_f5, z_f6, z_f7, z_finI1, z_finI2, z_ioS, t_add, t_addb, t_adds, t_addl, t_sub, t_mul, t_muls, t_mull, t_div, t_mod, t_neg, t_aug, t_augs, t_eq, t_ne, t_lt, t_le, t_gt, t_ge, t_eqi, t_eqs, t_eqb, t_eqn, t_is, t_isn, t_is1, t_is2, t_is3, t_is4, t_is5, t_is6, t_is7, t_is8, t_ixt, t_ixl, t_ixs, t_ixd, t_k1, t_k2, t_in, t_nin, t_ind, t_len1, t_len2, t_len3, t_abs, t_max, t_min, t_maxl, t_minl, t_minT1, t_minT0, t_ltt, z_orV, t_sum, t_all, t_any, t_int1, t_int2, t_int3, t_str, t_list1, t_list2, t_tup1, t_tup2, t_dm, t_ty1, t_ty2, t_ty3, t_ty4, t_ty5, t_ty6, t_ty7, t_inst, t_inst2, t_in1, t_in2, t_tt1, t_tt2, t_tt3, t_find, t_sw, t_part, t_split, t_join, t_upper, t_get, t_get2, t_sl1, t_sl3, t_app, t_ext1, t_ext2, t_clear, t_put, t_pop0, t_mI, t_mB, t_mS, t_dcg1, t_dcg2, t_dci1, t_dci2, t_dcn1, t_dcn2, t_dcx1, t_dcx2, t_kT1, t_kT2, z_disp1, z_dispX, z_dispY1, z_dispY2, z_ixs, z_ixk, z_ixd, z_ixz, z_own, z_own1, z_aug, y_ap, y_ap2, List.getElem?_cons_zero, List.getElem?_cons_succ, List.set_cons_zero, List.set_cons_succ, Option.map_some, Option.map_none, Option.bind_some, decide_true, decide_false, if_true, if_false, Int.reduceLT, Int.reduceLE, Bool.and_true, Bool.true_and, Bool.and_self, Bool.or_true, Bool.or_false, Bool.false_or, Bool.true_or, Bool.not_true, Bool.not_false, Bool.false_eq_true, List.length_cons, List.length_nil, Nat.reduceAdd, Nat.reduceLeDiff, Nat.zero_le, Nat.reduceLT, and_self, and_true, true_and, Bool.and_false, Bool.false_and, ite_true, ite_false, beq_self_eq_true, w_law_s10, TV.bo, TV.sh, TV.nw, TV.nz, ix0, ix1, iq, q0, eqp, fz, pa, fq, qa]; all_goals rfl
    have s11 : w_law_s11 [some (.nd .z .lst (nI ns)), some p.t, some (.tup [.int a1, .int b1]), some (.tup [.int a2, .int b2]), some (.nd .o .lst [q.t]), none] = .nx [some (.nd .z .lst (nI ns)), some p.t, some (.tup [.int a1, .int b1]), some (.tup [.int a2, .int b2]), some (.nd .o .lst [q.t]), none] := by
      simp only [z_bind, z_bindx, z_ofO, z_slot, z_var, z_c, z_fl, z_pl, z_bin, z_un, z_nil, z_cons, z_fn, z_tup, z_lst, z_d0, z_B, z_tru, z_andT, z_orT, z_notT, z_and, z_or, z_not, z_if, z_chain, z_tBl, z_tru1, z_tru2, z_tru3, z_tru4, z_tru5, z_tru6, z_pn, z_ps, z_tInt, z_sl, z_mt, z_call, z_go, z_gox, z_ioC, z_callIO, z_goI, y_non, y_bl, y_int, y_str, y_ty, y_tup, y_nd, y_0, y_1, y_nI, y_sS, y_bS, y_sho, y_shs, y_shz, y_shw, y_boo, y_bos, y_boz, y_bow, y_uwo, y_uws, y_uwz, y_uww, y_fz, y_szo, y_szs, y_szz, y_szw, y_nwo, y_nws, y_nwz, y_nww, y_nzo, y_nzs, y_nzz, y_nzw, y_noo, y_nos, y_noz, y_now, y_a0, y_a1, y_anon, y_abl, y_aint, y_astr, y_aty, y_atup, y_and, y_anI, y_asS, y_abS, z_go_nx, z_go_ret, z_go_brk, z_go_cnt, z_go_ex, z_st, z_stx, z_wnil, z_seq, z_expr, z_ret, z_retV, z_retV1, z_retN, z_brk, z_cnt, z_wif, z_asgT, z_asg, z_tgn, z_tgu, z_tgu1, z_tgu2, z_tg0, z_tg1, z_augL, z_augT, z_augZ, z_mut, z_mutL, z_mutG, z_mutZ, z_put, z_putL, z_for, z_forG, z_loop0, z_loop1, z_loopT, z_loopn, z_loopc, z_loopb, z_loopr, z_loopx, z_while, z_wh, z_whn, z_whb, z_whr, z_iv, z_iv1, z_iv2, z_iv3, z_rg, z_r1, z_r2, z_en, z_en2, z_it8, z_en1, z_zp, z_zp1, z_rv, z_rv1, z_it1, z_it2, z_it3, z_it4, z_it5, z_it6, z_it7, z_itf, z_lc, z_lcG, z_calm, z_vlc0, z_vlc1, z_lcT, z_noO0, z_noO1, z_noS1, z_noS2, z_noS3, z_wipe0, z_wipe1, z_rest0, z_rest1, z_resS, z_she0, z_she1, z_sheS, z_fin1, z_fin2, z_fin3, z_f0, z_f1, z_f2, z_f3, z_f4, z_f5, z_f6, z_f7, z_finI1, z_finI2, z_ioS, t_add, t_addb, t_adds, t_addl, t_sub, t_mul, t_muls, t_mull, t_div, t_mod, t_neg, t_aug, t_augs, t_eq, t_ne, t_lt, t_le, t_gt, t_ge, t_eqi, t_eqs, t_eqb, t_eqn, t_is, t_isn, t_is1, t_is2, t_is3, t_is4, t_is5, t_is6, t_is7, t_is8, t_ixt, t_ixl, t_ixs, t_ixd, t_k1, t_k2, t_in, t_nin, t_ind, t_len1, t_len2, t_len3, t_abs, t_max, t_min, t_maxl, t_minl, t_minT1, t_minT0, t_ltt, z_orV, t_sum, t_all, t_any, t_int1, t_int2, t_int3, t_str, t_list1, t_list2, t_tup1, t_tup2, t_dm, t_ty1, t_ty2, t_ty3, t_ty4, t_ty5, t_ty6, t_ty7, t_inst, t_inst2, t_in1, t_in2, t_tt1, t_tt2, t_tt3, t_find, t_sw, t_part, t_split, t_join, t_upper, t_get, t_get2, t_sl1, t_sl3, t_app, t_ext1, t_ext2, t_clear, t_put, t_pop0, t_mI, t_mB, t_mS, t_dcg1, t_dcg2, t_dci1, t_dci2, t_dcn1, t_dcn2, t_dcx1, t_dcx2, t_kT1, t_kT2, z_disp1, z_dispX, z_dispY1, z_dispY2, z_ixs, z_ixk, z_ixd, z_ixz, z_own, z_own1, z_aug, y_ap, y_ap2, List.getElem?_cons_zero, List.getElem?_cons_succ, List.set_cons_zero, List.set_cons_succ, Option.map_some, Option.map_none, Option.bind_some, decide_true, decide_false, if_true, if_false, Int.reduceLT, Int.reduceLE, Bool.and_true, Bool.true_and, Bool.and_self, Bool.or_true, Bool.or_false, Bool.false_or, Bool.true_or, Bool.not_true, Bool.not_false, Bool.false_eq_true, List.length_cons, List.length_nil, Nat.reduceAdd, Nat.reduceLeDiff, Nat.zero_le, Nat.reduceLT, and_self, and_true, true_and, Bool.and_false, Bool.false_and, ite_true, ite_false, beq_self_eq_true, w_law_s11, TV.bo, TV.sh, TV.nw, TV.nz, ix0, ix1, iq, q1, fz, pa, fq, qa]; all_goals rfl
    have s12 : w_law_s12 [some (.nd .z .lst (nI ns)), some p.t, some (.tup [.int a1, .int b1]), some (.tup [.int a2, .int b2]), some (.nd .o .lst [q.t]), none] = .nx [some (.nd .z .lst (nI ns)), some p.t, some (.tup [.int a1, .int b1]), some (.tup [.int a2, .int b2]), some (.nd .o .lst [q.t]), some (foT r)] := by
      have z := (fdt r).2.2
      simp only [z_bind, z_bindx, z_ofO, z_slot, z_var, z_c, z_fl, z_pl, z_bin, z_un, z_nil, z_cons, z_fn, z_tup, z_lst, z_d0, z_B, z_tru, z_andT, z_orT, z_notT, z_and, z_or, z_not, z_if, z_chain, z_tBl, z_tru1, z_tru2, z_tru3, z_tru4, z_tru5, z_tru6, z_pn, z_ps, z_tInt, z_sl, z_mt, z_call, z_go, z_gox, z_ioC, z_callIO, z_goI, y_non, y_bl, y_int, y_str, y_ty, y_tup, y_nd, y_0, y_1, y_nI, y_sS, y_bS, y_sho, y_shs, y_shz, y_shw, y_boo, y_bos, y_boz, y_bow, y_uwo, y_uws, y_uwz, y_uww, y_fz, y_szo, y_szs, y_szz, y_szw, y_nwo, y_nws, y_nwz, y_nww, y_nzo, y_nzs, y_nzz, y_nzw, y_noo, y_nos, y_noz, y_now, y_a0, y_a1, y_anon, y_abl, y_aint, y_astr, y_aty, y_atup, y_and, y_anI, y_asS, y_abS, z_go_nx, z_go_ret, z_go_brk, z_go_cnt, z_go_ex, z_st, z_stx, z_wnil, z_seq, z_expr, z_ret, z_retV, z_retV1, z_retN, z_brk, z_cnt, z_wif, z_asgT, z_asg, z_tgn, z_tgu, z_tgu1, z_tgu2, z_tg0, z_tg1, z_augL, z_augT, z_augZ, z_mut, z_mutL, z_mutG, z_mutZ, z_put, z_putL, z_for, z_forG, z_loop0, z_loop1, z_loopT, z_loopn, z_loopc, z_loopb, z_loopr, z_loopx, z_while, z_wh, z_whn, z_whb, z_whr, z_iv, z_iv1, z_iv2, z_iv3, z_rg, z_r1, z_r2, z_en, z_en2, z_it8, z_en1, z_zp, z_zp1, z_rv, z_rv1, z_it1, z_it2, z_it3, z_it4, z_it5, z_it6, z_it7, z_itf, z_lc, z_lcG, z_calm, z_vlc0, z_vlc1, z_lcT, z_noO0, z_noO1, z_noS1, z_noS2, z_noS3, z_wipe0, z_wipe1, z_rest0, z_rest1, z_resS, z_she0, z_she1, z_sheS, z_fin1, z_fin2, z_fin3, z_f0, z_f1, z_f2, z_f3, z_f4, z_f5, z_f6, z_f7, z_finI1, z_finI2, z_ioS, t_add, t_addb, t_adds, t_addl, t_sub, t_mul, t_muls, t_mull, t_div, t_mod, t_neg, t_aug, t_augs, t_eq, t_ne, t_lt, t_le, t_gt, t_ge, t_eqi, t_eqs, t_eqb, t_eqn, t_is, t_isn, t_is1, t_is2, t_is3, t_is4, t_is5, t_is6, t_is7, t_is8, t_ixt, t_ixl, t_ixs, t_ixd, t_k1, t_k2, t_in, t_nin, t_ind, t_len1, t_len2, t_len3, t_abs, t_max, t_min, t_maxl, t_minl, t_minT1, t_minT0, t_ltt, z_orV, t_sum, t_all, t_any, t_int1, t_int2, t_int3, t_str, t_list1, t_list2, t_tup1, t_tup2, t_dm, t_ty1, t_ty2, t_ty3, t_ty4, t_ty5, t_ty6, t_ty7, t_inst, t_inst2, t_in1, t_in2, t_tt1, t_tt2, t_tt3, t_find, t_sw, t_part, t_split, t_join, t_upper, t_get, t_get2, t_sl1, t_sl3, t_app, t_ext1, t_ext2, t_clear, t_put, t_pop0, t_mI, t_mB, t_mS, t_dcg1, t_dcg2, t_dci1, t_dci2, t_dcn1, t_dcn2, t_dcx1, t_dcx2, t_kT1, t_kT2, z_disp1, z_dispX, z_dispY1, z_dispY2, z_ixs, z_ixk, z_ixd, z_ixz, z_own, z_own1, z_aug, y_ap, y_ap2, List.getElem?_cons_zero, List.getElem?_cons_succ, List.set_cons_zero, List.set_cons_succ, Option.map_some, Option.map_none, Option.bind_some, decide_true, decide_false, if_true, if_false, Int.reduceLT, Int.reduceLE, Bool.and_true, Bool.true_and, Bool.and_self, Bool.or_true, Bool.or_false, Bool.false_or, Bool.true_or, Bool.not_true, Bool.not_false, Bool.false_eq_true, List.length_cons, List.length_nil, Nat.reduceAdd, Nat.reduceLeDiff, Nat.zero_le, Nat.reduceLT, and_self, and_true, true_and, Bool.and_false, Bool.false_and, ite_true, ite_false, beq_self_eq_true, w_law_s12, TV.bo, TV.sh, ix0, ix1, iq, q2, fz, pa, fq, qa, z]; all_goals rfl
    simp only [z_seq, s7, s8, s9, s10, s11, s12, z_go_nx]
    unfold foT at t2 ⊢
    by_cases hr : r.ok
    · rw [if_pos hr] at t2 ⊢
      have er := eq_one r
      have fr : ∀ f, TV.fl f r.t = r.t := fun _ => rfl
      have ra : ∀ f, r.t.all f = true := fun _ => rfl
      simp only [z_bind, z_bindx, z_ofO, z_slot, z_var, z_c, z_fl, z_pl, z_bin, z_un, z_nil, z_cons, z_fn, z_tup, z_lst, z_d0, z_B, z_tru, z_andT, z_orT, z_notT, z_and, z_or, z_not, z_if, z_chain, z_tBl, z_tru1, z_tru2, z_tru3, z_tru4, z_tru5, z_tru6, z_pn, z_ps, z_tInt, z_sl, z_mt, z_call, z_go, z_gox, z_ioC, z_callIO, z_goI, y_non, y_bl, y_int, y_str, y_ty, y_tup, y_nd, y_0, y_1, y_nI, y_sS, y_bS, y_sho, y_shs, y_shz, y_shw, y_boo, y_bos, y_boz, y_bow, y_uwo, y_uws, y_uwz, y_uww, y_fz, y_szo, y_szs, y_szz, y_szw, y_nwo, y_nws, y_nwz, y_nww, y_nzo, y_nzs, y_nzz, y_nzw, y_noo, y_nos, y_noz, y_now, y_a0, y_a1, y_anon, y_abl, y_aint, y_astr, y_aty, y_atup, y_and, y_anI, y_asS, y_abS, z_go_nx, z_go_ret, z_go_brk, z_go_cnt, z_go_ex, z_st, z_stx, z_wnil, z_seq, z_expr, z_ret, z_retV, z_retV1, z_retN, z_brk, z_cnt, z_wif, z_asgT, z_asg, z_tgn, z_tgu, z_tgu1, z_tgu2, z_tg0, z_tg1, z_augL, z_augT, z_augZ, z_mut, z_mutL, z_mutG, z_mutZ, z_put, z_putL, z_for, z_forG, z_loop0, z_loop1, z_loopT, z_loopn, z_loopc, z_loopb, z_loopr, z_loopx, z_while, z_wh, z_whn, z_whb, z_whr, z_iv, z_iv1, z_iv2, z_iv3, z_rg, z_r1, z_r2, z_en, z_en2, z_it8, z_en1, z_zp, z_zp1, z_rv, z_rv1, z_it1, z_it2, z_it3, z_it4, z_it5, z_it6, z_it7, z_itf, z_lc, z_lcG, z_calm, z_vlc0, z_vlc1, z_lcT, z_noO0, z_noO1, z_noS1, z_noS2, z_noS3, z_wipe0, z_wipe1, z_rest0, z_rest1, z_resS, z_she0, z_she1, z_sheS, z_fin1, z_fin2, z_fin3, z_f0, z_f1, z_f2, z_f3, z_f4, z_f5, z_f6, z_f7, z_finI1, z_finI2, z_ioS, t_add, t_addb, t_adds, t_addl, t_sub, t_mul, t_muls, t_mull, t_div, t_mod, t_neg, t_aug, t_augs, t_eq, t_ne, t_lt, t_le, t_gt, t_ge, t_eqi, t_eqs, t_eqb, t_eqn, t_is, t_isn, t_is1, t_is2, t_is3, t_is4, t_is5, t_is6, t_is7, t_is8, t_ixt, t_ixl, t_ixs, t_ixd, t_k1, t_k2, t_in, t_nin, t_ind, t_len1, t_len2, t_len3, t_abs, t_max, t_min, t_maxl, t_minl, t_minT1, t_minT0, t_ltt, z_orV, t_sum, t_all, t_any, t_int1, t_int2, t_int3, t_str, t_list1, t_list2, t_tup1, t_tup2, t_dm, t_ty1, t_ty2, t_ty3, t_ty4, t_ty5, t_ty6, t_ty7, t_inst, t_inst2, t_in1, t_in2, t_tt1, t_tt2, t_tt3, t_find, t_sw, t_part, t_split, t_join, t_upper, t_get, t_get2, t_sl1, t_sl3, t_app, t_ext1, t_ext2, t_clear, t_put, t_pop0, t_mI, t_mB, t_mS, t_dcg1, t_dcg2, t_dci1, t_dci2, t_dcn1, t_dcn2, t_dcx1, t_dcx2, t_kT1, t_kT2, z_disp1, z_dispX, z_dispY1, z_dispY2, z_ixs, z_ixk, z_ixd, z_ixz, z_own, z_own1, z_aug, y_ap, y_ap2, List.getElem?_cons_zero, List.getElem?_cons_succ, List.set_cons_zero, List.set_cons_succ, Option.map_some, Option.map_none, Option.bind_some, decide_true, decide_false, if_true, if_false, Int.reduceLT, Int.reduceLE, Bool.and_true, Bool.true_and, Bool.and_self, Bool.or_true, Bool.or_false, Bool.false_or, Bool.true_or, Bool.not_true, Bool.not_false, Bool.false_eq_true, List.length_cons, List.length_nil, Nat.reduceAdd, Nat.reduceLeDiff, Nat.zero_le, Nat.reduceLT, and_self, and_true, true_and, Bool.and_false, Bool.false_and, ite_true, ite_false, beq_self_eq_true, w_law_s13, TV.bo, TV.sh, TV.nw, TV.nz, ix0, ix1, t2, er, fz, pa, fq, qa, fr, ra]; all_goals rfl
    · rw [if_neg hr] at t2 ⊢
      simp only [z_bind, z_bindx, z_ofO, z_slot, z_var, z_c, z_fl, z_pl, z_bin, z_un, z_nil, z_cons, z_fn, z_tup, z_lst, z_d0, z_B, z_tru, z_andT, z_orT, z_notT, z_and, z_or, z_not, z_if, z_chain, z_tBl, z_tru1, z_tru2, z_tru3, z_tru4, z_tru5, z_tru6, z_pn, z_ps, z_tInt, z_sl, z_mt, z_call, z_go, z_gox, z_ioC, z_callIO, z_goI, y_non, y_bl, y_int, y_str, y_ty, y_tup, y_nd, y_0, y_1, y_nI, y_sS, y_bS, y_sho, y_shs, y_shz, y_shw, y_boo, y_bos, y_boz, y_bow, y_uwo, y_uws, y_uwz, y_uww, y_fz, y_szo, y_szs, y_szz, y_szw, y_nwo, y_nws, y_nwz, y_nww, y_nzo, y_nzs, y_nzz, y_nzw, y_noo, y_nos, y_noz, y_now, y_a0, y_a1, y_anon, y_abl, y_aint, y_astr, y_aty, y_atup, y_and, y_anI, y_asS, y_abS, z_go_nx, z_go_ret, z_go_brk, z_go_cnt, z_go_ex, z_st, z_stx, z_wnil, z_seq, z_expr, z_ret, z_retV, z_retV1, z_retN, z_brk, z_cnt, z_wif, z_asgT, z_asg, z_tgn, z_tgu, z_tgu1, z_tgu2, z_tg0, z_tg1, z_augL, z_augT, z_augZ, z_mut, z_mutL, z_mutG, z_mutZ, z_put, z_putL, z_for, z_forG, z_loop0, z_loop1, z_loopT, z_loopn, z_loopc, z_loopb, z_loopr, z_loopx, z_while, z_wh, z_whn, z_whb, z_whr, z_iv, z_iv1, z_iv2, z_iv3, z_rg, z_r1, z_r2, z_en, z_en2, z_it8, z_en1, z_zp, z_zp1, z_rv, z_rv1, z_it1, z_it2, z_it3, z_it4, z_it5, z_it6, z_it7, z_itf, z_lc, z_lcG, z_calm, z_vlc0, z_vlc1, z_lcT, z_noO0, z_noO1, z_noS1, z_noS2, z_noS3, z_wipe0, z_wipe1, z_rest0, z_rest1, z_resS, z_she0, z_she1, z_sheS, z_fin1, z_fin2, z_fin3, z_f0, z_f1, z_f2, z_f3, z_f4, z_f5, z_f6, z_f7, z_finI1, z_finI2, z_ioS, t_add, t_addb, t_adds, t_addl, t_sub, t_mul, t_muls, t_mull, t_div, t_mod, t_neg, t_aug, t_augs, t_eq, t_ne, t_lt, t_le, t_gt, t_ge, t_eqi, t_eqs, t_eqb, t_eqn, t_is, t_isn, t_is1, t_is2, t_is3, t_is4, t_is5, t_is6, t_is7, t_is8, t_ixt, t_ixl, t_ixs, t_ixd, t_k1, t_k2, t_in, t_nin, t_ind, t_len1, t_len2, t_len3, t_abs, t_max, t_min, t_maxl, t_minl, t_minT1, t_minT0, t_ltt, z_orV, t_sum, t_all, t_any, t_int1, t_int2, t_int3, t_str, t_list1, t_list2, t_tup1, t_tup2, t_dm, t_ty1, t_ty2, t_ty3, t_ty4, t_ty5, t_ty6, t_ty7, t_inst, t_inst2, t_in1, t_in2, t_tt1, t_tt2, t_tt3, t_find, t_sw, t_part, t_split, t_join, t_upper, t_get, t_get2, t_sl1, t_sl3, t_app, t_ext1, t_ext2, t_clear, t_put, t_pop0, t_mI, t_mB, t_mS, t_dcg1, t_dcg2, t_dci1, t_dci2, t_dcn1, t_dcn2, t_dcx1, t_dcx2, t_kT1, t_kT2, z_disp1, z_dispX, z_dispY1, z_dispY2, z_ixs, z_ixk, z_ixd, z_ixz, z_own, z_own1, z_aug, y_ap, y_ap2, List.getElem?_cons_zero, List.getElem?_cons_succ, List.set_cons_zero, List.set_cons_succ, Option.map_some, Option.map_none, Option.bind_some, decide_true, decide_false, if_true, if_false, Int.reduceLT, Int.reduceLE, Bool.and_true, Bool.true_and, Bool.and_self, Bool.or_true, Bool.or_false, Bool.false_or, Bool.true_or, Bool.not_true, Bool.not_false, Bool.false_eq_true, List.length_cons, List.length_nil, Nat.reduceAdd, Nat.reduceLeDiff, Nat.zero_le, Nat.reduceLT, and_self, and_true, true_and, Bool.and_false, Bool.false_and, ite_true, ite_false, beq_self_eq_true, w_law_s13, TV.bo, TV.sh, TV.nw, TV.nz, ix0, ix1, t2, eq_reach, fz, pa, fq, qa]; all_goals rfl
  · have fo1 : foT (mvT p a1 b1) = .tup [.str "reach"] := by unfold foT; rw [if_neg hq]
    rw [fo1] at t1
    have s7 : w_law_s7 [some (.nd .z .lst (nI ns)), some p.t, some (.tup [.int a1, .int b1]), some (.tup [.int a2, .int b2]), none, none] = .nx [some (.nd .z .lst (nI ns)), some p.t, some (.tup [.int a1, .int b1]), some (.tup [.int a2, .int b2]), some (.tup [.str "reach"]), none] := by
      simp only [z_bind, z_bindx, z_ofO, z_slot, z_var, z_c, z_fl, z_pl, z_bin, z_un, z_nil, z_cons, z_fn, z_tup, z_lst, z_d0, z_B, z_tru, z_andT, z_orT, z_notT, z_and, z_or, z_not, z_if, z_chain, z_tBl, z_tru1, z_tru2, z_tru3, z_tru4, z_tru5, z_tru6, z_pn, z_ps, z_tInt, z_sl, z_mt, z_call, z_go, z_gox, z_ioC, z_callIO, z_goI, y_non, y_bl, y_int, y_str, y_ty, y_tup, y_nd, y_0, y_1, y_nI, y_sS, y_bS, y_sho, y_shs, y_shz, y_shw, y_boo, y_bos, y_boz, y_bow, y_uwo, y_uws, y_uwz, y_uww, y_fz, y_szo, y_szs, y_szz, y_szw, y_nwo, y_nws, y_nwz, y_nww, y_nzo, y_nzs, y_nzz, y_nzw, y_noo, y_nos, y_noz, y_now, y_a0, y_a1, y_anon, y_abl, y_aint, y_astr, y_aty, y_atup, y_and, y_anI, y_asS, y_abS, z_go_nx, z_go_ret, z_go_brk, z_go_cnt, z_go_ex, z_st, z_stx, z_wnil, z_seq, z_expr, z_ret, z_retV, z_retV1, z_retN, z_brk, z_cnt, z_wif, z_asgT, z_asg, z_tgn, z_tgu, z_tgu1, z_tgu2, z_tg0, z_tg1, z_augL, z_augT, z_augZ, z_mut, z_mutL, z_mutG, z_mutZ, z_put, z_putL, z_for, z_forG, z_loop0, z_loop1, z_loopT, z_loopn, z_loopc, z_loopb, z_loopr, z_loopx, z_while, z_wh, z_whn, z_whb, z_whr, z_iv, z_iv1, z_iv2, z_iv3, z_rg, z_r1, z_r2, z_en, z_en2, z_it8, z_en1, z_zp, z_zp1, z_rv, z_rv1, z_it1, z_it2, z_it3, z_it4, z_it5, z_it6, z_it7, z_itf, z_lc, z_lcG, z_calm, z_vlc0, z_vlc1, z_lcT, z_noO0, z_noO1, z_noS1, z_noS2, z_noS3, z_wipe0, z_wipe1, z_rest0, z_rest1, z_resS, z_she0, z_she1, z_sheS, z_fin1, z_fin2, z_fin3, z_f0, z_f1, z_f2, z_f3, z_f4, z_f5, z_f6, z_f7, z_finI1, z_finI2, z_ioS, t_add, t_addb, t_adds, t_addl, t_sub, t_mul, t_muls, t_mull, t_div, t_mod, t_neg, t_aug, t_augs, t_eq, t_ne, t_lt, t_le, t_gt, t_ge, t_eqi, t_eqs, t_eqb, t_eqn, t_is, t_isn, t_is1, t_is2, t_is3, t_is4, t_is5, t_is6, t_is7, t_is8, t_ixt, t_ixl, t_ixs, t_ixd, t_k1, t_k2, t_in, t_nin, t_ind, t_len1, t_len2, t_len3, t_abs, t_max, t_min, t_maxl, t_minl, t_minT1, t_minT0, t_ltt, z_orV, t_sum, t_all, t_any, t_int1, t_int2, t_int3, t_str, t_list1, t_list2, t_tup1, t_tup2, t_dm, t_ty1, t_ty2, t_ty3, t_ty4, t_ty5, t_ty6, t_ty7, t_inst, t_inst2, t_in1, t_in2, t_tt1, t_tt2, t_tt3, t_find, t_sw, t_part, t_split, t_join, t_upper, t_get, t_get2, t_sl1, t_sl3, t_app, t_ext1, t_ext2, t_clear, t_put, t_pop0, t_mI, t_mB, t_mS, t_dcg1, t_dcg2, t_dci1, t_dci2, t_dcn1, t_dcn2, t_dcx1, t_dcx2, t_kT1, t_kT2, z_disp1, z_dispX, z_dispY1, z_dispY2, z_ixs, z_ixk, z_ixd, z_ixz, z_own, z_own1, z_aug, y_ap, y_ap2, List.getElem?_cons_zero, List.getElem?_cons_succ, List.set_cons_zero, List.set_cons_succ, Option.map_some, Option.map_none, Option.bind_some, decide_true, decide_false, if_true, if_false, Int.reduceLT, Int.reduceLE, Bool.and_true, Bool.true_and, Bool.and_self, Bool.or_true, Bool.or_false, Bool.false_or, Bool.true_or, Bool.not_true, Bool.not_false, Bool.false_eq_true, List.length_cons, List.length_nil, Nat.reduceAdd, Nat.reduceLeDiff, Nat.zero_le, Nat.reduceLT, and_self, and_true, true_and, Bool.and_false, Bool.false_and, ite_true, ite_false, beq_self_eq_true, w_law_s7, TV.bo, TV.sh, TV.nw, TV.nz, ix0, ix1, t1, fz, pa]; all_goals rfl
    have s8 : w_law_s8 [some (.nd .z .lst (nI ns)), some p.t, some (.tup [.int a1, .int b1]), some (.tup [.int a2, .int b2]), some (.tup [.str "reach"]), none] = .ret (.bl true) [some (.nd .z .lst (nI ns)), some p.t, some (.tup [.int a1, .int b1]), some (.tup [.int a2, .int b2]), some (.tup [.str "reach"]), none] := by kernel_rfl
    simp only [z_seq, s7, s8, z_go_nx, z_go_ret]
    rfl
end BW

namespace BW
open PySem IP
theorem run : ∀ ns : List Int, ns.length ≤ 63 → (∀ z ∈ ns, Builtin.Int.intBits z ≤ 1048576) → ∃ S, F_law [.sq (ns.map IV.int)] [] = .ok (.bl true) S := fun ns h1 h2 => run_of D_law (runV ns h1 h2)
end BW
namespace BW
open PySem PySem.Spec PyProof.Rows L2 IP
def topS (i : Nat) : Stmt := PySem.Challenge.pw_barwright_k04_whole_moving_pitches.main.body.getD i (.Pass ⟨0, 0, 0, 0⟩)
def gvs : List (Str × IV) := [("HALVES", (.tup [(.int 0), (.int 2), (.int 4), (.int 5), (.int 7), (.int 9), (.int 11)])), ("ROUND", (.tup [(.int 0), (.int 2), (.int 4), (.int (-1)), (.int 1), (.int 3), (.int 5)])), ("MOST_LEAN", (.int 2)), ("MOST_OCTAVE", (.int 8))]
def nbs : List Str := ["len", "range", "abs", "int", "isinstance", "bool", "tuple", "divmod", "ValueError", "all"]
def dcs : List (Str × List (Key × Key)) := []
def xcs : List Str := ["OutOfReach"]
abbrev T_0 : Tb := ⟨[], gvs, nbs, dcs, hkNo, xcs⟩
theorem sub4 : ∀ x, x ∈ (["isinstance", "len", "int", "ValueError"] : List Str) → x ∈ nbs := by decide
theorem sub5 : ∀ x, x ∈ (["isinstance", "len", "int", "ValueError", "tuple"] : List Str) → x ∈ nbs := by decide
abbrev st_fifths : Stmt := topS 22
theorem sc_fifths : FnScope N_fifths ["pitch"] (defScope st_fifths) := ⟨rfl, rfl, rfl, by decide +kernel, rfl, by decide +kernel, by decide +kernel⟩
theorem ba_fifths : BindA "fifths" st_fifths ["pitch"] := fun _ _ _ _ _ _ us hl => match us, hl with | [_], _ => rfl
theorem d_fifths : denDef T_0 N_fifths st_fifths = some b_fifths := by kernel_rfl
abbrev T_1 : Tb := ⟨("fifths", 1, F_fifths) :: (T_0).fn, (T_0).gv, (T_0).nb, (T_0).dc, (T_0).hk, (T_0).xc⟩
abbrev st_l_cell : Stmt := topS 25
theorem sc_l_cell : FnScope N_l_cell ["_law_script", "_law_k"] (defScope st_l_cell) := ⟨rfl, rfl, rfl, by decide +kernel, rfl, by decide +kernel, by decide +kernel⟩
theorem ba_l_cell : BindA "_law_cell" st_l_cell ["_law_script", "_law_k"] := fun _ _ _ _ _ _ us hl => match us, hl with | [_, _], _ => rfl
theorem d_l_cell : denDef T_1 N_l_cell st_l_cell = some b_l_cell := by kernel_rfl
abbrev T_2 : Tb := ⟨("_law_cell", 2, F_l_cell) :: (T_1).fn, (T_1).gv, (T_1).nb, (T_1).dc, (T_1).hk, (T_1).xc⟩
abbrev st_l_mixed : Stmt := topS 26
theorem sc_l_mixed : FnScope N_l_mixed ["_law_cell_here", "_law_k"] (defScope st_l_mixed) := ⟨rfl, rfl, rfl, by decide +kernel, rfl, by decide +kernel, by decide +kernel⟩
theorem ba_l_mixed : BindA "_law_mixed" st_l_mixed ["_law_cell_here", "_law_k"] := fun _ _ _ _ _ _ us hl => match us, hl with | [_, _], _ => rfl
theorem d_l_mixed : denDef T_2 N_l_mixed st_l_mixed = some b_l_mixed := by kernel_rfl
abbrev T_3 : Tb := ⟨("_law_mixed", 2, F_l_mixed) :: (T_2).fn, (T_2).gv, (T_2).nb, (T_2).dc, (T_2).hk, (T_2).xc⟩
abbrev st_l_pitch : Stmt := topS 27
theorem sc_l_pitch : FnScope N_l_pitch ["_law_number"] (defScope st_l_pitch) := ⟨rfl, rfl, rfl, by decide +kernel, rfl, by decide +kernel, by decide +kernel⟩
theorem ba_l_pitch : BindA "_law_pitch" st_l_pitch ["_law_number"] := fun _ _ _ _ _ _ us hl => match us, hl with | [_], _ => rfl
theorem d_l_pitch : denDef T_3 N_l_pitch st_l_pitch = some b_l_pitch := by kernel_rfl
abbrev T_4 : Tb := ⟨("_law_pitch", 1, F_l_pitch) :: (T_3).fn, (T_3).gv, (T_3).nb, (T_3).dc, (T_3).hk, (T_3).xc⟩
abbrev st_l_walked : Stmt := topS 28
theorem sc_l_walked : FnScope N_l_walked ["_law_lines"] (defScope st_l_walked) := ⟨rfl, rfl, rfl, by decide +kernel, rfl, by decide +kernel, by decide +kernel⟩
theorem ba_l_walked : BindA "_law_walked" st_l_walked ["_law_lines"] := fun _ _ _ _ _ _ us hl => match us, hl with | [_], _ => rfl
theorem d_l_walked : denDef T_4 N_l_walked st_l_walked = some b_l_walked := by kernel_rfl
abbrev T_5 : Tb := ⟨("_law_walked", 1, F_l_walked) :: (T_4).fn, (T_4).gv, (T_4).nb, (T_4).dc, (T_4).hk, (T_4).xc⟩
abbrev st_l_interval : Stmt := topS 29
theorem sc_l_interval : FnScope N_l_interval ["_law_cell_here", "_law_number"] (defScope st_l_interval) := ⟨rfl, rfl, rfl, by decide +kernel, rfl, by decide +kernel, by decide +kernel⟩
theorem ba_l_interval : BindA "_law_interval" st_l_interval ["_law_cell_here", "_law_number"] := fun _ _ _ _ _ _ us hl => match us, hl with | [_, _], _ => rfl
theorem d_l_interval : denDef T_5 N_l_interval st_l_interval = some b_l_interval := by kernel_rfl
abbrev T_6 : Tb := ⟨("_law_interval", 2, F_l_interval) :: (T_5).fn, (T_5).gv, (T_5).nb, (T_5).dc, (T_5).hk, (T_5).xc⟩
abbrev st_is_whole : Stmt := topS 12
theorem sc_is_whole : FnScope N_is_whole ["thing"] (defScope st_is_whole) := ⟨rfl, rfl, rfl, by decide +kernel, rfl, by decide +kernel, by decide +kernel⟩
theorem ba_is_whole : BindA "is_whole" st_is_whole ["thing"] := fun _ _ _ _ _ _ us hl => match us, hl with | [_], _ => rfl
theorem d_is_whole : denDef T_6 N_is_whole st_is_whole = some b_is_whole := by kernel_rfl
abbrev T_7 : Tb := ⟨("is_whole", 1, F_is_whole) :: (T_6).fn, (T_6).gv, (T_6).nb, (T_6).dc, (T_6).hk, (T_6).xc⟩
abbrev st_is_among : Stmt := topS 13
theorem sc_is_among : FnScope N_is_among ["thing", "least", "most"] (defScope st_is_among) := ⟨rfl, rfl, rfl, by decide +kernel, rfl, by decide +kernel, by decide +kernel⟩
theorem ba_is_among : BindA "is_among" st_is_among ["thing", "least", "most"] := fun _ _ _ _ _ _ us hl => match us, hl with | [_, _, _], _ => rfl
theorem d_is_among : denDef T_7 N_is_among st_is_among = some b_is_among := by kernel_rfl
abbrev T_8 : Tb := ⟨("is_among", 3, F_is_among) :: (T_7).fn, (T_7).gv, (T_7).nb, (T_7).dc, (T_7).hk, (T_7).xc⟩
abbrev st_is_pitch : Stmt := topS 19
theorem sc_is_pitch : FnScope N_is_pitch ["thing"] (defScope st_is_pitch) := ⟨rfl, rfl, rfl, by decide +kernel, rfl, by decide +kernel, by decide +kernel⟩
theorem ba_is_pitch : BindA "is_pitch" st_is_pitch ["thing"] := fun _ _ _ _ _ _ us hl => match us, hl with | [_], _ => rfl
theorem d_is_pitch : denDef T_8 N_is_pitch st_is_pitch = some b_is_pitch := by kernel_rfl
abbrev T_9 : Tb := ⟨("is_pitch", 1, F_is_pitch) :: (T_8).fn, (T_8).gv, (T_8).nb, (T_8).dc, (T_8).hk, (T_8).xc⟩
abbrev st_line : Stmt := topS 20
theorem sc_line : FnScope N_line ["pitch"] (defScope st_line) := ⟨rfl, rfl, rfl, by decide +kernel, rfl, by decide +kernel, by decide +kernel⟩
theorem ba_line : BindA "line" st_line ["pitch"] := fun _ _ _ _ _ _ us hl => match us, hl with | [_], _ => rfl
theorem d_line : denDef T_9 N_line st_line = some b_line := by kernel_rfl
abbrev T_10 : Tb := ⟨("line", 1, F_line) :: (T_9).fn, (T_9).gv, (T_9).nb, (T_9).dc, (T_9).hk, (T_9).xc⟩
abbrev st_height : Stmt := topS 21
theorem sc_height : FnScope N_height ["pitch"] (defScope st_height) := ⟨rfl, rfl, rfl, by decide +kernel, rfl, by decide +kernel, by decide +kernel⟩
theorem ba_height : BindA "height" st_height ["pitch"] := fun _ _ _ _ _ _ us hl => match us, hl with | [_], _ => rfl
theorem d_height : denDef T_10 N_height st_height = some b_height := by kernel_rfl
abbrev T_11 : Tb := ⟨("height", 1, F_height) :: (T_10).fn, (T_10).gv, (T_10).nb, (T_10).dc, (T_10).hk, (T_10).xc⟩
abbrev st_moved_pitch : Stmt := topS 23
theorem sc_moved_pitch : FnScope N_moved_pitch ["pitch", "steps", "halves"] (defScope st_moved_pitch) := ⟨rfl, rfl, rfl, by decide +kernel, rfl, by decide +kernel, by decide +kernel⟩
theorem ba_moved_pitch : BindA "moved_pitch" st_moved_pitch ["pitch", "steps", "halves"] := fun _ _ _ _ _ _ us hl => match us, hl with | [_, _, _], _ => rfl
theorem d_moved_pitch : denDef T_11 N_moved_pitch st_moved_pitch = some b_moved_pitch := by kernel_rfl
abbrev T_12 : Tb := ⟨("moved_pitch", 3, F_moved_pitch) :: (T_11).fn, (T_11).gv, (T_11).nb, (T_11).dc, (T_11).hk, (T_11).xc⟩
abbrev st_l_kind : Stmt := topS 31
theorem sc_l_kind : FnScope N_kd ["_law_error"] (defScope st_l_kind) := ⟨rfl, rfl, rfl, by decide +kernel, rfl, by decide +kernel, by decide +kernel⟩
theorem ba_l_kind : BindA "_law_kind" st_l_kind ["_law_error"] := fun _ _ _ _ _ _ us hl => match us, hl with | [_], _ => rfl
theorem kd_OutOfReach : ∀ a, denSs (hS ⟨⟨N_kd, (defScope st_l_kind).names, fun _ => true⟩, a, tbOf "OutOfReach", ttV⟩) (defBody st_l_kind) = some (b_kd a (tbOf "OutOfReach") ttV) := fun a => by kernel_rfl
abbrev T_13 : Tb := T_12
abbrev st_l_moved : Stmt := topS 32
theorem sc_l_moved : FnScope N_l_moved ["_law_pitch_here", "_law_steps", "_law_halves"] (defScope st_l_moved) := ⟨rfl, rfl, rfl, by decide +kernel, rfl, by decide +kernel, by decide +kernel⟩
theorem ba_l_moved : BindA "_law_moved" st_l_moved ["_law_pitch_here", "_law_steps", "_law_halves"] := fun _ _ _ _ _ _ us hl => match us, hl with | [_, _, _], _ => rfl
theorem d_l_moved : denTold T_13 N_l_moved ["OutOfReach"] st_l_moved = some b_l_moved := by kernel_rfl
abbrev T_14 : Tb := ⟨("_law_moved", 3, F_l_moved) :: (T_13).fn, (T_13).gv, (T_13).nb, (T_13).dc, (T_13).hk, (T_13).xc⟩
abbrev st_l_due : Stmt := topS 30
theorem sc_l_due : FnScope N_l_due ["_law_pitch_here", "_law_steps", "_law_halves"] (defScope st_l_due) := ⟨rfl, rfl, rfl, by decide +kernel, rfl, by decide +kernel, by decide +kernel⟩
theorem ba_l_due : BindA "_law_due" st_l_due ["_law_pitch_here", "_law_steps", "_law_halves"] := fun _ _ _ _ _ _ us hl => match us, hl with | [_, _, _], _ => rfl
theorem d_l_due : denDef T_14 N_l_due st_l_due = some b_l_due := by kernel_rfl
abbrev T_15 : Tb := ⟨("_law_due", 3, F_l_due) :: (T_14).fn, (T_14).gv, (T_14).nb, (T_14).dc, (T_14).hk, (T_14).xc⟩
abbrev st_l_good : Stmt := topS 33
theorem sc_l_good : FnScope N_l_good ["_law_pitch_here", "_law_steps", "_law_halves"] (defScope st_l_good) := ⟨rfl, rfl, rfl, by decide +kernel, rfl, by decide +kernel, by decide +kernel⟩
theorem ba_l_good : BindA "_law_good" st_l_good ["_law_pitch_here", "_law_steps", "_law_halves"] := fun _ _ _ _ _ _ us hl => match us, hl with | [_, _, _], _ => rfl
theorem d_l_good : denDef T_15 N_l_good st_l_good = some b_l_good := by kernel_rfl
abbrev T_16 : Tb := ⟨("_law_good", 3, F_l_good) :: (T_15).fn, (T_15).gv, (T_15).nb, (T_15).dc, (T_15).hk, (T_15).xc⟩
abbrev st_law : Stmt := topS 34
theorem sc_law : FnScope N_law ["_law_script"] (defScope st_law) := ⟨rfl, rfl, rfl, by decide +kernel, rfl, by decide +kernel, by decide +kernel⟩
theorem d_law : denDef T_16 N_law st_law = some b_law := by kernel_rfl
theorem all_mk {l : PySem.W.OpenLaw} {w : World} {K : PySem.W.Frag} {h : Heap} {mg : Str → Option Value} {fa : Addr} (X : K.In h) (G : h.Ns mainGlobals mg) (hfa : mg "law" = some (.ref fa))
    {f0 f1 f2 f3 f4 f5 f6 f7 f8 f9 f10 f11 f12 f13 f14 f15 f16 : Addr} {od0 od1 od2 od3 od4 od5 od6 od7 od8 od9 od10 od11 od12 od13 od14 od15 od16 an0 an1 an2 an3 an4 an5 an6 an7 an8 an9 an10 an11 an12 an13 an14 an15 an16 : Option Addr} {sl0 sl1 sl2 sl3 sl4 sl5 sl6 sl7 sl8 sl9 sl10 sl11 sl12 sl13 sl14 sl15 sl16 : Array (Option Value)} {oc0 oc1 oc2 oc3 oc4 oc5 oc6 oc7 oc8 oc9 oc10 oc11 oc12 oc13 oc14 oc15 oc16 kV0 kV1 kV2 kV3 kV4 kV5 kV6 kV7 kV8 kV9 kV10 kV11 kV12 kV13 kV14 kV15 kV16 dc0 dc1 dc2 dc3 dc4 dc5 dc6 dc7 dc8 dc9 dc10 dc11 dc12 dc13 dc14 dc15 dc16 pm0 pm1 pm2 pm3 pm4 pm5 pm6 pm7 pm8 pm9 pm10 pm11 pm12 pm13 pm14 pm15 pm16 cd0 cd1 cd2 cd3 cd4 cd5 cd6 cd7 cd8 cd9 cd10 cd11 cd12 cd13 cd14 cd15 cd16 ct0 ct1 ct2 ct3 ct4 ct5 ct6 ct7 ct8 ct9 ct10 ct11 ct12 ct13 ct14 ct15 ct16 : Value}
    {va1 va14 va41 va47 va49 va55 va61 va67 va73 va79 va85 va91 : Addr}
    {vt4 vt5 vt6 vt7 vt8 vt9 vt10 vt17 vt18 vt19 vt20 vt21 vt22 vt23 vt27 vt29 : Tok}
    {vn2 vn15 : Nat}
    {vs3 vs16 : Array (Option Value)}
    {vd12 vd25 : Option Addr}
    (a0 : PySem.W.nsIn K mainGlobals "fifths" = some (some (.ref f0)))
    (l0 : K.lookup f0 = some ⟨oc0, od0, .func (PySem.W.fnOf "fifths" "fifths" (defArgs st_fifths) (defBody st_fifths) (defScope st_fifths) .none kV0 dc0 pm0 an0 cd0 ct0), sl0⟩)
    (c0 : PySem.W.codeIn K cd0 "fifths" = true)
    (k0 : PySem.W.keepIn K (.ref f0) = true)
    (a1 : PySem.W.nsIn K mainGlobals "_law_cell" = some (some (.ref f1)))
    (l1 : K.lookup f1 = some ⟨oc1, od1, .func (PySem.W.fnOf "_law_cell" "_law_cell" (defArgs st_l_cell) (defBody st_l_cell) (defScope st_l_cell) .none kV1 dc1 pm1 an1 cd1 ct1), sl1⟩)
    (c1 : PySem.W.codeIn K cd1 "_law_cell" = true)
    (k1 : PySem.W.keepIn K (.ref f1) = true)
    (a2 : PySem.W.nsIn K mainGlobals "_law_mixed" = some (some (.ref f2)))
    (l2 : K.lookup f2 = some ⟨oc2, od2, .func (PySem.W.fnOf "_law_mixed" "_law_mixed" (defArgs st_l_mixed) (defBody st_l_mixed) (defScope st_l_mixed) .none kV2 dc2 pm2 an2 cd2 ct2), sl2⟩)
    (c2 : PySem.W.codeIn K cd2 "_law_mixed" = true)
    (k2 : PySem.W.keepIn K (.ref f2) = true)
    (a3 : PySem.W.nsIn K mainGlobals "_law_pitch" = some (some (.ref f3)))
    (l3 : K.lookup f3 = some ⟨oc3, od3, .func (PySem.W.fnOf "_law_pitch" "_law_pitch" (defArgs st_l_pitch) (defBody st_l_pitch) (defScope st_l_pitch) .none kV3 dc3 pm3 an3 cd3 ct3), sl3⟩)
    (c3 : PySem.W.codeIn K cd3 "_law_pitch" = true)
    (k3 : PySem.W.keepIn K (.ref f3) = true)
    (a4 : PySem.W.nsIn K mainGlobals "_law_walked" = some (some (.ref f4)))
    (l4 : K.lookup f4 = some ⟨oc4, od4, .func (PySem.W.fnOf "_law_walked" "_law_walked" (defArgs st_l_walked) (defBody st_l_walked) (defScope st_l_walked) .none kV4 dc4 pm4 an4 cd4 ct4), sl4⟩)
    (c4 : PySem.W.codeIn K cd4 "_law_walked" = true)
    (k4 : PySem.W.keepIn K (.ref f4) = true)
    (a5 : PySem.W.nsIn K mainGlobals "_law_interval" = some (some (.ref f5)))
    (l5 : K.lookup f5 = some ⟨oc5, od5, .func (PySem.W.fnOf "_law_interval" "_law_interval" (defArgs st_l_interval) (defBody st_l_interval) (defScope st_l_interval) .none kV5 dc5 pm5 an5 cd5 ct5), sl5⟩)
    (c5 : PySem.W.codeIn K cd5 "_law_interval" = true)
    (k5 : PySem.W.keepIn K (.ref f5) = true)
    (a6 : PySem.W.nsIn K mainGlobals "is_whole" = some (some (.ref f6)))
    (l6 : K.lookup f6 = some ⟨oc6, od6, .func (PySem.W.fnOf "is_whole" "is_whole" (defArgs st_is_whole) (defBody st_is_whole) (defScope st_is_whole) .none kV6 dc6 pm6 an6 cd6 ct6), sl6⟩)
    (c6 : PySem.W.codeIn K cd6 "is_whole" = true)
    (k6 : PySem.W.keepIn K (.ref f6) = true)
    (a7 : PySem.W.nsIn K mainGlobals "is_among" = some (some (.ref f7)))
    (l7 : K.lookup f7 = some ⟨oc7, od7, .func (PySem.W.fnOf "is_among" "is_among" (defArgs st_is_among) (defBody st_is_among) (defScope st_is_among) .none kV7 dc7 pm7 an7 cd7 ct7), sl7⟩)
    (c7 : PySem.W.codeIn K cd7 "is_among" = true)
    (k7 : PySem.W.keepIn K (.ref f7) = true)
    (a8 : PySem.W.nsIn K mainGlobals "is_pitch" = some (some (.ref f8)))
    (l8 : K.lookup f8 = some ⟨oc8, od8, .func (PySem.W.fnOf "is_pitch" "is_pitch" (defArgs st_is_pitch) (defBody st_is_pitch) (defScope st_is_pitch) .none kV8 dc8 pm8 an8 cd8 ct8), sl8⟩)
    (c8 : PySem.W.codeIn K cd8 "is_pitch" = true)
    (k8 : PySem.W.keepIn K (.ref f8) = true)
    (a9 : PySem.W.nsIn K mainGlobals "line" = some (some (.ref f9)))
    (l9 : K.lookup f9 = some ⟨oc9, od9, .func (PySem.W.fnOf "line" "line" (defArgs st_line) (defBody st_line) (defScope st_line) .none kV9 dc9 pm9 an9 cd9 ct9), sl9⟩)
    (c9 : PySem.W.codeIn K cd9 "line" = true)
    (k9 : PySem.W.keepIn K (.ref f9) = true)
    (a10 : PySem.W.nsIn K mainGlobals "height" = some (some (.ref f10)))
    (l10 : K.lookup f10 = some ⟨oc10, od10, .func (PySem.W.fnOf "height" "height" (defArgs st_height) (defBody st_height) (defScope st_height) .none kV10 dc10 pm10 an10 cd10 ct10), sl10⟩)
    (c10 : PySem.W.codeIn K cd10 "height" = true)
    (k10 : PySem.W.keepIn K (.ref f10) = true)
    (a11 : PySem.W.nsIn K mainGlobals "moved_pitch" = some (some (.ref f11)))
    (l11 : K.lookup f11 = some ⟨oc11, od11, .func (PySem.W.fnOf "moved_pitch" "moved_pitch" (defArgs st_moved_pitch) (defBody st_moved_pitch) (defScope st_moved_pitch) .none kV11 dc11 pm11 an11 cd11 ct11), sl11⟩)
    (c11 : PySem.W.codeIn K cd11 "moved_pitch" = true)
    (k11 : PySem.W.keepIn K (.ref f11) = true)
    (a12 : PySem.W.nsIn K mainGlobals "_law_kind" = some (some (.ref f12)))
    (l12 : K.lookup f12 = some ⟨oc12, od12, .func (PySem.W.fnOf "_law_kind" "_law_kind" (defArgs st_l_kind) (defBody st_l_kind) (defScope st_l_kind) .none kV12 dc12 pm12 an12 cd12 ct12), sl12⟩)
    (c12 : PySem.W.codeIn K cd12 "_law_kind" = true)
    (k12 : PySem.W.keepIn K (.ref f12) = true)
    (a13 : PySem.W.nsIn K mainGlobals "_law_moved" = some (some (.ref f13)))
    (l13 : K.lookup f13 = some ⟨oc13, od13, .func (PySem.W.fnOf "_law_moved" "_law_moved" (defArgs st_l_moved) (defBody st_l_moved) (defScope st_l_moved) .none kV13 dc13 pm13 an13 cd13 ct13), sl13⟩)
    (c13 : PySem.W.codeIn K cd13 "_law_moved" = true)
    (k13 : PySem.W.keepIn K (.ref f13) = true)
    (a14 : PySem.W.nsIn K mainGlobals "_law_due" = some (some (.ref f14)))
    (l14 : K.lookup f14 = some ⟨oc14, od14, .func (PySem.W.fnOf "_law_due" "_law_due" (defArgs st_l_due) (defBody st_l_due) (defScope st_l_due) .none kV14 dc14 pm14 an14 cd14 ct14), sl14⟩)
    (c14 : PySem.W.codeIn K cd14 "_law_due" = true)
    (k14 : PySem.W.keepIn K (.ref f14) = true)
    (a15 : PySem.W.nsIn K mainGlobals "_law_good" = some (some (.ref f15)))
    (l15 : K.lookup f15 = some ⟨oc15, od15, .func (PySem.W.fnOf "_law_good" "_law_good" (defArgs st_l_good) (defBody st_l_good) (defScope st_l_good) .none kV15 dc15 pm15 an15 cd15 ct15), sl15⟩)
    (c15 : PySem.W.codeIn K cd15 "_law_good" = true)
    (k15 : PySem.W.keepIn K (.ref f15) = true)
    (a16 : PySem.W.nsIn K mainGlobals "law" = some (some (.ref f16)))
    (l16 : K.lookup f16 = some ⟨oc16, od16, .func (PySem.W.fnOf "law" "law" (defArgs st_law) (defBody st_law) (defScope st_law) .none kV16 dc16 pm16 an16 cd16 ct16), sl16⟩)
    (c16 : PySem.W.codeIn K cd16 "law" = true)
    (k16 : PySem.W.keepIn K (.ref f16) = true)
    (g13 : PySem.W.nsIn K mainGlobals "HALVES" = some (some (.ref va1)))
    (lk11 : K.lookup va1 = some ⟨.type "tuple", vd12, .seq #[(.int (0) vt4), (.int (2) vt5), (.int (4) vt6), (.int (5) vt7), (.int (7) vt8), (.int (9) vt9), (.int (11) vt10)] vn2, vs3⟩)
    (g26 : PySem.W.nsIn K mainGlobals "ROUND" = some (some (.ref va14)))
    (lk24 : K.lookup va14 = some ⟨.type "tuple", vd25, .seq #[(.int (0) vt17), (.int (2) vt18), (.int (4) vt19), (.int (-1) vt20), (.int (1) vt21), (.int (3) vt22), (.int (5) vt23)] vn15, vs16⟩)
    (g28 : PySem.W.nsIn K mainGlobals "MOST_LEAN" = some (some (.int (2) vt27)))
    (g30 : PySem.W.nsIn K mainGlobals "MOST_OCTAVE" = some (some (.int (8) vt29)))
    (z31 : PySem.W.nsIn K mainGlobals "len" = some none)
    (z32 : PySem.W.nsIn K mainGlobals "range" = some none)
    (z33 : PySem.W.nsIn K mainGlobals "abs" = some none)
    (z34 : PySem.W.nsIn K mainGlobals "int" = some none)
    (z35 : PySem.W.nsIn K mainGlobals "isinstance" = some none)
    (z36 : PySem.W.nsIn K mainGlobals "bool" = some none)
    (z37 : PySem.W.nsIn K mainGlobals "tuple" = some none)
    (z38 : PySem.W.nsIn K mainGlobals "divmod" = some none)
    (z39 : PySem.W.nsIn K mainGlobals "ValueError" = some none)
    (z40 : PySem.W.nsIn K mainGlobals "all" = some none)
    (g42 : PySem.W.nsIn K mainGlobals "OutOfReach" = some (some (.ref va41)))
    (q43 : PySem.W.excIn K va41 [.type "ValueError", .type "Exception", .type "BaseException", .type "object"] "ValueError.__new__" = true)
    (q44 : PySem.W.keepIn K (.ref va41) = true)
    (q45 : PySem.W.subIn K (.ref va41) (.type "BaseException") = some true)
    (q46 : PySem.W.typeIn K (.ref va41) = some (.type "type"))
    (g48 : PySem.W.nsIn K mainGlobals "TuneError" = some (some (.ref va47)))
    (g50 : PySem.W.nsIn K mainGlobals "BadWidth" = some (some (.ref va49)))
    (q51 : (va41 == va49) = false)
    (q52 : PySem.W.hasDictIn K va49 = true)
    (q53 : PySem.W.typeIn K (.ref va49) = some (.type "type"))
    (q54 : PySem.W.subIn K (.ref va41) (.ref va49) = some false)
    (g56 : PySem.W.nsIn K mainGlobals "OutOfPlace" = some (some (.ref va55)))
    (q57 : (va41 == va55) = false)
    (q58 : PySem.W.hasDictIn K va55 = true)
    (q59 : PySem.W.typeIn K (.ref va55) = some (.type "type"))
    (q60 : PySem.W.subIn K (.ref va41) (.ref va55) = some false)
    (g62 : PySem.W.nsIn K mainGlobals "BadRoll" = some (some (.ref va61)))
    (q63 : (va41 == va61) = false)
    (q64 : PySem.W.hasDictIn K va61 = true)
    (q65 : PySem.W.typeIn K (.ref va61) = some (.type "type"))
    (q66 : PySem.W.subIn K (.ref va41) (.ref va61) = some false)
    (g68 : PySem.W.nsIn K mainGlobals "BadPage" = some (some (.ref va67)))
    (q69 : (va41 == va67) = false)
    (q70 : PySem.W.hasDictIn K va67 = true)
    (q71 : PySem.W.typeIn K (.ref va67) = some (.type "type"))
    (q72 : PySem.W.subIn K (.ref va41) (.ref va67) = some false)
    (g74 : PySem.W.nsIn K mainGlobals "BadStretch" = some (some (.ref va73)))
    (q75 : (va41 == va73) = false)
    (q76 : PySem.W.hasDictIn K va73 = true)
    (q77 : PySem.W.typeIn K (.ref va73) = some (.type "type"))
    (q78 : PySem.W.subIn K (.ref va41) (.ref va73) = some false)
    (g80 : PySem.W.nsIn K mainGlobals "TooFine" = some (some (.ref va79)))
    (q81 : (va41 == va79) = false)
    (q82 : PySem.W.hasDictIn K va79 = true)
    (q83 : PySem.W.typeIn K (.ref va79) = some (.type "type"))
    (q84 : PySem.W.subIn K (.ref va41) (.ref va79) = some false)
    (g86 : PySem.W.nsIn K mainGlobals "BadTune" = some (some (.ref va85)))
    (q87 : (va41 == va85) = false)
    (q88 : PySem.W.hasDictIn K va85 = true)
    (q89 : PySem.W.typeIn K (.ref va85) = some (.type "type"))
    (q90 : PySem.W.subIn K (.ref va41) (.ref va85) = some false)
    (g92 : PySem.W.nsIn K mainGlobals "BadRow" = some (some (.ref va91)))
    (q93 : (va41 == va91) = false)
    (q94 : PySem.W.hasDictIn K va91 = true)
    (q95 : PySem.W.typeIn K (.ref va91) = some (.type "type"))
    (q96 : PySem.W.subIn K (.ref va41) (.ref va91) = some false)
    (q97 : PySem.W.subIn K (.ref va41) (.type "ValueError") = some true)
    (q98 : PySem.W.subIn K (.ref va47) (.type "BaseException") = some true)
    (q99 : PySem.W.hasDictIn K va47 = true)
    (q100 : PySem.W.typeIn K (.ref va47) = some (.type "type"))
    (q101 : PySem.W.subIn K (.ref va41) (.ref va47) = some true)
    (q102 : PySem.W.findIn K (.ref va41) "__getattribute__" = some (some (.builtin "BaseException.__getattribute__")))
    (q103 : PySem.W.findIn K (.ref va41) "__getattr__" = some none)
    (q104 : PySem.W.subIn K (.ref va41) (.type "BaseException") = some true)
    (q105 : PySem.W.hasDictIn K va41 = true)
    (q106 : PySem.W.findIn K (.ref va41) "__class__" = some (some (.builtin "object.__class__")))
    (q107 : PySem.W.specialIn K (.builtin "object.__class__") "__get__" = some (some (.builtin "getset_descriptor.__get__")))
    (q108 : PySem.W.takesIn K (.builtin "object.__class__") = some true)
    (q109 : PySem.W.mroIn K va41 (.type "object") = some true)
    (run : ∀ ns : List Int, ns.length ≤ 63 → (∀ z ∈ ns, Builtin.Int.intBits z ≤ 1048576) → ∃ S, F_law [.sq (ns.map IV.int)] [] = .ok (.bl true) S) :
    ∃ fd : FuncData, (∀ (s : Shared) (v : Value), BindsTo s fd ⟨[v], []⟩ [("_law_script", v)]) ∧ ∀ base : Heap, K.In base → base.Ns mainGlobals mg → FnOk l.prog w K mg base (L2N.CX l.prog w) 16 fa fd ["_law_script"] (spLaw K) := by
  have e := hfa.symm.trans (PySem.W.mg_of X G a16)
  cases e
  have D0 : DefK K mg "fifths" st_fifths := defK_mk X G a0 l0 c0 k0
  have D1 : DefK K mg "_law_cell" st_l_cell := defK_mk X G a1 l1 c1 k1
  have D2 : DefK K mg "_law_mixed" st_l_mixed := defK_mk X G a2 l2 c2 k2
  have D3 : DefK K mg "_law_pitch" st_l_pitch := defK_mk X G a3 l3 c3 k3
  have D4 : DefK K mg "_law_walked" st_l_walked := defK_mk X G a4 l4 c4 k4
  have D5 : DefK K mg "_law_interval" st_l_interval := defK_mk X G a5 l5 c5 k5
  have D6 : DefK K mg "is_whole" st_is_whole := defK_mk X G a6 l6 c6 k6
  have D7 : DefK K mg "is_among" st_is_among := defK_mk X G a7 l7 c7 k7
  have D8 : DefK K mg "is_pitch" st_is_pitch := defK_mk X G a8 l8 c8 k8
  have D9 : DefK K mg "line" st_line := defK_mk X G a9 l9 c9 k9
  have D10 : DefK K mg "height" st_height := defK_mk X G a10 l10 c10 k10
  have D11 : DefK K mg "moved_pitch" st_moved_pitch := defK_mk X G a11 l11 c11 k11
  have D12 : DefK K mg "_law_kind" st_l_kind := defK_mk X G a12 l12 c12 k12
  have D13 : DefK K mg "_law_moved" st_l_moved := defK_mk X G a13 l13 c13 k13
  have D14 : DefK K mg "_law_due" st_l_due := defK_mk X G a14 l14 c14 k14
  have D15 : DefK K mg "_law_good" st_l_good := defK_mk X G a15 l15 c15 k15
  have FL := fun_mk (st := st_law) l16 c16 k16
  refine ⟨PySem.W.fnOf "law" "law" (defArgs st_law) (defBody st_law) (defScope st_law) .none kV16 dc16 pm16 an16 cd16 ct16, fun s v => .of_eq rfl, fun base _ _ => ?_⟩
  have O0 : TabOk l.prog w K mg base T_0 0 := tab0 (gvs_cons (gv_mk X G g13 (cv_tup (us := [(.int (0) vt4), (.int (2) vt5), (.int (4) vt6), (.int (5) vt7), (.int (7) vt8), (.int (9) vt9), (.int (11) vt10)]) lk11 (by rw [IP.sl16]; simp) (cvs_cons cv_int (cvs_cons cv_int (cvs_cons cv_int (cvs_cons cv_int (cvs_cons cv_int (cvs_cons cv_int (cvs_cons cv_int cvs_nil))))))))) (gvs_cons (gv_mk X G g26 (cv_tup (us := [(.int (0) vt17), (.int (2) vt18), (.int (4) vt19), (.int (-1) vt20), (.int (1) vt21), (.int (3) vt22), (.int (5) vt23)]) lk24 (by rw [IP.sl16]; simp) (cvs_cons cv_int (cvs_cons cv_int (cvs_cons cv_int (cvs_cons cv_int (cvs_cons cv_int (cvs_cons cv_int (cvs_cons cv_int cvs_nil))))))))) (gvs_cons (gv_mk X G g28 cv_int) (gvs_cons (gv_mk X G g30 cv_int) gvs_nil)))) (nbs_cons (PySem.W.mg_none_of X G z31) (nbs_cons (PySem.W.mg_none_of X G z32) (nbs_cons (PySem.W.mg_none_of X G z33) (nbs_cons (PySem.W.mg_none_of X G z34) (nbs_cons (PySem.W.mg_none_of X G z35) (nbs_cons (PySem.W.mg_none_of X G z36) (nbs_cons (PySem.W.mg_none_of X G z37) (nbs_cons (PySem.W.mg_none_of X G z38) (nbs_cons (PySem.W.mg_none_of X G z39) (nbs_cons (PySem.W.mg_none_of X G z40) nbs_nil)))))))))) dcs_nil (xcs_cons (xc_mk X G (by decide) g42 q43 q44 q45 q46) xcs_nil)
  have KT : KindT l.prog w K mg base ["OutOfReach"] := (kindT_mk X G (O0.nbs _ (sub5 "tuple" (by decide))) g48 (kdks_cons (kdk_mk X G g42 (by decide) (fun x hx => O0.nbs x (sub4 x hx)) D12 sc_l_kind ba_l_kind rfl kd_OutOfReach ⟨q102, q103, q104, q105, q106, q107, q108, q109⟩ (tab_mk (own_cons X G g92 (kit_ne q93 q94 q95 q96) (b := false) (by decide) (own_cons X G g86 (kit_ne q87 q88 q89 q90) (b := false) (by decide) (own_cons X G g80 (kit_ne q81 q82 q83 q84) (b := false) (by decide) (own_cons X G g74 (kit_ne q75 q76 q77 q78) (b := false) (by decide) (own_cons X G g68 (kit_ne q69 q70 q71 q72) (b := false) (by decide) (own_cons X G g62 (kit_ne q63 q64 q65 q66) (b := false) (by decide) (own_cons X G g56 (kit_ne q57 q58 q59 q60) (b := false) (by decide) (own_cons X G g50 (kit_ne q51 q52 q53 q54) (b := false) (by decide) (own_cons X G g42 kit_self (b := true) (by decide) own_nil))))))))) (kit_ve q97)) (PySem.W.exm_ref q98 q99 q100 q101)) kdks_nil))
  have O1 : TabOk l.prog w K mg base T_1 1 := O0.def (defK_ok O0 D0 sc_fifths ba_fifths rfl d_fifths)
  have O2 : TabOk l.prog w K mg base T_2 2 := O1.def (defK_ok O1 D1 sc_l_cell ba_l_cell rfl d_l_cell)
  have O3 : TabOk l.prog w K mg base T_3 3 := O2.def (defK_ok O2 D2 sc_l_mixed ba_l_mixed rfl d_l_mixed)
  have O4 : TabOk l.prog w K mg base T_4 4 := O3.def (defK_ok O3 D3 sc_l_pitch ba_l_pitch rfl d_l_pitch)
  have O5 : TabOk l.prog w K mg base T_5 5 := O4.def (defK_ok O4 D4 sc_l_walked ba_l_walked rfl d_l_walked)
  have O6 : TabOk l.prog w K mg base T_6 6 := O5.def (defK_ok O5 D5 sc_l_interval ba_l_interval rfl d_l_interval)
  have O7 : TabOk l.prog w K mg base T_7 7 := O6.def (defK_ok O6 D6 sc_is_whole ba_is_whole rfl d_is_whole)
  have O8 : TabOk l.prog w K mg base T_8 8 := O7.def (defK_ok O7 D7 sc_is_among ba_is_among rfl d_is_among)
  have O9 : TabOk l.prog w K mg base T_9 9 := O8.def (defK_ok O8 D8 sc_is_pitch ba_is_pitch rfl d_is_pitch)
  have O10 : TabOk l.prog w K mg base T_10 10 := O9.def (defK_ok O9 D9 sc_line ba_line rfl d_line)
  have O11 : TabOk l.prog w K mg base T_11 11 := O10.def (defK_ok O10 D10 sc_height ba_height rfl d_height)
  have O12 : TabOk l.prog w K mg base T_12 12 := O11.def (defK_ok O11 D11 sc_moved_pitch ba_moved_pitch rfl d_moved_pitch)
  have O13 : TabOk l.prog w K mg base T_13 12 := O12
  have O14 : TabOk l.prog w K mg base T_14 13 := O13.def (toldK_ok O13 (by decide) KT D13 sc_l_moved ba_l_moved rfl d_l_moved)
  have O15 : TabOk l.prog w K mg base T_15 14 := O14.def (defK_ok O14 D14 sc_l_due ba_l_due rfl d_l_due)
  have O16 : TabOk l.prog w K mg base T_16 15 := O15.def (defK_ok O15 D15 sc_l_good ba_l_good rfl d_l_good)
  exact law_ok O16 FL sc_law d_law run
end BW
open PySem PySem.W PyProof.Rows
set_option maxHeartbeats 0 in
theorem PySem.Challenge.cw_barwright_k04_whole_moving_pitches_holds : PySem.Challenge.rw_barwright_k04_whole_moving_pitches.Holds := by
  w_on; o_law; k_head; (case hw => w_witness2)
  k_fill
  refine L2.walk_ofB (l := PySem.Challenge.rw_barwright_k04_whole_moving_pitches) (n := 63) (k := 16) (x := "_law_script") (CX := fun w => L2N.CX (PySem.Challenge.rw_barwright_k04_whole_moving_pitches).prog w) (sp := fun w => IP.spLaw _) rfl (by decide) rfl ⟨rfl, by decide, by decide⟩ (fun w h Y => PySem.W.kIn_of Y) ?F (fun _ _ a ns hl hz hO hS => ⟨a, ns, rfl, hO, hS, hl, hz, fun _ => rfl⟩) (fun _ _ _ _ _ h => by obtain ⟨_, _, _, _, _, _, _, _, _, _, _, _, h⟩ := h; exact h)
  case F =>
    intro w mg fa h KX G hmg
    refine' BW.all_mk KX G hmg ?a0 ?l0 ?c0 ?k0 ?a1 ?l1 ?c1 ?k1 ?a2 ?l2 ?c2 ?k2 ?a3 ?l3 ?c3 ?k3 ?a4 ?l4 ?c4 ?k4 ?a5 ?l5 ?c5 ?k5 ?a6 ?l6 ?c6 ?k6 ?a7 ?l7 ?c7 ?k7 ?a8 ?l8 ?c8 ?k8 ?a9 ?l9 ?c9 ?k9 ?a10 ?l10 ?c10 ?k10 ?a11 ?l11 ?c11 ?k11 ?a12 ?l12 ?c12 ?k12 ?a13 ?l13 ?c13 ?k13 ?a14 ?l14 ?c14 ?k14 ?a15 ?l15 ?c15 ?k15 ?a16 ?l16 ?c16 ?k16 ?g13 ?lk11 ?g26 ?lk24 ?g28 ?g30 ?z31 ?z32 ?z33 ?z34 ?z35 ?z36 ?z37 ?z38 ?z39 ?z40 ?g42 ?q43 ?q44 ?q45 ?q46 ?g48 ?g50 ?q51 ?q52 ?q53 ?q54 ?g56 ?q57 ?q58 ?q59 ?q60 ?g62 ?q63 ?q64 ?q65 ?q66 ?g68 ?q69 ?q70 ?q71 ?q72 ?g74 ?q75 ?q76 ?q77 ?q78 ?g80 ?q81 ?q82 ?q83 ?q84 ?g86 ?q87 ?q88 ?q89 ?q90 ?g92 ?q93 ?q94 ?q95 ?q96 ?q97 ?q98 ?q99 ?q100 ?q101 ?q102 ?q103 ?q104 ?q105 ?q106 ?q107 ?q108 ?q109 BW.run
    (case a0 => k_is); (case l0 => k_is); (case c0 => k_is); (case k0 => k_is); (case a1 => k_is); (case l1 => k_is); (case c1 => k_is); (case k1 => k_is); (case a2 => k_is); (case l2 => k_is); (case c2 => k_is); (case k2 => k_is); (case a3 => k_is); (case l3 => k_is); (case c3 => k_is); (case k3 => k_is); (case a4 => k_is); (case l4 => k_is); (case c4 => k_is); (case k4 => k_is); (case a5 => k_is); (case l5 => k_is); (case c5 => k_is); (case k5 => k_is); (case a6 => k_is); (case l6 => k_is); (case c6 => k_is); (case k6 => k_is); (case a7 => k_is); (case l7 => k_is); (case c7 => k_is); (case k7 => k_is); (case a8 => k_is); (case l8 => k_is); (case c8 => k_is); (case k8 => k_is); (case a9 => k_is); (case l9 => k_is); (case c9 => k_is); (case k9 => k_is); (case a10 => k_is); (case l10 => k_is); (case c10 => k_is); (case k10 => k_is); (case a11 => k_is); (case l11 => k_is); (case c11 => k_is); (case k11 => k_is); (case a12 => k_is); (case l12 => k_is); (case c12 => k_is); (case k12 => k_is); (case a13 => k_is); (case l13 => k_is); (case c13 => k_is); (case k13 => k_is); (case a14 => k_is); (case l14 => k_is); (case c14 => k_is); (case k14 => k_is); (case a15 => k_is); (case l15 => k_is); (case c15 => k_is); (case k15 => k_is); (case a16 => k_is); (case l16 => k_is); (case c16 => k_is); (case k16 => k_is); (case g13 => k_is); (case lk11 => k_is); (case g26 => k_is); (case lk24 => k_is); (case g28 => k_is); (case g30 => k_is); (case z31 => k_is); (case z32 => k_is); (case z33 => k_is); (case z34 => k_is); (case z35 => k_is); (case z36 => k_is); (case z37 => k_is); (case z38 => k_is); (case z39 => k_is); (case z40 => k_is); (case g42 => k_is); (case q43 => k_exc); (case q44 => k_is); (case q45 => k_is); (case q46 => k_is); (case g48 => k_is); (case g50 => k_is); (case q51 => first | rfl | k_is); (case q52 => k_is); (case q53 => k_is); (case q54 => k_is); (case g56 => k_is); (case q57 => first | rfl | k_is); (case q58 => k_is); (case q59 => k_is); (case q60 => k_is); (case g62 => k_is); (case q63 => first | rfl | k_is); (case q64 => k_is); (case q65 => k_is); (case q66 => k_is); (case g68 => k_is); (case q69 => first | rfl | k_is); (case q70 => k_is); (case q71 => k_is); (case q72 => k_is); (case g74 => k_is); (case q75 => first | rfl | k_is); (case q76 => k_is); (case q77 => k_is); (case q78 => k_is); (case g80 => k_is); (case q81 => first | rfl | k_is); (case q82 => k_is); (case q83 => k_is); (case q84 => k_is); (case g86 => k_is); (case q87 => first | rfl | k_is); (case q88 => k_is); (case q89 => k_is); (case q90 => k_is); (case g92 => k_is); (case q93 => first | rfl | k_is); (case q94 => k_is); (case q95 => k_is); (case q96 => k_is); (case q97 => k_is); (case q98 => k_is); (case q99 => k_is); (case q100 => k_is); (case q101 => k_is); (case q102 => k_is); (case q103 => k_is); (case q104 => k_is); (case q105 => k_is); (case q106 => k_is); (case q107 => k_is); (case q108 => k_is); (case q109 => k_is)

