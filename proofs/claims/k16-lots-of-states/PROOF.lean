import PyProof.Rows.All
import Wide.All
import OpenK.AllK
import Wide.FinOn
import HandS.ForMost
import HandS.Evl
import HandS.IsInst
import HandS.Property
import HandS.Defaults
import HandS.Lambda
import HandS.More
import HandS.Style
import HandS.Wide
import HandS.Zip
import HandS.Conv
import HandS.Walk
import HandS.Deep
import HandS.RaiseMore
import HandS.TupAny
import KE.DatumMore
import HandS.MakeKwOnly
import PyProof.ReprLen
import PyProof.Rows.RegStrFacts
import HandS.EndOwn
import HandS.DeepEq
import PyProof.ReprReads
import HandS.OwnEq
import KE.KSuper
import KE.KExcSuper
import HandS.ExcInitHot
import HandS.ExcField
import HandS.ExcIs
import HandS.ExcCtx
import HandS.WordsExc
import HandS.TryMany
import HandS.HotCalls
import KE.KExcIs
import PyProof.InstNe
import HandS.SetFor
import KE.DataEq
import HandS.MakeKw
import KE.KEqDict
import KE.KTryMore
import KE.GoesEnum
import KE.GoesMore
import HandS.ClsMeth
import HandS.HeadNt
import HandS.SortInts
import HandS.Star
import KE.SortKeyHeap
import PyProof.EqAt
import HandS.Replace
import KE.KDictSum
import KE.KDictDisplayH
import HandS.ExcValue
import KE.KDictZip
import HandS.DictTup
import HandS.DictComp
import HandS.SetKeys
import KE.KDictPairs
import HandS.NoneIn
import PySem.Challenge.RW_joinedrounds_k16_whole_lots_of_states
import HandS.Head0
import HandS.Head1
import HandS.Head2
import HandS.HeadHook1
import HandS.HeadHook2
import HandS.HeadHook3
import HandS.HeadHook4
set_option Elab.async false
set_option linter.all false
set_option maxRecDepth 100000
set_option maxHeartbeats 4000000
/-! JKit: a stable part S of the heap H, resources, judgements of expressions, relations of values with data. -/
namespace J
open PySem PySem.Spec L2 Evl

/-! ### worlds -/
/-- code objects stay -/
def CoK (H H' : Hp) : Prop := ∀ a q, H a = some (LamX.CodeO a q) → H' a = some (LamX.CodeO a q)
theorem CoK.ex {H H' : Hp} (e : ∀ a u, H a = some u → H' a = some u) : CoK H H' := fun a q h => e a _ h
theorem CoK.upd {H : Hp} {p : Addr} {o : HO} (n : ∀ q, H p ≠ some (LamX.CodeO p q)) : CoK H (L2.upd H p o) := fun a q h => by
  rw [upd_ne (fun z : a = p => n q (z ▸ h))]
  exact h
theorem nco_lst {H : Hp} {p : Addr} {xs : List V} (h : H p = some (.lst xs)) : ∀ q, H p ≠ some (LamX.CodeO p q) := fun q z => by
  rw [h] at z
  unfold LamX.CodeO at z
  cases z
theorem nco_ins {H : Hp} {p C d : Addr} {fs : List (Str × V)} (h : H p = some (.ins C d fs)) : ∀ q, H p ≠ some (LamX.CodeO p q) := fun q z => by
  rw [h] at z
  unfold LamX.CodeO at z
  cases z
theorem nco_dK {H : Hp} {p : Addr} {kvs : List (Key × V)} (h : H p = some (.dK kvs)) : ∀ q, H p ≠ some (LamX.CodeO p q) := fun q z => by
  rw [h] at z
  unfold LamX.CodeO at z
  cases z
theorem nco_dT {H : Hp} {p : Addr} {kvs : List (List Key × V)} (h : H p = some (.dT kvs)) : ∀ q, H p ≠ some (LamX.CodeO p q) := fun q z => by
  rw [h] at z
  unfold LamX.CodeO at z
  cases z
/-- what may be changed: the addresses M, and what is true of them -/
structure Rs where
  M : List Addr
  I : Hp → Prop
  mono : ∀ H H' : Hp, (∀ a o, a ∈ M → H a = some o → H' a = some o) → CoK H H' → I H → I H'
  has : ∀ H, I H → ∀ a, a ∈ M → H a ≠ none
def Rs.nil : Rs := ⟨[], fun _ => True, fun _ _ _ _ _ => True.intro, fun _ _ a h => by cases h⟩
structure Wd (r : Rs) (S H : Hp) : Prop where
  ex : Ex S H
  inv : r.I H
  dj : ∀ a, a ∈ r.M → S a = none
structure Stp (r : Rs) (S H S' H' : Hp) : Prop where
  ex : Ex S S'
  kp : ∀ a o, a ∉ r.M → H a = some o → H' a = some o
  fr : ∀ a, H a ≠ none → S a = none → S' a = none
  dm : ∀ a, H a ≠ none → H' a ≠ none
theorem Stp.refl {r : Rs} {S H : Hp} : Stp r S H S H := ⟨Ex.refl S, fun _ _ _ h => h, fun _ _ h => h, fun _ h => h⟩
theorem Stp.trans {r : Rs} {S H S1 H1 S2 H2 : Hp} (a : Stp r S H S1 H1) (b : Stp r S1 H1 S2 H2) : Stp r S H S2 H2 :=
  ⟨a.ex.trans b.ex, fun x o n h => b.kp x o n (a.kp x o n h), fun x h e => b.fr x (a.dm x h) (a.fr x h e), fun x h => b.dm x (a.dm x h)⟩
theorem none_of {H : Hp} {a : Addr} (h : ¬ H a ≠ none) : H a = none := Classical.byContradiction h
theorem ne_none {H : Hp} {a : Addr} {o : HO} (h : H a = some o) : H a ≠ none := by
  rw [h]
  exact fun z => nomatch z
theorem Wd.fresh {r : Rs} {S H : Hp} (w : Wd r S H) {p : Addr} (h : H p = none) : S p = none := fresh_back w.ex h
theorem Wd.notM {r : Rs} {S H : Hp} (w : Wd r S H) {p : Addr} (h : H p = none) : p ∉ r.M := fun z => r.has H w.inv p z h
theorem ex_upd2 {S H : Hp} {p : Addr} {o : HO} (e : Ex S H) (h : H p = none) : Ex (upd S p o) (upd H p o) := fun a u q => by
  by_cases z : a = p
  · subst z
    rw [upd_same] at q ⊢
    exact q
  · rw [upd_ne z] at q ⊢
    exact e a u q
/-- a new object, unstable -/
theorem Wd.new {r : Rs} {S H : Hp} (w : Wd r S H) {p : Addr} {o : HO} (h : H p = none) : Wd r S (upd H p o) :=
  ⟨Ex.trans w.ex (Ex.new h), r.mono H _ (fun a u _ q => Ex.new h a u q) (CoK.ex (Ex.new h)) w.inv, w.dj⟩
theorem Stp.new {r : Rs} {S H : Hp} {p : Addr} {o : HO} (h : H p = none) : Stp r S H S (upd H p o) :=
  ⟨Ex.refl S, fun a u _ q => Ex.new h a u q, fun _ _ q => q, fun a q => by
    intro z
    by_cases e : a = p
    · subst e
      exact q h
    · rw [upd_ne e] at z
      exact q z⟩
/-- a new object, stable -/
theorem Wd.newS {r : Rs} {S H : Hp} (w : Wd r S H) {p : Addr} {o : HO} (h : H p = none) : Wd r (upd S p o) (upd H p o) :=
  ⟨ex_upd2 w.ex h, r.mono H _ (fun a u _ q => Ex.new h a u q) (CoK.ex (Ex.new h)) w.inv, fun a ha => by
    have z : a ≠ p := fun e => w.notM h (e ▸ ha)
    rw [upd_ne z]
    exact w.dj a ha⟩
theorem Stp.newS {r : Rs} {S H : Hp} (w : Wd r S H) {p : Addr} {o : HO} (h : H p = none) : Stp r S H (upd S p o) (upd H p o) :=
  ⟨Ex.new (w.fresh h), fun a u _ q => Ex.new h a u q, fun a q e => by
    have z : a ≠ p := fun e => q (e ▸ h)
    rw [upd_ne z]
    exact e, fun a q => by
    have z : a ≠ p := fun e => q (e ▸ h)
    rw [upd_ne z]
    exact q⟩
/-- an unstable new object at p becomes stable -/
theorem Wd.settle {r : Rs} {S H : Hp} (w : Wd r S H) {p : Addr} {o : HO} (h : H p = some o) (n : p ∉ r.M) : Wd r (upd S p o) H :=
  ⟨fun a u q => by
    by_cases z : a = p
    · subst z
      rw [upd_same] at q
      rw [h]
      exact q
    · rw [upd_ne z] at q
      exact w.ex a u q, w.inv, fun a ha => by
    have z : a ≠ p := fun e => n (e ▸ ha)
    rw [upd_ne z]
    exact w.dj a ha⟩
theorem Stp.settle {r : Rs} {S H S1 H1 : Hp} (st : Stp r S H S1 H1) {p : Addr} {o : HO} (h0 : H p = none) (hs : S1 p = none) : Stp r S H (upd S1 p o) H1 :=
  ⟨st.ex.trans (Ex.new hs), st.kp, fun a q e => by
    have z : a ≠ p := fun e => q (e ▸ h0)
    rw [upd_ne z]
    exact st.fr a q e, st.dm⟩
/-- an unstable object (new since the beginning) is changed -/
theorem Wd.mut {r : Rs} {S H : Hp} (w : Wd r S H) {p : Addr} {o : HO} (hs : S p = none) (n : p ∉ r.M) (hc : ∀ q, H p ≠ some (LamX.CodeO p q) := by first | assumption | exact nco_lst (by assumption) | exact nco_ins (by assumption) | exact nco_dK (by assumption)) : Wd r S (upd H p o) :=
  ⟨Ex.mut w.ex hs, r.mono H _ (fun a u ha q => by
    rw [upd_ne (fun e : a = p => n (e ▸ ha))]
    exact q) (CoK.upd hc) w.inv, w.dj⟩
theorem Stp.mut {r : Rs} {S H S1 H1 : Hp} (st : Stp r S H S1 H1) {p : Addr} {o : HO} (h0 : H p = none) : Stp r S H S1 (upd H1 p o) :=
  ⟨st.ex, fun a u na q => by
    rw [upd_ne (ne_of_none q h0)]
    exact st.kp a u na q, st.fr, fun a q z => by
    by_cases e : a = p
    · subst e
      exact q h0
    · rw [upd_ne e] at z
      exact st.dm a q z⟩
/-- what was unstable and known stays -/
theorem Stp.keeps {r : Rs} {S H S' H' : Hp} (st : Stp r S H S' H') {p : Addr} {o : HO} (h : H p = some o) (n : p ∉ r.M) : H' p = some o := st.kp p o n h
theorem Stp.apart {r : Rs} {S H S' H' : Hp} (st : Stp r S H S' H') {p : Addr} {o : HO} (h : H p = some o) (hs : S p = none) : S' p = none := st.fr p (ne_none h) hs
theorem Wd.mono {r : Rs} {S S1 H : Hp} (w : Wd r S1 H) (e : Ex S S1) : Wd r S H :=
  ⟨e.trans w.ex, w.inv, fun a ha => fresh_back e (w.dj a ha)⟩

/-! ### relations of values with data -/
abbrev Rl (α : Type) := α → V → Hp → Prop
class Mono {α : Type} (R : Rl α) : Prop where
  up : ∀ {x : α} {v : V} {S S' : Hp}, Ex S S' → R x v S → R x v S'
def ValR : Rl V := fun u v _ => v = u
def IntR : Rl Int := fun i v _ => v = .int i
def BoolR : Rl Bool := fun b v _ => v = .bl b
def StrR : Rl Str := fun z v _ => v = .str z
instance : Mono ValR := ⟨fun _ h => h⟩
instance : Mono IntR := ⟨fun _ h => h⟩
instance : Mono BoolR := ⟨fun _ h => h⟩
instance : Mono StrR := ⟨fun _ h => h⟩
inductive All2 {α : Type} (R : Rl α) (S : Hp) : List α → List V → Prop
  | nil : All2 R S [] []
  | cons {x : α} {v : V} {xs : List α} {vs : List V} : R x v S → All2 R S xs vs → All2 R S (x :: xs) (v :: vs)
theorem All2.up {α : Type} {R : Rl α} [m : Mono R] {S S' : Hp} (e : Ex S S') : ∀ {xs : List α} {vs : List V}, All2 R S xs vs → All2 R S' xs vs
  | _, _, .nil => .nil
  | _, _, .cons h t => .cons (m.up e h) (All2.up e t)
theorem All2.len {α : Type} {R : Rl α} {S : Hp} : ∀ {xs : List α} {vs : List V}, All2 R S xs vs → vs.length = xs.length
  | _, _, .nil => rfl
  | _, _, .cons _ t => by
    rw [List.length_cons, List.length_cons, All2.len t]
theorem All2.get {α : Type} {R : Rl α} {S : Hp} : ∀ {xs : List α} {vs : List V} {i : Nat} {v : V}, All2 R S xs vs → vs[i]? = some v → ∃ x, xs[i]? = some x ∧ R x v S
  | _, _, _, _, .nil, e => by simp at e
  | _, _, 0, _, .cons h _, e => by
    simp at e
    subst e
    exact ⟨_, rfl, h⟩
  | _, _, i + 1, _, .cons _ t, e => by
    obtain ⟨x, h1, h2⟩ := All2.get (i := i) t (by simpa using e)
    exact ⟨x, by simpa using h1, h2⟩
theorem All2.at {α : Type} {R : Rl α} {S : Hp} : ∀ {xs : List α} {vs : List V} {i : Nat} {x : α}, All2 R S xs vs → xs[i]? = some x → ∃ v, vs[i]? = some v ∧ R x v S
  | _, _, _, _, .nil, e => by simp at e
  | _, _, 0, _, .cons h _, e => by
    simp at e
    subst e
    exact ⟨_, rfl, h⟩
  | _, _, i + 1, _, .cons _ t, e => by
    obtain ⟨x, h1, h2⟩ := All2.at (i := i) t (by simpa using e)
    exact ⟨x, by simpa using h1, h2⟩
theorem All2.append {α : Type} {R : Rl α} {S : Hp} : ∀ {xs ys : List α} {vs ws : List V}, All2 R S xs vs → All2 R S ys ws → All2 R S (xs ++ ys) (vs ++ ws)
  | _, _, _, _, .nil, q => q
  | _, _, _, _, .cons h t, q => .cons h (All2.append t q)
theorem All2.snoc {α : Type} {R : Rl α} {S : Hp} {xs : List α} {vs : List V} {x : α} {v : V} (h : All2 R S xs vs) (q : R x v S) : All2 R S (xs ++ [x]) (vs ++ [v]) := h.append (.cons q .nil)
theorem All2.take {α : Type} {R : Rl α} {S : Hp} : ∀ (n : Nat) {xs : List α} {vs : List V}, All2 R S xs vs → All2 R S (xs.take n) (vs.take n)
  | 0, _, _, _ => by
    rw [List.take_zero, List.take_zero]
    exact .nil
  | _ + 1, _, _, .nil => .nil
  | n + 1, _, _, .cons h t => .cons h (All2.take n t)
theorem All2.drop {α : Type} {R : Rl α} {S : Hp} : ∀ (n : Nat) {xs : List α} {vs : List V}, All2 R S xs vs → All2 R S (xs.drop n) (vs.drop n)
  | 0, _, _, h => h
  | _ + 1, _, _, .nil => .nil
  | n + 1, _, _, .cons _ t => All2.drop n t
theorem All2.set {α : Type} {R : Rl α} {S : Hp} {x : α} {v : V} (q : R x v S) : ∀ (i : Nat) {xs : List α} {vs : List V}, All2 R S xs vs → All2 R S (xs.set i x) (vs.set i v)
  | _, _, _, .nil => .nil
  | 0, _, _, .cons _ t => .cons q t
  | i + 1, _, _, .cons h t => .cons h (All2.set q i t)
theorem All2.imp {α β : Type} {R : Rl α} {R' : Rl β} {f : α → β} {S : Hp} (k : ∀ x v, R x v S → R' (f x) v S) : ∀ {xs : List α} {vs : List V}, All2 R S xs vs → All2 R' S (xs.map f) vs
  | _, _, .nil => .nil
  | _, _, .cons h t => .cons (k _ _ h) (All2.imp k t)
theorem All2.ints {S : Hp} : ∀ {xs : List Int} {vs : List V}, All2 IntR S xs vs → vs = xs.map V.int
  | _, _, .nil => rfl
  | _, _, .cons h t => by
    rw [show _ = _ from h, All2.ints t]
    rfl
theorem All2.of_ints {S : Hp} : ∀ (xs : List Int), All2 IntR S xs (xs.map V.int)
  | [] => .nil
  | x :: r => .cons rfl (All2.of_ints r)
theorem All2.bools {S : Hp} : ∀ {xs : List Bool} {vs : List V}, All2 BoolR S xs vs → vs = xs.map V.bl
  | _, _, .nil => rfl
  | _, _, .cons h t => by
    rw [show _ = _ from h, All2.bools t]
    rfl
theorem All2.strs {S : Hp} : ∀ {xs : List Str} {vs : List V}, All2 StrR S xs vs → vs = xs.map V.str
  | _, _, .nil => rfl
  | _, _, .cons h t => by
    rw [show _ = _ from h, All2.strs t]
    rfl
/-- a list, a tuple of such -/
def LstR {α : Type} (R : Rl α) : Rl (List α) := fun xs v S => ∃ a vs, v = .ref a ∧ S a = some (.lst vs) ∧ All2 R S xs vs
section
variable (K : PySem.W.Frag)
def TupR {α : Type} (R : Rl α) : Rl (List α) := fun xs v S => ∃ a vs, v = .ref a ∧ SqT K S a vs ∧ All2 R S xs vs
/-- a list or a tuple -/
def SeqR {α : Type} (R : Rl α) : Rl (List α) := fun xs v S => LstR R xs v S ∨ TupR K R xs v S
def PairR {α β : Type} (R : Rl α) (R' : Rl β) : Rl (α × β) := fun p v S => ∃ a x y, v = .ref a ∧ SqT K S a [x, y] ∧ R p.1 x S ∧ R' p.2 y S
def TripR {α β γ : Type} (R : Rl α) (R' : Rl β) (R'' : Rl γ) : Rl (α × β × γ) := fun p v S => ∃ a x y z, v = .ref a ∧ SqT K S a [x, y, z] ∧ R p.1 x S ∧ R' p.2.1 y S ∧ R'' p.2.2 z S
/-- data of any depth -/
def DatR : Rl PyData := fun d v S => Dp K S v d
end
section
variable {K : PySem.W.Frag}
instance {α : Type} {R : Rl α} [Mono R] : Mono (LstR R) := ⟨fun e ⟨a, vs, h1, h2, h3⟩ => ⟨a, vs, h1, e a _ h2, h3.up e⟩⟩
instance {α : Type} {R : Rl α} [Mono R] : Mono (TupR K R) := ⟨fun e ⟨a, vs, h1, h2, h3⟩ => ⟨a, vs, h1, ex_t e h2, h3.up e⟩⟩
instance {α : Type} {R : Rl α} [m : Mono R] : Mono (SeqR K R) := ⟨fun e h => h.elim (fun h => .inl (Mono.up e h)) (fun h => .inr (Mono.up e h))⟩
instance {α β : Type} {R : Rl α} {R' : Rl β} [m : Mono R] [m' : Mono R'] : Mono (PairR K R R') := ⟨fun e ⟨a, x, y, h1, h2, h3, h4⟩ => ⟨a, x, y, h1, ex_t e h2, m.up e h3, m'.up e h4⟩⟩
instance {α β γ : Type} {R : Rl α} {R' : Rl β} {R'' : Rl γ} [m : Mono R] [m' : Mono R'] [m'' : Mono R''] : Mono (TripR K R R' R'') := ⟨fun e ⟨a, x, y, z, h1, h2, h3, h4, h5⟩ => ⟨a, x, y, z, h1, ex_t e h2, m.up e h3, m'.up e h4, m''.up e h5⟩⟩
mutual
theorem dp_up {S S' : Hp} (e : Ex S S') : ∀ (d : PyData) (v : V), Dp K S v d → Dp K S' v d
  | .none, _, h => by
    cases h
    exact .non
  | .bool b, _, h => by
    cases h
    exact .bl b
  | .int i, _, h => by
    cases h
    exact .int i
  | .str x, _, h => by
    cases h
    exact .str x
  | .list ds, _, h => by
    cases h with
    | lst h1 h2 => exact .lst (ex_l e h1) (dpa_up e ds _ h2)
  | .tuple ds, _, h => by
    cases h with
    | tup h1 h2 => exact .tup (ex_t e h1) (dpa_up e ds _ h2)
  | .dict _, _, h => by cases h
theorem dpa_up {S S' : Hp} (e : Ex S S') : ∀ (ds : List PyData) (vs : List V), DpAll K S vs ds → DpAll K S' vs ds
  | [], _, h => by
    cases h
    exact .nil
  | d :: ds, _, h => by
    cases h with
    | cons h1 h2 => exact .cons (dp_up e d _ h1) (dpa_up e ds _ h2)
end
instance : Mono (DatR K) := ⟨fun e h => dp_up e _ _ h⟩
end
end J

/-! JEv: judgements. -/
namespace J
open PySem PySem.Spec L2 Evl

/-- te gives a value that R tells, at a stable part that has grown -/
def EvS (r : Rs) (te : TE) (s : L2.St) (S : Hp) (R : V → Hp → Prop) : Prop := ∀ S1 H, Ex S S1 → Wd r S1 H → ∀ Q : VK, (∀ v S2 H2, Wd r S2 H2 → Stp r S1 H S2 H2 → R v S2 → Q v H2) → te s H Q
/-- te gives a new object, unstable so far -/
def EvN (r : Rs) (te : TE) (s : L2.St) (S : Hp) (R : HO → Hp → Prop) : Prop := ∀ S1 H, Ex S S1 → Wd r S1 H → ∀ Q : VK, (∀ p o S2 H2, H p = none → H2 p = some o → S2 p = none → Wd r S2 H2 → Stp r S1 H S2 H2 → R o S2 → Q (.ref p) H2) → te s H Q
def EvTS (r : Rs) (tt : TT) (s : L2.St) (S : Hp) (R : Bool → Hp → Prop) : Prop := ∀ S1 H, Ex S S1 → Wd r S1 H → ∀ Q : Bool → Hp → Prop, (∀ b S2 H2, Wd r S2 H2 → Stp r S1 H S2 H2 → R b S2 → Q b H2) → tt s H Q
def EvAS (r : Rs) (ta : TA) (s : L2.St) (S : Hp) (R : List V → Hp → Prop) : Prop := ∀ S1 H, Ex S S1 → Wd r S1 H → ∀ Q : List V → Hp → Prop, (∀ vs S2 H2, Wd r S2 H2 → Stp r S1 H S2 H2 → R vs S2 → Q vs H2) → ta s H Q
/-- a value that is known -/
abbrev EvV (r : Rs) (te : TE) (s : L2.St) (S : Hp) (v : V) : Prop := EvS r te s S fun u _ => u = v
abbrev EvB (r : Rs) (tt : TT) (s : L2.St) (S : Hp) (b : Bool) : Prop := EvTS r tt s S fun c _ => c = b
abbrev EvAV (r : Rs) (ta : TA) (s : L2.St) (S : Hp) (vs : List V) : Prop := EvAS r ta s S fun us _ => us = vs
section
variable {r : Rs} {s : L2.St} {S S' : Hp} {ta tb tc te : TE} {t u : TT} {tt : TT} {x y z v : V} {R R' : V → Hp → Prop}
theorem EvS.mono (e : Ex S S') (h : EvS r te s S R) : EvS r te s S' R := fun S1 H a w Q q => h S1 H (e.trans a) w Q q
theorem EvN.mono {R : HO → Hp → Prop} (e : Ex S S') (h : EvN r te s S R) : EvN r te s S' R := fun S1 H a w Q q => h S1 H (e.trans a) w Q q
theorem EvTS.mono {R : Bool → Hp → Prop} (e : Ex S S') (h : EvTS r t s S R) : EvTS r t s S' R := fun S1 H a w Q q => h S1 H (e.trans a) w Q q
theorem EvS.imp (h : EvS r te s S R) (k : ∀ v S1, Ex S S1 → R v S1 → R' v S1) : EvS r te s S R' := fun S1 H a w Q q => h S1 H a w Q fun v S2 H2 w2 st p => q v S2 H2 w2 st (k v S2 (a.trans st.ex) p)
theorem EvAS.mono' {ta : TA} {P : List V → Hp → Prop} (e : Ex S S') (h : EvAS r ta s S P) : EvAS r ta s S' P := fun S1 H a w Q q => h S1 H (e.trans a) w Q q
theorem EvAS.imp' {ta : TA} {P P' : List V → Hp → Prop} (h : EvAS r ta s S P) (k : ∀ v S1, Ex S S1 → P v S1 → P' v S1) : EvAS r ta s S P' := fun S1 H a w Q q => h S1 H a w Q fun v S2 H2 w2 st p => q v S2 H2 w2 st (k v S2 (a.trans st.ex) p)
theorem EvN.imp {R R' : HO → Hp → Prop} (h : EvN r te s S R) (k : ∀ o S1, Ex S S1 → R o S1 → R' o S1) : EvN r te s S R' := fun S1 H a w Q q => h S1 H a w Q fun p o S2 H2 h1 h2 h3 w2 st z => q p o S2 H2 h1 h2 h3 w2 st (k o S2 (a.trans st.ex) z)
theorem EvTS.imp {R R' : Bool → Hp → Prop} (h : EvTS r t s S R) (k : ∀ v S1, Ex S S1 → R v S1 → R' v S1) : EvTS r t s S R' := fun S1 H a w Q q => h S1 H a w Q fun v S2 H2 w2 st p => q v S2 H2 w2 st (k v S2 (a.trans st.ex) p)
/-- the new object becomes stable -/
theorem EvN.stable {R : HO → Hp → Prop} (h : EvN r te s S R) (k : ∀ p o S1, Ex S S1 → S1 p = none → R o S1 → R' (.ref p) (upd S1 p o)) : EvS r te s S R' := fun S1 H a w Q q =>
  h S1 H a w Q fun p o S2 H2 h1 h2 h3 w2 st z => q (.ref p) (upd S2 p o) H2 (w2.settle h2 (w.notM h1)) (st.settle h1 h3) (k p o S2 (a.trans st.ex) h3 z)
theorem EvV.is {w : V} (h : EvV r te s S v) (e : v = w) : EvV r te s S w := e ▸ h
theorem EvB.is {a b : Bool} (h : EvB r t s S a) (e : a = b) : EvB r t s S b := e ▸ h

/-! ### names, constants -/
theorem ev_var {i : Nat} (h : s[i]? = some (some v)) (p : R v S) (m : ∀ S1, Ex S S1 → R v S → R v S1) : EvS r (tVar i) s S R := fun S1 H a w Q q => ⟨v, h, q v S1 H w Stp.refl (m S1 a p)⟩
theorem vv_var {i : Nat} (h : s[i]? = some (some v)) : EvV r (tVar i) s S v := fun S1 H a w Q q => ⟨v, h, q v S1 H w Stp.refl rfl⟩
theorem vv_c : EvV r (tC v) s S v := fun S1 H a w Q q => q v S1 H w Stp.refl rfl

/-! ### operators -/
/-- an operation that reads at most -/
def RVS (o : R2) (x y : V) (S : Hp) (z : V) : Prop := ∀ H, Ex S H → ∀ Q : VK, Q z H → o x y H Q
/-- an operation that lays one object -/
def RVN (o : R2) (x y : V) (S : Hp) (ob : HO) : Prop := ∀ H, Ex S H → ∀ Q : VK, (∀ p, H p = none → Q (.ref p) (upd H p ob)) → o x y H Q
def RUS (o : V → Hp → VK → Prop) (x : V) (S : Hp) (z : V) : Prop := ∀ H, Ex S H → ∀ Q : VK, Q z H → o x H Q
def RCS (o : List V → Hp → VK → Prop) (vs : List V) (S : Hp) (z : V) : Prop := ∀ H, Ex S H → ∀ Q : VK, Q z H → o vs H Q
def RCN (o : List V → Hp → VK → Prop) (vs : List V) (S : Hp) (R : HO → Prop) : Prop := ∀ H, Ex S H → ∀ Q : VK, (∀ p ob, H p = none → R ob → Q (.ref p) (upd H p ob)) → o vs H Q
variable {o : R2} {A B : V → Hp → Prop}
/-- both sides by relations -/
theorem ev_op2 (ha : EvS r ta s S A) (hb : ∀ x S1, Ex S S1 → A x S1 → EvS r tb s S1 B) (k : ∀ x y S1 S2, Ex S S1 → A x S1 → Ex S1 S2 → B y S2 → ∃ z, RVS o x y S2 z ∧ R z S2) : EvS r (tOp o ta tb) s S R := fun S1 H a w Q q =>
  ha S1 H a w _ fun x S2 H2 w2 s2 hx => hb x S2 (a.trans s2.ex) hx S2 H2 (Ex.refl _) w2 _ fun y S3 H3 w3 s3 hy => by
    obtain ⟨z, hz, rz⟩ := k x y S2 S3 (a.trans s2.ex) hx s3.ex hy
    exact hz H3 w3.ex Q (q z S3 H3 w3 (s2.trans s3) rz)
theorem ev_op2N {R : HO → Hp → Prop} (ha : EvS r ta s S A) (hb : ∀ x S1, Ex S S1 → A x S1 → EvS r tb s S1 B) (k : ∀ x y S1 S2, Ex S S1 → A x S1 → Ex S1 S2 → B y S2 → ∃ z, RVN o x y S2 z ∧ R z S2) : EvN r (tOp o ta tb) s S R := fun S1 H a w Q q =>
  ha S1 H a w _ fun x S2 H2 w2 s2 hx => hb x S2 (a.trans s2.ex) hx S2 H2 (Ex.refl _) w2 _ fun y S3 H3 w3 s3 hy => by
    obtain ⟨z, hz, rz⟩ := k x y S2 S3 (a.trans s2.ex) hx s3.ex hy
    refine hz H3 w3.ex Q fun p hp => ?_
    have h1 : H p = none := by
      cases e : H p with
      | none => rfl
      | some ob => exact absurd hp (s3.dm p (s2.dm p (ne_none e)))
    exact q p z S3 _ h1 upd_same (w3.fresh hp) (w3.new hp) ((s2.trans s3).trans (Stp.new hp)) rz
theorem vv_op (ha : EvV r ta s S x) (hb : EvV r tb s S y) (ho : RVS o x y S z) : EvV r (tOp o ta tb) s S z :=
  ev_op2 ha (fun _ S1 e _ => EvS.mono e hb) fun x' y' S1 S2 e1 hx e2 hy => ⟨z, by
    subst hx
    subst hy
    exact fun H e Q q => ho H ((e1.trans e2).trans e) Q q, rfl⟩
theorem vn_op {ob : HO} (ha : EvV r ta s S x) (hb : EvV r tb s S y) (ho : RVN o x y S ob) : EvN r (tOp o ta tb) s S fun u _ => u = ob :=
  ev_op2N ha (fun _ S1 e _ => EvS.mono e hb) fun x' y' S1 S2 e1 hx e2 hy => ⟨ob, by
    subst hx
    subst hy
    exact fun H e Q q => ho H ((e1.trans e2).trans e) Q q, rfl⟩
theorem vv_un {o : V → Hp → VK → Prop} (ha : EvV r ta s S x) (ho : RUS o x S z) : EvV r (tUn o ta) s S z := fun S1 H a w Q q =>
  ha S1 H a w _ fun x' S2 H2 w2 s2 hx => by
    subst hx
    exact ho H2 ((a.trans s2.ex).trans w2.ex) Q (q z S2 H2 w2 s2 rfl)
theorem rs_I0 {g : Int → Int → V} {i j : Int} : RVS (rI0 g) (.int i) (.int j) S (g i j) := fun H _ Q q => ⟨i, j, rfl, rfl, q⟩
theorem rs_I {C : Int → Int → Prop} {g : Int → Int → V} {i j : Int} (c : C i j) : RVS (rI C g) (.int i) (.int j) S (g i j) := fun H _ Q q => ⟨i, j, rfl, rfl, c, q⟩
theorem rs_or1 {o o' : R2} (h : RVS o x y S z) : RVS (fun x y H Q => o x y H Q ∨ o' x y H Q) x y S z := fun H e Q q => .inl (h H e Q q)
theorem rs_or2 {o o' : R2} (h : RVS o' x y S z) : RVS (fun x y H Q => o x y H Q ∨ o' x y H Q) x y S z := fun H e Q q => .inr (h H e Q q)
theorem rs_eq (h : scal x y = true) : RVS rEq x y S (.bl (decide (x = y))) := fun H _ Q q => ⟨h, q⟩
theorem rs_ne (h : scal x y = true) : RVS rNe x y S (.bl (!decide (x = y))) := fun H _ Q q => ⟨h, q⟩
theorem rs_isN : RVS (fun x y H Q => y = .non ∧ Q (.bl (decide (x = .non))) H) x .non S (.bl (decide (x = .non))) := fun H _ Q q => ⟨rfl, q⟩
theorem rs_notN : RVS (fun x y H Q => y = .non ∧ Q (.bl (!decide (x = .non))) H) x .non S (.bl (!decide (x = .non))) := fun H _ Q q => ⟨rfl, q⟩
variable {K : PySem.W.Frag}
theorem rs_ixL {p : Addr} {xs : List V} {i : Int} (h : SqL K S p xs) (a : atI xs i = some v) : RVS (rIxL K) (.ref p) (.int i) S v := fun H e Q q => ⟨p, xs, i, v, rfl, rfl, ex_l e h, a, q⟩
theorem rs_ixT {p : Addr} {xs : List V} {i : Int} (h : SqT K S p xs) (a : atI xs i = some v) : RVS (rIxT K) (.ref p) (.int i) S v := fun H e Q q => ⟨p, xs, i, v, rfl, rfl, ex_t e h, a, q⟩
theorem rs_inL {neg : Bool} {p : Addr} {xs : List V} (h : SqL K S p xs) (hx : flatV x = true) (ha : xs.all flatV = true) : RVS (rIn K neg) x (.ref p) S (.bl (if neg then !inV x xs else inV x xs)) := fun H e Q q => ⟨p, xs, rfl, .inl (ex_l e h), hx, ha, q⟩
theorem rs_inT {neg : Bool} {p : Addr} {xs : List V} (h : SqT K S p xs) (hx : flatV x = true) (ha : xs.all flatV = true) : RVS (rIn K neg) x (.ref p) S (.bl (if neg then !inV x xs else inV x xs)) := fun H e Q q => ⟨p, xs, rfl, .inr (ex_t e h), hx, ha, q⟩

/-! ### tests -/
theorem tb_test {b : Bool} (h : EvV r te s S (.bl b)) : EvB r (tTest te) s S b := fun S1 H a w Q q => h S1 H a w _ fun v S2 H2 w2 s2 e => ⟨b, e, q b S2 H2 w2 s2 rfl⟩
theorem tb_B {b : Bool} (h : EvV r te s S (.bl b)) : EvB r (tB te) s S b := fun S1 H a w Q q => h S1 H a w _ fun v S2 H2 w2 s2 e => ⟨b, e, q b S2 H2 w2 s2 rfl⟩
theorem tb_and {a b : Bool} (h1 : EvB r t s S a) (h2 : a = true → EvB r u s S b) : EvB r (tAnd t u) s S (a && b) := fun S1 H e w Q q => h1 S1 H e w _ fun c S2 H2 w2 s2 ec => by
  subst ec
  cases c with
  | true =>
    show u s H2 Q
    exact h2 rfl S2 H2 (e.trans s2.ex) w2 Q fun c3 S3 H3 w3 s3 e3 => q c3 S3 H3 w3 (s2.trans s3) e3
  | false =>
    show Q false H2
    exact q false S2 H2 w2 s2 rfl
theorem tb_or {a b : Bool} (h1 : EvB r t s S a) (h2 : a = false → EvB r u s S b) : EvB r (tOr t u) s S (a || b) := fun S1 H e w Q q => h1 S1 H e w _ fun c S2 H2 w2 s2 ec => by
  subst ec
  cases c with
  | true =>
    show Q true H2
    exact q true S2 H2 w2 s2 rfl
  | false =>
    show u s H2 Q
    exact h2 rfl S2 H2 (e.trans s2.ex) w2 Q fun c3 S3 H3 w3 s3 e3 => q c3 S3 H3 w3 (s2.trans s3) e3
theorem tb_not {a : Bool} (h1 : EvB r t s S a) : EvB r (tNot t) s S (!a) := fun S1 H e w Q q => h1 S1 H e w _ fun c S2 H2 w2 s2 ec => q (!c) S2 H2 w2 s2 (by rw [ec])
theorem vv_and {a b : Bool} (h1 : EvV r ta s S (.bl a)) (h2 : a = true → EvV r tb s S (.bl b)) : EvV r (tAndV ta tb) s S (.bl (a && b)) := fun S1 H e w Q q => h1 S1 H e w _ fun c S2 H2 w2 s2 ec => ⟨a, ec, by
  cases a with
  | true =>
    show tb s H2 Q
    exact h2 rfl S2 H2 (e.trans s2.ex) w2 Q fun c3 S3 H3 w3 s3 e3 => q c3 S3 H3 w3 (s2.trans s3) e3
  | false =>
    show Q (.bl false) H2
    exact q _ S2 H2 w2 s2 rfl⟩
theorem vv_or {a b : Bool} (h1 : EvV r ta s S (.bl a)) (h2 : a = false → EvV r tb s S (.bl b)) : EvV r (tOrV ta tb) s S (.bl (a || b)) := fun S1 H e w Q q => h1 S1 H e w _ fun c S2 H2 w2 s2 ec => ⟨a, ec, by
  cases a with
  | true =>
    show Q (.bl true) H2
    exact q _ S2 H2 w2 s2 rfl
  | false =>
    show tb s H2 Q
    exact h2 rfl S2 H2 (e.trans s2.ex) w2 Q fun c3 S3 H3 w3 s3 e3 => q c3 S3 H3 w3 (s2.trans s3) e3⟩
theorem vv_not {a : Bool} (h1 : EvV r ta s S (.bl a)) : EvV r (tNotV ta) s S (.bl (!a)) := fun S1 H e w Q q => h1 S1 H e w _ fun c S2 H2 w2 s2 ec => ⟨a, ec, q _ S2 H2 w2 s2 rfl⟩
theorem ev_if {b : Bool} (h : EvB r t s S b) (h1 : b = true → EvS r ta s S R) (h2 : b = false → EvS r tb s S R) : EvS r (tIf t ta tb) s S R := fun S1 H e w Q q => h S1 H e w _ fun c S2 H2 w2 s2 ec => by
  subst ec
  cases c with
  | true =>
    show ta s H2 Q
    exact h1 rfl S2 H2 (e.trans s2.ex) w2 Q fun c3 S3 H3 w3 s3 e3 => q c3 S3 H3 w3 (s2.trans s3) e3
  | false =>
    show tb s H2 Q
    exact h2 rfl S2 H2 (e.trans s2.ex) w2 Q fun c3 S3 H3 w3 s3 e3 => q c3 S3 H3 w3 (s2.trans s3) e3
/-- a < b < c -/
theorem vv_chain {o o' : R2} {ta tb tc : TE} {k b : Bool} {z : V} (ha : EvV r ta s S x) (hb : EvV r tb s S y) (h1 : RVS o x y S (.bl k)) (hc : k = true → EvV r tc s S z) (h2 : k = true → RVS o' y z S (.bl b)) : EvV r (tChain o o' ta tb tc) s S (.bl (k && b)) := fun S1 H e w Q q =>
  ha S1 H e w _ fun x' S2 H2 w2 s2 ex => hb S2 H2 (e.trans s2.ex) w2 _ fun y' S3 H3 w3 s3 ey => by
    subst ex
    subst ey
    have e3 : Ex S S3 := (e.trans s2.ex).trans s3.ex
    refine h1 H3 (e3.trans w3.ex) _ ⟨k, rfl, ?_⟩
    cases k with
    | true =>
      refine iteT ?_
      exact hc rfl S3 H3 e3 w3 _ fun z' S4 H4 w4 s4 ez => by
        subst ez
        exact h2 rfl H4 ((e3.trans s4.ex).trans w4.ex) Q (q _ S4 H4 w4 ((s2.trans s3).trans s4) rfl)
    | false =>
      refine iteF ?_
      exact q _ S3 H3 w3 (s2.trans s3) rfl

/-! ### argument lists, calls of built-ins, displays -/
theorem va_nil : EvAV r tNil s S [] := fun S1 H _ w Q q => q [] S1 H w Stp.refl rfl
theorem va_cons {tr : TA} {vs : List V} (h : EvV r ta s S x) (hr : EvAV r tr s S vs) : EvAV r (tCons ta tr) s S (x :: vs) := fun S1 H e w Q q =>
  h S1 H e w _ fun x' S2 H2 w2 s2 ex => hr S2 H2 (e.trans s2.ex) w2 _ fun vs' S3 H3 w3 s3 ev => q _ S3 H3 w3 (s2.trans s3) (by rw [ex, ev])
theorem ea_nil : EvAS r tNil s S fun us _ => us = [] := va_nil
theorem ea_cons {tr : TA} {P : List V → Hp → Prop} (h : EvS r ta s S R) (hr : ∀ x S1, Ex S S1 → R x S1 → EvAS r tr s S1 fun us S2 => P (x :: us) S2) : EvAS r (tCons ta tr) s S P := fun S1 H e w Q q =>
  h S1 H e w _ fun x' S2 H2 w2 s2 ex => hr x' S2 (e.trans s2.ex) ex S2 H2 (Ex.refl _) w2 _ fun vs' S3 H3 w3 s3 ev => q _ S3 H3 w3 (s2.trans s3) ev
/-- a built-in called, reading at most -/
theorem vv_cb {o : List V → Hp → VK → Prop} {ta : TA} {vs : List V} (h : EvAV r ta s S vs) (ho : RCS o vs S z) : EvV r (tCB o ta) s S z := fun S1 H e w Q q =>
  h S1 H e w _ fun vs' S2 H2 w2 s2 ev => by
    subst ev
    exact ho H2 ((e.trans s2.ex).trans w2.ex) Q (q z S2 H2 w2 s2 rfl)
theorem ev_cb {o : List V → Hp → VK → Prop} {ta : TA} {P : List V → Hp → Prop} (h : EvAS r ta s S P) (ho : ∀ vs S1, Ex S S1 → P vs S1 → ∀ H, Ex S1 H → ∀ Q : VK, (∀ z, R z S1 → Q z H) → o vs H Q) : EvS r (tCB o ta) s S R := fun S1 H e w Q q =>
  h S1 H e w _ fun vs S2 H2 w2 s2 ev => ho vs S2 (e.trans s2.ex) ev H2 w2.ex Q fun z rz => q z S2 H2 w2 s2 rz
theorem en_cb {o : List V → Hp → VK → Prop} {ta : TA} {P : List V → Hp → Prop} {R : HO → Hp → Prop} (h : EvAS r ta s S P) (ho : ∀ vs S1, Ex S S1 → P vs S1 → RCN o vs S1 fun ob => R ob S1) : EvN r (tCB o ta) s S R := fun S1 H e w Q q =>
  h S1 H e w _ fun vs S2 H2 w2 s2 ev => ho vs S2 (e.trans s2.ex) ev H2 w2.ex Q fun p ob hp hr => by
    have h1 : H p = none := by
      cases e : H p with
      | none => rfl
      | some ob => exact absurd hp (s2.dm p (ne_none e))
    exact q p ob S2 _ h1 upd_same (w2.fresh hp) (w2.new hp) (s2.trans (Stp.new hp)) hr
theorem en_tup {ta : TA} {P : List V → Hp → Prop} (h : EvAS r ta s S P) (hl : ∀ vs S1, P vs S1 → vs.length ≤ 100000) : EvN r (tTup ta) s S fun o S1 => ∃ vs, o = .tup vs ∧ P vs S1 := fun S1 H e w Q q =>
  h S1 H e w _ fun vs S2 H2 w2 s2 ev => ⟨sz_of (hl vs S2 ev), fun p hp => by
    have h1 : H p = none := by
      cases e : H p with
      | none => rfl
      | some ob => exact absurd hp (s2.dm p (ne_none e))
    exact q p _ S2 _ h1 upd_same (w2.fresh hp) (w2.new hp) (s2.trans (Stp.new hp)) ⟨vs, rfl, ev⟩⟩
theorem en_lst {ta : TA} {P : List V → Hp → Prop} (h : EvAS r ta s S P) (hl : ∀ vs S1, P vs S1 → vs.length ≤ 100000) : EvN r (tLst ta) s S fun o S1 => ∃ vs, o = .lst vs ∧ P vs S1 := fun S1 H e w Q q =>
  h S1 H e w _ fun vs S2 H2 w2 s2 ev => ⟨sz_of (hl vs S2 ev), fun p hp => by
    have h1 : H p = none := by
      cases e : H p with
      | none => rfl
      | some ob => exact absurd hp (s2.dm p (ne_none e))
    exact q p _ S2 _ h1 upd_same (w2.fresh hp) (w2.new hp) (s2.trans (Stp.new hp)) ⟨vs, rfl, ev⟩⟩
/-- [] -/
theorem en_nil : EvN r (tLst tNil) s S fun o _ => o = .lst [] := (en_lst (P := fun us _ => us = []) va_nil (fun vs _ e => by
  rw [e]
  exact Nat.zero_le _)).imp fun o _ _ ⟨vs, e1, e2⟩ => by rw [e1, e2]
end

/-! ### statements -/
section
variable {r : Rs} {s : L2.St} {S H S0 H0 : Hp} {ta tb te : TE} {t : TT} {tu tw tz : TS} {D : Ends} {v : V} {R : V → Hp → Prop} {g : TG}
/-- x = e -/
theorem st_asg {i : Nat} (h : EvS r te s S R) (w : Wd r S H) (k : ∀ v S1 H1, Wd r S1 H1 → Stp r S H S1 H1 → R v S1 → D.nx (s.set i (some v)) H1) : tAsg te (gName i) D s H :=
  h S H (Ex.refl S) w _ fun v S1 H1 w1 s1 p => k v S1 H1 w1 s1 p
theorem st_asgN {i : Nat} {R : HO → Hp → Prop} (h : EvN r te s S R) (w : Wd r S H) (k : ∀ p o S1 H1, H p = none → H1 p = some o → S1 p = none → Wd r S1 H1 → Stp r S H S1 H1 → R o S1 → D.nx (s.set i (some (.ref p))) H1) : tAsg te (gName i) D s H :=
  h S H (Ex.refl S) w _ fun p o S1 H1 a b c w1 s1 q => k p o S1 H1 a b c w1 s1 q
theorem st_if {b : Bool} (h : EvB r t s S b) (w : Wd r S H) (h1 : b = true → ∀ S1 H1, Wd r S1 H1 → Stp r S H S1 H1 → tu D s H1) (h2 : b = false → ∀ S1 H1, Wd r S1 H1 → Stp r S H S1 H1 → tw D s H1) : tIfS t tu tw D s H :=
  h S H (Ex.refl S) w _ fun c S1 H1 w1 s1 p => by
    subst p
    cases c with
    | true => exact h1 rfl S1 H1 w1 s1
    | false => exact h2 rfl S1 H1 w1 s1
/-- a test whose answer is only told by a relation -/
theorem st_ifR {R : Bool → Hp → Prop} (h : EvTS r t s S R) (w : Wd r S H) (h1 : ∀ S1 H1, R true S1 → Wd r S1 H1 → Stp r S H S1 H1 → tu D s H1) (h2 : ∀ S1 H1, R false S1 → Wd r S1 H1 → Stp r S H S1 H1 → tw D s H1) : tIfS t tu tw D s H :=
  h S H (Ex.refl S) w _ fun c S1 H1 w1 s1 p => by
    cases c with
    | true => exact h1 S1 H1 p w1 s1
    | false => exact h2 S1 H1 p w1 s1
theorem st_ret (h : EvS r te s S R) (w : Wd r S H) (k : ∀ v S1 H1, Wd r S1 H1 → Stp r S H S1 H1 → R v S1 → D.rt v H1) : tRet te D s H :=
  h S H (Ex.refl S) w _ fun v S1 H1 w1 s1 p => k v S1 H1 w1 s1 p
theorem st_retN {R : HO → Hp → Prop} (h : EvN r te s S R) (w : Wd r S H) (k : ∀ p o S1 H1, H p = none → H1 p = some o → S1 p = none → Wd r S1 H1 → Stp r S H S1 H1 → R o S1 → D.rt (.ref p) H1) : tRet te D s H :=
  h S H (Ex.refl S) w _ fun p o S1 H1 a b c w1 s1 q => k p o S1 H1 a b c w1 s1 q
theorem st_drop (h : EvS r te s S R) (w : Wd r S H) (k : ∀ v S1 H1, Wd r S1 H1 → Stp r S H S1 H1 → R v S1 → D.nx s H1) : tDrop te D s H :=
  h S H (Ex.refl S) w _ fun v S1 H1 w1 s1 p => k v S1 H1 w1 s1 p
/-- the same, something behind -/
theorem sq_asg {i : Nat} (h : EvS r te s S R) (w : Wd r S H) (k : ∀ v S1 H1, Wd r S1 H1 → Stp r S H S1 H1 → R v S1 → tz D (s.set i (some v)) H1) : tSeq (tAsg te (gName i)) tz D s H := st_asg (D := { D with nx := tz D }) h w k
theorem sq_asgN {i : Nat} {R : HO → Hp → Prop} (h : EvN r te s S R) (w : Wd r S H) (k : ∀ p o S1 H1, H p = none → H1 p = some o → S1 p = none → Wd r S1 H1 → Stp r S H S1 H1 → R o S1 → tz D (s.set i (some (.ref p))) H1) : tSeq (tAsg te (gName i)) tz D s H := st_asgN (D := { D with nx := tz D }) h w k
theorem sq_if {b : Bool} (h : EvB r t s S b) (w : Wd r S H) (h1 : b = true → ∀ S1 H1, Wd r S1 H1 → Stp r S H S1 H1 → tu { D with nx := tz D } s H1) (h2 : b = false → ∀ S1 H1, Wd r S1 H1 → Stp r S H S1 H1 → tw { D with nx := tz D } s H1) : tSeq (tIfS t tu tw) tz D s H := st_if (D := { D with nx := tz D }) h w h1 h2
theorem sq_drop (h : EvS r te s S R) (w : Wd r S H) (k : ∀ v S1 H1, Wd r S1 H1 → Stp r S H S1 H1 → R v S1 → tz D s H1) : tSeq (tDrop te) tz D s H := st_drop (D := { D with nx := tz D }) h w k
/-- an if whose answer is known and whose body never comes -/
theorem sq_ifNo (h : EvB r t s S false) (w : Wd r S H) (k : ∀ S1 H1, Wd r S1 H1 → Stp r S H S1 H1 → tz D s H1) : tSeq (tIfS t tu tNext) tz D s H :=
  sq_if h w (fun e => nomatch e) fun _ S1 H1 w1 s1 => k S1 H1 w1 s1
end
end J

/-! JOps: rules in union. -/
namespace J
open PySem PySem.Spec L2 Evl
section
variable {X : Cx}
theorem CallR.or {f : Value} {r r' : List V → Hp → VK → Prop} (h : CallR X f r) (h' : CallR X f r') : CallR X f (fun xs H Q => r xs H Q ∨ r' xs H Q) := by
  intro pins s σ H xs us Q I rv q
  rcases q with q | q
  · exact h pins s σ H xs us Q I rv q
  · exact h' pins s σ H xs us Q I rv q
theorem PI.or {tg it : Expr} {w w' : TI} (h : PI X tg it w) (h' : PI X tg it w') : PI X tg it (fun σ H R => w σ H R ∨ w' σ H R) :=
  ⟨fun pins s σ H R I q => q.elim (h.run pins s σ H R I) (h'.run pins s σ H R I)⟩
theorem PE.or {e : Expr} {t t' : TE} (h : PE X e t) (h' : PE X e t') : PE X e (fun σ H Q => t σ H Q ∨ t' σ H Q) :=
  ⟨fun pins s σ H R I q => q.elim (h.run pins s σ H R I) (h'.run pins s σ H R I)⟩
/-- a constant of the module -/
def MgC (mg : Str → Option Value) (x : Str) (v : V) : Prop := ∃ u, mg x = some u ∧ RelV v u
theorem pe_const {x : Str} {v : V} {pos : Pos} (hg : Gl X x) (h : MgC X.mg x v) (hd : (x == ("__debug__" : Str)) = false := by decide) : PE X (.Name x pos) (tC v) := by
  obtain ⟨u, hm, r⟩ := h
  exact pe_glob hg hm r hd
/-! ### + * // -/
def rAddS : R2 := fun x y H Q => ∃ i j, x = .str i ∧ y = .str j ∧ i.length + j.length ≤ sizeLine ∧ Q (.str (i ++ j)) H
def rAddU (K : PySem.W.Frag) : R2 := fun x y H Q => (rI0 (fun i j => .int (i + j)) x y H Q ∨ rAddS x y H Q) ∨ (rCat x y H Q ∨ rCatA K x y H Q)
theorem op_addU : OpR X (binaryOp .Add) (rAddU X.K) := OpR.or (OpR.or op_add op_add_str) (OpR.or op_cat op_catA)
def rMulU : R2 := fun x y H Q => rI CMul (fun i j => .int (i * j)) x y H Q ∨ rRep x y H Q
theorem op_mulU : OpR X (binaryOp .Mult) rMulU := OpR.or op_mul op_rep
/-! ### == != in is -/
def rEqU (K : PySem.W.Frag) : R2 := fun x y H Q => rEq x y H Q ∨ rEqD K x y H Q
def rNeU (K : PySem.W.Frag) : R2 := fun x y H Q => rNe x y H Q ∨ rNeD K x y H Q
theorem op_eqU (hu : X.A.units + 64 < cLine) : OpR X (compareOp .Eq) (rEqU X.K) := OpR.or op_eq (op_eqD hu)
theorem op_neU (hu : X.A.units + 64 < cLine) : OpR X (compareOp .NotEq) (rNeU X.K) := OpR.or op_ne (op_neD hu)
def rInS : R2 := fun x y H Q => ∃ i j, x = .str i ∧ y = .str j ∧ Q (.bl (!(Builtin.Str.occurrences j i 0 j.length 1).isEmpty)) H
def rNotInS : R2 := fun x y H Q => ∃ i j, x = .str i ∧ y = .str j ∧ Q (.bl (!(!(Builtin.Str.occurrences j i 0 j.length 1).isEmpty))) H
def rInU (K : PySem.W.Frag) : R2 := fun x y H Q => rIn K false x y H Q ∨ rInS x y H Q
def rNotInU (K : PySem.W.Frag) : R2 := fun x y H Q => rIn K true x y H Q ∨ rNotInS x y H Q
theorem op_inU : OpR X (compareOp .In) (rInU X.K) := OpR.or op_in_seq op_in_str
theorem op_notInU : OpR X (compareOp .NotIn) (rNotInU X.K) := OpR.or op_notIn_seq op_notIn_str
def rIsNon : R2 := fun x y H Q => y = .non ∧ Q (.bl (decide (x = .non))) H
def rNotNon : R2 := fun x y H Q => y = .non ∧ Q (.bl (!decide (x = .non))) H
def rIsU : R2 := fun x y H Q => rIsNon x y H Q ∨ rIsB x y H Q
def rNotU : R2 := fun x y H Q => rNotNon x y H Q ∨ rNotB x y H Q
theorem op_isU : OpR X (compareOp .Is) rIsU := OpR.or op_isN op_isBl
theorem op_notU : OpR X (compareOp .IsNot) rNotU := OpR.or op_notN op_notBl
/-! ### a[i], a[i:j] -/
theorem ix_U : IxR X (rIx X.K) := ix_seq
def rSlU (K : PySem.W.Frag) : V → Option Int → Option Int → Hp → VK → Prop := fun x lo hi H Q => (rSlL K x lo hi H Q ∨ rSlA K x lo hi H Q) ∨ rSlS x lo hi H Q
theorem sl_U : SlR X (rSlU X.K) := SlR.or (SlR.or sl_list sl_tupA) sl_str
/-! ### what is walked -/
def iU (K : PySem.W.Frag) (te : TE) : TI := fun σ H R => (iList K te σ H R ∨ iTup K te σ H R) ∨ iStr te σ H R
theorem pi_U {tg e : Expr} {te : TE} (h : PE X e te) : PI X tg e (iU X.K te) := PI.or (PI.or (pi_list h) (pi_tup h)) (pi_str h)
/-! ### calls -/
def rIsiU (K : PySem.W.Frag) : List V → Hp → VK → Prop := fun xs H Q => rIsi K xs H Q ∨ rIsiT K xs H Q
theorem call_isiU : CallR X (.builtin "isinstance") (rIsiU X.K) := CallR.or call_isi call_isiT
def rLenD : List V → Hp → VK → Prop := fun xs H Q => ∃ a kvs, xs = [V.ref a] ∧ H a = some (.dK kvs) ∧ Q (.int kvs.length) H
def rLenV (K : PySem.W.Frag) : List V → Hp → VK → Prop := fun xs H Q => ∃ x n, xs = [x] ∧ LenV K x H n ∧ Q (.int n) H
def rLenU (K : PySem.W.Frag) : List V → Hp → VK → Prop := fun xs H Q => rLenV K xs H Q ∨ rLenD xs H Q
theorem call_lenU : CallR X (.builtin "len") (rLenU X.K) := CallR.or call_len call_lenD
def rMax2 : List V → Hp → VK → Prop := fun xs H Q => ∃ i j, xs = [.int i, .int j] ∧ Q (.int (if j > i then j else i)) H
def rMin2 : List V → Hp → VK → Prop := fun xs H Q => ∃ i j, xs = [.int i, .int j] ∧ Q (.int (if j < i then j else i)) H
def rMaxU (K : PySem.W.Frag) : List V → Hp → VK → Prop := fun xs H Q => J.rMax2 xs H Q ∨ rMax K xs H Q
def rMinU (K : PySem.W.Frag) : List V → Hp → VK → Prop := fun xs H Q => J.rMin2 xs H Q ∨ rMin K xs H Q
theorem call_maxU (hc : X.calm = true := by rfl) : CallR X (.builtin "max") (rMaxU X.K) := CallR.or (call_max2 hc) (cr_max hc)
theorem call_minU (hc : X.calm = true := by rfl) : CallR X (.builtin "min") (rMinU X.K) := CallR.or (call_min2 hc) (cr_min hc)
def rSortedU (K : PySem.W.Frag) : List V → Hp → VK → Prop := fun xs H Q => rSorted K xs H Q ∨ rSortedS K xs H Q
theorem call_sortedU : CallR X (.builtin "sorted") (rSortedU X.K) := CallR.or cr_sorted cr_sortedS
def rListU (K : PySem.W.Frag) : List V → Hp → VK → Prop := fun xs H Q => ∃ p ys, xs = [.ref p] ∧ (SqL K H p ys ∨ SqT K H p ys) ∧ ∀ l, H l = none → Q (.ref l) (upd H l (.lst ys))
theorem call_listU : CallR X (.type "list") (rListU X.K) := call_list_of
def rTupleU (K : PySem.W.Frag) : List V → Hp → VK → Prop := fun xs H Q => ∃ x, xs = [x] ∧ kTup K x H Q
theorem call_tupleU : CallR X (.type "tuple") (rTupleU X.K) := by
  intro pins s σ H xs us Q I r h
  obtain ⟨x, rfl, q⟩ := h
  obtain ⟨u, rfl, ru⟩ := vals1 r
  exact rl_tuple pins s σ H x u Q I ru q
def rStrI : List V → Hp → VK → Prop := fun xs H Q => ∃ i, xs = [.int i] ∧ i.natAbs.log2 < 1920 ∧ Q (.str (toString i)) H
theorem call_strU : CallR X (.type "str") rStrI := call_str_int
def rInsert : V → List V → Hp → VK → Prop := fun x vs H Q => ∃ (l : Addr) (xs : List V) (i : Int) (y : V), x = .ref l ∧ vs = [.int i, y] ∧ H l = some (.lst xs) ∧ xs.length < sizeLine ∧ 0 ≤ i ∧ i < 2 ^ 63 ∧ Q .non (upd H l (.lst (xs.take i.toNat ++ [y] ++ xs.drop i.toNat)))
end
end J
namespace J
open PySem PySem.Spec L2 Evl
/-! ### the same with K written -/
section
variable {X : Cx} {K : PySem.W.Frag}
theorem op_addK (hK : X.K = K := by rfl) : OpR X (binaryOp .Add) (rAddU K) := by subst hK; exact op_addU
theorem op_eqK (hu : X.A.units + 64 < cLine) (hK : X.K = K := by rfl) : OpR X (compareOp .Eq) (rEqU K) := by subst hK; exact op_eqU hu
theorem op_neK (hu : X.A.units + 64 < cLine) (hK : X.K = K := by rfl) : OpR X (compareOp .NotEq) (rNeU K) := by subst hK; exact op_neU hu
theorem op_inK (hK : X.K = K := by rfl) : OpR X (compareOp .In) (rInU K) := by subst hK; exact op_inU
theorem op_notInK (hK : X.K = K := by rfl) : OpR X (compareOp .NotIn) (rNotInU K) := by subst hK; exact op_notInU
theorem ix_K (hK : X.K = K := by rfl) : IxR X (rIx K) := by subst hK; exact ix_seq
theorem sl_K (hK : X.K = K := by rfl) : SlR X (rSlU K) := by subst hK; exact sl_U
theorem pi_K {tg e : Expr} {te : TE} (h : PE X e te) (hK : X.K = K := by rfl) : PI X tg e (iU K te) := by subst hK; exact pi_U h
theorem call_isiK2 (hK : X.K = K := by rfl) : CallR X (.builtin "isinstance") (rIsiU K) := by subst hK; exact call_isiU
theorem call_lenK (hK : X.K = K := by rfl) : CallR X (.builtin "len") (rLenU K) := by subst hK; exact call_lenU
theorem call_maxK (hc : X.calm = true := by rfl) (hK : X.K = K := by rfl) : CallR X (.builtin "max") (rMaxU K) := by subst hK; exact call_maxU hc
theorem call_minK (hc : X.calm = true := by rfl) (hK : X.K = K := by rfl) : CallR X (.builtin "min") (rMinU K) := by subst hK; exact call_minU hc
theorem call_sortedK (hK : X.K = K := by rfl) : CallR X (.builtin "sorted") (rSortedU K) := by subst hK; exact call_sortedU
theorem call_listK (hK : X.K = K := by rfl) : CallR X (.type "list") (rListU K) := by subst hK; exact call_listU
theorem call_tupleK (hK : X.K = K := by rfl) : CallR X (.type "tuple") (rTupleU K) := by subst hK; exact call_tupleU
theorem call_allK (hc : X.calm = true := by rfl) (hK : X.K = K := by rfl) : CallR X (.builtin "all") (rAll K) := by subst hK; exact cr_all hc
theorem call_anyK (hc : X.calm = true := by rfl) (hK : X.K = K := by rfl) : CallR X (.builtin "any") (rAny K) := by subst hK; exact cr_any hc
theorem call_sumK (hc : X.calm = true := by rfl) (hK : X.K = K := by rfl) : CallR X (.builtin "sum") (rSum K) := by subst hK; exact cr_sum hc
theorem pe_fldK {e : Expr} {ta : TE} {f : Str} {pos : Pos} (he : PE X e ta) (hb : attributeBase e f X.env (eval e X.env) = eval e X.env := by rfl) (hK : X.K = K := by rfl) : PE X (.Attribute e f pos) (tFld K ta f) := by subst hK; exact pe_fld he hb
theorem ps_fldK {o value : Expr} {ta tv : TE} {f : Str} {pos pos' : Pos} (ha : PE X o ta) (hv : PE X value tv) (hs : swapsWith value (some (.Attribute o f pos')) pos.line X.env = pure false := by rfl) (hK : X.K = K := by rfl) : PS X (.Assign [.Attribute o f pos'] value pos) (sFld K ta tv f) := by subst hK; exact ps_fld ha hv hs
theorem pg_tupK {es : List Expr} {k : Nat} {t : TGs} {n : Nat} {pos : Pos} (hc : X.calm = true) (h : PGs X es t) (hn : (assignEach es X.env).length = n := by rfl) (hst : (assignEach es X.env).findIdx? (·.1) = none := by rfl) (hK : X.K = K := by rfl) : PG X (.Tuple es k pos) (gTup K n t) := by subst hK; exact pg_tup hc h hn hst
theorem pi_enumK {e : Expr} {ta : TA} {p pos tpos : Pos} {elts : List Expr} {kk : Nat} (hg : Gl X "enumerate") (hm : X.mg "enumerate" = none) (ha : PA X [e] ta) (hs : starEach [e] X.env = [(false, eval e X.env)] := by rfl) (hK : X.K = K := by rfl) : PI X (.Tuple elts kk tpos) (.Call (.Name "enumerate" p) [e] [] pos) (iEnum K ta) := by subst hK; exact pi_enum hg hm ha hs
theorem pi_zipK {e e2 : Expr} {ta : TA} {p pos tpos : Pos} {elts : List Expr} {kk : Nat} (hg : Gl X "zip") (hm : X.mg "zip" = none) (ha : PA X [e, e2] ta) (hs : starEach [e, e2] X.env = (false, eval e X.env) :: starEach [e2] X.env := by rfl) (hpl : (backTo pos (starEach [e2] X.env)).any (·.1) = false := by rfl) (hK : X.K = K := by rfl) : PI X (.Tuple elts kk tpos) (.Call (.Name "zip" p) [e, e2] [] pos) (iZip K ta) := by subst hK; exact pi_zip hg hm ha hs hpl
theorem mt_indexK (hK : X.K = K := by rfl) : MtR X "list.index" (rIndex K) := by subst hK; exact mt_index
end
theorem pf0 : ([] : List (Str × V)).length ≤ 0 := Nat.le_refl _
theorem pfS {f : Str} {v : V} {fs : List (Str × V)} {n : Nat} (h : fs.length ≤ n) : (putF f v fs).length ≤ n + 1 := Nat.le_trans (length_putF f v fs) (Nat.add_le_add_right h 1)
theorem pfL {fs : List (Str × V)} {n : Nat} (h : fs.length ≤ n) (hn : n < 1000 := by decide) : fs.length < 1000 := Nat.lt_of_le_of_lt h hn
end J

/-! J3: what the rules in union give; loops, comprehensions, calls. -/
namespace J
open PySem PySem.Spec L2 Evl
section
variable {r : Rs} {s : L2.St} {S S' H : Hp} {ta tb tc te : TE} {t u : TT} {tt : TT} {x y z v : V} {R R' : V → Hp → Prop} {K : PySem.W.Frag}
/-! ### operators -/
theorem rs_add {i j : Int} : RVS (rAddU K) (.int i) (.int j) S (.int (i + j)) := fun H _ Q q => .inl (.inl ⟨i, j, rfl, rfl, q⟩)
theorem rs_adds {i j : Str} (h : i.length + j.length ≤ sizeLine) : RVS (rAddU K) (.str i) (.str j) S (.str (i ++ j)) := fun H _ Q q => .inl (.inr ⟨i, j, rfl, rfl, h, q⟩)
theorem rn_cat {l b : Addr} {xs zs : List V} (h1 : S l = some (.lst xs)) (h2 : S b = some (.lst zs)) (hz : xs.length + zs.length ≤ 100000) : RVN (rAddU K) (.ref l) (.ref b) S (.lst (xs ++ zs)) := fun H e Q q => .inr (.inl ⟨l, b, xs, zs, rfl, rfl, e _ _ h1, e _ _ h2, sz_of hz, q⟩)
theorem rs_sub {i j : Int} : RVS (rI0 fun i j => .int (i - j)) (.int i) (.int j) S (.int (i - j)) := rs_I0
theorem rs_mul {i j : Int} (h : CMul i j) : RVS rMulU (.int i) (.int j) S (.int (i * j)) := fun H _ Q q => .inl ⟨i, j, rfl, rfl, h, q⟩
theorem rn_rep {l : Addr} {k : Int} {xs : List V} (h1 : S l = some (.lst xs)) (h2 : 0 ≤ k ∧ k ≤ 100000) (hz : xs.length * k.toNat ≤ 100000) : RVN rMulU (.ref l) (.int k) S (.lst (List.replicate k.toNat xs).flatten) := fun H e Q q => .inr ⟨l, k, xs, rfl, rfl, e _ _ h1, by omega, by omega, sz_of hz, q⟩
theorem rs_eq' (h : scal x y = true) : RVS (rEqU K) x y S (.bl (decide (x = y))) := fun H _ Q q => .inl ⟨h, q⟩
theorem rs_ne' (h : scal x y = true) : RVS (rNeU K) x y S (.bl (!decide (x = y))) := fun H _ Q q => .inl ⟨h, q⟩
theorem rs_eqI {i j : Int} : RVS (rEqU K) (.int i) (.int j) S (.bl (decide (i = j))) := fun H _ Q q => .inl ⟨rfl, by
  have e : decide (V.int i = V.int j) = decide (i = j) := by simp
  rw [e]
  exact q⟩
theorem rs_neI {i j : Int} : RVS (rNeU K) (.int i) (.int j) S (.bl (!decide (i = j))) := fun H _ Q q => .inl ⟨rfl, by
  have e : decide (V.int i = V.int j) = decide (i = j) := by simp
  rw [e]
  exact q⟩
theorem rs_eqS {i j : Str} : RVS (rEqU K) (.str i) (.str j) S (.bl (decide (i = j))) := fun H _ Q q => .inl ⟨rfl, by
  have e : decide (V.str i = V.str j) = decide (i = j) := by simp
  rw [e]
  exact q⟩
theorem rs_neS {i j : Str} : RVS (rNeU K) (.str i) (.str j) S (.bl (!decide (i = j))) := fun H _ Q q => .inl ⟨rfl, by
  have e : decide (V.str i = V.str j) = decide (i = j) := by simp
  rw [e]
  exact q⟩
theorem rs_eqd {d e : PyData} (h1 : Dp K S x d) (h2 : Dp K S y e) (s1 : SeqAt.shaped d = true) (s2 : SeqAt.shaped e = true) : RVS (rEqU K) x y S (.bl (PyData.eqv d e)) := fun H ex Q q => .inr ⟨d, e, dp_up ex _ _ h1, dp_up ex _ _ h2, s1, s2, q⟩
theorem rs_ned {d e : PyData} (h1 : Dp K S x d) (h2 : Dp K S y e) (s1 : SeqAt.shaped d = true) (s2 : SeqAt.shaped e = true) : RVS (rNeU K) x y S (.bl (!PyData.eqv d e)) := fun H ex Q q => .inr ⟨d, e, dp_up ex _ _ h1, dp_up ex _ _ h2, s1, s2, q⟩
theorem rs_inL' {p : Addr} {xs : List V} (h : SqL K S p xs) (hx : flatV x = true) (ha : xs.all flatV = true) : RVS (rInU K) x (.ref p) S (.bl (inV x xs)) := fun H e Q q => .inl ⟨p, xs, rfl, .inl (ex_l e h), hx, ha, q⟩
theorem rs_inT' {p : Addr} {xs : List V} (h : SqT K S p xs) (hx : flatV x = true) (ha : xs.all flatV = true) : RVS (rInU K) x (.ref p) S (.bl (inV x xs)) := fun H e Q q => .inl ⟨p, xs, rfl, .inr (ex_t e h), hx, ha, q⟩
theorem rs_ninL' {p : Addr} {xs : List V} (h : SqL K S p xs) (hx : flatV x = true) (ha : xs.all flatV = true) : RVS (rNotInU K) x (.ref p) S (.bl (!inV x xs)) := fun H e Q q => .inl ⟨p, xs, rfl, .inl (ex_l e h), hx, ha, q⟩
theorem rs_ninT' {p : Addr} {xs : List V} (h : SqT K S p xs) (hx : flatV x = true) (ha : xs.all flatV = true) : RVS (rNotInU K) x (.ref p) S (.bl (!inV x xs)) := fun H e Q q => .inl ⟨p, xs, rfl, .inr (ex_t e h), hx, ha, q⟩
theorem rs_isN' : RVS rIsU x .non S (.bl (decide (x = .non))) := fun H _ Q q => .inl ⟨rfl, q⟩
theorem rs_notN' : RVS rNotU x .non S (.bl (!decide (x = .non))) := fun H _ Q q => .inl ⟨rfl, q⟩
theorem rs_isB {a b : Bool} : RVS rIsU (.bl a) (.bl b) S (.bl (decide (a = b))) := fun H _ Q q => .inr ⟨a, b, rfl, rfl, q⟩
theorem rs_notB {a b : Bool} : RVS rNotU (.bl a) (.bl b) S (.bl (!decide (a = b))) := fun H _ Q q => .inr ⟨a, b, rfl, rfl, q⟩
theorem rs_ixL' {p : Addr} {xs : List V} {i : Int} (h : SqL K S p xs) (a : atI xs i = some v) : RVS (rIx K) (.ref p) (.int i) S v := fun H e Q q => .inl ⟨p, xs, i, v, rfl, rfl, ex_l e h, a, q⟩
theorem rs_ixT' {p : Addr} {xs : List V} {i : Int} (h : SqT K S p xs) (a : atI xs i = some v) : RVS (rIx K) (.ref p) (.int i) S v := fun H e Q q => .inr (.inl ⟨p, xs, i, v, rfl, rfl, ex_t e h, a, q⟩)
theorem ru_neg' {i : Int} : RUS (rU fun i => .int (-i)) (.int i) S (.int (-i)) := fun H _ Q q => ⟨i, rfl, q⟩
/-! ### built-ins -/
theorem rc_lenL {p : Addr} {xs : List V} (h : SqL K S p xs) : RCS (rLenU K) [.ref p] S (.int (xs.length : Int)) := fun H e Q q => .inl ⟨_, _, rfl, .inl ⟨xs, ex_l e h, rfl⟩, q⟩
theorem rc_lenT {p : Addr} {xs : List V} (h : SqT K S p xs) : RCS (rLenU K) [.ref p] S (.int (xs.length : Int)) := fun H e Q q => .inl ⟨_, _, rfl, .inr ⟨xs, ex_t e h, rfl⟩, q⟩
theorem rc_lenS {z : Str} (h : z.length ≤ 100000) : RCS (rLenU K) [.str z] S (.int (z.length : Int)) := fun H e Q q => .inl ⟨_, _, rfl, ⟨sz_of h, rfl⟩, q⟩
theorem rc_abs {i : Int} : RCS (fun xs H Q => ∃ i, xs = [V.int i] ∧ Q (.int (if i < 0 then -i else i)) H) [.int i] S (.int (if i < 0 then -i else i)) := fun H e Q q => ⟨i, rfl, q⟩
theorem rc_int {i : Int} : RCS (fun xs H Q => (∃ i, xs = [V.int i] ∧ Q (.int i) H) ∨ ∃ k, xs = [V.bl k] ∧ Q (.int (if k then 1 else 0)) H) [.int i] S (.int i) := fun H e Q q => .inl ⟨i, rfl, q⟩
theorem rc_intB {k : Bool} : RCS (fun xs H Q => (∃ i, xs = [V.int i] ∧ Q (.int i) H) ∨ ∃ k, xs = [V.bl k] ∧ Q (.int (if k then 1 else 0)) H) [.bl k] S (.int (if k then 1 else 0)) := fun H e Q q => .inr ⟨k, rfl, q⟩
theorem rc_str {i : Int} (h : i.natAbs.log2 < 1920) : RCS rStrI [.int i] S (.str (toString i)) := fun H e Q q => ⟨i, rfl, h, q⟩
theorem rc_max2 {i j : Int} : RCS (rMaxU K) [.int i, .int j] S (.int (if j > i then j else i)) := fun H e Q q => .inl ⟨i, j, rfl, q⟩
theorem rc_min2 {i j : Int} : RCS (rMinU K) [.int i, .int j] S (.int (if j < i then j else i)) := fun H e Q q => .inl ⟨i, j, rfl, q⟩
theorem rc_all {a : Addr} {bs : List Bool} (h : SqL K S a (bs.map V.bl)) : RCS (rAll K) [.ref a] S (.bl (bs.all id)) := fun H e Q q => ⟨a, bs, rfl, ex_l e h, q⟩
theorem rc_any {a : Addr} {bs : List Bool} (h : SqL K S a (bs.map V.bl)) : RCS (rAny K) [.ref a] S (.bl (bs.any id)) := fun H e Q q => ⟨a, bs, rfl, ex_l e h, q⟩
theorem rc_sum {a : Addr} {ns : List Int} (h : SqL K S a (ns.map V.int)) : RCS (rSum K) [.ref a] S (.int ns.sum) := fun H e Q q => ⟨a, ns, rfl, ex_l e h, q⟩
/-! ### isinstance -/
theorem ex_tyof {x : V} {ty : Value} (e : Ex S S') (h : TyOf K S x ty) : TyOf K S' x ty := by
  cases h with
  | non => exact .non
  | bl b => exact .bl b
  | int i => exact .int i
  | str z => exact .str z
  | flt f => exact .flt f
  | lst h => exact .lst (e _ _ h)
  | frz h => exact .frz (e _ _ h)
  | tup h => exact .tup (e _ _ h)
  | dK h => exact .dK (e _ _ h)
  | dT h => exact .dT (e _ _ h)
  | ins h a b c d f => exact .ins (e _ _ h) a b c d f
theorem ex_tyx {x : V} {ty : Value} (e : Ex S S') (h : TyX K S x ty) : TyX K S' x ty := by
  cases h with
  | base h => exact .base (ex_tyof e h)
  | byt b => exact .byt b
  | set h => exact .set (e _ _ h)
  | kList a b => exact .kList a b
  | kTuple a b => exact .kTuple a b
  | kDict a b => exact .kDict a b
  | fTuple h => exact .fTuple (e _ _ h)
  | fDict h => exact .fDict (e _ _ h)
theorem rc_isi {c : V} {ty w : Value} {b : Bool} (k : ClsV c w) (h : TyX K S x ty) (kk : PySem.W.kitOne K ty w = some b) : RCS (rIsiU K) [x, c] S (.bl b) := fun H e Q q => .inl ⟨x, c, ty, w, b, rfl, k, ex_tyx e h, kk, q⟩
/-- isinstance(x, (c1, c2)) with the display -/
theorem rc_isiT {tp : Addr} {cs : List V} {ws : List Value} {ty : Value} {b : Bool} (ht : S tp = some (.tup cs)) (k : Paired ClsV cs ws) (h : TyX K S x ty) (kk : PySem.W.kitAny K ty ws = some b) : RCS (rIsiU K) [x, .ref tp] S (.bl b) := fun H e Q q => .inr ⟨x, tp, cs, ty, ws, b, rfl, e _ _ ht, k, ex_tyx e h, kk, q⟩
theorem vv_isiT {cs : List V} {ws : List Value} {ty : Value} {b : Bool} {tl : TA} (hx : EvV r ta s S x) (hc : EvAV r tl s S cs) (hl : cs.length ≤ 100) (k : Paired ClsV cs ws) (h : TyX K S x ty) (kk : PySem.W.kitAny K ty ws = some b) :
    EvV r (tCB (rIsiU K) (tCons ta (tCons (tTup tl) tNil))) s S (.bl b) :=
  ev_cb (P := fun vs S1 => ∃ tp, vs = [x, .ref tp] ∧ S1 tp = some (.tup cs)) (ea_cons hx fun x' S1 e1 ex => ea_cons ((en_tup (P := fun us _ => us = cs) (EvAS.mono' e1 hc) (fun vs _ e => by
    rw [e]
    omega)).stable (R' := fun v S2 => ∃ tp, v = .ref tp ∧ S2 tp = some (.tup cs)) fun p o S2 _ _ ⟨vs, e2, e3⟩ => ⟨p, rfl, by
    rw [e2, e3]
    exact upd_same⟩) fun y S2 e2 ⟨tp, e3, e4⟩ => (ea_nil.imp' fun us S3 e5 e6 => ⟨tp, by rw [ex, e3, e6], e5 _ _ e4⟩)) fun vs S1 e1 ⟨tp, e2, e3⟩ H eH Q q => by
    rw [e2]
    exact rc_isiT (ty := ty) e3 k (ex_tyx e1 h) kk H eH Q (q _ rfl)
end
end J

/-! J4: what is walked; loops, comprehensions; calls. -/
namespace J
open PySem PySem.Spec L2 Evl
/-- wi walks ys, its items told by X -/
def EvI {α : Type} (r : Rs) (wi : TI) (s : L2.St) (S : Hp) (ys : List α) (X : Rl α) : Prop := ∀ S1 H, Ex S S1 → Wd r S1 H → ∀ R : It → Hp → Prop,
  (∀ (J : It) S2 H2 (G : Hp → Prop) (Y : Nat → Hp → V → Hp → Prop), Wd r S2 H2 → Stp r S1 H S2 H2 → Walk J ys.length G Y → (∀ S' H', Ex S2 S' → Wd r S' H' → G H') →
    (∀ i S' H' v H'', i < ys.length → Ex S2 S' → Wd r S' H' → Y i H' v H'' → ∃ S'' y, ys[i]? = some y ∧ Wd r S'' H'' ∧ Stp r S' H' S'' H'' ∧ X y v S'') → R J H2) → wi s H R
section
variable {r : Rs} {s : L2.St} {S S' H : Hp} {ta tb tc te : TE} {t u : TT} {tt : TT} {x y z v : V} {R R' : V → Hp → Prop} {K : PySem.W.Frag} {α β : Type}
theorem EvI.mono {wi : TI} {ys : List α} {X : Rl α} (e : Ex S S') (h : EvI r wi s S ys X) : EvI r wi s S' ys X := fun S1 H a w R q => h S1 H (e.trans a) w R q
theorem EvI.or1 {wi wj : TI} {ys : List α} {X : Rl α} (h : EvI r wi s S ys X) : EvI r (fun σ H R => wi σ H R ∨ wj σ H R) s S ys X := fun S1 H a w R q => .inl (h S1 H a w R q)
theorem EvI.or2 {wi wj : TI} {ys : List α} {X : Rl α} (h : EvI r wj s S ys X) : EvI r (fun σ H R => wi σ H R ∨ wj σ H R) s S ys X := fun S1 H a w R q => .inr (h S1 H a w R q)
theorem ei_list0 {ys : List α} {X : Rl α} [Mono X] (h : EvS r te s S fun v S1 => ∃ a vs, v = .ref a ∧ SqL K S1 a vs ∧ All2 X S1 ys vs) : EvI r (iList K te) s S ys X := fun S1 H a w R q =>
  h S1 H a w _ fun v S2 H2 w2 s2 ⟨b, vs, e1, e2, e3⟩ => ⟨b, e1, ⟨vs, ex_l w2.ex e2⟩, q (Itl K b) S2 H2 (fun H => SqL K H b vs) (YAt vs) w2 s2 (by
    have wk := walk_list (K := K) (a := b) (xs := vs)
    rw [e3.len] at wk
    exact wk) (fun S' H' e w' => ex_l (e.trans w'.ex) e2) fun i S' H' v H'' hi e w' ⟨e4, e5⟩ => by
      obtain ⟨y, h1, h2⟩ := (e3.up e).get e5
      subst e4
      exact ⟨S', y, h1, w', Stp.refl, h2⟩⟩
theorem ei_list {ys : List α} {X : Rl α} [Mono X] (h : EvS r te s S fun v S1 => LstR X ys v S1) : EvI r (iU K te) s S ys X :=
  EvI.or1 (EvI.or1 (ei_list0 (h.imp fun v S1 _ ⟨a, vs, e1, e2, e3⟩ => ⟨a, vs, e1, SqL.of e2, e3⟩)))
theorem ei_listK {ys : List α} {X : Rl α} [Mono X] (h : EvS r te s S fun v S1 => ∃ a vs, v = .ref a ∧ SqL K S1 a vs ∧ All2 X S1 ys vs) : EvI r (iU K te) s S ys X := EvI.or1 (EvI.or1 (ei_list0 h))
theorem ei_tup {ys : List α} {X : Rl α} [Mono X] (h : EvS r te s S fun v S1 => TupR K X ys v S1) : EvI r (iU K te) s S ys X := EvI.or1 (EvI.or2 fun S1 H a w R q =>
  h S1 H a w _ fun v S2 H2 w2 s2 ⟨b, vs, e1, e2, e3⟩ => ⟨b, e1, ⟨vs, ex_t w2.ex e2⟩, q (Itt K b) S2 H2 (fun H => SqT K H b vs) (YAt vs) w2 s2 (by
    have wk := walk_tup (K := K) (a := b) (xs := vs)
    rw [e3.len] at wk
    exact wk) (fun S' H' e w' => ex_t (e.trans w'.ex) e2) fun i S' H' v H'' hi e w' ⟨e4, e5⟩ => by
      obtain ⟨y, h1, h2⟩ := (e3.up e).get e5
      subst e4
      exact ⟨S', y, h1, w', Stp.refl, h2⟩⟩)
def SignR : Rl Nat := fun c v _ => v = .str ⟨#[c]⟩
instance : Mono SignR := ⟨fun _ h => h⟩
theorem ei_str {z : Str} (h : EvV r te s S (.str z)) : EvI r (iU K te) s S z.cps.toList SignR := EvI.or2 fun S1 H a w R q =>
  h S1 H a w _ fun v S2 H2 w2 s2 e1 => ⟨z, e1, q (Its z) S2 H2 (fun _ => True) (fun i H v H' => H' = H ∧ ∃ c, z.cps[i]? = some c ∧ v = .str ⟨#[c]⟩) w2 s2 (by
    have wk := walk_str (z := z)
    rw [← Array.length_toList] at wk
    exact wk) (fun _ _ _ _ => True.intro) fun i S' H' v H'' hi e w' ⟨e4, c, e5, e6⟩ => by
      subst e4
      exact ⟨S', c, by rw [Array.getElem?_toList]; exact e5, w', Stp.refl, e6⟩⟩
/-- lo, lo + 1, .. -/
def FromR (lo : Int) : Rl Nat := fun i v _ => v = .int (lo + (i : Int))
instance {lo : Int} : Mono (FromR lo) := ⟨fun _ h => h⟩
theorem ei_rg0 {lo : Int} {n : Nat} {R : It → Hp → Prop} {S1 S2 H0 H : Hp} (w : Wd r S2 H) (q : ∀ (J : It) S2 H2 (G : Hp → Prop) (Y : Nat → Hp → V → Hp → Prop), Wd r S2 H2 → Stp r S1 H0 S2 H2 → Walk J (List.range n).length G Y → (∀ S' H', Ex S2 S' → Wd r S' H' → G H') →
    (∀ i S' H' v H'', i < (List.range n).length → Ex S2 S' → Wd r S' H' → Y i H' v H'' → ∃ S'' y, (List.range n)[i]? = some y ∧ Wd r S'' H'' ∧ Stp r S' H' S'' H'' ∧ FromR lo y v S'') → R J H2) (st : Stp r S1 H0 S2 H) : R (Itr lo n) H :=
  q (Itr lo n) S2 H (fun _ => True) (YFn fun i => .int (lo + i)) w st (by
    have wk := walk_range (lo := lo) (n := n)
    rw [← List.length_range (n := n)] at wk
    rw [List.length_range] at wk ⊢
    exact wk) (fun _ _ _ _ => True.intro) fun i S' H' v H'' hi e w' ⟨e4, e5⟩ => by
      subst e4
      rw [List.length_range] at hi
      exact ⟨S', i, by rw [List.getElem?_range hi], w', Stp.refl, e5⟩
theorem ei_range1 {ta : TA} {n : Int} (h : EvAV r ta s S [.int n]) (hn : n ≤ 1000000 ∧ -1000000 ≤ n) : EvI r (iRng1 ta) s S (List.range n.toNat) (FromR 0) := fun S1 H a w R q =>
  h S1 H a w _ fun vs S2 H2 w2 s2 e => ⟨n, e, by omega, by omega, ei_rg0 w2 q s2⟩
theorem ei_range2 {ta : TA} {lo n : Int} (h : EvAV r ta s S [.int lo, .int n]) (hn : n ≤ 1000000 ∧ -1000000 ≤ n ∧ lo ≤ 1000000 ∧ -1000000 ≤ lo) : EvI r (iRng2 ta) s S (List.range (n - lo).toNat) (FromR lo) := fun S1 H a w R q =>
  h S1 H a w _ fun vs S2 H2 w2 s2 e => ⟨lo, n, e, by omega, ei_rg0 w2 q s2⟩
/-- number and item -/
def enumL (ys : List α) : List (Int × α) := ys.zipIdx.map fun p => ((p.2 : Nat), p.1)
theorem enumL_len (ys : List α) : (enumL ys).length = ys.length := by
  unfold enumL
  rw [List.length_map, List.length_zipIdx]
theorem enumL_get {ys : List α} {i : Nat} {y : α} (h : ys[i]? = some y) : (enumL ys)[i]? = some (((i : Nat) : Int), y) := by
  unfold enumL
  rw [List.getElem?_map, List.getElem?_zipIdx, h]
  simp
theorem ei_enum {ta : TA} {ys : List α} {X : Rl α} [Mono X] (h : EvAS r ta s S fun us S1 => ∃ a vs, us = [.ref a] ∧ S1 a = some (.lst vs) ∧ All2 X S1 ys vs) : EvI r (iEnum K ta) s S (enumL ys) (PairR K IntR X) := fun S1 H a w R q =>
  h S1 H a w _ fun us S2 H2 w2 s2 ⟨b, vs, e1, e2, e3⟩ => ⟨b, vs, e1, SqL.of (w2.ex _ _ e2), q (Ite K b) S2 H2 (fun H => SqL K H b vs) (YPair (fun i => some (.int (i : Nat))) (fun i => vs[i]?)) w2 s2 (by
    have wk := walk_enum (K := K) (a := b) (xs := vs)
    rw [e3.len, ← enumL_len ys] at wk
    exact wk) (fun S' H' e w' => SqL.of (w'.ex _ _ (e _ _ e2))) fun i S' H' v H'' hi e w' ⟨T, x, y, e4, e5, e6, e7, e8⟩ => by
      obtain ⟨y', h1, h2⟩ := (e3.up e).get e8
      subst e6
      cases e7
      exact ⟨_, _, enumL_get h1, w'.newS e5, Stp.newS w' e5, T, _, _, e4, SqT.of upd_same, rfl, Mono.up (Ex.new (w'.fresh e5)) h2⟩⟩
theorem zip_get {ys : List α} {zs : List β} {i : Nat} {y : α} {z : β} (h : ys[i]? = some y) (h' : zs[i]? = some z) : (ys.zip zs)[i]? = some (y, z) := by
  rw [List.getElem?_zip_eq_some]
  exact ⟨h, h'⟩
theorem ei_zip {ta : TA} {ys : List α} {zs : List β} {X : Rl α} {X' : Rl β} [Mono X] [Mono X'] (h : EvAS r ta s S fun us S1 => ∃ a b vs ws, us = [.ref a, .ref b] ∧ S1 a = some (.lst vs) ∧ S1 b = some (.lst ws) ∧ All2 X S1 ys vs ∧ All2 X' S1 zs ws) : EvI r (iZip K ta) s S (ys.zip zs) (PairR K X X') := fun S1 H a w R q =>
  h S1 H a w _ fun us S2 H2 w2 s2 ⟨b, c, vs, ws, e1, e2, e2', e3, e3'⟩ => ⟨b, c, vs, ws, e1, SqL.of (w2.ex _ _ e2), SqL.of (w2.ex _ _ e2'), q (Itz K b c) S2 H2 (fun H => SqL K H b vs ∧ SqL K H c ws) (YPair (fun i => vs[i]?) (fun i => ws[i]?)) w2 s2 (walk_zip (K := K) (a := b) (b := c) (xs := vs) (ys := ws) (by
      rw [List.length_zip, e3.len, e3'.len])) (fun S' H' e w' => ⟨SqL.of (w'.ex _ _ (e _ _ e2)), SqL.of (w'.ex _ _ (e _ _ e2'))⟩) fun i S' H' v H'' hi e w' ⟨T, x, y, e4, e5, e6, e7, e8⟩ => by
      obtain ⟨y', h1, h2⟩ := (e3.up e).get e7
      obtain ⟨z', h1', h2'⟩ := (e3'.up e).get e8
      subst e6
      exact ⟨_, _, zip_get h1 h1', w'.newS e5, Stp.newS w' e5, T, _, _, e4, SqT.of upd_same, Mono.up (Ex.new (w'.fresh e5)) h2, Mono.up (Ex.new (w'.fresh e5)) h2'⟩⟩
/-! ### comprehensions -/
theorem en_lc {wi : TI} {g : TG} {vs : List Nat} {ys : List α} {X : Rl α} (f : α → Bool) (gf : α → β) {Yr : Rl β} [Mono Yr] (hi : EvI r wi s S ys X) (hz : ys.length ≤ 100000)
    (hb : ∀ y v S1, Ex S S1 → y ∈ ys → X y v S1 → ∃ s2, wipe s2 vs = wipe s vs ∧ (∀ H k, Ex S1 H → k s2 H → g v (wipe s vs) H k) ∧ EvB r tt s2 S1 (f y) ∧ (f y = true → EvS r te s2 S1 fun u S2 => Yr (gf y) u S2)) :
    EvN r (tLc wi g tt te vs) s S fun o S1 => ∃ ws, o = .lst ws ∧ All2 Yr S1 ((ys.filter f).map gf) ws := fun S1 H a w Q q =>
  hi S1 H a w _ fun J S2 H2 G Y w2 s2 wk hG hY D hD => by
    have hM : D ∉ r.M := w2.notM hD
    refine lc_it wk (fun i H' => ∃ S' ws, Wd r S' H' ∧ Stp r S2 H2 S' H' ∧ S' D = none ∧ H' D = some (.lst ws) ∧ All2 Yr S' (((ys.take i).filter f).map gf) ws)
      ⟨S2, [], w2.new hD, Stp.new hD, w2.fresh hD, upd_same, by
        rw [List.take_zero]
        exact .nil⟩ (fun i H' _ ⟨S', ws, w', s', _⟩ => hG S' H' s'.ex w') ?_ ?_
    · rintro i v H' H'' hlt ⟨S', ws, w', s', n', l', a'⟩ y'
      obtain ⟨S3, y, g1, w3, s3, x3⟩ := hY i S' H' v H'' hlt s'.ex w' y'
      have ey : ys.take (i + 1) = ys.take i ++ [y] := by rw [List.take_add_one, g1]; rfl
      have e3 : Ex S S3 := a.trans (s2.ex.trans (s'.ex.trans s3.ex))
      obtain ⟨sg, hw, hg, hbt, hbe⟩ := hb y v S3 e3 (List.mem_of_getElem? g1) x3
      have l3 : H'' D = some (.lst ws) := s3.kp D _ hM l'
      have n3 : S3 D = none := s3.fr D (ne_none l') n'
      refine hg H'' _ w3.ex ⟨hw, hbt S3 H'' (Ex.refl _) w3 _ fun b S4 H4 w4 s4 eb => ?_⟩
      subst eb
      have l4 : H4 D = some (.lst ws) := s4.kp D _ hM l3
      have n4 : S4 D = none := s4.fr D (ne_none l3) n3
      have s24 : Stp r S2 H2 S4 H4 := s'.trans (s3.trans s4)
      have a4 : All2 Yr S4 (((ys.take i).filter f).map gf) ws := a'.up (s3.ex.trans s4.ex)
      cases hf : f y with
      | true =>
        refine iteT ?_
        refine hbe hf S4 H4 s4.ex w4 _ fun u S5 H5 w5 s5 y5 => ⟨ws, s5.kp D _ hM l4, ?_, S5, ws ++ [u], w5.mut (s5.fr D (ne_none l4) n4) hM (nco_lst (s5.kp D _ hM l4)), (s24.trans s5).mut hD, s5.fr D (ne_none l4) n4, upd_same, ?_⟩
        · have h1 := a4.len
          rw [List.length_map] at h1
          have h2 := List.length_filter_le f (ys.take i)
          rw [List.length_take] at h2
          exact sz_lt (by omega)
        · rw [ey, List.filter_append, List.map_append, List.filter_cons, if_pos hf]
          exact (a4.up s5.ex).append (.cons y5 .nil)
      | false =>
        refine iteF ?_
        refine ⟨S4, ws, w4, s24, n4, l4, ?_⟩
        rw [ey, List.filter_append, List.map_append, List.filter_cons, if_neg (by rw [hf]; decide)]
        show All2 Yr S4 (_ ++ []) ws
        rw [List.append_nil]
        exact a4
    · rintro H' ⟨S', ws, w', s', n', l', a'⟩
      rw [List.take_length] at a'
      have h1 : H D = none := by
        cases e : H D with
        | none => rfl
        | some ob => exact absurd hD (s2.dm D (ne_none e))
      exact q D _ S' H' h1 l' n' w' (s2.trans s') ⟨ws, rfl, a'⟩
/-- the target a name, no test -/
theorem en_lcn {wi : TI} {j : Nat} {vs : List Nat} {ys : List α} {X : Rl α} (gf : α → β) {Yr : Rl β} [Mono Yr] (hi : EvI r wi s S ys X) (hz : ys.length ≤ 100000) (hw : ∀ v, wipe ((wipe s vs).set j (some v)) vs = wipe s vs)
    (hb : ∀ y v S1, Ex S S1 → y ∈ ys → X y v S1 → EvS r te ((wipe s vs).set j (some v)) S1 fun u S2 => Yr (gf y) u S2) :
    EvN r (tLc wi (gName j) tYes te vs) s S fun o S1 => ∃ ws, o = .lst ws ∧ All2 Yr S1 (ys.map gf) ws := by
  have h := en_lc (tt := tYes) (g := gName j) (vs := vs) (te := te) (fun _ => true) gf (Yr := Yr) hi hz fun y v S1 e m x => ⟨(wipe s vs).set j (some v), hw v, fun H k _ h => h, fun S2 H2 _ w2 Q q => q true S2 H2 w2 Stp.refl rfl, fun _ => hb y v S1 e m x⟩
  rw [List.filter_eq_self.mpr (fun _ _ => rfl)] at h
  exact h
/-- the target a name, a test -/
theorem en_lct {wi : TI} {j : Nat} {vs : List Nat} {ys : List α} {X : Rl α} (f : α → Bool) (gf : α → β) {Yr : Rl β} [Mono Yr] (hi : EvI r wi s S ys X) (hz : ys.length ≤ 100000) (hw : ∀ v, wipe ((wipe s vs).set j (some v)) vs = wipe s vs)
    (ht : ∀ y v S1, Ex S S1 → y ∈ ys → X y v S1 → EvB r tt ((wipe s vs).set j (some v)) S1 (f y)) (hb : ∀ y v S1, Ex S S1 → y ∈ ys → f y = true → X y v S1 → EvS r te ((wipe s vs).set j (some v)) S1 fun u S2 => Yr (gf y) u S2) :
    EvN r (tLc wi (gName j) tt te vs) s S fun o S1 => ∃ ws, o = .lst ws ∧ All2 Yr S1 ((ys.filter f).map gf) ws :=
  en_lc f gf hi hz fun y v S1 e m x => ⟨(wipe s vs).set j (some v), hw v, fun H k _ h => h, ht y v S1 e m x, fun hf => hb y v S1 e m hf x⟩
/-- the target a pair of names -/
theorem en_lc2 {γ : Type} {wi : TI} {j1 j2 : Nat} {vs : List Nat} {ys : List (α × γ)} {X : Rl α} {X' : Rl γ} (f : α × γ → Bool) (gf : α × γ → β) {Yr : Rl β} [Mono Yr] (hi : EvI r wi s S ys (PairR K X X')) (hz : ys.length ≤ 100000) (hw : ∀ v v', wipe (((wipe s vs).set j1 (some v)).set j2 (some v')) vs = wipe s vs)
    (ht : ∀ y v v' S1, Ex S S1 → y ∈ ys → X y.1 v S1 → X' y.2 v' S1 → EvB r tt (((wipe s vs).set j1 (some v)).set j2 (some v')) S1 (f y)) (hb : ∀ y v v' S1, Ex S S1 → y ∈ ys → f y = true → X y.1 v S1 → X' y.2 v' S1 → EvS r te (((wipe s vs).set j1 (some v)).set j2 (some v')) S1 fun u S2 => Yr (gf y) u S2) :
    EvN r (tLc wi (gTup K 2 (gCons (gName j1) (gCons (gName j2) gNil))) tt te vs) s S fun o S1 => ∃ ws, o = .lst ws ∧ All2 Yr S1 ((ys.filter f).map gf) ws :=
  en_lc f gf hi hz fun y v S1 e m ⟨b, v1, v2, e1, e2, e3, e4⟩ => ⟨((wipe s vs).set j1 (some v1)).set j2 (some v2), hw v1 v2, fun H k ex h => ⟨b, _, e1, ex_t ex e2, rfl, v1, _, rfl, v2, _, rfl, rfl, h⟩, ht y v1 v2 S1 e m e3 e4, fun hf => hb y v1 v2 S1 e m hf e3 e4⟩
/-- a new list is a list of data -/
theorem EvN.lst {ys : List α} {X : Rl α} [Mono X] (h : EvN r te s S fun o S1 => ∃ ws, o = .lst ws ∧ All2 X S1 ys ws) : EvS r te s S fun v S1 => LstR X ys v S1 :=
  h.stable fun p o S1 _ n ⟨ws, e1, e2⟩ => ⟨p, ws, rfl, by
    rw [e1]
    exact upd_same, e2.up (Ex.new n)⟩
theorem EvN.tup {ys : List α} {X : Rl α} [Mono X] (h : EvN r te s S fun o S1 => ∃ ws, o = .tup ws ∧ All2 X S1 ys ws) : EvS r te s S fun v S1 => TupR K X ys v S1 :=
  h.stable fun p o S1 _ n ⟨ws, e1, e2⟩ => ⟨p, ws, rfl, by
    rw [e1]
    exact SqT.of upd_same, e2.up (Ex.new n)⟩
/-- tuple(a list): a new tuple -/
theorem en_tuple {ta : TA} {ys : List α} {X : Rl α} [Mono X] (h : EvAS r ta s S fun us S1 => ∃ v, us = [v] ∧ LstR X ys v S1) : EvN r (tCB (rTupleU K) ta) s S fun o S1 => ∃ ws, o = .tup ws ∧ All2 X S1 ys ws :=
  en_cb h fun us S1 _ ⟨v, e1, a, vs, e2, e3, e4⟩ H eH Q q => by
    subst e1
    subst e2
    exact ⟨_, rfl, .inl ⟨a, vs, rfl, SqL.of (eH _ _ e3), fun p hp => q p _ hp ⟨vs, rfl, e4⟩⟩⟩
/-- list(a list or a tuple): a new list -/
theorem en_list {ta : TA} {ys : List α} {X : Rl α} [Mono X] (h : EvAS r ta s S fun us S1 => ∃ v, us = [v] ∧ SeqR K X ys v S1) : EvN r (tCB (rListU K) ta) s S fun o S1 => ∃ ws, o = .lst ws ∧ All2 X S1 ys ws :=
  en_cb h fun us S1 _ ⟨v, e1, e2⟩ H eH Q q => by
    subst e1
    rcases e2 with ⟨a, vs, e2, e3, e4⟩ | ⟨a, vs, e2, e3, e4⟩
    · subst e2
      exact ⟨a, vs, rfl, .inl (SqL.of (eH _ _ e3)), fun p hp => q p _ hp ⟨vs, rfl, e4⟩⟩
    · subst e2
      exact ⟨a, vs, rfl, .inr (ex_t eH e3), fun p hp => q p _ hp ⟨vs, rfl, e4⟩⟩
theorem ea_one {P : V → Hp → Prop} (h : EvS r te s S P) : EvAS r (tCons te tNil) s S fun us S1 => ∃ v, us = [v] ∧ P v S1 := fun S1 H a w Q q =>
  h S1 H a w _ fun v S2 H2 w2 s2 p => q _ S2 H2 w2 s2 ⟨v, rfl, p⟩
/-- all, any of a new list of answers -/
theorem vv_all {ta : TE} {bs : List Bool} (h : EvS r ta s S fun v S1 => LstR BoolR bs v S1) : EvV r (tCB (rAll K) (tCons ta tNil)) s S (.bl (bs.all id)) :=
  ev_cb (ea_one h) fun us S1 _ ⟨v, e1, a, vs, e2, e3, e4⟩ H eH Q q => by
    subst e1
    subst e2
    rw [e4.bools] at e3
    exact rc_all (SqL.of e3) H eH Q (q _ rfl)
theorem vv_any {ta : TE} {bs : List Bool} (h : EvS r ta s S fun v S1 => LstR BoolR bs v S1) : EvV r (tCB (rAny K) (tCons ta tNil)) s S (.bl (bs.any id)) :=
  ev_cb (ea_one h) fun us S1 _ ⟨v, e1, a, vs, e2, e3, e4⟩ H eH Q q => by
    subst e1
    subst e2
    rw [e4.bools] at e3
    exact rc_any (SqL.of e3) H eH Q (q _ rfl)
theorem vv_sum {ta : TE} {ns : List Int} (h : EvS r ta s S fun v S1 => LstR IntR ns v S1) : EvV r (tCB (rSum K) (tCons ta tNil)) s S (.int ns.sum) :=
  ev_cb (ea_one h) fun us S1 _ ⟨v, e1, a, vs, e2, e3, e4⟩ H eH Q q => by
    subst e1
    subst e2
    rw [e4.ints] at e3
    exact rc_sum (SqL.of e3) H eH Q (q _ rfl)
theorem vv_len {ta : TE} {ys : List α} {X : Rl α} (h : EvS r ta s S fun v S1 => SeqR K X ys v S1) : EvV r (tCB (rLenU K) (tCons ta tNil)) s S (.int (ys.length : Int)) :=
  ev_cb (ea_one h) fun us S1 _ ⟨v, e1, e2⟩ H eH Q q => by
    subst e1
    rcases e2 with ⟨a, vs, e2, e3, e4⟩ | ⟨a, vs, e2, e3, e4⟩
    · subst e2
      rw [← e4.len] at q
      exact rc_lenL (SqL.of e3) H eH Q (q _ rfl)
    · subst e2
      rw [← e4.len] at q
      exact rc_lenT e3 H eH Q (q _ rfl)
/-- sorted of ints: ascending, the same ones -/
theorem en_sorted {ta : TE} {ns : List Int} (hz : ns.length < 64) (h : EvS r ta s S fun v S1 => LstR IntR ns v S1) : EvN r (tCB (rSortedU K) (tCons ta tNil)) s S fun o S1 => ∃ ms : List Int, o = .lst (ms.map V.int) ∧ ms.Perm ns ∧ ms.Pairwise (· ≤ ·) :=
  en_cb (ea_one h) fun us S1 _ ⟨v, e1, a, vs, e2, e3, e4⟩ H eH Q q => by
    subst e1
    subst e2
    rw [e4.ints] at e3
    exact .inl ⟨a, ns, rfl, SqL.of (eH _ _ e3), hz, fun ms p h1 h2 hp => q p _ hp ⟨ms, rfl, h1, h2⟩⟩
theorem ev_max {ta : TE} {ns : List Int} (hz : 0 < ns.length) (h : EvS r ta s S fun v S1 => LstR IntR ns v S1) : EvS r (tCB (rMaxU K) (tCons ta tNil)) s S fun v _ => ∃ m, v = .int m ∧ m ∈ ns ∧ ∀ y, y ∈ ns → y ≤ m :=
  ev_cb (ea_one h) fun us S1 _ ⟨v, e1, a, vs, e2, e3, e4⟩ H eH Q q => by
    subst e1
    subst e2
    rw [e4.ints] at e3
    exact .inr ⟨a, ns, rfl, SqL.of (eH _ _ e3), hz, fun m h1 h2 => q _ ⟨m, rfl, h1, h2⟩⟩
theorem ev_min {ta : TE} {ns : List Int} (hz : 0 < ns.length) (h : EvS r ta s S fun v S1 => LstR IntR ns v S1) : EvS r (tCB (rMinU K) (tCons ta tNil)) s S fun v _ => ∃ m, v = .int m ∧ m ∈ ns ∧ ∀ y, y ∈ ns → m ≤ y :=
  ev_cb (ea_one h) fun us S1 _ ⟨v, e1, a, vs, e2, e3, e4⟩ H eH Q q => by
    subst e1
    subst e2
    rw [e4.ints] at e3
    exact .inr ⟨a, ns, rfl, SqL.of (eH _ _ e3), hz, fun m h1 h2 => q _ ⟨m, rfl, h1, h2⟩⟩
/-! ### slices -/
theorem en_slice {te : TE} {tl th : TO} {lo hi : Option Int} {a : Addr} {xs : List V} (he : EvV r te s S (.ref a)) (hx : SqL K S a xs) (hl : ∀ H Q, Q lo H → tl s H Q) (hh : ∀ H Q, Q hi H → th s H Q) : EvN r (tSl (rSlU K) te tl th) s S fun o _ => o = .lst (cutV xs lo hi) := fun S1 H e w Q q =>
  he S1 H e w _ fun v S2 H2 w2 s2 ev => by
    subst ev
    refine hl H2 _ (hh H2 _ (.inl (.inl ⟨a, xs, rfl, ex_l ((e.trans s2.ex).trans w2.ex) hx, fun p hp => ?_⟩)))
    have h1 : H p = none := by
      cases e : H p with
      | none => rfl
      | some ob => exact absurd hp (s2.dm p (ne_none e))
    exact q p _ S2 _ h1 upd_same (w2.fresh hp) (w2.new hp) (s2.trans (Stp.new hp)) rfl
/-! ### loops -/
variable {tu tw tz : TS} {D : Ends} {g : TG}
theorem st_for {wi : TI} {ys : List α} {X : Rl α} (hi : EvI r wi s S ys X) (w : Wd r S H)
    (k : ∀ S2 H2, Wd r S2 H2 → Stp r S H S2 H2 → ∃ P : Nat → L2.St → Hp → Hp → Prop, P 0 s S2 H2 ∧ (∀ i s' S' H', P i s' S' H' → Wd r S' H' ∧ Ex S2 S') ∧
      (∀ i y v s' S' H' S3 H3, ys[i]? = some y → P i s' S' H' → Wd r S3 H3 → Stp r S' H' S3 H3 → X y v S3 → g v s' H3 fun s2 H4 => tu { D with nx := fun s H => ∃ S, P (i + 1) s S H, ct := fun s H => ∃ S, P (i + 1) s S H, bk := D.nx } s2 H4) ∧
      (∀ s' S' H', P ys.length s' S' H' → D.nx s' H')) : tFor wi g tu D s H :=
  hi S H (Ex.refl _) w _ fun J S2 H2 G Y w2 s2 wk hG hY => by
    obtain ⟨P, h0, hP, hs, hd⟩ := k S2 H2 w2 s2
    refine for_it wk (fun i s H => ∃ S, P i s S H) ⟨S2, h0⟩ (fun i s' H' _ ⟨S', p⟩ => hG S' H' (hP i s' S' H' p).2 (hP i s' S' H' p).1) ?_ (fun s' H' ⟨S', p⟩ => hd s' S' H' p)
    rintro i v s' H' H'' hlt ⟨S', p⟩ y'
    obtain ⟨w', e'⟩ := hP i s' S' H' p
    obtain ⟨S3, y, g1, w3, s3, x3⟩ := hY i S' H' v H'' hlt e' w' y'
    exact hs i y v s' S' H' S3 H'' g1 p w3 s3 x3
theorem sq_for {wi : TI} {ys : List α} {X : Rl α} (hi : EvI r wi s S ys X) (w : Wd r S H)
    (k : ∀ S2 H2, Wd r S2 H2 → Stp r S H S2 H2 → ∃ P : Nat → L2.St → Hp → Hp → Prop, P 0 s S2 H2 ∧ (∀ i s' S' H', P i s' S' H' → Wd r S' H' ∧ Ex S2 S') ∧
      (∀ i y v s' S' H' S3 H3, ys[i]? = some y → P i s' S' H' → Wd r S3 H3 → Stp r S' H' S3 H3 → X y v S3 → g v s' H3 fun s2 H4 => tu { D with nx := fun s H => ∃ S, P (i + 1) s S H, ct := fun s H => ∃ S, P (i + 1) s S H, bk := tz D } s2 H4) ∧
      (∀ s' S' H', P ys.length s' S' H' → tz D s' H')) : tSeq (tFor wi g tu) tz D s H := st_for (D := { D with nx := tz D }) hi w k
/-! ### calls -/
/-- a def that changes nothing: from a, told by pre, a result told by post -/
def SpP {A : Type} (pre : A → List V → Hp → Prop) (post : A → V → Hp → Prop) : Sp := fun vs H Q _ => ∃ (a : A) (S : Hp), pre a vs S ∧ Ex S H ∧ ∀ v S1 H1, Wd Rs.nil S1 H1 → Stp Rs.nil S H S1 H1 → post a v S1 → Q v H1
theorem Wd.lift {S0 S1 H0 H1 : Hp} (w0 : Wd r S0 H0) (w : Wd Rs.nil S1 H1) (s : Stp Rs.nil S0 H0 S1 H1) : Wd r S1 H1 :=
  ⟨w.ex, r.mono H0 H1 (fun a o _ e => s.kp a o (fun z => by cases z) e) (fun a q e => s.kp a _ (fun z => by cases z) e) w0.inv, fun a ha => s.fr a (r.has H0 w0.inv a ha) (w0.dj a ha)⟩
theorem Stp.lift {S0 S1 H0 H1 : Hp} (s : Stp Rs.nil S0 H0 S1 H1) : Stp r S0 H0 S1 H1 := ⟨s.ex, fun a o _ e => s.kp a o (fun z => by cases z) e, s.fr, s.dm⟩
theorem ev_call {A : Type} {pre : A → List V → Hp → Prop} {post : A → V → Hp → Prop} {E : XK} {dvs : List V} {ta : TA} {P : List V → Hp → Prop} (h : EvAS r ta s S P) (hp : ∀ vs S1, Ex S S1 → P vs S1 → ∃ a, pre a (vs ++ dvs) S1 ∧ ∀ v S2, Ex S1 S2 → post a v S2 → R v S2) : EvS r (tCall (SpP pre post) dvs E ta) s S R := fun S1 H e w Q q =>
  h S1 H e w _ fun vs S2 H2 w2 s2 p => by
    obtain ⟨a, p1, p2⟩ := hp vs S2 (e.trans s2.ex) p
    exact ⟨a, S2, p1, w2.ex, fun v S3 H3 w3 s3 p3 => q v S3 H3 (w2.lift w3 s3) (s2.trans s3.lift) (p2 v S3 s3.ex p3)⟩
theorem vv_call {A : Type} {pre : A → List V → Hp → Prop} {post : A → V → Hp → Prop} {E : XK} {dvs : List V} {ta : TA} {vs : List V} (a : A) (h : EvAV r ta s S vs) (hp : ∀ S1, Ex S S1 → pre a (vs ++ dvs) S1) (hq : ∀ v S2, Ex S S2 → post a v S2 → R v S2) : EvS r (tCall (SpP pre post) dvs E ta) s S R :=
  ev_call h fun us S1 e eu => ⟨a, by
    rw [eu]
    exact hp S1 e, fun v S2 e2 p => hq v S2 (e.trans e2) p⟩
/-- o.f, o.m -/
theorem vv_fld {a C dx : Addr} {fs : List (Str × V)} {f : Str} (h : EvV r ta s S (.ref a)) (ha : S a = some (.ins C dx fs)) (c : Cls K C) (n : NoAttr K C f) (l : fs.lookup f = some v) : EvV r (tFld K ta f) s S v := fun S1 H e w Q q =>
  h S1 H e w _ fun u S2 H2 w2 s2 eu => ⟨a, C, dx, fs, v, eu, w2.ex _ _ (s2.ex _ _ (e _ _ ha)), c, n, l, q v S2 H2 w2 s2 rfl⟩
theorem vv_prop {a C dx : Addr} {fs : List (Str × V)} {f : Str} {E : XK} (h : EvV r ta s S (.ref a)) (ha : S a = some (.ins C dx fs)) (l : fs.lookup f = some v) : EvV r (tProp C (getSp C f) [] E ta) s S v := fun S1 H e w Q q =>
  h S1 H e w _ fun u S2 H2 w2 s2 eu => ⟨a, dx, fs, eu, w2.ex _ _ (s2.ex _ _ (e _ _ ha)), a, dx, fs, v, rfl, w2.ex _ _ (s2.ex _ _ (e _ _ ha)), l, q v S2 H2 w2 s2 rfl⟩
/-- a body's reading from its promise -/
theorem SpP.body {A : Type} {pre : A → List V → Hp → Prop} {post : A → V → Hp → Prop} {vs : List V} {Q : VK} {E : XK} (h : SpP pre post vs H Q E) : ∃ (a : A) (S : Hp), pre a vs S ∧ Wd Rs.nil S H ∧ ∀ v S1 H1, Wd Rs.nil S1 H1 → Stp Rs.nil S H S1 H1 → post a v S1 → Q v H1 := by
  obtain ⟨a, S, h1, h2, h3⟩ := h
  exact ⟨a, S, h1, ⟨h2, True.intro, fun _ z => by cases z⟩, h3⟩
end
end J

/-! J5: classes, numbers. -/
namespace J
open PySem PySem.Spec L2 Evl
/-- what isinstance asks of an own class -/
structure IsCls (K : PySem.W.Frag) (C : Addr) : Prop where
  ha : PySem.W.findIn K (.ref C) "__class__" = some (some (.builtin "object.__class__"))
  hn : PySem.W.specialIn K (.builtin "object.__class__") "__get__" = some (some (.builtin "getset_descriptor.__get__"))
  ht : PySem.W.takesIn K (.builtin "object.__class__") = some true
  hm : PySem.W.mroIn K C (.type "object") = some true
  hk : PySem.W.kitOne K (.ref C) (.ref C) = some true
theorem kit_self {K : PySem.W.Frag} {C : Addr} : PySem.W.kitOne K (.ref C) (.ref C) = some true := by
  unfold PySem.W.kitOne
  rw [if_pos (by simp)]
section
variable {r : Rs} {s : L2.St} {S S' H : Hp} {ta tb tc te : TE} {x y z v : V} {K : PySem.W.Frag}
theorem tyx_ins {a C dx : Addr} {fs : List (Str × V)} (h : S a = some (.ins C dx fs)) (c : Cls K C) (i : IsCls K C) : TyX K S (.ref a) (.ref C) := .base (.ins h c i.ha i.hn i.ht i.hm)
/-- isinstance(x, C) of an instance of C itself -/
theorem vv_isC {a C dx : Addr} {fs : List (Str × V)} (hx : EvV r ta s S (.ref a)) (hc : EvV r tb s S (.ref C)) (h : S a = some (.ins C dx fs)) (c : Cls K C) (i : IsCls K C) : EvV r (tCB (rIsiU K) (tCons ta (tCons tb tNil))) s S (.bl true) :=
  vv_cb (va_cons hx (va_cons hc va_nil)) (rc_isi (.own C) (tyx_ins h c i) i.hk)
/-- isinstance(x, T), built-in types -/
theorem vv_isT {T T' : String} {b : Bool} (hx : EvV r ta s S x) (hc : EvV r tb s S (.ty T')) (h : TyX K S x (.type T)) (k : kitB T T' = some b) : EvV r (tCB (rIsiU K) (tCons ta (tCons tb tNil))) s S (.bl b) :=
  vv_cb (va_cons hx (va_cons hc va_nil)) (rc_isi (.ty T') h (kit_ty k))
/-- isinstance(x, (list, tuple)) of a list or a tuple -/
theorem vv_isLT {α : Type} {ys : List α} {R : Rl α} (hx : EvV r ta s S x) (hc : EvV r tb s S (.ty "list")) (hc' : EvV r tc s S (.ty "tuple")) (h : SeqR K R ys x S) : EvV r (tCB (rIsiU K) (tCons ta (tCons (tTup (tCons tb (tCons tc tNil))) tNil))) s S (.bl true) := by
  rcases h with ⟨a, vs, rfl, h2, _⟩ | ⟨a, vs, rfl, h2, _⟩
  · exact vv_isiT (ty := .type "list") hx (va_cons hc (va_cons hc' va_nil)) (by decide) (.cons (.ty _) (.cons (.ty _) .nil)) (.base (.lst h2)) (kitAny_cons (b := true) (kit_ty (by decide +kernel)) (fun z => nomatch z) fun _ => rfl)
  · refine vv_isiT (ty := .type "tuple") hx (va_cons hc (va_cons hc' va_nil)) (by decide) (.cons (.ty _) (.cons (.ty _) .nil)) ?_ (kitAny_cons (b := false) (kit_ty (by decide +kernel)) (fun _ => kitAny_cons (b := true) (kit_ty (by decide +kernel)) (fun z => nomatch z) fun _ => rfl) fun z => nomatch z)
    rcases h2 with (h2 | ⟨o, h2⟩) | ⟨o, its, n, h1, h2, _⟩
    · exact .base (.tup h2)
    · exact .fTuple h2
    · exact .kTuple h1 h2
end
theorem cdiv {i j : Int} (h : 0 < j) (h2 : j < 10 ^ 100) : CDivW i j := by
  refine wide_div (b := 400) h ?_ (by decide) (by decide)
  have e : (10 : Int) ^ 100 < 2 ^ 400 := by decide
  have e2 : ((2 ^ 400 : Nat) : Int) = (2 : Int) ^ 400 := by norm_cast
  omega
theorem cmul_r {i j : Int} (h : -(2 ^ 64) < j ∧ j < 2 ^ 64) : CMul i j := .inr h
theorem cmul_l {i j : Int} (h : -(2 ^ 64) < i ∧ i < 2 ^ 64) : CMul i j := .inl h
/-- a written number within the bounds -/
theorem digits_len : ∀ (fuel n : Nat) (ds : List Char), (Nat.toDigitsCore 10 fuel n ds).length ≤ fuel + ds.length
  | 0, n, ds => by
    unfold Nat.toDigitsCore
    omega
  | f + 1, n, ds => by
    unfold Nat.toDigitsCore
    dsimp only
    split
    · rw [List.length_cons]
      omega
    · have h := digits_len f (n / 10) (Nat.digitChar (n % 10) :: ds)
      rw [List.length_cons] at h
      omega
end J

/-! J6: objects that are changed; instances made. -/
namespace J
open PySem PySem.Spec L2 Evl
/-- r, and the objects at M -/
def Rs.more (r : Rs) (M : List Addr) : Rs := ⟨M ++ r.M, fun H => r.I H ∧ ∀ a, a ∈ M → H a ≠ none, fun H H' k kc h => ⟨r.mono H H' (fun a o ha e => k a o (List.mem_append_right _ ha) e) kc h.1, fun a ha => by
  cases e : H a with
  | none => exact absurd e (h.2 a ha)
  | some o => exact ne_none (k a o (List.mem_append_left _ ha) e)⟩, fun H h a ha => by
  rcases List.mem_append.mp ha with ha | ha
  · exact h.2 a ha
  · exact r.has H h.1 a ha⟩
abbrev Rs.obj (M : List Addr) : Rs := Rs.nil.more M
section
variable {r : Rs} {S H S1 H1 S2 H2 S0 H0 : Hp} {M : List Addr}
theorem Wd.more (w : Wd r S H) (h : ∀ a, a ∈ M → S a = none ∧ H a ≠ none) : Wd (r.more M) S H :=
  ⟨w.ex, ⟨w.inv, fun a ha => (h a ha).2⟩, fun a ha => (List.mem_append.mp ha).elim (fun z => (h a z).1) (w.dj a)⟩
theorem Wd.less (w : Wd (r.more M) S H) : Wd r S H := ⟨w.ex, w.inv.1, fun a ha => w.dj a (List.mem_append_right _ ha)⟩
theorem Stp.more (s : Stp r S H S1 H1) : Stp (r.more M) S H S1 H1 := ⟨s.ex, fun a o n e => s.kp a o (fun z => n (List.mem_append_right _ z)) e, s.fr, s.dm⟩
/-- what changed was new -/
theorem Stp.drop (s0 : Stp r S0 H0 S H) (s : Stp (r.more M) S H S1 H1) (h : ∀ a, a ∈ M → H0 a = none) : Stp r S0 H0 S1 H1 :=
  ⟨s0.ex.trans s.ex, fun a o n e => s.kp a o (fun z => (List.mem_append.mp z).elim (fun z => absurd (h a z) (ne_none e)) n) (s0.kp a o n e), fun a q e => s.fr a (s0.dm a q) (s0.fr a q e), fun a q => s.dm a (s0.dm a q)⟩
theorem Wd.upd (w : Wd r S H) {a : Addr} {o : HO} (hs : S a = none) (n : a ∉ r.M) (hc : ∀ q, H a ≠ some (LamX.CodeO a q)) : Wd r S (upd H a o) := w.mut hs n hc
theorem Stp.upd1 {a : Addr} {o : HO} (h : H a ≠ none) : Stp (r.more [a]) S H S (upd H a o) :=
  ⟨Ex.refl S, fun b u n e => by
    rw [upd_ne (fun z : b = a => n (List.mem_append_left _ (z ▸ List.mem_singleton.mpr rfl)))]
    exact e, fun _ _ e => e, fun b q => by
    intro z
    by_cases e : b = a
    · rw [e, upd_same] at z
      cases z
    · rw [upd_ne e] at z
      exact q z⟩
theorem Stp.has (s : Stp r S H S1 H1) {a : Addr} (h : H a ≠ none) : H1 a ≠ none := s.dm a h
end
/-- a def that works with what rs a tells: pre and post speak of the stable part and of the heap -/
def SpR {A : Type} (rs : A → Rs) (pre : A → List V → Hp → Hp → Prop) (post : A → V → Hp → Hp → Prop) : Sp := fun vs H Q _ => ∃ (a : A) (S : Hp), pre a vs S H ∧ Wd (rs a) S H ∧ ∀ v S1 H1, Wd (rs a) S1 H1 → Stp (rs a) S H S1 H1 → post a v S1 H1 → Q v H1
/-- an __init__: x has no fields at the beginning, those that fr tells at the end -/
def SpInit {A : Type} (C : Addr) (pre : A → List V → Hp → Prop) (fr : A → List (Str × V) → Hp → Prop) : Sp := fun vs H Q _ => ∃ (a : A) (S : Hp) (x dx : Addr) (us : List V), vs = .ref x :: us ∧ pre a us S ∧ H x = some (.ins C dx []) ∧ S x = none ∧ Wd Rs.nil S H ∧
  ∀ S1 H1 fs, Wd Rs.nil S1 H1 → Stp (Rs.obj [x]) S H S1 H1 → S1 x = none → H1 x = some (.ins C dx fs) → fr a fs S1 → Q .non H1
section
variable {r : Rs} {s : L2.St} {S S' H : Hp} {ta tb tc te : TE} {x y z v : V} {K : PySem.W.Frag} {R : V → Hp → Prop} {tu tw tz : TS} {D : Ends}
theorem en_make {A : Type} {C : Addr} {pre : A → List V → Hp → Prop} {fr : A → List (Str × V) → Hp → Prop} {E : XK} {dvs : List V} {ta : TA} {P : List V → Hp → Prop} {R : HO → Hp → Prop} (h : EvAS r ta s S P)
    (hp : ∀ vs S1, Ex S S1 → P vs S1 → ∃ a, pre a (vs ++ dvs) S1 ∧ ∀ dx fs S2, Ex S1 S2 → fr a fs S2 → R (.ins C dx fs) S2) : EvN r (tMake C (SpInit C pre fr) dvs E ta) s S R := fun S1 H e w Q q =>
  h S1 H e w _ fun vs S2 H2 w2 s2 p x dx hx hdx ne => by
    obtain ⟨a, p1, p2⟩ := hp vs S2 (e.trans s2.ex) p
    have hx1 : (upd H2 dx (.own x)) x = none := by
      rw [upd_ne ne.symm]
      exact hx
    have w3 : Wd r S2 (upd (upd H2 dx (.own x)) x (.ins C dx [])) := (w2.new hdx).new hx1
    have s3 : Stp r S2 H2 S2 (upd (upd H2 dx (.own x)) x (.ins C dx [])) := (Stp.new hdx).trans (Stp.new hx1)
    have h0 : H x = none := by
      cases e : H x with
      | none => rfl
      | some ob => exact absurd hx (s2.dm x (ne_none e))
    have hM : x ∉ r.M := w2.notM hx
    refine ⟨a, S2, x, dx, _, rfl, p1, upd_same, w2.fresh hx, ⟨w3.ex, True.intro, fun b hb => by cases hb⟩, fun S4 H4 fs w4 s4 n4 g4 f4 => ⟨rfl, ?_⟩⟩
    have kp : ∀ b o, b ≠ x → (upd (upd H2 dx (.own x)) x (.ins C dx [])) b = some o → H4 b = some o := fun b o nb eb => s4.kp b o (fun z => (List.mem_append.mp z).elim (fun z => nb (List.mem_singleton.mp z)) (fun z => by cases z)) eb
    refine q x _ S4 H4 h0 g4 n4 ⟨w4.ex, r.mono _ _ (fun b o hb eb => kp b o (fun z => hM (z ▸ hb)) eb) (fun b q eb => kp b _ (fun z => nco_ins upd_same q (z ▸ eb)) eb) w3.inv, fun b hb => s4.fr b (r.has _ w3.inv b hb) (w3.dj b hb)⟩ ?_ (p2 dx fs S4 s4.ex f4)
    refine ⟨s2.ex.trans (s3.ex.trans s4.ex), fun b o nb eb => ?_, fun b hb hs => s4.fr b (s3.dm b (s2.dm b hb)) (s3.fr b (s2.dm b hb) (s2.fr b hb hs)), fun b hb => s4.dm b (s3.dm b (s2.dm b hb))⟩
    exact kp b o (ne_of_none eb h0) (s3.kp b o nb (s2.kp b o nb eb))
/-- a.f = e, a not stable -/
theorem st_fld {C dx a : Addr} {fs : List (Str × V)} {f : Str} (n : a ∉ r.M) (ho : EvV r ta s S (.ref a)) (hv : EvS r te s S R) (w : Wd r S H) (ha : H a = some (.ins C dx fs)) (hs : S a = none) (c : Cls K C) (na : NoAttr K C f) (hl : fs.length < 1000)
    (k : ∀ v S1 H1, Wd r S1 H1 → Stp (r.more [a]) S H S1 H1 → S1 a = none → H1 a = some (.ins C dx (putF f v fs)) → R v S1 → D.nx s H1) : sFld K ta te f D s H :=
  hv S H (Ex.refl _) w _ fun v S1 H1 w1 s1 p => ho S1 H1 s1.ex w1 _ fun u S2 H2 w2 s2 eu => by
    subst eu
    have s12 := s1.trans s2
    have h2 : H2 a = some (.ins C dx fs) := s12.kp a _ n ha
    have n2 : S2 a = none := s12.fr a (ne_none ha) hs
    refine ⟨a, C, dx, fs, rfl, h2, c, na, hl, ?_⟩
    have e2 : R v S1 := p
    exact k v S1 _ ⟨Ex.mut ((s2.ex).trans w2.ex) (s1.fr a (ne_none ha) hs), r.mono H2 _ (fun b o hb e => by
      rw [upd_ne (fun z : b = a => n (z ▸ hb))]
      exact e) (CoK.upd (nco_ins h2)) w2.inv, w1.dj⟩ ⟨s1.ex, fun b o nb e => by
      rw [upd_ne (fun z : b = a => nb (List.mem_append_left _ (z ▸ List.mem_singleton.mpr rfl)))]
      exact s12.kp b o (fun z => nb (List.mem_append_right _ z)) e, s1.fr, fun b hb => by
      intro z
      by_cases e : b = a
      · rw [e, upd_same] at z
        cases z
      · rw [upd_ne e] at z
        exact s12.dm b hb z⟩ (s1.fr a (ne_none ha) hs) upd_same p
theorem sq_fld {C dx a : Addr} {fs : List (Str × V)} {f : Str} (n : a ∉ r.M) (ho : EvV r ta s S (.ref a)) (hv : EvS r te s S R) (w : Wd r S H) (ha : H a = some (.ins C dx fs)) (hs : S a = none) (c : Cls K C) (na : NoAttr K C f) (hl : fs.length < 1000)
    (k : ∀ v S1 H1, Wd r S1 H1 → Stp (r.more [a]) S H S1 H1 → S1 a = none → H1 a = some (.ins C dx (putF f v fs)) → R v S1 → tz D s H1) : tSeq (sFld K ta te f) tz D s H := st_fld (D := { D with nx := tz D }) n ho hv w ha hs c na hl k
/-- a list that is not stable is changed by a method of its own, or by place -/
theorem st_append {l : Addr} {xs : List V} {te ta : TE} (n : l ∉ r.M) (ho : EvV r ta s S (.ref l)) (hv : EvS r te s S R) (w : Wd r S H) (hl : H l = some (.lst xs)) (hs : S l = none) (hz : xs.length < 100000)
    (k : ∀ v S1 H1, Wd r S1 H1 → Stp (r.more [l]) S H S1 H1 → S1 l = none → H1 l = some (.lst (xs ++ [v])) → R v S1 → D.nx s H1) : tDrop (tBM K "list" rAppend ta (tCons te tNil)) D s H :=
  ho S H (Ex.refl _) w _ fun u S1 H1 w1 s1 eu => by
    subst eu
    have h1 : H1 l = some (.lst xs) := s1.kp l _ n hl
    refine ⟨.inl ⟨rfl, _, .inl (.inl h1)⟩, hv S1 H1 s1.ex w1 _ fun v S2 H2 w2 s2 p => ?_⟩
    have s12 := s1.trans s2
    refine ⟨l, xs, v, rfl, rfl, s12.kp l _ n hl, sz_lt hz, ?_⟩
    exact k v S2 _ (w2.mut (s12.fr l (ne_none hl) hs) n (nco_lst (s12.kp l _ n hl))) ((s12.more).trans (Stp.upd1 (s12.dm l (ne_none hl)))) (s12.fr l (ne_none hl) hs) upd_same p
theorem sq_append {l : Addr} {xs : List V} {te ta : TE} (n : l ∉ r.M) (ho : EvV r ta s S (.ref l)) (hv : EvS r te s S R) (w : Wd r S H) (hl : H l = some (.lst xs)) (hs : S l = none) (hz : xs.length < 100000)
    (k : ∀ v S1 H1, Wd r S1 H1 → Stp (r.more [l]) S H S1 H1 → S1 l = none → H1 l = some (.lst (xs ++ [v])) → R v S1 → tz D s H1) : tSeq (tDrop (tBM K "list" rAppend ta (tCons te tNil))) tz D s H := st_append (D := { D with nx := tz D }) n ho hv w hl hs hz k
/-- l[i] = e -/
theorem st_set {l : Addr} {xs : List V} {i : Int} {j : Nat} {te ta ti : TE} (n : l ∉ r.M) (hv : EvS r te s S R) (ho : EvV r ta s S (.ref l)) (hi : EvV r ti s S (.int i)) (w : Wd r S H) (hl : H l = some (.lst xs)) (hs : S l = none) (hj : ixN xs.length i = some j)
    (k : ∀ v S1 H1, Wd r S1 H1 → Stp (r.more [l]) S H S1 H1 → S1 l = none → H1 l = some (.lst (xs.set j v)) → R v S1 → D.nx s H1) : tAsg te (gSub ta ti rSetL) D s H :=
  hv S H (Ex.refl _) w _ fun v S1 H1 w1 s1 p => ho S1 H1 s1.ex w1 _ fun u S2 H2 w2 s2 eu => hi S2 H2 (s1.ex.trans s2.ex) w2 _ fun u' S3 H3 w3 s3 eu' => by
    subst eu
    subst eu'
    have s13 := (s1.trans s2).trans s3
    refine ⟨l, xs, i, j, rfl, rfl, s13.kp l _ n hl, hj, ?_⟩
    refine k v S1 _ ⟨Ex.mut ((s2.ex.trans s3.ex).trans w3.ex) (s1.fr l (ne_none hl) hs), r.mono H3 _ (fun b o hb e => by
      rw [upd_ne (fun z : b = l => n (z ▸ hb))]
      exact e) (CoK.upd (nco_lst (s13.kp l _ n hl))) w3.inv, w1.dj⟩ ⟨s1.ex, fun b o nb e => ?_, s1.fr, fun b hb => ?_⟩ (s1.fr l (ne_none hl) hs) upd_same p
    · rw [upd_ne (fun z : b = l => nb (List.mem_append_left _ (z ▸ List.mem_singleton.mpr rfl)))]
      exact s13.kp b o (fun z => nb (List.mem_append_right _ z)) e
    · intro z
      by_cases e : b = l
      · rw [e, upd_same] at z
        cases z
      · rw [upd_ne e] at z
        exact s13.dm b hb z
theorem sq_set {l : Addr} {xs : List V} {i : Int} {j : Nat} {te ta ti : TE} (n : l ∉ r.M) (hv : EvS r te s S R) (ho : EvV r ta s S (.ref l)) (hi : EvV r ti s S (.int i)) (w : Wd r S H) (hl : H l = some (.lst xs)) (hs : S l = none) (hj : ixN xs.length i = some j)
    (k : ∀ v S1 H1, Wd r S1 H1 → Stp (r.more [l]) S H S1 H1 → S1 l = none → H1 l = some (.lst (xs.set j v)) → R v S1 → tz D s H1) : tSeq (tAsg te (gSub ta ti rSetL)) tz D s H := st_set (D := { D with nx := tz D }) n hv ho hi w hl hs hj k
/-- reading an item of a list that is not stable -/
theorem vu_ix {l : Addr} {xs : List V} {i : Int} {ta ti : TE} (H0 : Hp) : True := True.intro
/-- a call of a def with its own resource, from a resource that is the same -/
theorem ev_callR {A : Type} {rs : A → Rs} {pre : A → List V → Hp → Hp → Prop} {post : A → V → Hp → Hp → Prop} {E : XK} {dvs vs : List V} {ta : TA} (a : A) (hr : rs a = r) (h : EvAV r ta s S vs) (hp : ∀ S1 H1, Ex S S1 → Wd r S1 H1 → pre a (vs ++ dvs) S1 H1) (hq : ∀ v S2 H2, Ex S S2 → Wd r S2 H2 → post a v S2 H2 → R v S2) : EvS r (tCall (SpR rs pre post) dvs E ta) s S R := fun S1 H e w Q q =>
  h S1 H e w _ fun us S2 H2 w2 s2 eu => by
    subst hr
    subst eu
    exact ⟨a, S2, hp S2 H2 (e.trans s2.ex) w2, w2, fun v S3 H3 w3 s3 p3 => q v S3 H3 w3 (s2.trans s3) (hq v S3 H3 (e.trans (s2.ex.trans s3.ex)) w3 p3)⟩
/-- x = o.m(e ..), m changes objects at M that are not stable -/
theorem st_methR {A : Type} {C m : Addr} {mn : Str} {M : List Addr} {pre : A → List V → Hp → Hp → Prop} {post : A → V → Hp → Hp → Prop} {E : XK} {dvs vs : List V} {ta : TA} {i : Nat} {dx o : Addr} {fs : List (Str × V)} {rs : A → Rs} (a : A) (hr : rs a = Rs.obj M) (ho : EvV r te s S (.ref o)) (h : EvAV r ta s S vs) (w : Wd r S H) (no : o ∉ r.M) (hM : ∀ b, b ∈ M → b ∉ r.M ∧ S b = none ∧ H b ≠ none) (hco : ∀ b, b ∈ M → ∀ q, H b ≠ some (LamX.CodeO b q))
    (hx : H o = some (.ins C dx fs)) (hf : fs.lookup mn = none) (hp : ∀ S1 H1, Wd r S1 H1 → Stp r S H S1 H1 → pre a (.ref o :: (vs ++ dvs)) S1 H1)
    (k : ∀ v S1 H1, Wd r S1 H1 → Stp (r.more M) S H S1 H1 → (∀ b, b ∈ M → S1 b = none) → post a v S1 H1 → D.nx (s.set i (some v)) H1) : tAsg (tMeth C mn (SpR rs pre post) dvs E te ta) (gName i) D s H :=
  ho S H (Ex.refl _) w _ fun u S1 H1 w1 s1 eu => by
    subst eu
    refine ⟨o, dx, fs, rfl, s1.kp o _ no hx, hf, h S1 H1 s1.ex w1 _ fun us S2 H2 w2 s2 eu => ?_⟩
    subst eu
    have s12 := s1.trans s2
    have n2 : ∀ b, b ∈ M → S2 b = none ∧ H2 b ≠ none := fun b hb => ⟨s12.fr b (hM b hb).2.2 (hM b hb).2.1, s12.dm b (hM b hb).2.2⟩
    refine ⟨a, S2, hp S2 H2 w2 s12, by
      rw [hr]
      exact Wd.more ⟨w2.ex, True.intro, fun _ z => by cases z⟩ n2, fun v S3 H3 w3 s3 p3 => ?_⟩
    rw [hr] at w3 s3
    have kp : ∀ b o, b ∉ M → H2 b = some o → H3 b = some o := fun b o nb e => s3.kp b o (fun z => (List.mem_append.mp z).elim nb (fun z => by cases z)) e
    refine k v S3 H3 ⟨w3.ex, r.mono H2 H3 (fun b o hb e => kp b o (fun z => (hM b z).1 hb) e) (fun b q e => kp b _ (fun z => by
      obtain ⟨o, ho⟩ := Option.ne_none_iff_exists'.mp (hM b z).2.2
      have z2 := (s12.kp b o (hM b z).1 ho).symm.trans e
      cases z2
      exact hco b z q ho) e) w2.inv, fun b hb => s3.fr b (r.has _ w2.inv b hb) (w2.dj b hb)⟩ ?_ (fun b hb => s3.fr b (n2 b hb).2 (n2 b hb).1) p3
    exact (s12.more).trans ⟨s3.ex, fun b o nb e => kp b o (fun z => nb (List.mem_append_left _ z)) e, s3.fr, s3.dm⟩
end
end J

/-! J7: an object that may change is read for a while. -/
namespace J
open PySem PySem.Spec L2 Evl
def del (l : Addr) (S : Hp) : Hp := fun a => if a = l then none else S a
theorem del_same {l : Addr} {S : Hp} : del l S l = none := if_pos rfl
theorem del_ne {l a : Addr} {S : Hp} (h : a ≠ l) : del l S a = S a := if_neg h
section
variable {r : Rs} {s : L2.St} {S S' H : Hp} {ta tb tc te ti : TE} {t u : TT} {x y z v : V} {K : PySem.W.Frag} {R : V → Hp → Prop} {tu tw tz : TS} {D : Ends} {l : Addr} {o : HO}
theorem Wd.del {S1 H1 : Hp} (w : Wd r S1 H1) : Wd r (del l S1) H1 := ⟨fun a o e => by
  by_cases z : a = l
  · rw [z, del_same] at e
    cases e
  · rw [del_ne z] at e
    exact w.ex a o e, w.inv, fun a ha => by
  by_cases z : a = l
  · rw [z, del_same]
  · rw [del_ne z]
    exact w.dj a ha⟩
theorem Stp.del {S1 H1 : Hp} (s : Stp r (upd S l o) H S1 H1) (sl : S l = none) : Stp r S H (del l S1) H1 :=
  ⟨fun a u e => by
    have z : a ≠ l := ne_of_none e sl
    rw [del_ne z]
    exact s.ex a u (by rw [upd_ne z]; exact e), s.kp, fun a q e => by
    by_cases z : a = l
    · rw [z, del_same]
    · rw [del_ne z]
      exact s.fr a q (by rw [upd_ne z]; exact e), s.dm⟩
theorem borrow (h : EvV r te s (upd S l o) v) (w : Wd r S H) (hl : H l = some o) (n : l ∉ r.M) (sl : S l = none) {Q : VK} (q : ∀ S1 H1, Wd r S1 H1 → Stp r S H S1 H1 → S1 l = none → Q v H1) : te s H Q :=
  h _ H (Ex.refl _) (w.settle hl n) Q fun u S1 H1 w1 s1 e => by
    subst e
    exact q (del l S1) H1 w1.del (s1.del sl) del_same
theorem borrowT {b : Bool} (h : EvB r t s (upd S l o) b) (w : Wd r S H) (hl : H l = some o) (n : l ∉ r.M) (sl : S l = none) {Q : Bool → Hp → Prop} (q : ∀ S1 H1, Wd r S1 H1 → Stp r S H S1 H1 → S1 l = none → Q b H1) : t s H Q :=
  h _ H (Ex.refl _) (w.settle hl n) Q fun u S1 H1 w1 s1 e => by
    subst e
    exact q (del l S1) H1 w1.del (s1.del sl) del_same
theorem sq_asgB {i : Nat} (h : EvV r te s (upd S l o) v) (w : Wd r S H) (hl : H l = some o) (n : l ∉ r.M) (sl : S l = none) (k : ∀ S1 H1, Wd r S1 H1 → Stp r S H S1 H1 → S1 l = none → tz D (s.set i (some v)) H1) : tSeq (tAsg te (gName i)) tz D s H := borrow h w hl n sl k
theorem st_ifB {b : Bool} (h : EvB r t s (upd S l o) b) (w : Wd r S H) (hl : H l = some o) (n : l ∉ r.M) (sl : S l = none) (h1 : b = true → ∀ S1 H1, Wd r S1 H1 → Stp r S H S1 H1 → S1 l = none → tu D s H1) (h2 : b = false → ∀ S1 H1, Wd r S1 H1 → Stp r S H S1 H1 → S1 l = none → tw D s H1) : tIfS t tu tw D s H :=
  borrowT h w hl n sl fun S1 H1 w1 s1 n1 => by
    cases b with
    | true => exact h1 rfl S1 H1 w1 s1 n1
    | false => exact h2 rfl S1 H1 w1 s1 n1
theorem ex_both {S S' : Hp} {l : Addr} {o : HO} (e : Ex S S') : Ex (upd S l o) (upd S' l o) := fun a u q => by
  by_cases z : a = l
  · rw [z, upd_same] at q ⊢
    exact q
  · rw [upd_ne z] at q ⊢
    exact e a u q
/-- l[i] = e, e and i reckoned with l's own items -/
theorem st_setB {xs : List V} {i : Int} {j : Nat} (n : l ∉ r.M) (hv : EvV r te s (upd S l (.lst xs)) v) (ho : EvV r ta s S (.ref l)) (hi : EvV r ti s (upd S l (.lst xs)) (.int i)) (w : Wd r S H) (hl : H l = some (.lst xs)) (sl : S l = none) (hj : ixN xs.length i = some j)
    (k : ∀ S1 H1, Wd r S1 H1 → Stp (r.more [l]) S H S1 H1 → S1 l = none → H1 l = some (.lst (xs.set j v)) → D.nx s H1) : tAsg te (gSub ta ti rSetL) D s H :=
  borrow hv w hl n sl fun S1 H1 w1 s1 n1 => ho S1 H1 s1.ex w1 _ fun u S2 H2 w2 s2 eu => by
    subst eu
    have s12 := s1.trans s2
    have h2 : H2 l = some (.lst xs) := s12.kp l _ n hl
    have n2 : S2 l = none := s2.fr l (ne_none (s1.kp l _ n hl)) n1
    refine borrow (EvS.mono (ex_both s12.ex) hi) w2 h2 n n2 fun S3 H3 w3 s3 n3 => ?_
    have s13 := s12.trans s3
    refine ⟨l, xs, i, j, rfl, rfl, s13.kp l _ n hl, hj, ?_⟩
    exact k S3 _ (w3.mut n3 n (nco_lst (s13.kp l _ n hl))) (s13.more.trans (Stp.upd1 (s13.dm l (ne_none hl)))) n3 upd_same
theorem sq_setB {xs : List V} {i : Int} {j : Nat} (n : l ∉ r.M) (hv : EvV r te s (upd S l (.lst xs)) v) (ho : EvV r ta s S (.ref l)) (hi : EvV r ti s (upd S l (.lst xs)) (.int i)) (w : Wd r S H) (hl : H l = some (.lst xs)) (sl : S l = none) (hj : ixN xs.length i = some j)
    (k : ∀ S1 H1, Wd r S1 H1 → Stp (r.more [l]) S H S1 H1 → S1 l = none → H1 l = some (.lst (xs.set j v)) → tz D s H1) : tSeq (tAsg te (gSub ta ti rSetL)) tz D s H := st_setB (D := { D with nx := tz D }) n hv ho hi w hl sl hj k
theorem sq_methR {A : Type} {C : Addr} {mn : Str} {M : List Addr} {pre : A → List V → Hp → Hp → Prop} {post : A → V → Hp → Hp → Prop} {E : XK} {dvs vs : List V} {ta : TA} {i : Nat} {dx o : Addr} {fs : List (Str × V)} {rs : A → Rs} (a : A) (hr : rs a = Rs.obj M) (ho : EvV r te s S (.ref o)) (h : EvAV r ta s S vs) (w : Wd r S H) (no : o ∉ r.M) (hM : ∀ b, b ∈ M → b ∉ r.M ∧ S b = none ∧ H b ≠ none) (hco : ∀ b, b ∈ M → ∀ q, H b ≠ some (LamX.CodeO b q))
    (hx : H o = some (.ins C dx fs)) (hf : fs.lookup mn = none) (hp : ∀ S1 H1, Wd r S1 H1 → Stp r S H S1 H1 → pre a (.ref o :: (vs ++ dvs)) S1 H1)
    (k : ∀ v S1 H1, Wd r S1 H1 → Stp (r.more M) S H S1 H1 → (∀ b, b ∈ M → S1 b = none) → post a v S1 H1 → tz D (s.set i (some v)) H1) : tSeq (tAsg (tMeth C mn (SpR rs pre post) dvs E te ta) (gName i)) tz D s H := st_methR (m := 0) (D := { D with nx := tz D }) a hr ho h w no hM hco hx hf hp k
theorem seqIx {i n : Nat} (h : i < n) : seqIndex? (i : Int) n = some i := by
  unfold seqIndex?
  have h1 : ¬ ((i : Int) < 0) := by omega
  dsimp only
  rw [if_neg h1, decide_eq_true (show (0 : Int) ≤ (i : Int) by omega), decide_eq_true (show (i : Int) < (n : Int) by omega)]
  rfl
theorem ixN_nat {i n : Nat} (h : i < n) : ixN n (i : Int) = some i := by
  unfold ixN
  rw [if_pos (by omega), if_pos (by omega)]
  rfl
end
end J

/-! J8: lists of new lists; several objects made stable. -/
namespace J
open PySem PySem.Spec L2 Evl
/-- S, and at M what H has -/
noncomputable def sup (M : List Addr) (H S : Hp) : Hp := fun a => if a ∈ M then H a else S a
theorem sup_in {M : List Addr} {H S : Hp} {a : Addr} (h : a ∈ M) : sup M H S a = H a := if_pos h
theorem sup_out {M : List Addr} {H S : Hp} {a : Addr} (h : a ∉ M) : sup M H S a = S a := if_neg h
section
variable {r : Rs} {s : L2.St} {S S' H : Hp} {ta tb tc te ti : TE} {t u : TT} {x y z v : V} {K : PySem.W.Frag} {R : V → Hp → Prop} {tu tw tz : TS} {D : Ends} {l : Addr} {o : HO} {α β : Type}
theorem Wd.settleL (w : Wd r S H) {M : List Addr} (n : ∀ a, a ∈ M → a ∉ r.M) : Wd r (sup M H S) H :=
  ⟨fun a u e => by
    by_cases z : a ∈ M
    · rw [sup_in z] at e
      exact e
    · rw [sup_out z] at e
      exact w.ex a u e, w.inv, fun a ha => by
    have z : a ∉ M := fun z => n a z ha
    rw [sup_out z]
    exact w.dj a ha⟩
theorem ex_sup {M : List Addr} (hs : ∀ a, a ∈ M → S a = none) : Ex S (sup M H S) := fun a u e => by
  have z : a ∉ M := fun z => by
    rw [hs a z] at e
    cases e
  rw [sup_out z]
  exact e
theorem Stp.settleL {S0 H0 : Hp} (s : Stp r S0 H0 S H) {M : List Addr} (h0 : ∀ a, a ∈ M → H0 a = none) (hs : ∀ a, a ∈ M → S a = none) : Stp r S0 H0 (sup M H S) H :=
  ⟨s.ex.trans (ex_sup hs), s.kp, fun a q e => by
    have z : a ∉ M := fun z => q (h0 a z)
    rw [sup_out z]
    exact s.fr a q e, s.dm⟩
theorem pre_none {S H S1 H1 : Hp} (st : Stp r S H S1 H1) {a : Addr} (h : H1 a = none) : H a = none := by
  cases e : H a with
  | none => rfl
  | some o => exact absurd h (st.dm a (ne_none e))
theorem sq_par {i j : Nat} (h : ta s H fun x H1 => tb s H1 fun y H2 => ∃ v w, [x, y] = [v, w] ∧ tz D ((s.set i (some v)).set j (some w)) H2) : tSeq (tPar i j (tCons ta (tCons tb tNil))) tz D s H := h
/-- [[] for x in ys] -/
theorem en_empties {wi : TI} {j : Nat} {vs : List Nat} {ys : List α} {X : Rl α} (hi : EvI r wi s S ys X) (hz : ys.length ≤ 100000) (hw : ∀ v, wipe ((wipe s vs).set j (some v)) vs = wipe s vs) (w : Wd r S H) {Q : VK}
    (q : ∀ (p : Addr) (rs : List Addr) (S2 H2 : Hp), H p = none → H2 p = some (.lst (rs.map V.ref)) → S2 p = none → rs.length = ys.length → rs.Nodup → p ∉ rs → (∀ a, a ∈ rs → H a = none ∧ S2 a = none ∧ H2 a = some (.lst [])) → Wd r S2 H2 → Stp r S H S2 H2 → Q (.ref p) H2) : tLc wi (gName j) tYes (tLst tNil) vs s H Q :=
  hi S H (Ex.refl _) w _ fun J S2 H2 G Y w2 s2 wk hG hY D hD => by
    have hM : D ∉ r.M := w2.notM hD
    have h0 := pre_none s2 hD
    refine lc_it wk (fun i H' => ∃ (S' : Hp) (rs : List Addr), Wd r S' H' ∧ Stp r S H S' H' ∧ Ex S2 S' ∧ S' D = none ∧ H' D = some (.lst (rs.map V.ref)) ∧ rs.length = i ∧ rs.Nodup ∧ D ∉ rs ∧ ∀ a, a ∈ rs → H a = none ∧ S' a = none ∧ H' a = some (.lst []))
      ⟨S2, [], w2.new hD, s2.trans (Stp.new hD), Ex.refl _, w2.fresh hD, upd_same, rfl, List.nodup_nil, by simp, fun a ha => by cases ha⟩ (fun i H' _ ⟨S', rs, w', _, e', _⟩ => hG S' H' e' w') ?_ ?_
    · rintro i v H' H'' hlt ⟨S', rs, w', s', e', n', l', len, nd, nD, al⟩ y'
      obtain ⟨S3, y, g1, w3, s3, x3⟩ := hY i S' H' v H'' hlt e' w' y'
      have l3 : H'' D = some (.lst (rs.map V.ref)) := s3.kp D _ hM l'
      have n3 : S3 D = none := s3.fr D (ne_none l') n'
      have s03 := s'.trans s3
      refine ⟨hw v, ?_⟩
      unfold tYes
      dsimp only
      rw [if_pos rfl]
      refine ⟨Nat.zero_le _, fun p hp => ?_⟩
      have pD : D ≠ p := ne_of_none l3 hp
      have hp0 := pre_none s03 hp
      have al3 : ∀ a, a ∈ rs → H a = none ∧ S3 a = none ∧ H'' a = some (.lst []) := fun a ha => by
        obtain ⟨q1, q2, q3⟩ := al a ha
        have na : a ∉ r.M := fun z => r.has H w.inv a z q1
        exact ⟨q1, s3.fr a (ne_none q3) q2, s3.kp a _ na q3⟩
      refine ⟨rs.map V.ref, by rw [upd_ne pD]; exact l3, ?_, S3, rs ++ [p], (w3.new hp).mut n3 hM (nco_lst (by rw [upd_ne pD]; exact l3)), (s03.trans (Stp.new hp)).mut h0, e'.trans s3.ex, n3, by rw [upd_same, List.map_append]; rfl, by rw [List.length_append, len]; rfl, ?_, ?_, ?_⟩
      · rw [List.length_map, len]
        exact sz_lt (by omega)
      · rw [List.nodup_append]
        refine ⟨nd, by simp, fun a ha b hb => ?_⟩
        rw [List.mem_singleton.mp hb]
        rintro rfl
        rw [(al3 a ha).2.2] at hp
        cases hp
      · rw [List.mem_append, not_or]
        exact ⟨nD, fun z => pD (List.mem_singleton.mp z)⟩
      · intro a ha
        rcases List.mem_append.mp ha with ha | ha
        · obtain ⟨q1, q2, q3⟩ := al3 a ha
          have aD : a ≠ D := fun z => nD (z ▸ ha)
          refine ⟨q1, q2, ?_⟩
          rw [upd_ne aD, upd_ne (ne_of_none q3 hp)]
          exact q3
        · rw [List.mem_singleton.mp ha]
          refine ⟨hp0, w3.fresh hp, ?_⟩
          rw [upd_ne pD.symm, upd_same]
    · rintro H' ⟨S', rs, w', s', e', n', l', len, nd, nD, al⟩
      exact q D rs S' H' h0 l' n' len nd nD al w' s'
end
end J

/-! J9: several objects read for a while; the law's pool. -/
namespace J
open PySem PySem.Spec L2 Evl
noncomputable def delL (M : List Addr) (S : Hp) : Hp := fun a => if a ∈ M then none else S a
theorem delL_in {M : List Addr} {S : Hp} {a : Addr} (h : a ∈ M) : delL M S a = none := if_pos h
theorem delL_out {M : List Addr} {S : Hp} {a : Addr} (h : a ∉ M) : delL M S a = S a := if_neg h
section
variable {r r' : Rs} {s : L2.St} {S S' S1 H H1 : Hp} {ta tb tc te ti : TE} {t u : TT} {x y z v : V} {K : PySem.W.Frag} {R : V → Hp → Prop} {tu tw tz : TS} {D : Ends} {l : Addr} {o : HO} {α β : Type} {M : List Addr}
theorem Wd.toNil (w : Wd r S H) : Wd Rs.nil S H := ⟨w.ex, True.intro, fun _ z => by cases z⟩
theorem Stp.wk (s : Stp r S H S1 H1) (h : ∀ a, a ∈ r.M → a ∈ r'.M) : Stp r' S H S1 H1 := ⟨s.ex, fun a o n e => s.kp a o (fun z => n (h a z)) e, s.fr, s.dm⟩
theorem Wd.delL (w : Wd r S1 H1) : Wd r (delL M S1) H1 := ⟨fun a o e => by
  by_cases z : a ∈ M
  · rw [delL_in z] at e
    cases e
  · rw [delL_out z] at e
    exact w.ex a o e, w.inv, fun a ha => by
  by_cases z : a ∈ M
  · rw [delL_in z]
  · rw [delL_out z]
    exact w.dj a ha⟩
theorem Stp.delL (s : Stp r (sup M H S) H S1 H1) (sl : ∀ a, a ∈ M → S a = none) : Stp r S H (delL M S1) H1 :=
  ⟨fun a u e => by
    have z : a ∉ M := fun z => by
      rw [sl a z] at e
      cases e
    rw [delL_out z]
    exact s.ex a u (by rw [sup_out z]; exact e), s.kp, fun a q e => by
    by_cases z : a ∈ M
    · rw [delL_in z]
    · rw [delL_out z]
      exact s.fr a q (by rw [sup_out z]; exact e), s.dm⟩
/-- the objects at M may change, but not just now -/
def Loc (r : Rs) (M : List Addr) (S H : Hp) : Prop := ∀ a, a ∈ M → a ∉ r.M ∧ S a = none ∧ H a ≠ none
theorem Loc.step (h : Loc r M S H) (s : Stp r S H S1 H1) : Loc r M S1 H1 := fun a ha => ⟨(h a ha).1, s.fr a (h a ha).2.2 (h a ha).2.1, s.dm a (h a ha).2.2⟩
theorem Loc.stepM (h : Loc r M S H) (s : Stp (r.more M) S H S1 H1) : Loc r M S1 H1 := fun a ha => ⟨(h a ha).1, s.fr a (h a ha).2.2 (h a ha).2.1, s.dm a (h a ha).2.2⟩
theorem borrowL (h : EvV r te s (sup M H S) v) (w : Wd r S H) (hM : Loc r M S H) {Q : VK} (q : ∀ S1 H1, Wd r S1 H1 → Stp r S H S1 H1 → Q v H1) : te s H Q :=
  h _ H (Ex.refl _) (w.settleL fun a ha => (hM a ha).1) Q fun u S1 H1 w1 s1 e => by
    subst e
    exact q (J.delL M S1) H1 w1.delL (s1.delL fun a ha => (hM a ha).2.1)
theorem borrowR (h : EvS r te s (sup M H S) fun v _ => R v S) (w : Wd r S H) (hM : Loc r M S H) {Q : VK} (q : ∀ v S1 H1, Wd r S1 H1 → Stp r S H S1 H1 → R v S → Q v H1) : te s H Q :=
  h _ H (Ex.refl _) (w.settleL fun a ha => (hM a ha).1) Q fun u S1 H1 w1 s1 e => q u (J.delL M S1) H1 w1.delL (s1.delL fun a ha => (hM a ha).2.1) e
theorem borrowLT {b : Bool} (h : EvB r t s (sup M H S) b) (w : Wd r S H) (hM : Loc r M S H) {Q : Bool → Hp → Prop} (q : ∀ S1 H1, Wd r S1 H1 → Stp r S H S1 H1 → Q b H1) : t s H Q :=
  h _ H (Ex.refl _) (w.settleL fun a ha => (hM a ha).1) Q fun u S1 H1 w1 s1 e => by
    subst e
    exact q (J.delL M S1) H1 w1.delL (s1.delL fun a ha => (hM a ha).2.1)
theorem sup_mono (e : Stp r S H S1 H1) (hM : Loc r M S H) : Ex (sup M H S) (sup M H1 S1) := fun a u q => by
  by_cases z : a ∈ M
  · rw [sup_in z] at q ⊢
    exact e.kp a u (hM a z).1 q
  · rw [sup_out z] at q ⊢
    exact e.ex a u q
theorem sq_asgL {i : Nat} (M : List Addr) (h : EvV r te s (sup M H S) v) (w : Wd r S H) (hM : Loc r M S H) (k : ∀ S1 H1, Wd r S1 H1 → Stp r S H S1 H1 → tz D (s.set i (some v)) H1) : tSeq (tAsg te (gName i)) tz D s H := borrowL h w hM k
theorem st_asgL {i : Nat} (M : List Addr) (h : EvV r te s (sup M H S) v) (w : Wd r S H) (hM : Loc r M S H) (k : ∀ S1 H1, Wd r S1 H1 → Stp r S H S1 H1 → D.nx (s.set i (some v)) H1) : tAsg te (gName i) D s H := borrowL h w hM k
theorem st_ifL {b : Bool} (M : List Addr) (h : EvB r t s (sup M H S) b) (w : Wd r S H) (hM : Loc r M S H) (h1 : b = true → ∀ S1 H1, Wd r S1 H1 → Stp r S H S1 H1 → tu D s H1) (h2 : b = false → ∀ S1 H1, Wd r S1 H1 → Stp r S H S1 H1 → tw D s H1) : tIfS t tu tw D s H :=
  borrowLT h w hM fun S1 H1 w1 s1 => by
    cases b with
    | true => exact h1 rfl S1 H1 w1 s1
    | false => exact h2 rfl S1 H1 w1 s1
theorem sq_ifL {b : Bool} (M : List Addr) (h : EvB r t s (sup M H S) b) (w : Wd r S H) (hM : Loc r M S H) (h1 : b = true → ∀ S1 H1, Wd r S1 H1 → Stp r S H S1 H1 → tu { D with nx := tz D } s H1) (h2 : b = false → ∀ S1 H1, Wd r S1 H1 → Stp r S H S1 H1 → tw { D with nx := tz D } s H1) : tSeq (tIfS t tu tw) tz D s H := st_ifL (D := { D with nx := tz D }) M h w hM h1 h2
theorem st_retL (M : List Addr) (h : EvV r te s (sup M H S) v) (w : Wd r S H) (hM : Loc r M S H) (k : ∀ S1 H1, Wd r S1 H1 → Stp r S H S1 H1 → D.rt v H1) : tRet te D s H := borrowL h w hM k
/-- l[i] = e, where l is one of M -/
theorem st_setL {xs : List V} {i : Int} {j : Nat} (M : List Addr) (hv : EvV r te s (sup M H S) v) (ho : EvV r ta s (sup M H S) (.ref l)) (hi : EvV r ti s (sup M H S) (.int i)) (w : Wd r S H) (hM : Loc r M S H) (hl : l ∈ M) (hx : H l = some (.lst xs)) (hj : ixN xs.length i = some j)
    (k : ∀ S1 H1, Wd r S1 H1 → Stp (r.more M) S H S1 H1 → H1 l = some (.lst (xs.set j v)) → (∀ a o, a ≠ l → a ∉ r.M → H a = some o → H1 a = some o) → D.nx s H1) : tAsg te (gSub ta ti rSetL) D s H :=
  borrowL hv w hM fun S1 H1 w1 s1 => borrowL (EvS.mono (sup_mono s1 hM) ho) w1 (hM.step s1) fun S2 H2 w2 s2 => by
    have s12 := s1.trans s2
    refine borrowL (EvS.mono (sup_mono s12 hM) hi) w2 (hM.step s12) fun S3 H3 w3 s3 => ?_
    have s13 := s12.trans s3
    have n := (hM l hl).1
    have hx3 := s13.kp l _ n hx
    have n3 := ((hM.step s13) l hl).2.1
    refine ⟨l, xs, i, j, rfl, rfl, hx3, hj, ?_⟩
    refine k S3 _ (w3.mut n3 n (nco_lst hx3)) (s13.more.trans ((Stp.upd1 (r := r) (a := l) (ne_none hx3)).wk fun a ha => ?_)) upd_same (fun a o na nr e => ?_)
    · rcases List.mem_append.mp ha with ha | ha
      · exact List.mem_append_left _ (List.mem_singleton.mp ha ▸ hl)
      · exact List.mem_append_right _ ha
    · rw [upd_ne na]
      exact s13.kp a o nr e
theorem sq_setL {xs : List V} {i : Int} {j : Nat} (M : List Addr) (hv : EvV r te s (sup M H S) v) (ho : EvV r ta s (sup M H S) (.ref l)) (hi : EvV r ti s (sup M H S) (.int i)) (w : Wd r S H) (hM : Loc r M S H) (hl : l ∈ M) (hx : H l = some (.lst xs)) (hj : ixN xs.length i = some j)
    (k : ∀ S1 H1, Wd r S1 H1 → Stp (r.more M) S H S1 H1 → H1 l = some (.lst (xs.set j v)) → (∀ a o, a ≠ l → a ∉ r.M → H a = some o → H1 a = some o) → tz D s H1) : tSeq (tAsg te (gSub ta ti rSetL)) tz D s H := st_setL (D := { D with nx := tz D }) M hv ho hi w hM hl hx hj k
end
/-! ### the pool -/
/-- what stands at p and c: the cells, the place, three numbers -/
structure PoolAt (p c : Addr) (cs : List Int) (pos cnt seed k : Int) (H : Hp) : Prop where
  hp : H p = some (.lst [.ref c, .int pos, .int cnt, .int seed, .int k])
  hc : H c = some (.lst (cs.map V.int))
  h0 : ∀ x, x ∈ cs → 0 ≤ x
  pos0 : 0 ≤ pos
  cnt0 : 0 ≤ cnt
  seed0 : 0 ≤ seed
def PoolI (p c : Addr) (H : Hp) : Prop := ∃ cs pos cnt seed k, PoolAt p c cs pos cnt seed k H
def poolR (p c : Addr) : Rs := ⟨[p, c], PoolI p c, fun H H' k _ ⟨cs, pos, cnt, seed, q, h⟩ => ⟨cs, pos, cnt, seed, q, k p _ (by simp) h.hp, k c _ (by simp) h.hc, h.h0, h.pos0, h.cnt0, h.seed0⟩, fun H ⟨cs, pos, cnt, seed, q, h⟩ a ha => by
  rcases List.mem_cons.mp ha with rfl | ha
  · exact ne_none h.hp
  · rw [List.mem_singleton.mp ha]
    exact ne_none h.hc⟩
theorem PoolAt.ne {p c : Addr} {cs : List Int} {pos cnt seed k : Int} {H : Hp} (h : PoolAt p c cs pos cnt seed k H) : p ≠ c := by
  rintro rfl
  have e := h.hp.symm.trans h.hc
  cases cs with
  | nil => cases e
  | cons x r =>
    injection e with e
    injection e with e
    injection e with e _
    cases e
theorem poolR_nil {p c : Addr} {S H S1 H1 : Hp} (s : Stp (Rs.nil.more [p, c]) S H S1 H1) : Stp (poolR p c) S H S1 H1 := s.wk fun a ha => by
  rcases List.mem_append.mp ha with ha | ha
  · exact ha
  · cases ha
theorem Stp.pool {p c : Addr} {S H S1 H1 : Hp} (s : Stp Rs.nil S H S1 H1) : Stp (Rs.nil.more [p, c]) S H S1 H1 := s.more
end J

/-! J10: data compared; displays, slices, sums of lists told by a relation; results that are only bounded. -/
namespace J
open PySem PySem.Spec L2 Evl
/-! ### relations of data -/
class Dt (K : PySem.W.Frag) {α : Type} [DecidableEq α] (R : Rl α) where
  d : α → PyData
  dp : ∀ {a : α} {v : V} {S : Hp}, R a v S → Dp K S v (d a)
  eqv : ∀ a b : α, PyData.eqv (d a) (d b) = decide (a = b)
  lay : ∀ a : α, (d a).canLay0 = true
  dep : Nat
  dep_le : ∀ a : α, (d a).depth ≤ dep
section
variable {K : PySem.W.Frag}
instance : Dt K IntR where
  d := .int
  dp h := by
    rw [show _ = _ from h]
    exact .int _
  eqv a b := by
    simp only [PyData.eqv]
    exact PySem.W.beq_decide a b
  lay _ := rfl
  dep := 0
  dep_le _ := Nat.le_refl _
instance : Dt K BoolR where
  d := .bool
  dp h := by
    rw [show _ = _ from h]
    exact .bl _
  eqv a b := by
    simp only [PyData.eqv]
    exact PySem.W.beq_decide a b
  lay _ := rfl
  dep := 0
  dep_le _ := Nat.le_refl _
/-- an int or None -/
def OintR : Rl (Option Int) := fun o v _ => v = match o with
  | none => V.non
  | some i => .int i
instance : Mono OintR := ⟨fun _ h => h⟩
instance : Dt K OintR where
  d o := match o with
    | none => .none
    | some i => .int i
  dp {a v S} h := by
    rw [show _ = _ from h]
    cases a with
    | none => exact .non
    | some i => exact .int i
  eqv a b := by
    cases a <;> cases b <;> simp only [PyData.eqv]
    · rfl
    · rfl
    · rfl
    · rename_i i j
      rw [PySem.W.beq_decide i j]
      exact decide_eq_decide.mpr ⟨fun e => by rw [e], fun e => by injection e⟩
  lay a := by cases a <;> rfl
  dep := 0
  dep_le a := by cases a <;> exact Nat.le_refl _
section
variable {α β γ : Type} [DecidableEq α] [DecidableEq β] [DecidableEq γ] {R : Rl α} {R' : Rl β} {R'' : Rl γ}
theorem dt_all [Dt K R] {S : Hp} : ∀ {xs : List α} {vs : List V}, All2 R S xs vs → DpAll K S vs (xs.map (Dt.d K R))
  | _, _, .nil => .nil
  | _, _, .cons h t => .cons (Dt.dp h) (dt_all t)
theorem dt_eqvAll [Dt K R] : ∀ xs ys : List α, PyData.eqvAll (xs.map (Dt.d K R)) (ys.map (Dt.d K R)) = decide (xs = ys)
  | [], [] => by simp only [List.map_nil, PyData.eqvAll, decide_true]
  | [], _ :: _ => by simp [PyData.eqvAll]
  | _ :: _, [] => by simp [PyData.eqvAll]
  | x :: xs, y :: ys => by
    rw [List.map_cons, List.map_cons, PyData.eqvAll, Dt.eqv x y, dt_eqvAll xs ys, ← Bool.decide_and]
    exact decide_eq_decide.mpr (by rw [List.cons.injEq])
theorem dt_layAll [Dt K R] : ∀ xs : List α, PyData.canLayAll0 (xs.map (Dt.d K R)) = true
  | [] => rfl
  | x :: xs => by
    rw [List.map_cons, PyData.canLayAll0, Dt.lay x, dt_layAll xs]
    rfl
theorem dt_depAll [Dt K R] : ∀ xs : List α, PyData.depthAll (xs.map (Dt.d K R)) ≤ Dt.dep K R
  | [] => Nat.zero_le _
  | x :: xs => by
    rw [List.map_cons, PyData.depthAll]
    exact Nat.max_le.mpr ⟨Dt.dep_le x, dt_depAll xs⟩
instance [Dt K R] : Dt K (LstR R) where
  d xs := .list (xs.map (Dt.d K R))
  dp h := by
    obtain ⟨a, vs, e, h1, h2⟩ := h
    subst e
    exact .lst (SqL.of h1) (dt_all h2)
  eqv a b := by
    simp only [PyData.eqv]
    exact dt_eqvAll a b
  lay a := by
    simp only [PyData.canLay0]
    exact dt_layAll a
  dep := Dt.dep K R + 1
  dep_le a := by
    simp only [PyData.depth]
    exact Nat.succ_le_succ (dt_depAll a)
instance [Dt K R] : Dt K (TupR K R) where
  d xs := .tuple (xs.map (Dt.d K R))
  dp h := by
    obtain ⟨a, vs, e, h1, h2⟩ := h
    subst e
    exact .tup h1 (dt_all h2)
  eqv a b := by
    simp only [PyData.eqv]
    exact dt_eqvAll a b
  lay a := by
    simp only [PyData.canLay0]
    exact dt_layAll a
  dep := Dt.dep K R + 1
  dep_le a := by
    simp only [PyData.depth]
    exact Nat.succ_le_succ (dt_depAll a)
instance [Dt K R] [Dt K R'] : Dt K (PairR K R R') where
  d p := .tuple [Dt.d K R p.1, Dt.d K R' p.2]
  dp h := by
    obtain ⟨a, x, y, e, h1, h2, h3⟩ := h
    subst e
    exact .tup h1 (.cons (Dt.dp h2) (.cons (Dt.dp h3) .nil))
  eqv a b := by
    simp only [PyData.eqv, PyData.eqvAll]
    rw [Dt.eqv, Dt.eqv, Bool.and_true, ← Bool.decide_and]
    exact decide_eq_decide.mpr ⟨fun e => Prod.ext e.1 e.2, fun e => by rw [e]; exact ⟨rfl, rfl⟩⟩
  lay a := by
    simp only [PyData.canLay0, PyData.canLayAll0, Dt.lay, Bool.and_self]
  dep := max (Dt.dep K R) (Dt.dep K R') + 1
  dep_le p := by
    simp only [PyData.depth, PyData.depthAll]
    have h1 := Dt.dep_le (K := K) (R := R) p.1
    have h2 := Dt.dep_le (K := K) (R := R') p.2
    omega
instance [Dt K R] [Dt K R'] [Dt K R''] : Dt K (TripR K R R' R'') where
  d p := .tuple [Dt.d K R p.1, Dt.d K R' p.2.1, Dt.d K R'' p.2.2]
  dp h := by
    obtain ⟨a, x, y, z, e, h1, h2, h3, h4⟩ := h
    subst e
    exact .tup h1 (.cons (Dt.dp h2) (.cons (Dt.dp h3) (.cons (Dt.dp h4) .nil)))
  eqv a b := by
    simp only [PyData.eqv, PyData.eqvAll]
    rw [Dt.eqv, Dt.eqv, Dt.eqv, Bool.and_true, ← Bool.decide_and, ← Bool.decide_and]
    exact decide_eq_decide.mpr ⟨fun e => Prod.ext e.1 (Prod.ext e.2.1 e.2.2), fun e => by rw [e]; exact ⟨rfl, rfl, rfl⟩⟩
  lay a := by
    simp only [PyData.canLay0, PyData.canLayAll0, Dt.lay, Bool.and_self]
  dep := max (max (Dt.dep K R) (Dt.dep K R')) (Dt.dep K R'') + 1
  dep_le p := by
    simp only [PyData.depth, PyData.depthAll]
    have h1 := Dt.dep_le (K := K) (R := R) p.1
    have h2 := Dt.dep_le (K := K) (R := R') p.2.1
    have h3 := Dt.dep_le (K := K) (R := R'') p.2.2
    omega
end
section
variable {r : Rs} {s : L2.St} {S S' H : Hp} {ta tb tc te ti : TE} {t u : TT} {tt : TT} {x y z v : V} {α β γ : Type} {R : Rl α} {R' : Rl β} {R'' : Rl γ} {tu tw tz : TS} {D : Ends}
theorem dt_shaped [DecidableEq α] [Dt K R] (h : Dt.dep K R ≤ 64) (a : α) : SeqAt.shaped (Dt.d K R a) = true :=
  Bool.and_eq_true_iff.mpr ⟨Dt.lay a, decide_eq_true (Nat.le_trans (Dt.dep_le a) h)⟩
/-- a == b, a != b of data of one relation -/
theorem rs_eqD [DecidableEq α] [Dt K R] {a b : α} (h1 : R a x S) (h2 : R b y S) (h : Dt.dep K R ≤ 64) : RVS (rEqU K) x y S (.bl (decide (a = b))) := by
  rw [← Dt.eqv (K := K) (R := R)]
  exact rs_eqd (Dt.dp h1) (Dt.dp h2) (dt_shaped h a) (dt_shaped h b)
theorem rs_neD [DecidableEq α] [Dt K R] {a b : α} (h1 : R a x S) (h2 : R b y S) (h : Dt.dep K R ≤ 64) : RVS (rNeU K) x y S (.bl (!decide (a = b))) := by
  rw [← Dt.eqv (K := K) (R := R)]
  exact rs_ned (Dt.dp h1) (Dt.dp h2) (dt_shaped h a) (dt_shaped h b)
theorem vv_eqD [DecidableEq α] [Dt K R] [Mono R] {a b : α} (h1 : EvS r ta s S fun v S1 => R a v S1) (h2 : ∀ S1, Ex S S1 → EvS r tb s S1 fun v S2 => R b v S2) (h : Dt.dep K R ≤ 64 := by exact Nat.le_of_ble_eq_true rfl) : EvV r (tOp (rEqU K) ta tb) s S (.bl (decide (a = b))) :=
  ev_op2 h1 (fun _ S1 e _ => h2 S1 e) fun x y S1 S2 _ hx e hy => ⟨_, rs_eqD (Mono.up e hx) hy h, rfl⟩
theorem vv_neD [DecidableEq α] [Dt K R] [Mono R] {a b : α} (h1 : EvS r ta s S fun v S1 => R a v S1) (h2 : ∀ S1, Ex S S1 → EvS r tb s S1 fun v S2 => R b v S2) (h : Dt.dep K R ≤ 64 := by exact Nat.le_of_ble_eq_true rfl) : EvV r (tOp (rNeU K) ta tb) s S (.bl (!decide (a = b))) :=
  ev_op2 h1 (fun _ S1 e _ => h2 S1 e) fun x y S1 S2 _ hx e hy => ⟨_, rs_neD (Mono.up e hx) hy h, rfl⟩
/-! ### displays -/
theorem ev_nilL : EvS r (tLst tNil) s S fun v S1 => LstR R [] v S1 := fun S1 H e w Q q => ⟨by decide, fun p hp => q (.ref p) (upd S1 p (.lst [])) _ (w.newS hp) (Stp.newS w hp) ⟨p, [], rfl, upd_same, .nil⟩⟩
theorem ea_all {P : V → Hp → Prop} (h : EvS r ta s S P) {tr : TA} {P2 : List V → Hp → Prop} (hr : ∀ S1, Ex S S1 → EvAS r tr s S1 P2) (m : ∀ v S1 S2, Ex S1 S2 → P v S1 → P v S2) : EvAS r (tCons ta tr) s S fun us S1 => ∃ v vs, us = v :: vs ∧ P v S1 ∧ P2 vs S1 := fun S1 H e w Q q =>
  h S1 H e w _ fun x' S2 H2 w2 s2 ex => hr S2 (e.trans s2.ex) S2 H2 (Ex.refl _) w2 _ fun vs' S3 H3 w3 s3 ev => q _ S3 H3 w3 (s2.trans s3) ⟨x', vs', rfl, m _ _ _ s3.ex ex, ev⟩
theorem ev_lst1 [Mono R] {a : α} (h : EvS r ta s S fun v S1 => R a v S1) : EvS r (tLst (tCons ta tNil)) s S fun v S1 => LstR R [a] v S1 := fun S1 H e w Q q =>
  h S1 H e w _ fun v S2 H2 w2 s2 hv => ⟨sz_of (show [v].length ≤ 100000 by simp), fun p hp => q (.ref p) (upd S2 p (.lst [v])) _ (w2.newS hp) (s2.trans (Stp.newS w2 hp)) ⟨p, [v], rfl, upd_same, .cons (Mono.up (Ex.new (w2.fresh hp)) hv) .nil⟩⟩
theorem ev_tup1 [Mono R] {a : α} (h : EvS r ta s S fun v S1 => R a v S1) : EvS r (tTup (tCons ta tNil)) s S fun v S1 => TupR K R [a] v S1 := fun S1 H e w Q q =>
  h S1 H e w _ fun v S2 H2 w2 s2 hv => ⟨sz_of (show [v].length ≤ 100000 by simp), fun p hp => q (.ref p) (upd S2 p (.tup [v])) _ (w2.newS hp) (s2.trans (Stp.newS w2 hp)) ⟨p, [v], rfl, SqT.of upd_same, .cons (Mono.up (Ex.new (w2.fresh hp)) hv) .nil⟩⟩
theorem ev_pair [Mono R] [Mono R'] {a : α} {b : β} (h : EvS r ta s S fun v S1 => R a v S1) (h2 : ∀ S1, Ex S S1 → EvS r tb s S1 fun v S2 => R' b v S2) : EvS r (tTup (tCons ta (tCons tb tNil))) s S fun v S1 => PairR K R R' (a, b) v S1 := fun S1 H e w Q q =>
  h S1 H e w _ fun v S2 H2 w2 s2 hv => h2 S2 (e.trans s2.ex) S2 H2 (Ex.refl _) w2 _ fun v' S3 H3 w3 s3 hv' => ⟨sz_of (show [v, v'].length ≤ 100000 by simp), fun p hp => q (.ref p) (upd S3 p (.tup [v, v'])) _ (w3.newS hp) ((s2.trans s3).trans (Stp.newS w3 hp)) ⟨p, v, v', rfl, SqT.of upd_same, Mono.up (Ex.new (w3.fresh hp)) (Mono.up s3.ex hv), Mono.up (Ex.new (w3.fresh hp)) hv'⟩⟩
theorem ev_trip [Mono R] [Mono R'] [Mono R''] {a : α} {b : β} {c : γ} (h : EvS r ta s S fun v S1 => R a v S1) (h2 : ∀ S1, Ex S S1 → EvS r tb s S1 fun v S2 => R' b v S2) (h3 : ∀ S1, Ex S S1 → EvS r tc s S1 fun v S2 => R'' c v S2) : EvS r (tTup (tCons ta (tCons tb (tCons tc tNil)))) s S fun v S1 => TripR K R R' R'' (a, b, c) v S1 := fun S1 H e w Q q =>
  h S1 H e w _ fun v S2 H2 w2 s2 hv => h2 S2 (e.trans s2.ex) S2 H2 (Ex.refl _) w2 _ fun v' S3 H3 w3 s3 hv' => h3 S3 (e.trans (s2.ex.trans s3.ex)) S3 H3 (Ex.refl _) w3 _ fun v'' S4 H4 w4 s4 hv'' => ⟨sz_of (show [v, v', v''].length ≤ 100000 by simp), fun p hp => q (.ref p) (upd S4 p (.tup [v, v', v''])) _ (w4.newS hp) (((s2.trans s3).trans s4).trans (Stp.newS w4 hp)) ⟨p, v, v', v'', rfl, SqT.of upd_same, Mono.up (Ex.new (w4.fresh hp)) (Mono.up s4.ex (Mono.up s3.ex hv)), Mono.up (Ex.new (w4.fresh hp)) (Mono.up s4.ex hv'), Mono.up (Ex.new (w4.fresh hp)) hv''⟩⟩
/-! ### lists told by a relation -/
theorem ev_ixL [Mono R] {xs : List α} {i : Int} {j : Nat} {a : α} (h : EvS r ta s S fun v S1 => LstR R xs v S1) (hi : ∀ S1, Ex S S1 → EvV r ti s S1 (.int i)) (ha : xs[j]? = some a) (e : i = (j : Int)) : EvS r (tOp (rIx K) ta ti) s S fun v S1 => R a v S1 :=
  ev_op2 h (fun _ S1 e _ => hi S1 e) fun x y S1 S2 _ ⟨b, vs, h1, h2, h3⟩ e2 hy => by
    obtain ⟨v, g1, g2⟩ := h3.at ha
    subst h1
    subst hy
    subst e
    exact ⟨v, rs_ixL' (SqL.of (e2 _ _ h2)) (atI_nat g1), Mono.up e2 g2⟩
theorem ev_ixT [Mono R] {xs : List α} {i : Int} {j : Nat} {a : α} (h : EvS r ta s S fun v S1 => TupR K R xs v S1) (hi : ∀ S1, Ex S S1 → EvV r ti s S1 (.int i)) (ha : xs[j]? = some a) (e : i = (j : Int)) : EvS r (tOp (rIx K) ta ti) s S fun v S1 => R a v S1 :=
  ev_op2 h (fun _ S1 e _ => hi S1 e) fun x y S1 S2 _ ⟨b, vs, h1, h2, h3⟩ e2 hy => by
    obtain ⟨v, g1, g2⟩ := h3.at ha
    subst h1
    subst hy
    subst e
    exact ⟨v, rs_ixT' (ex_t e2 h2) (atI_nat g1), Mono.up e2 g2⟩
theorem ev_cat [Mono R] {xs ys : List α} (h : EvS r ta s S fun v S1 => LstR R xs v S1) (h2 : ∀ S1, Ex S S1 → EvS r tb s S1 fun v S2 => LstR R ys v S2) (hz : xs.length + ys.length ≤ 100000) : EvS r (tOp (rAddU K) ta tb) s S fun v S1 => LstR R (xs ++ ys) v S1 :=
  EvN.lst (X := R) (ev_op2N h (fun _ S1 e _ => h2 S1 e) fun x y S1 S2 _ ⟨a, vs, h1, h2, h3⟩ e2 ⟨b, ws, g1, g2, g3⟩ => by
    subst h1
    subst g1
    exact ⟨_, rn_cat (e2 _ _ h2) g2 (by rw [h3.len, g3.len]; exact hz), _, rfl, (h3.up e2).append g3⟩)
theorem All2.flat [Mono R] {xs : List α} {vs : List V} (h : All2 R S xs vs) : ∀ k, All2 R S (List.replicate k xs).flatten (List.replicate k vs).flatten
  | 0 => .nil
  | k + 1 => by
    rw [List.replicate_succ, List.replicate_succ, List.flatten_cons, List.flatten_cons]
    exact h.append (h.flat k)
theorem flat_one {a : α} : ∀ k, (List.replicate k [a]).flatten = List.replicate k a
  | 0 => rfl
  | k + 1 => by
    rw [List.replicate_succ, List.flatten_cons, flat_one k]
    rfl
theorem ev_rep [Mono R] {xs : List α} {k : Int} (h : EvS r ta s S fun v S1 => LstR R xs v S1) (h2 : ∀ S1, Ex S S1 → EvV r tb s S1 (.int k)) (hk : 0 ≤ k ∧ k ≤ 100000) (hz : xs.length * k.toNat ≤ 100000) : EvS r (tOp rMulU ta tb) s S fun v S1 => LstR R (List.replicate k.toNat xs).flatten v S1 :=
  EvN.lst (X := R) (ev_op2N h (fun _ S1 e _ => h2 S1 e) fun x y S1 S2 _ ⟨a, vs, h1, h2, h3⟩ e2 g1 => by
    subst h1
    subst g1
    exact ⟨_, rn_rep (e2 _ _ h2) hk (by rw [h3.len]; exact hz), _, rfl, (h3.up e2).flat _⟩)
theorem ev_rep1 [Mono R] {a : α} {k : Int} (h : EvS r ta s S fun v S1 => R a v S1) (h2 : ∀ S1, Ex S S1 → EvV r tb s S1 (.int k)) (hk : 0 ≤ k ∧ k ≤ 100000) : EvS r (tOp rMulU (tLst (tCons ta tNil)) tb) s S fun v S1 => LstR R (List.replicate k.toNat a) v S1 := by
  have := ev_rep (R := R) (ev_lst1 h) h2 hk (by rw [List.length_singleton]; omega)
  rw [flat_one] at this
  exact this
def cutD (xs : List α) (lo hi : Option Int) : List α := (xs.drop (HT.sIx xs.length 0 lo)).take (HT.sIx xs.length xs.length hi - HT.sIx xs.length 0 lo)
theorem All2.cut [Mono R] {xs : List α} {vs : List V} (h : All2 R S xs vs) (lo hi : Option Int) : All2 R S (cutD xs lo hi) (cutV vs lo hi) := by
  unfold cutD cutV
  rw [h.len]
  exact (h.drop _).take _
theorem cut_take {xs : List α} (k : Nat) : cutD xs none (some (k : Int)) = xs.take k := by
  unfold cutD
  rw [HT.sIx_none, HT.sIx_nat, List.drop_zero, Nat.sub_zero]
  by_cases h : k ≤ xs.length
  · rw [Nat.min_eq_left h]
  · rw [Nat.min_eq_right (by omega), List.take_of_length_le (Nat.le_refl _), List.take_of_length_le (by omega)]
theorem cut_drop {xs : List α} (k : Nat) : cutD xs (some (k : Int)) none = xs.drop k := by
  unfold cutD
  rw [HT.sIx_none, HT.sIx_nat]
  by_cases h : k ≤ xs.length
  · rw [Nat.min_eq_left h, List.take_of_length_le]
    rw [List.length_drop]
    exact Nat.le_refl _
  · rw [Nat.min_eq_right (by omega), Nat.sub_self, List.take_zero, List.drop_eq_nil_of_le (by omega)]
theorem ev_slice [Mono R] {xs : List α} {tl th : TO} {lo hi : Option Int} (h : EvS r te s S fun v S1 => LstR R xs v S1) (hl : ∀ H Q, Q lo H → tl s H Q) (hh : ∀ H Q, Q hi H → th s H Q) : EvS r (tSl (rSlU K) te tl th) s S fun v S1 => LstR R (cutD xs lo hi) v S1 := fun S1 H e w Q q =>
  h S1 H e w _ fun x S2 H2 w2 s2 ⟨a, vs, h1, h2, h3⟩ => by
    have := EvN.lst (X := R) ((en_slice (te := tC (.ref a)) (r := r) (s := s) (S := S2) vv_c (SqL.of (K := K) h2) hl hh).imp fun o S3 e3 eo => ⟨cutV vs lo hi, eo, (h3.cut lo hi).up e3⟩)
    subst h1
    exact this S2 H2 (Ex.refl _) w2 _ fun v S3 H3 w3 s3 p => q v S3 H3 w3 (s2.trans s3) p
instance {γ : Type} : Mono (fun (_ : γ) _ _ => True : Rl γ) := ⟨fun _ _ => True.intro⟩
/-! ### what is only bounded -/
theorem All2.pick {B : α → Prop} {S : Hp} : ∀ {ys : List β} {vs : List V}, All2 (fun (_ : β) v S => ∃ b, B b ∧ R b v S) S ys vs → ∃ zs : List α, zs.length = ys.length ∧ (∀ z, z ∈ zs → B z) ∧ All2 R S zs vs
  | _, _, .nil => ⟨[], rfl, (fun z h => by cases h), .nil⟩
  | _, _, .cons ⟨b, hb, h⟩ t => by
    obtain ⟨zs, h1, h2, h3⟩ := All2.pick t
    refine ⟨b :: zs, by rw [List.length_cons, List.length_cons, h1], fun z hz => ?_, .cons h h3⟩
    rcases List.mem_cons.mp hz with rfl | hz
    · exact hb
    · exact h2 z hz
instance {B : α → Prop} [Mono R] : Mono (fun (_ : β) v S => ∃ b, B b ∧ R b v S : Rl β) := ⟨fun e ⟨b, h1, h2⟩ => ⟨b, h1, Mono.up e h2⟩⟩
/-- a comprehension whose items are only bounded -/
theorem en_lcx [Mono R] {wi : TI} {j : Nat} {vs : List Nat} {ys : List β} {X : Rl β} (B : α → Prop) (hi : EvI r wi s S ys X) (hz : ys.length ≤ 100000) (hw : ∀ v, wipe ((wipe s vs).set j (some v)) vs = wipe s vs)
    (hb : ∀ y v S1, Ex S S1 → y ∈ ys → X y v S1 → EvS r te ((wipe s vs).set j (some v)) S1 fun u S2 => ∃ b, B b ∧ R b u S2) :
    EvN r (tLc wi (gName j) tYes te vs) s S fun o S1 => ∃ zs ws, o = .lst ws ∧ zs.length = ys.length ∧ (∀ z, z ∈ zs → B z) ∧ All2 R S1 zs ws :=
  (en_lcn (Yr := fun (_ : β) v S => ∃ b, B b ∧ R b v S) (fun y => y) hi hz hw hb).imp fun o S1 _ ⟨ws, e, h⟩ => by
    rw [List.map_id'] at h
    obtain ⟨zs, h1, h2, h3⟩ := h.pick
    exact ⟨zs, ws, e, h1, h2, h3⟩
theorem ev_lcx [Mono R] {wi : TI} {j : Nat} {vs : List Nat} {ys : List β} {X : Rl β} (B : α → Prop) (hi : EvI r wi s S ys X) (hz : ys.length ≤ 100000) (hw : ∀ v, wipe ((wipe s vs).set j (some v)) vs = wipe s vs)
    (hb : ∀ y v S1, Ex S S1 → y ∈ ys → X y v S1 → EvS r te ((wipe s vs).set j (some v)) S1 fun u S2 => ∃ b, B b ∧ R b u S2) :
    EvS r (tLc wi (gName j) tYes te vs) s S fun v S1 => ∃ zs, zs.length = ys.length ∧ (∀ z, z ∈ zs → B z) ∧ LstR R zs v S1 :=
  EvN.stable (en_lcx B hi hz hw hb) fun p o S e n0 ⟨zs, ws, eo, hl, hz, h2⟩ => by
    subst eo
    exact ⟨zs, hl, hz, p, ws, rfl, upd_same, h2.up (Ex.new n0)⟩
/-- range(e) of an e that is only bounded -/
theorem lc_rng1 {P : Int → Prop} {g : TG} {vs : List Nat} (h : EvS r te s S fun v _ => ∃ n, v = .int n ∧ P n) (w : Wd r S H) {Q : VK} (k : ∀ n S1 H1, P n → Wd r S1 H1 → Stp r S H S1 H1 → tLc (iRng1 (tCons (tC (.int n)) tNil)) g tt ta vs s H1 Q) : tLc (iRng1 (tCons te tNil)) g tt ta vs s H Q :=
  h S H (Ex.refl _) w _ fun v S1 H1 w1 s1 ⟨n, e, p⟩ => by
    subst e
    exact k n S1 H1 p w1 s1
/-- [e for x in range(n)], n only bounded, the items only bounded -/
theorem ev_lcr [Mono R] {P : Int → Prop} {te0 : TE} {j : Nat} {vs : List Nat} (B : α → Prop) (h : EvS r te0 s S fun v _ => ∃ n, v = .int n ∧ P n) (hP : ∀ n, P n → n ≤ 100000 ∧ -100000 ≤ n) (hw : ∀ v, wipe ((wipe s vs).set j (some v)) vs = wipe s vs)
    (hb : ∀ (i : Nat) S1, Ex S S1 → EvS r te ((wipe s vs).set j (some (.int (i : Int)))) S1 fun u S2 => ∃ b, B b ∧ R b u S2) :
    EvS r (tLc (iRng1 (tCons te0 tNil)) (gName j) tYes te vs) s S fun v S1 => ∃ zs n, P n ∧ zs.length = n.toNat ∧ (∀ z, z ∈ zs → B z) ∧ LstR R zs v S1 := fun S1 H e w Q q =>
  lc_rng1 (EvS.mono e h) w fun n S2 H2 hp w2 s2 => by
    have hn := hP n hp
    exact ev_lcx (S := S2) B (ei_range1 (va_cons vv_c va_nil) (by omega)) (by rw [List.length_range]; omega) hw (fun y v S3 e3 _ hv => by
      rw [show v = _ from hv, Int.zero_add]
      exact hb y S3 (e.trans (s2.ex.trans e3))) S2 H2 (Ex.refl _) w2 Q fun v S3 H3 w3 s3 ⟨zs, h1, h2, h3⟩ => q v S3 H3 w3 (s2.trans s3) ⟨zs, n, hp, by rw [h1, List.length_range], h2, h3⟩
theorem for_rng1 {P : Int → Prop} {g : TG} (h : EvS r te s S fun v _ => ∃ n, v = .int n ∧ P n) (w : Wd r S H) (k : ∀ n S1 H1, P n → Wd r S1 H1 → Stp r S H S1 H1 → tFor (iRng1 (tCons (tC (.int n)) tNil)) g tu D s H1) : tFor (iRng1 (tCons te tNil)) g tu D s H :=
  h S H (Ex.refl _) w _ fun v S1 H1 w1 s1 ⟨n, e, p⟩ => by
    subst e
    exact k n S1 H1 p w1 s1
/-- x, y = (e, e') -/
theorem sq_tup2 {A B : V → Hp → Prop} {i j n : Nat} (hn : n = 2) (h : EvS r ta s S A) (h2 : ∀ S1, Ex S S1 → EvS r tb s S1 B) (m : ∀ v S1 S2, Ex S1 S2 → A v S1 → A v S2) (w : Wd r S H) (k : ∀ v v' S1 H1, Wd r S1 H1 → Stp r S H S1 H1 → A v S1 → B v' S1 → tz D ((s.set i (some v)).set j (some v')) H1) : tSeq (tAsg (tTup (tCons ta (tCons tb tNil))) (gTup K n (gCons (gName i) (gCons (gName j) gNil)))) tz D s H :=
  h S H (Ex.refl _) w _ fun v S2 H2 w2 s2 hv => h2 S2 s2.ex S2 H2 (Ex.refl _) w2 _ fun v' S3 H3 w3 s3 hv' => ⟨sz_of (show [v, v'].length ≤ 100000 by simp), fun p hp => ⟨p, [v, v'], rfl, SqT.of upd_same, hn.symm, v, _, rfl, v', _, rfl, rfl, k v v' S3 _ (w3.new hp) ((s2.trans s3).trans (Stp.new hp)) (m _ _ _ s3.ex hv) hv'⟩⟩
theorem ev_v [Mono R] {i : Nat} {a : α} (h : s[i]? = some (some v)) (p : R a v S) : EvS r (tVar i) s S fun v S1 => R a v S1 := ev_var h p fun S1 e q => Mono.up e q
theorem sq_asgRun {i : Nat} (k : te s H fun v H1 => tz D (s.set i (some v)) H1) : tSeq (tAsg te (gName i)) tz D s H := k
theorem st_ifNo (h : EvB r t s S false) (w : Wd r S H) (k : ∀ S1 H1, Wd r S1 H1 → Stp r S H S1 H1 → D.nx s H1) : tIfS t tu tNext D s H :=
  st_if h w (fun e => nomatch e) fun _ S1 H1 w1 s1 => k S1 H1 w1 s1
/-- an empty list of what failed -/
theorem ev_none {wi : TI} {j : Nat} {vs : List Nat} {ys : List β} {X : Rl β} [Mono R] (hi : EvI r wi s S ys X) (hz : ys.length ≤ 100000) (hw : ∀ v, wipe ((wipe s vs).set j (some v)) vs = wipe s vs)
    (ht : ∀ y v S1, Ex S S1 → y ∈ ys → X y v S1 → EvB r tt ((wipe s vs).set j (some v)) S1 false) : EvS r (tLc wi (gName j) tt te vs) s S fun v S1 => LstR R [] v S1 :=
  EvN.lst (X := R) ((en_lct (fun _ => false) (fun y => y) (Yr := fun (_ : β) _ _ => True) hi hz hw ht fun y v S1 _ _ z => nomatch z).imp fun o S1 _ ⟨ws, e, h⟩ => by
    rw [List.filter_eq_nil_iff.mpr (fun a _ z => by cases z)] at h
    cases h
    exact ⟨[], e, .nil⟩)
/-- x = an expression that is run as it stands -/
theorem sq_run {g : TG} (h : te s H fun v H1 => g v s H1 fun s2 H2 => tz D s2 H2) : tSeq (tAsg te g) tz D s H := h
end
end
end J

/-! J11: ranges as lists, dicts, written constants, zip of tuples, while, instances made by keywords. -/
namespace J
open PySem PySem.Spec L2 Evl RZ
section
variable {r : Rs} {s : L2.St} {S S' H : Hp} {ta tb tc te ti : TE} {t u : TT} {tt : TT} {x y z v : V} {K : PySem.W.Frag} {α β γ : Type} {R : Rl α} {R' : Rl β} {tu tw tz : TS} {D : Ends} {w : World}
/-! ### list(range(..)) -/
def rgI (a b : Int) : List Int := (List.range (b - a).toNat).map fun i : Nat => a + (i : Int)
theorem rgI_V (a b : Int) : rgV a b = (rgI a b).map V.int := by
  unfold rgV rgI
  rw [List.map_map]
  rfl
theorem ev_listRg1 {n : Int} (h : EvV r ta s S (.int n)) (hn : -1000000 ≤ n ∧ n ≤ 1000000) : EvS r (tLstRg (tRg1 ta)) s S fun v S1 => LstR IntR (rgI 0 n) v S1 := fun S1 H e w0 Q q =>
  h S1 H e w0 _ fun x S2 H2 w2 s2 ex => ⟨n, ex, by unfold RgOk; omega, fun p hp => q (.ref p) (upd S2 p (.lst (rgV 0 n))) _ (w2.newS hp) (s2.trans (Stp.newS w2 hp)) ⟨p, _, rfl, upd_same, by rw [rgI_V]; exact All2.of_ints _⟩⟩
theorem ev_listRg2 {a b : Int} (h : EvV r ta s S (.int a)) (h2 : EvV r tb s S (.int b)) (hn : -1000000 ≤ a ∧ a ≤ 1000000 ∧ -1000000 ≤ b ∧ b ≤ 1000000) : EvS r (tLstRg (tRg2 ta tb)) s S fun v S1 => LstR IntR (rgI a b) v S1 := fun S1 H e w0 Q q =>
  h S1 H e w0 _ fun x S2 H2 w2 s2 ex => h2 S2 H2 (e.trans s2.ex) w2 _ fun y S3 H3 w3 s3 ey => ⟨a, b, ex, ey, by unfold RgOk; omega, fun p hp => q (.ref p) (upd S3 p (.lst (rgV a b))) _ (w3.newS hp) ((s2.trans s3).trans (Stp.newS w3 hp)) ⟨p, _, rfl, upd_same, by rw [rgI_V]; exact All2.of_ints _⟩⟩
/-! ### dicts -/
theorem vv_dget {a : Addr} {kvs : List (Key × V)} {k : Key} (h : EvV r ta s S (.ref a)) (hi : EvV r ti s S (kV k)) (ha : S a = some (.dK kvs)) (hk : valV kvs k = some v) : EvV r (tDGet ta ti) s S v := fun S1 H e w0 Q q =>
  h S1 H e w0 _ fun x S2 H2 w2 s2 ex => hi S2 H2 (e.trans s2.ex) w2 _ fun y S3 H3 w3 s3 ey => ⟨a, v, ex, .inl ⟨kvs, k, .inl (w3.ex _ _ (s3.ex _ _ (s2.ex _ _ (e _ _ ha)))), ey, hk.symm⟩, q v S3 H3 w3 (s2.trans s3) rfl⟩
/-- a text's value in a written dict -/
theorem rs_kd {a : Addr} {z : Str} (h : KDct K w a z v) : RVS (rIxD K w) (.ref a) (.str z) S v := fun H _ Q q => ⟨a, z, v, rfl, rfl, h, q⟩
theorem ix_kdK {X : Cx} (hK : X.K = K := by rfl) (hw : X.w = w := by rfl) : IxR X (rIxD K w) := by
  subst hK
  subst hw
  exact ix_kdict
/-! ### in a tuple of data -/
def rInDT (K : PySem.W.Frag) : R2 := fun x y H Q => ∃ d ds, Dp K H x d ∧ Dp K H y (.tuple ds) ∧ SeqAt.shaped d = true ∧ SeqAt.shaped (.tuple ds) = true ∧ Q (.bl (ds.any fun z => PyData.eqv z d)) H
theorem op_inDT {X : Cx} (hu : X.A.units + 65 < cLine) : OpR X (compareOp .In) (rInDT X.K) := by
  intro pins s σ H x y v u Q I rx ry h
  obtain ⟨d, ds, hd, he, sd, se, q⟩ := h
  obtain ⟨as, r1⟩ := Dp.reads I d x v hd rx
  obtain ⟨bs, r2⟩ := Dp.reads I (.tuple ds) y u he ry
  exact SeqAt.in_tuple_reads r2 r1 (by simpa [PyData.canLay0] using SeqAt.canLay_of_shaped se) (SeqAt.canLay_of_shaped sd) (PyProof.Rows.room_in_shaped sd hu) ⟨.bl _, H, I, rfl, q⟩
theorem op_inDTK {X : Cx} (hu : X.A.units + 65 < cLine) (hK : X.K = K := by rfl) : OpR X (compareOp .In) (rInDT K) := by
  subst hK
  exact op_inDT hu
theorem op_inDK {X : Cx} (hu : X.A.units + 65 < cLine) (hK : X.K = K := by rfl) : OpR X (compareOp .In) (rInD K) := by
  subst hK
  exact op_inD hu
theorem op_notInDK {X : Cx} (hu : X.A.units + 65 < cLine) (hK : X.K = K := by rfl) : OpR X (compareOp .NotIn) (rNotInD K) := by
  subst hK
  exact op_notInD hu
theorem units65 {k : Nat} {A : Around} (r : Room k A) : A.units + 65 < cLine := by
  have := r.un
  omega
theorem units1 {k : Nat} {A : Around} (r : Room k A) : A.units + 1 < cLine := by
  have := r.un
  omega
theorem rs_inDT {d : PyData} {ds : List PyData} (h1 : Dp K S x d) (h2 : Dp K S y (.tuple ds)) (s1 : SeqAt.shaped d = true) (s2 : SeqAt.shaped (.tuple ds) = true) : RVS (rInDT K) x y S (.bl (ds.any fun z => PyData.eqv z d)) := fun H ex Q q => ⟨d, ds, dp_up ex _ _ h1, dp_up ex _ _ h2, s1, s2, q⟩
theorem rs_inD {d : PyData} {ds : List PyData} (h1 : Dp K S x d) (h2 : Dp K S y (.list ds)) (s1 : SeqAt.shaped d = true) (s2 : SeqAt.shaped (.list ds) = true) : RVS (rInD K) x y S (.bl (ds.any fun z => PyData.eqv z d)) := fun H ex Q q => ⟨d, ds, dp_up ex _ _ h1, dp_up ex _ _ h2, s1, s2, q⟩
/-! ### zip -/
theorem walk_zipT {a b : Addr} {xs ys : List V} {n : Nat} (hn : n = min xs.length ys.length) : Walk (ItzT K a b) n (fun H => SqT K H a xs ∧ SqT K H b ys) (YPair (fun i => xs[i]?) (fun i => ys[i]?)) := by
  subst hn
  refine ⟨fun i _ hi q => ?_, fun _ q => ⟨xs, ys, q.1, q.2, by omega⟩, fun i H v H' _ q y => ?_⟩
  · have h1 : i < xs.length := by omega
    have h2 : i < ys.length := by omega
    exact ⟨xs, ys, xs[i], ys[i], q.1, q.2, by simp [h1], by simp [h2]⟩
  · obtain ⟨T, x, z, h1, h2, h3, h4, h5⟩ := y
    exact ⟨T, x, z, h1, h2, h3, h4 xs q.1, h5 ys q.2⟩
theorem pi_zipAK {X : Cx} {e e2 : Expr} {ta : TA} {p pos tpos : Pos} {elts : List Expr} {kk : Nat} (hg : Gl X "zip") (hm : X.mg "zip" = none) (ha : PA X [e, e2] ta) (hs : starEach [e, e2] X.env = (false, eval e X.env) :: starEach [e2] X.env := by rfl) (hpl : (backTo pos (starEach [e2] X.env)).any (·.1) = false := by rfl) (hK : X.K = K := by rfl) : PI X (.Tuple elts kk tpos) (.Call (.Name "zip" p) [e, e2] [] pos) (iZipA K ta) := by
  subst hK
  exact pi_zipA hg hm ha hs hpl
theorem ei_zipT {ta : TA} {ys : List α} {zs : List β} {X : Rl α} {X' : Rl β} [Mono X] [Mono X'] (h : EvAS r ta s S fun us S1 => ∃ a b vs ws, us = [.ref a, .ref b] ∧ SqT K S1 a vs ∧ SqT K S1 b ws ∧ All2 X S1 ys vs ∧ All2 X' S1 zs ws) : EvI r (iZipA K ta) s S (ys.zip zs) (PairR K X X') := fun S1 H a w R q =>
  h S1 H a w _ fun us S2 H2 w2 s2 ⟨b, c, vs, ws, e1, e2, e2', e3, e3'⟩ => ⟨b, c, vs, ws, e1, .inr ⟨ex_t w2.ex e2, ex_t w2.ex e2', q (ItzT K b c) S2 H2 (fun H => SqT K H b vs ∧ SqT K H c ws) (YPair (fun i => vs[i]?) (fun i => ws[i]?)) w2 s2 (walk_zipT (K := K) (a := b) (b := c) (xs := vs) (ys := ws) (by
      rw [List.length_zip, e3.len, e3'.len])) (fun S' H' e w' => ⟨ex_t w'.ex (ex_t e e2), ex_t w'.ex (ex_t e e2')⟩) fun i S' H' v H'' hi e w' ⟨T, x, y, e4, e5, e6, e7, e8⟩ => by
      obtain ⟨y', h1, h2⟩ := (e3.up e).get e7
      obtain ⟨z', h1', h2'⟩ := (e3'.up e).get e8
      subst e6
      exact ⟨_, _, zip_get h1 h1', w'.newS e5, Stp.newS w' e5, T, _, _, e4, SqT.of upd_same, Mono.up (Ex.new (w'.fresh e5)) h2, Mono.up (Ex.new (w'.fresh e5)) h2'⟩⟩⟩
theorem ei_zipL {ta : TA} {ys : List α} {zs : List β} {X : Rl α} {X' : Rl β} [Mono X] [Mono X'] (h : EvAS r ta s S fun us S1 => ∃ a b vs ws, us = [.ref a, .ref b] ∧ SqL K S1 a vs ∧ SqL K S1 b ws ∧ All2 X S1 ys vs ∧ All2 X' S1 zs ws) : EvI r (iZipA K ta) s S (ys.zip zs) (PairR K X X') := fun S1 H a w R q =>
  h S1 H a w _ fun us S2 H2 w2 s2 ⟨b, c, vs, ws, e1, e2, e2', e3, e3'⟩ => ⟨b, c, vs, ws, e1, .inl ⟨ex_l w2.ex e2, ex_l w2.ex e2', q (Itz K b c) S2 H2 (fun H => SqL K H b vs ∧ SqL K H c ws) (YPair (fun i => vs[i]?) (fun i => ws[i]?)) w2 s2 (walk_zip (K := K) (a := b) (b := c) (xs := vs) (ys := ws) (by
      rw [List.length_zip, e3.len, e3'.len])) (fun S' H' e w' => ⟨ex_l w'.ex (ex_l e e2), ex_l w'.ex (ex_l e e2')⟩) fun i S' H' v H'' hi e w' ⟨T, x, y, e4, e5, e6, e7, e8⟩ => by
      obtain ⟨y', h1, h2⟩ := (e3.up e).get e7
      obtain ⟨z', h1', h2'⟩ := (e3'.up e).get e8
      subst e6
      exact ⟨_, _, zip_get h1 h1', w'.newS e5, Stp.newS w' e5, T, _, _, e4, SqT.of upd_same, Mono.up (Ex.new (w'.fresh e5)) h2, Mono.up (Ex.new (w'.fresh e5)) h2'⟩⟩⟩
/-! ### while -/
/-- P a measure, a state -/
theorem st_while {t : TT} (P : Nat → L2.St → Hp → Hp → Prop) {m0 : Nat} (h0 : P m0 s S H)
    (hs : ∀ m s' S' H', P m s' S' H' → t s' H' fun b H1 => if b = true then ∃ N : L2.St → Hp → Prop, (∀ s2 H2, N s2 H2 → ∃ m2, m2 < m ∧ ∃ S2, P m2 s2 S2 H2) ∧ tu { D with nx := N, ct := N, bk := D.nx } s' H1 else D.nx s' H1) : tWhile t tu D s H :=
  ⟨fun m s' H' => ∃ S', P m s' S' H', ⟨m0, S, h0⟩, fun m s' H' ⟨S', p⟩ => hs m s' S' H' p⟩
theorem sq_while {t : TT} (P : Nat → L2.St → Hp → Hp → Prop) {m0 : Nat} (h0 : P m0 s S H)
    (hs : ∀ m s' S' H', P m s' S' H' → t s' H' fun b H1 => if b = true then ∃ N : L2.St → Hp → Prop, (∀ s2 H2, N s2 H2 → ∃ m2, m2 < m ∧ ∃ S2, P m2 s2 S2 H2) ∧ tu { D with nx := N, ct := N, bk := tz D } s' H1 else tz D s' H1) : tSeq (tWhile t tu) tz D s H := st_while (D := { D with nx := tz D }) P h0 hs
theorem wh_go {m : Nat} {P : Nat → L2.St → Hp → Hp → Prop} {X : Prop} (h : tu { D with nx := fun s2 H2 => ∃ m2 S2, m2 < m ∧ P m2 s2 S2 H2, ct := fun s2 H2 => ∃ m2 S2, m2 < m ∧ P m2 s2 S2 H2, bk := D.nx } s H) : if true = true then ∃ N : L2.St → Hp → Prop, (∀ s2 H2, N s2 H2 → ∃ m2, m2 < m ∧ ∃ S2, P m2 s2 S2 H2) ∧ tu { D with nx := N, ct := N, bk := D.nx } s H else X := ⟨_, fun s2 H2 ⟨m2, S2, hm, p⟩ => ⟨m2, hm, S2, p⟩, h⟩
/-! ### instances made by keywords -/
theorem make_tail {A : Type} {C : Addr} {pre : A → List V → Hp → Prop} {fr : A → List (Str × V) → Hp → Prop} {E : XK} {R : HO → Hp → Prop} {a : A} {us : List V} {S1 S2 H2 : Hp} {Q : VK} {x dx : Addr} (w2 : Wd r S2 H2) (s2 : Stp r S1 H S2 H2) (hx : H2 x = none) (hdx : H2 dx = none) (ne : dx ≠ x) (p1 : pre a us S2)
    (p2 : ∀ dx fs S3, Ex S2 S3 → fr a fs S3 → R (.ins C dx fs) S3) (q : ∀ p o S2 H2, H p = none → H2 p = some o → S2 p = none → Wd r S2 H2 → Stp r S1 H S2 H2 → R o S2 → Q (.ref p) H2) :
    SpInit C pre fr (.ref x :: us) (upd (upd H2 dx (.own x)) x (.ins C dx [])) (fun v H3 => v = .non ∧ Q (.ref x) H3) E := by
  have hx1 : (upd H2 dx (.own x)) x = none := by
    rw [upd_ne ne.symm]
    exact hx
  have w3 : Wd r S2 (upd (upd H2 dx (.own x)) x (.ins C dx [])) := (w2.new hdx).new hx1
  have s3 : Stp r S2 H2 S2 (upd (upd H2 dx (.own x)) x (.ins C dx [])) := (Stp.new hdx).trans (Stp.new hx1)
  have h0 : H x = none := pre_none s2 hx
  have hM : x ∉ r.M := w2.notM hx
  refine ⟨a, S2, x, dx, _, rfl, p1, upd_same, w2.fresh hx, ⟨w3.ex, True.intro, fun b hb => by cases hb⟩, fun S4 H4 fs w4 s4 n4 g4 f4 => ⟨rfl, ?_⟩⟩
  have kp : ∀ b o, b ≠ x → (upd (upd H2 dx (.own x)) x (.ins C dx [])) b = some o → H4 b = some o := fun b o nb eb => s4.kp b o (fun z => (List.mem_append.mp z).elim (fun z => nb (List.mem_singleton.mp z)) (fun z => by cases z)) eb
  refine q x _ S4 H4 h0 g4 n4 ⟨w4.ex, r.mono _ _ (fun b o hb eb => kp b o (fun z => hM (z ▸ hb)) eb) (fun b q eb => kp b _ (fun z => nco_ins upd_same q (z ▸ eb)) eb) w3.inv, fun b hb => s4.fr b (r.has _ w3.inv b hb) (w3.dj b hb)⟩ ?_ (p2 dx fs S4 s4.ex f4)
  refine ⟨s2.ex.trans (s3.ex.trans s4.ex), fun b o nb eb => ?_, fun b hb hs => s4.fr b (s3.dm b (s2.dm b hb)) (s3.fr b (s2.dm b hb) (s2.fr b hb hs)), fun b hb => s4.dm b (s3.dm b (s2.dm b hb))⟩
  exact kp b o (ne_of_none eb h0) (s3.kp b o nb (s2.kp b o nb eb))
/-- C(k = v, ..), keywords only -/
theorem en_makeK0 {A : Type} {C : Addr} {pre : A → List V → Hp → Prop} {fr : A → List (Str × V) → Hp → Prop} {E : XK} {m : Nat} {gV : List V → List V → List V} {tk : TA} {P : List V → Hp → Prop} {R : HO → Hp → Prop} (h : EvAS r tk s S P)
    (hp : ∀ zs S1, Ex S S1 → P zs S1 → zs.length = m ∧ ∃ a us, (∀ x, gV [.ref x] zs = .ref x :: us) ∧ pre a us S1 ∧ ∀ dx fs S2, Ex S1 S2 → fr a fs S2 → R (.ins C dx fs) S2) :
    EvN r (tMakeK C 0 m (SpInit C pre fr) gV E tNil tk) s S R := fun S1 H e w0 Q q =>
  h S1 H e w0 _ fun zs S2 H2 w2 s2 hz => by
    obtain ⟨l2, a, us, hg, p1, p2⟩ := hp zs S2 (e.trans s2.ex) hz
    refine ⟨rfl, l2, fun x dx hx hd ne => ?_⟩
    rw [hg x]
    exact make_tail w2 s2 hx hd ne p1 p2 q
/-! ### a new dict by a display -/
theorem tp_nil {Q : List (V × V) → Hp → Prop} (h : Q [] H) : tPairs [] s H Q := h
theorem en_disp {trs : List (TE × TE)} {Q : VK} (w0 : Wd r S H) {kvs : List (Key × V)} (hl : kvs.length ≤ 15) (hk : mergeK [] kvs = kvs)
    (h : ∀ p, H p = none → S p = none → ∀ Q2 : List (V × V) → Hp → Prop, (∀ S2 H2, Wd r S2 H2 → Stp r S (upd H p (.dK [])) S2 H2 → Q2 (kvs.map fun kv => (kV kv.1, kv.2)) H2) → tPairs trs s (upd H p (.dK [])) Q2)
    (q : ∀ p S2 H2, H p = none → S2 p = none → H2 p = some (.dK kvs) → Wd r S2 H2 → Stp r S H S2 H2 → Q (.ref p) H2) : tDisp trs s H Q := fun p hp =>
  h p hp (w0.fresh hp) _ fun S2 H2 w2 s2 => by
    have np : p ∉ r.M := w0.notM hp
    have h2 : H2 p = some (.dK []) := s2.kp p _ np upd_same
    have n2 : S2 p = none := s2.fr p (ne_none upd_same) (w0.fresh hp)
    refine ⟨h2, kvs, rfl, hl, ?_⟩
    rw [hk]
    exact q p S2 _ hp n2 upd_same (w2.mut n2 np) (((Stp.new hp).trans s2).mut hp)
end
end J

/-! J12: pairs of a display of a dict, tuple(..) of both kinds, methods and properties that change nothing, targets of two and three names. -/
namespace J
open PySem PySem.Spec L2 Evl RZ
section
variable {r : Rs} {s : L2.St} {S S' H : Hp} {ta tb tc te ti : TE} {t u : TT} {tt : TT} {x y z v : V} {K : PySem.W.Frag} {α β γ : Type} {R : Rl α} {R' : Rl β} {R'' : Rl γ} {tu tw tz : TS} {D : Ends} {w : World}
theorem All2.of_strs {S : Hp} : ∀ (xs : List Str), All2 StrR S xs (xs.map V.str)
  | [] => .nil
  | x :: r => .cons rfl (All2.of_strs r)
def EvP (r : Rs) (trs : List (TE × TE)) (s : L2.St) (S : Hp) (P : List (V × V) → Hp → Prop) : Prop := ∀ S1 H, Ex S S1 → Wd r S1 H → ∀ Q : List (V × V) → Hp → Prop, (∀ ps S2 H2, Wd r S2 H2 → Stp r S1 H S2 H2 → P ps S2 → Q ps H2) → tPairs trs s H Q
theorem ep_nil : EvP r [] s S fun ps _ => ps = [] := fun S1 H e w Q q => q [] S1 H w Stp.refl rfl
theorem ep_cons {tk tv : TE} {trs : List (TE × TE)} {A : V → Hp → Prop} {P : List (V × V) → Hp → Prop} (hk : EvV r tk s S x) (hv : EvS r tv s S A) (hr : ∀ v S1, Ex S S1 → A v S1 → EvP r trs s S1 fun ps S2 => P ((x, v) :: ps) S2) : EvP r ((tk, tv) :: trs) s S P := fun S1 H e w Q q =>
  hk S1 H e w _ fun x' S2 H2 w2 s2 ex => hv S2 H2 (e.trans s2.ex) w2 _ fun v S3 H3 w3 s3 hv' => hr v S3 (e.trans (s2.ex.trans s3.ex)) hv' S3 H3 (Ex.refl _) w3 _ fun ps S4 H4 w4 s4 p => by
    subst ex
    exact q _ S4 H4 w4 (s2.trans (s3.trans s4)) p
theorem en_dispP {trs : List (TE × TE)} {R : HO → Hp → Prop} (h : EvP r trs s S fun ps S1 => ∃ kvs : List (Key × V), ps = kvs.map (fun kv => (kV kv.1, kv.2)) ∧ kvs.length ≤ 15 ∧ mergeK [] kvs = kvs ∧ R (.dK kvs) S1) : EvN r (tDisp trs) s S R := fun S1 H e w Q q p hp =>
  h S1 (upd H p (.dK [])) e (w.new hp) _ fun ps S2 H2 w2 s2 ⟨kvs, e1, e2, e3, e4⟩ => by
    have np : p ∉ r.M := w.notM hp
    have h2 : H2 p = some (.dK []) := s2.kp p _ np upd_same
    have n2 : S2 p = none := s2.fr p (ne_none upd_same) (w.fresh hp)
    refine ⟨h2, kvs, e1, e2, ?_⟩
    rw [e3]
    exact q p _ S2 _ hp upd_same n2 (w2.mut n2 np) (((Stp.new hp).trans s2).mut hp) e4
/-- tuple(a list or a tuple) -/
theorem ev_tupS [Mono R] {ys : List α} (h : EvS r te s S fun v S1 => SeqR K R ys v S1) : EvS r (tCB (rTupleU K) (tCons te tNil)) s S fun v S1 => TupR K R ys v S1 := fun S1 H e w Q q =>
  h S1 H e w _ fun v S2 H2 w2 s2 hv => ⟨v, rfl, by
    rcases hv with ⟨a, vs, e1, e2, e3⟩ | ⟨a, vs, e1, e2, e3⟩
    · exact .inl ⟨a, vs, e1, SqL.of (w2.ex _ _ e2), fun p hp => q (.ref p) (upd S2 p (.tup vs)) _ (w2.newS hp) (s2.trans (Stp.newS w2 hp)) ⟨p, vs, rfl, SqT.of upd_same, e3.up (Ex.new (w2.fresh hp))⟩⟩
    · subst e1
      exact .inr ⟨a, vs, rfl, ex_t w2.ex e2, q (.ref a) S2 H2 w2 s2 ⟨a, vs, rfl, e2, e3⟩⟩⟩
/-- o.p, o.m(..) where nothing is changed -/
theorem ev_propP {A : Type} {C : Addr} {pre : A → List V → Hp → Prop} {post : A → V → Hp → Prop} {E : XK} {Q1 : V → Hp → Prop} {R : V → Hp → Prop} (h : EvS r ta s S Q1) (hp : ∀ x S1, Ex S S1 → Q1 x S1 → ∃ a dx fs, x = .ref a ∧ S1 a = some (.ins C dx fs) ∧ ∃ b, pre b [x] S1 ∧ ∀ v S2, Ex S1 S2 → post b v S2 → R v S2) : EvS r (tProp C (SpP pre post) [] E ta) s S R := fun S1 H e w Q q =>
  h S1 H e w _ fun x S2 H2 w2 s2 hx => by
    obtain ⟨a, dx, fs, e1, e2, b, p1, p2⟩ := hp x S2 (e.trans s2.ex) hx
    subst e1
    exact ⟨a, dx, fs, rfl, w2.ex _ _ e2, b, S2, p1, w2.ex, fun v S3 H3 w3 s3 p3 => q v S3 H3 (w2.lift w3 s3) (s2.trans s3.lift) (p2 v S3 s3.ex p3)⟩
theorem ev_methP {A : Type} {C : Addr} {mn : Str} {pre : A → List V → Hp → Prop} {post : A → V → Hp → Prop} {E : XK} {ts : TA} {Q1 : V → Hp → Prop} {R : V → Hp → Prop} {vs : List V} (h : EvS r ta s S Q1) (h2 : EvAV r ts s S vs)
    (hp : ∀ x S1 S2, Ex S S1 → Q1 x S1 → Ex S1 S2 → ∃ a dx fs, x = .ref a ∧ S1 a = some (.ins C dx fs) ∧ fs.lookup mn = none ∧ ∃ b, pre b (x :: vs) S2 ∧ ∀ v S3, Ex S2 S3 → post b v S3 → R v S3) : EvS r (tMeth C mn (SpP pre post) [] E ta ts) s S R := fun S1 H e w Q q =>
  h S1 H e w _ fun x S2 H2 w2 s2 hx => by
    obtain ⟨a, dx, fs, e1, e2, e3, _⟩ := hp x S2 S2 (e.trans s2.ex) hx (Ex.refl _)
    subst e1
    refine ⟨a, dx, fs, rfl, w2.ex _ _ e2, e3, h2 S2 H2 (e.trans s2.ex) w2 _ fun us S3 H3 w3 s3 eu => ?_⟩
    obtain ⟨a', dx', fs', e1', e2', e3', b, p1, p2⟩ := hp (.ref a) S2 S3 (e.trans s2.ex) hx s3.ex
    subst eu
    exact ⟨b, S3, by rw [List.append_nil]; exact p1, w3.ex, fun v S4 H4 w4 s4 p4 => q v S4 H4 (w3.lift w4 s4) ((s2.trans s3).trans s4.lift) (p2 v S4 s4.ex p4)⟩
/-! ### targets -/
theorem g_two {i j n : Nat} {p : α × β} {Q : L2.St → Hp → Prop} (hn : n = 2) (h : PairR K R R' p v S) (w0 : Wd r S H) (k : ∀ x y, R p.1 x S → R' p.2 y S → Q ((s.set i (some x)).set j (some y)) H) : gTup K n (gCons (gName i) (gCons (gName j) gNil)) v s H Q := by
  obtain ⟨T, x, y, e, hT, h1, h2⟩ := h
  exact ⟨T, _, e, ex_t w0.ex hT, hn.symm, _, _, rfl, _, _, rfl, rfl, k x y h1 h2⟩
theorem g_three {i j l n : Nat} {p : α × β × γ} {Q : L2.St → Hp → Prop} (hn : n = 3) (h : TripR K R R' R'' p v S) (w0 : Wd r S H) (k : ∀ x y z, R p.1 x S → R' p.2.1 y S → R'' p.2.2 z S → Q (((s.set i (some x)).set j (some y)).set l (some z)) H) : gTup K n (gCons (gName i) (gCons (gName j) (gCons (gName l) gNil))) v s H Q := by
  obtain ⟨T, x, y, z, e, hT, h1, h2, h3⟩ := h
  exact ⟨T, _, e, ex_t w0.ex hT, hn.symm, _, _, rfl, _, _, rfl, _, _, rfl, rfl, k x y z h1 h2 h3⟩
/-! ### arguments -/
theorem ea_two {A B : V → Hp → Prop} (h : EvS r ta s S A) (h2 : ∀ S1, Ex S S1 → EvS r tb s S1 B) (m : ∀ v S1 S2, Ex S1 S2 → A v S1 → A v S2) : EvAS r (tCons ta (tCons tb tNil)) s S fun us S1 => ∃ x y, us = [x, y] ∧ A x S1 ∧ B y S1 := fun S1 H e w Q q =>
  h S1 H e w _ fun x S2 H2 w2 s2 hx => h2 S2 (e.trans s2.ex) S2 H2 (Ex.refl _) w2 _ fun y S3 H3 w3 s3 hy => q _ S3 H3 w3 (s2.trans s3) ⟨x, y, rfl, m _ _ _ s3.ex hx, hy⟩
theorem All2.vals {S : Hp} : ∀ (vs : List V), All2 ValR S vs vs
  | [] => .nil
  | _ :: r => .cons rfl (All2.vals r)
theorem ev_tupV {ta : TA} {vs : List V} (h : EvAV r ta s S vs) (hl : vs.length ≤ 100000) : EvS r (tTup ta) s S fun v S1 => TupR K ValR vs v S1 :=
  EvN.tup (X := ValR) ((en_tup h (fun us _ e => by rw [e]; exact hl)).imp fun o S1 _ ⟨us, e1, e2⟩ => ⟨us, e1, by rw [e2]; exact All2.vals _⟩)
theorem ev_lstV {ta : TA} {vs : List V} (h : EvAV r ta s S vs) (hl : vs.length ≤ 100000) : EvS r (tLst ta) s S fun v S1 => LstR ValR vs v S1 :=
  EvN.lst (X := ValR) ((en_lst h (fun us _ e => by rw [e]; exact hl)).imp fun o S1 _ ⟨us, e1, e2⟩ => ⟨us, e1, by rw [e2]; exact All2.vals _⟩)
theorem ei_zipTT [Mono R] [Mono R'] {ys : List α} {zs : List β} (h : EvS r ta s S fun v S1 => TupR K R ys v S1) (h2 : ∀ S1, Ex S S1 → EvS r tb s S1 fun v S2 => TupR K R' zs v S2) : EvI r (iZipA K (tCons ta (tCons tb tNil))) s S (ys.zip zs) (PairR K R R') :=
  ei_zipT ((ea_two h h2 fun v S1 S2 e p => Mono.up e p).imp' fun us S1 _ ⟨x, y, e, ⟨a, vs, e1, e2, e3⟩, ⟨b, ws, e4, e5, e6⟩⟩ => ⟨a, b, vs, ws, by rw [e, e1, e4], e2, e5, e3, e6⟩)
theorem ei_zipLL [Mono R] [Mono R'] {ys : List α} {zs : List β} (h : EvS r ta s S fun v S1 => LstR R ys v S1) (h2 : ∀ S1, Ex S S1 → EvS r tb s S1 fun v S2 => LstR R' zs v S2) : EvI r (iZipA K (tCons ta (tCons tb tNil))) s S (ys.zip zs) (PairR K R R') :=
  ei_zipL ((ea_two h h2 fun v S1 S2 e p => Mono.up e p).imp' fun us S1 _ ⟨x, y, e, ⟨a, vs, e1, e2, e3⟩, ⟨b, ws, e4, e5, e6⟩⟩ => ⟨a, b, vs, ws, by rw [e, e1, e4], SqL.of e2, SqL.of e5, e3, e6⟩)
/-- a written tuple of texts -/
theorem ev_kTup {a : Addr} {zs : List Str} (h : ∀ H : Hp, SqT K H a (zs.map V.str)) : EvS r (tC (.ref a)) s S fun v S1 => TupR K StrR zs v S1 := vv_c.imp fun v S1 _ e => ⟨a, _, e, h S1, All2.of_strs zs⟩
end
end J

/-! J13: sequences of both kinds; tuples cut and joined. -/
namespace J
open PySem PySem.Spec L2 Evl RZ
section
variable {r : Rs} {s : L2.St} {S S' H : Hp} {ta tb tc te ti : TE} {t u : TT} {tt : TT} {x y z v : V} {K : PySem.W.Frag} {α β γ : Type} {R : Rl α} {R' : Rl β} {R'' : Rl γ} {tu tw tz : TS} {D : Ends} {w : World}
theorem nt {b : Bool} (h : (!b) = true) : b = false := by
  cases b
  · rfl
  · cases h
theorem nf {b : Bool} (h : (!b) = false) : b = true := by
  cases b
  · cases h
  · rfl
/-- what a name holds is walked, a list or a tuple -/
theorem ei_seqV [Mono R] {i : Nat} {ys : List α} (h : s[i]? = some (some v)) (p : SeqR K R ys v S) : EvI r (iU K (tVar i)) s S ys R := by
  rcases p with p | p
  · exact ei_list (ev_v (R := LstR R) h p)
  · exact ei_tup (ev_v (R := TupR K R) h p)
theorem len_v [Mono R] {i : Nat} {ys : List α} (h : s[i]? = some (some v)) (p : SeqR K R ys v S) : EvV r (tCB (rLenU K) (tCons (tVar i) tNil)) s S (.int (ys.length : Int)) := vv_len (X := R) (ev_v (R := SeqR K R) h p)
theorem ev_sliceT [Mono R] {xs : List α} {tl th : TO} {lo hi : Option Int} (h : EvS r te s S fun v S1 => TupR K R xs v S1) (hl : ∀ H Q, Q lo H → tl s H Q) (hh : ∀ H Q, Q hi H → th s H Q) : EvS r (tSl (rSlU K) te tl th) s S fun v S1 => TupR K R (cutD xs lo hi) v S1 := fun S1 H e w Q q =>
  h S1 H e w _ fun x S2 H2 w2 s2 ⟨a, vs, h1, h2, h3⟩ => hl _ _ (hh _ _ (.inl (.inr ⟨a, vs, h1, ex_t w2.ex h2, fun hw => by
    have e : cutD xs lo hi = xs := by
      unfold cutD
      rw [← h3.len, hw.1, hw.2, h3.len, List.drop_zero, Nat.sub_zero, List.take_of_length_le (Nat.le_refl _)]
    refine q (.ref a) S2 H2 w2 s2 ?_
    show TupR K R (cutD xs lo hi) _ _
    rw [e]
    exact ⟨a, vs, rfl, h2, h3⟩, fun _ p hp => q (.ref p) (upd S2 p (.tup (cutV vs lo hi))) _ (w2.newS hp) (s2.trans (Stp.newS w2 hp)) ⟨p, _, rfl, SqT.of upd_same, (h3.cut lo hi).up (Ex.new (w2.fresh hp))⟩⟩)))
/-- zip(a name, a slice of it), lists or tuples -/
theorem ei_zipSelf [Mono R] {i : Nat} {ys : List α} {tl th : TO} {lo hi : Option Int} (h : s[i]? = some (some v)) (p : SeqR K R ys v S) (hl : ∀ H Q, Q lo H → tl s H Q) (hh : ∀ H Q, Q hi H → th s H Q) : EvI r (iZipA K (tCons (tVar i) (tCons (tSl (rSlU K) (tVar i) tl th) tNil))) s S (ys.zip (cutD ys lo hi)) (PairR K R R) := by
  rcases p with p | p
  · exact ei_zipLL (ev_v (R := LstR R) h p) fun S1 e => ev_slice (ev_v (R := LstR R) h (Mono.up e p)) hl hh
  · exact ei_zipTT (ev_v (R := TupR K R) h p) fun S1 e => ev_sliceT (ev_v (R := TupR K R) h (Mono.up e p)) hl hh
theorem tyx_tup {p : Addr} {xs : List V} (h : SqT K S p xs) : TyX K S (.ref p) (.type "tuple") := by
  rcases h with (h2 | ⟨o, h2⟩) | ⟨o, its, n, h1, h2, _⟩
  · exact .base (.tup h2)
  · exact .fTuple h2
  · exact .kTuple h1 h2
/-- a comprehension kept by a test, then its length -/
theorem vv_lenF [Mono R] {wi : TI} {j : Nat} {vs : List Nat} {ys : List α} (f : α → Bool) (hi : EvI r wi s S ys R) (hz : ys.length ≤ 100000) (hw : ∀ v, wipe ((wipe s vs).set j (some v)) vs = wipe s vs) (hj : ∀ v, ((wipe s vs).set j (some v))[j]? = some (some v))
    (ht : ∀ y v S1, Ex S S1 → y ∈ ys → R y v S1 → EvB r tt ((wipe s vs).set j (some v)) S1 (f y)) : EvV r (tCB (rLenU K) (tCons (tLc wi (gName j) tt (tVar j) vs) tNil)) s S (.int ((ys.filter f).length : Int)) := by
  have h := EvN.lst (X := R) (en_lct f (fun y => y) hi hz hw ht fun y v S1 e m _ hy => ev_v (R := R) (hj v) hy)
  rw [List.map_id'] at h
  exact vv_len (X := R) (h.imp fun v S1 _ p => .inl p)
theorem vv_allF [Mono R] {wi : TI} {j : Nat} {vs : List Nat} {ys : List α} (f : α → Bool) (hi : EvI r wi s S ys R) (hz : ys.length ≤ 100000) (hw : ∀ v, wipe ((wipe s vs).set j (some v)) vs = wipe s vs)
    (ht : ∀ y v S1, Ex S S1 → y ∈ ys → R y v S1 → EvV r te ((wipe s vs).set j (some v)) S1 (.bl (f y))) : EvV r (tCB (rAll K) (tCons (tLc wi (gName j) tYes te vs) tNil)) s S (.bl (ys.all f)) :=
  (vv_all (bs := ys.map f) (EvN.lst (X := BoolR) (en_lcn f hi hz hw ht))).is (by rw [List.all_map]; rfl)
theorem vv_anyF [Mono R] {wi : TI} {j : Nat} {vs : List Nat} {ys : List α} (f : α → Bool) (hi : EvI r wi s S ys R) (hz : ys.length ≤ 100000) (hw : ∀ v, wipe ((wipe s vs).set j (some v)) vs = wipe s vs)
    (ht : ∀ y v S1, Ex S S1 → y ∈ ys → R y v S1 → EvV r te ((wipe s vs).set j (some v)) S1 (.bl (f y))) : EvV r (tCB (rAny K) (tCons (tLc wi (gName j) tYes te vs) tNil)) s S (.bl (ys.any f)) :=
  (vv_any (bs := ys.map f) (EvN.lst (X := BoolR) (en_lcn f hi hz hw ht))).is (by rw [List.any_map]; rfl)
/-- all([e for x, y in ..]) -/
theorem vv_allF2 [Mono R] [Mono R'] {wi : TI} {j1 j2 : Nat} {vs : List Nat} {ys : List (α × β)} (f : α × β → Bool) (hi : EvI r wi s S ys (PairR K R R')) (hz : ys.length ≤ 100000) (hw : ∀ v v', wipe (((wipe s vs).set j1 (some v)).set j2 (some v')) vs = wipe s vs)
    (ht : ∀ y v v' S1, Ex S S1 → y ∈ ys → R y.1 v S1 → R' y.2 v' S1 → EvV r te (((wipe s vs).set j1 (some v)).set j2 (some v')) S1 (.bl (f y))) : EvV r (tCB (rAll K) (tCons (tLc wi (gTup K 2 (gCons (gName j1) (gCons (gName j2) gNil))) tYes te vs) tNil)) s S (.bl (ys.all f)) := by
  have h := EvN.lst (X := BoolR) (en_lc2 (tt := tYes) (fun _ => true) f hi hz hw (fun y v v' S1 _ _ _ _ S2 H _ w2 Q q => q true S2 H w2 Stp.refl rfl) fun y v v' S1 e m _ h1 h2 => ht y v v' S1 e m h1 h2)
  rw [List.filter_eq_self.mpr (fun _ _ => rfl)] at h
  exact (vv_all (bs := ys.map f) h).is (by rw [List.all_map]; rfl)
theorem vv_anyF2 [Mono R] [Mono R'] {wi : TI} {j1 j2 : Nat} {vs : List Nat} {ys : List (α × β)} (f : α × β → Bool) (hi : EvI r wi s S ys (PairR K R R')) (hz : ys.length ≤ 100000) (hw : ∀ v v', wipe (((wipe s vs).set j1 (some v)).set j2 (some v')) vs = wipe s vs)
    (ht : ∀ y v v' S1, Ex S S1 → y ∈ ys → R y.1 v S1 → R' y.2 v' S1 → EvV r te (((wipe s vs).set j1 (some v)).set j2 (some v')) S1 (.bl (f y))) : EvV r (tCB (rAny K) (tCons (tLc wi (gTup K 2 (gCons (gName j1) (gCons (gName j2) gNil))) tYes te vs) tNil)) s S (.bl (ys.any f)) := by
  have h := EvN.lst (X := BoolR) (en_lc2 (tt := tYes) (fun _ => true) f hi hz hw (fun y v v' S1 _ _ _ _ S2 H _ w2 Q q => q true S2 H w2 Stp.refl rfl) fun y v v' S1 e m _ h1 h2 => ht y v v' S1 e m h1 h2)
  rw [List.filter_eq_self.mpr (fun _ _ => rfl)] at h
  exact (vv_any (bs := ys.map f) h).is (by rw [List.any_map]; rfl)
/-- a, b, c = e -/
theorem sq_three [Mono R] [Mono R'] [Mono R''] {i j l n : Nat} {p : α × β × γ} (hn : n = 3) (h : EvS r te s S fun v S1 => TripR K R R' R'' p v S1) (w0 : Wd r S H) (k : ∀ x y z S1 H1, Wd r S1 H1 → Stp r S H S1 H1 → R p.1 x S1 → R' p.2.1 y S1 → R'' p.2.2 z S1 → tz D (((s.set i (some x)).set j (some y)).set l (some z)) H1) : tSeq (tAsg te (gTup K n (gCons (gName i) (gCons (gName j) (gCons (gName l) gNil))))) tz D s H :=
  h S H (Ex.refl _) w0 _ fun v S1 H1 w1 s1 hv => g_three hn hv w1 fun x y z h1 h2 h3 => k x y z S1 H1 w1 s1 h1 h2 h3
theorem sq_two [Mono R] [Mono R'] {i j n : Nat} {p : α × β} (hn : n = 2) (h : EvS r te s S fun v S1 => PairR K R R' p v S1) (w0 : Wd r S H) (k : ∀ x y S1 H1, Wd r S1 H1 → Stp r S H S1 H1 → R p.1 x S1 → R' p.2 y S1 → tz D ((s.set i (some x)).set j (some y)) H1) : tSeq (tAsg te (gTup K n (gCons (gName i) (gCons (gName j) gNil)))) tz D s H :=
  h S H (Ex.refl _) w0 _ fun v S1 H1 w1 s1 hv => g_two hn hv w1 fun x y h1 h2 => k x y S1 H1 w1 s1 h1 h2
theorem sq_ifB {l : Addr} {o : HO} {b : Bool} (h : EvB r t s (upd S l o) b) (w : Wd r S H) (hl : H l = some o) (n : l ∉ r.M) (sl : S l = none) (h1 : b = true → ∀ S1 H1, Wd r S1 H1 → Stp r S H S1 H1 → S1 l = none → tu { D with nx := tz D } s H1) (h2 : b = false → ∀ S1 H1, Wd r S1 H1 → Stp r S H S1 H1 → S1 l = none → tw { D with nx := tz D } s H1) : tSeq (tIfS t tu tw) tz D s H := st_ifB (D := { D with nx := tz D }) h w hl n sl h1 h2
theorem sq_ifNoB {l : Addr} {o : HO} (h : EvB r t s (upd S l o) false) (w : Wd r S H) (hl : H l = some o) (n : l ∉ r.M) (sl : S l = none) (k : ∀ S1 H1, Wd r S1 H1 → Stp r S H S1 H1 → S1 l = none → tz D s H1) : tSeq (tIfS t tu tNext) tz D s H :=
  sq_ifB h w hl n sl (fun z => nomatch z) fun _ S1 H1 w1 s1 n1 => k S1 H1 w1 s1 n1
end
end J

/-! J14: objects made while another one is read; appended to it. -/
namespace J
open PySem PySem.Spec L2 Evl RZ
section
variable {r : Rs} {s : L2.St} {S S' H : Hp} {ta tb tc te ti : TE} {t u : TT} {tt : TT} {x y z v : V} {K : PySem.W.Frag} {α β γ : Type} {R : Rl α} {R' : Rl β} {R'' : Rl γ} {tu tw tz : TS} {D : Ends} {w : World} {l : Addr} {o c : HO}
theorem borrowN (h : EvN r te s (upd S l o) fun ob _ => ob = c) (w : Wd r S H) (hl : H l = some o) (n : l ∉ r.M) (sl : S l = none) {Q : VK} (q : ∀ p S1 H1, H p = none → H1 p = some c → S1 p = none → Wd r S1 H1 → Stp r S H S1 H1 → S1 l = none → Q (.ref p) H1) : te s H Q :=
  h _ H (Ex.refl _) (w.settle hl n) Q fun p ob S1 H1 h0 h1 h2 w1 s1 e => by
    subst e
    refine q p (del l S1) H1 h0 h1 ?_ w1.del (s1.del sl) del_same
    unfold del
    split
    · rfl
    · exact h2
/-- l.append(e), e reckoned with l's own items: a known value -/
theorem st_appendV {xs : List V} (n : l ∉ r.M) (ho : EvV r ta s S (.ref l)) (hv : EvV r te s (upd S l (.lst xs)) v) (w : Wd r S H) (hl : H l = some (.lst xs)) (hs : S l = none) (hz : xs.length < 100000)
    (k : ∀ S1 H1, Wd r S1 H1 → Stp (r.more [l]) S H S1 H1 → S1 l = none → H1 l = some (.lst (xs ++ [v])) → D.nx s H1) : tDrop (tBM K "list" rAppend ta (tCons te tNil)) D s H :=
  ho S H (Ex.refl _) w _ fun u S1 H1 w1 s1 eu => by
    subst eu
    have h1 : H1 l = some (.lst xs) := s1.kp l _ n hl
    have n1 := s1.fr l (ne_none hl) hs
    have ex1 : Ex (upd S l (.lst xs)) (upd S1 l (.lst xs)) := ex_both s1.ex
    refine ⟨.inl ⟨rfl, _, .inl (.inl h1)⟩, borrow (EvS.mono ex1 hv) w1 h1 n n1 fun S2 H2 w2 s2 n2 => ?_⟩
    have s12 := s1.trans s2
    refine ⟨l, xs, v, rfl, rfl, s12.kp l _ n hl, sz_lt hz, ?_⟩
    exact k S2 _ (w2.mut n2 n (nco_lst (s12.kp l _ n hl))) ((s12.more).trans (Stp.upd1 (s12.dm l (ne_none hl)))) n2 upd_same
/-- the same, e a new object that is known -/
theorem st_appendN {xs : List V} (n : l ∉ r.M) (ho : EvV r ta s S (.ref l)) (hv : EvN r te s (upd S l (.lst xs)) fun ob _ => ob = c) (w : Wd r S H) (hl : H l = some (.lst xs)) (hs : S l = none) (hz : xs.length < 100000)
    (k : ∀ p S1 H1, Wd r S1 H1 → Stp (r.more [l]) S H S1 H1 → S1 l = none → H1 l = some (.lst (xs ++ [.ref p])) → S1 p = some c → D.nx s H1) : tDrop (tBM K "list" rAppend ta (tCons te tNil)) D s H :=
  ho S H (Ex.refl _) w _ fun u S1 H1 w1 s1 eu => by
    subst eu
    have h1 : H1 l = some (.lst xs) := s1.kp l _ n hl
    have n1 := s1.fr l (ne_none hl) hs
    have ex1 : Ex (upd S l (.lst xs)) (upd S1 l (.lst xs)) := ex_both s1.ex
    refine ⟨.inl ⟨rfl, _, .inl (.inl h1)⟩, borrowN (EvN.mono ex1 hv) w1 h1 n n1 fun p S2 H2 p0 p1 p2 w2 s2 n2 => ?_⟩
    have s12 := s1.trans s2
    have np : p ∉ r.M := w1.notM p0
    have hp0 : H p = none := pre_none s1 p0
    have nlp : l ≠ p := fun e => by
      rw [e, p0] at h1
      cases h1
    have w3 : Wd r (upd S2 p c) H2 := w2.settle p1 np
    have s3 : Stp r S H (upd S2 p c) H2 := s12.settle hp0 p2
    have n3 : (upd S2 p c) l = none := by
      rw [upd_ne nlp]
      exact n2
    refine ⟨l, xs, .ref p, rfl, rfl, s12.kp l _ n hl, sz_lt hz, ?_⟩
    exact k p _ _ (w3.mut n3 n (nco_lst (s12.kp l _ n hl))) ((s3.more).trans (Stp.upd1 (s12.dm l (ne_none hl)))) n3 upd_same upd_same
theorem sq_appendV {xs : List V} (n : l ∉ r.M) (ho : EvV r ta s S (.ref l)) (hv : EvV r te s (upd S l (.lst xs)) v) (w : Wd r S H) (hl : H l = some (.lst xs)) (hs : S l = none) (hz : xs.length < 100000)
    (k : ∀ S1 H1, Wd r S1 H1 → Stp (r.more [l]) S H S1 H1 → S1 l = none → H1 l = some (.lst (xs ++ [v])) → tz D s H1) : tSeq (tDrop (tBM K "list" rAppend ta (tCons te tNil))) tz D s H := st_appendV (D := { D with nx := tz D }) n ho hv w hl hs hz k
theorem sq_appendN {xs : List V} (n : l ∉ r.M) (ho : EvV r ta s S (.ref l)) (hv : EvN r te s (upd S l (.lst xs)) fun ob _ => ob = c) (w : Wd r S H) (hl : H l = some (.lst xs)) (hs : S l = none) (hz : xs.length < 100000)
    (k : ∀ p S1 H1, Wd r S1 H1 → Stp (r.more [l]) S H S1 H1 → S1 l = none → H1 l = some (.lst (xs ++ [.ref p])) → S1 p = some c → tz D s H1) : tSeq (tDrop (tBM K "list" rAppend ta (tCons te tNil))) tz D s H := st_appendN (D := { D with nx := tz D }) n ho hv w hl hs hz k
/-- the last item of a list -/
theorem atI_last {xs : List V} {v : V} : atI (xs ++ [v]) (-1) = some v := by
  unfold atI
  have h1 : ixN (xs ++ [v]).length (-1) = some xs.length := by
    rw [List.length_append, List.length_singleton]
    unfold ixN
    rw [if_neg (by decide), if_pos (by omega)]
    congr 1
    omega
  rw [h1]
  simp
end
end J

/-! J15: the law's source of draws: [cells, place, a great number, a seed]. -/
namespace J
open PySem PySem.Spec L2 Evl RZ
/-- both branches of an if go on by the same rest -/
theorem sq_join {tt : TT} {tu tw tz : TS} {D : Ends} {s : L2.St} {H : Hp} (P : L2.St → Hp → Prop) (k : ∀ s' H', P s' H' → tz D s' H') (h : (∀ s' H', P s' H' → tz D s' H') → tSeq (tIfS tt tu tw) tz D s H) : tSeq (tIfS tt tu tw) tz D s H := h k
structure SrcAt (p c : Addr) (cs : List Int) (pos big seed : Int) (H : Hp) : Prop where
  hp : H p = some (.lst [.ref c, .int pos, .int big, .int seed])
  hc : H c = some (.lst (cs.map V.int))
  pos0 : 0 ≤ pos
  big0 : 0 ≤ big
  seed0 : 0 ≤ seed
def SrcI (p c : Addr) (H : Hp) : Prop := ∃ cs pos big seed, SrcAt p c cs pos big seed H
def srcR (p c : Addr) : Rs := ⟨[p, c], SrcI p c, fun H H' k _ ⟨cs, pos, big, seed, h⟩ => ⟨cs, pos, big, seed, k p _ (by simp) h.hp, k c _ (by simp) h.hc, h.pos0, h.big0, h.seed0⟩, fun H ⟨cs, pos, big, seed, h⟩ a ha => by
  rcases List.mem_cons.mp ha with rfl | ha
  · exact ne_none h.hp
  · rw [List.mem_singleton.mp ha]
    exact ne_none h.hc⟩
theorem SrcAt.ne {p c : Addr} {cs : List Int} {pos big seed : Int} {H : Hp} (h : SrcAt p c cs pos big seed H) : p ≠ c := fun e => by
  have h1 := h.hp
  have h2 := h.hc
  rw [e, h2] at h1
  cases cs with
  | nil => cases h1
  | cons x r => cases h1
theorem srcR_nil {p c : Addr} {S H S1 H1 : Hp} (s : Stp (Rs.nil.more [p, c]) S H S1 H1) : Stp (srcR p c) S H S1 H1 := s.wk (fun a ha => by simpa [Rs.more, Rs.nil, srcR] using ha)
theorem sup_p {p c : Addr} {H S : Hp} {o : HO} (h : H p = some o) : sup [p, c] H S p = some o := (sup_in (by simp)).trans h
theorem sup_c {p c : Addr} {H S : Hp} {o : HO} (h : H c = some o) : sup [p, c] H S c = some o := (sup_in (by simp)).trans h
/-- the source as it stands, and the way here -/
structure SW (p c : Addr) (S0 H0 : Hp) (cs : List Int) (pos big seed : Int) (S H : Hp) : Prop where
  w : Wd Rs.nil S H
  l : Loc Rs.nil [p, c] S H
  at_ : SrcAt p c cs pos big seed H
  st : Stp (Rs.nil.more [p, c]) S0 H0 S H
theorem nm_nil {a : Addr} : a ∉ Rs.nil.M := fun z => by cases z
theorem SW.start {p c : Addr} {cs : List Int} {pos big seed : Int} {S H : Hp} (w : Wd (srcR p c) S H) (h : SrcAt p c cs pos big seed H) : SW p c S H cs pos big seed S H :=
  ⟨w.toNil, fun a ha => ⟨nm_nil, w.dj a ha, (srcR p c).has H w.inv a ha⟩, h, Stp.refl⟩
theorem SW.step {p c : Addr} {S0 H0 : Hp} {cs : List Int} {pos big seed : Int} {S H S1 H1 : Hp} (x : SW p c S0 H0 cs pos big seed S H) (w : Wd Rs.nil S1 H1) (s : Stp Rs.nil S H S1 H1) : SW p c S0 H0 cs pos big seed S1 H1 :=
  ⟨w, x.l.step s, ⟨s.kp p _ nm_nil x.at_.hp, s.kp c _ nm_nil x.at_.hc, x.at_.pos0, x.at_.big0, x.at_.seed0⟩, x.st.trans s.more⟩
theorem SW.setp {p c : Addr} {S0 H0 : Hp} {cs : List Int} {pos big seed : Int} {S H S1 H1 : Hp} (x : SW p c S0 H0 cs pos big seed S H) (w : Wd Rs.nil S1 H1) (s : Stp (Rs.nil.more [p, c]) S H S1 H1) {pos' big' seed' : Int} (h : H1 p = some (.lst [.ref c, .int pos', .int big', .int seed'])) (kp : ∀ a o, a ≠ p → a ∉ Rs.nil.M → H a = some o → H1 a = some o)
    (h1 : 0 ≤ pos') (h2 : 0 ≤ big') (h3 : 0 ≤ seed') : SW p c S0 H0 cs pos' big' seed' S1 H1 :=
  ⟨w, x.l.stepM s, ⟨h, kp c _ x.at_.ne.symm nm_nil x.at_.hc, h1, h2, h3⟩, x.st.trans s⟩
theorem SW.done {p c : Addr} {S0 H0 : Hp} {cs : List Int} {pos big seed : Int} {S H : Hp} (x : SW p c S0 H0 cs pos big seed S H) : Wd (srcR p c) S H ∧ Stp (srcR p c) S0 H0 S H :=
  ⟨⟨x.w.ex, ⟨cs, pos, big, seed, x.at_⟩, fun a ha => (x.l a ha).2.1⟩, srcR_nil x.st⟩
end J

set_option pp.maxSteps 3000
/-! J20: defs that are only called where no repr runs (so that repr may be asked in them); the end of a law that is such a def, with tables of code objects. -/
namespace J
open PySem PySem.Spec PyProof.Rows L2 Evl RZ
/-- no repr of a list or tuple is running around here -/
def Gd (A : Around) : Prop := A.guards = some []
theorem Gd.deeper {A : Around} (g : Gd A) (env : Env) : Gd (A.deeper env) := g
/-- a def's promise, kept where Gd holds -/
structure FnG (P : Program) (w : World) (K : PySem.W.Frag) (mg : Str → Option Value) (base : Heap) (k : Nat) (f : Addr) (fd : FuncData) (ps : List Str) (sp : Sp) : Prop where
  count : ∀ {vs : List V} {H : Hp} {Q : VK} {E : XK}, sp vs H Q E → vs.length = ps.length
  runs : ∀ {A : Around} {outer : List Env} {s : Shared} {H : Hp} {args : Args} {us : List Value} {vs : List V} {Q : VK} {E : XK}, Gd A → Room k A → Env0 P w K mg base A outer s H → BindsTo s fd args (ps.zip us) → Vals vs us → sp vs H Q E → codeAny (model P w) A (.call (.ref f) args) (CR CX0 outer P w H s Q E) s
section
variable {P : Program} {w : World} {K : PySem.W.Frag} {mg : Str → Option Value} {base : Heap} {x qual : Str} {st : Stmt} {f : Addr} {fd : FuncData} {N ps : List Str} {k : Nat} {sp : Sp}
theorem FnG.of (F : FnOk P w K mg base CX0 k f fd ps sp) : FnG P w K mg base k f fd ps sp := ⟨fun h => F.len _ _ _ _ h, fun _ hr e b v h => F.run _ _ _ _ _ _ _ _ _ hr e b v h⟩
theorem FnG.up {j : Nat} (F : FnG P w K mg base j f fd ps sp) (h : j ≤ k) : FnG P w K mg base k f fd ps sp := ⟨F.count, fun g hr => F.runs g (hr.mono h)⟩
/-- a def by its body, Gd known -/
theorem ok_G (F : Fun K x qual st f fd) (S : FnScope N ps (defScope st)) (len : ∀ vs H Q E, sp vs H Q E → vs.length = ps.length)
    (body : ∀ (cdv : Value) (A : Around) (outer : List Env) (s : Shared) (H : Hp) (vs : List V) (Q : VK) (E : XK), Gd A → Room k (A.deeper (envOfC qual (defScope st) s.heap.objs.size f cdv)) → sp vs H Q E →
      ∃ t, PSs (cxOf CX0 P w K mg base N qual (defScope st) f cdv A outer s H E).nox (defBody st) t ∧ t { nx := fun _ H' => Q .non H', rt := Q } (start N vs) H) : FnG P w K mg base (k + 1) f fd ps sp := by
  obtain ⟨oc, od, kV, doc, pm, an, cdv, ct, osl, e, lk, hcd⟩ := F.ex
  subst e
  refine ⟨fun h => len _ _ _ _ h, fun {A outer s H args us vs Q E} g hr e0 hb r h => ?_⟩
  exact LamX.run_ofS lk hcd S hr e0 hb r (len _ _ _ _ h) fun hr' => by
    obtain ⟨t, ht, hq⟩ := body cdv A outer s H vs Q E g hr' h
    exact ⟨t, ht.nox, hq⟩
end
section
variable {X : Cx} {k : Nat} {f : Addr} {fd : FuncData} {ps : List Str} {sp : Sp} {dvs : List V} {ds : List Value} {x : Str} {p pos : Pos} {e : Expr} {es : List Expr} {t : TA}
theorem run_G {pins : List (Addr × Obj)} {σ : L2.St} {H : Hp} {s : Shared} {Q : VK} {us : List Value} {vs : List V} (F : FnG X.prog X.w X.K X.mg X.base k f fd ps sp) (g : Gd X.A) (hr : Room k X.A) (hb : Binds X.K fd ps ds) (hd : Vals dvs ds) (I : Inv X pins σ H s) (r : Vals vs us) (h : sp (vs ++ dvs) H Q E0) :
    wpAny (model X.prog X.w) X.A (call (.ref f) us) (EP X pins σ Q) X.xe s := by
  have rr : Vals (vs ++ dvs) (us ++ ds) := r.append hd
  have gl : (us ++ ds).length = ps.length := rr.length.symm.trans (F.count h)
  refine wpAny_call (codeAny_mono (F.runs g hr I.env0 (hb s us I.kIn gl) rr h) fun res s' hq => ?_)
  match res, hq with
  | .error _, z => exact z.elim
  | .ok (.ret _), z => exact I.after z
  | .ok .next, z => exact z.elim
  | .ok .brk, z => exact z.elim
  | .ok .cont, z => exact z.elim
theorem pe_callG (F : FnG X.prog X.w X.K X.mg X.base k f fd ps sp) (g : Gd X.A) (hr : Room k X.A) (hg : Gl X x) (hm : X.mg x = some (.ref f)) (kp : PySem.W.keepIn X.K (.ref f) = true) (hb : Binds X.K fd ps ds) (hd : Vals dvs ds)
    (ha : PA X (e :: es) t) (ndb : (x == ("__debug__" : Str)) = false := by decide) (e1 : starEach (e :: es) X.env = (false, eval e X.env) :: starEach es X.env := by rfl) (e2 : (backTo pos (starEach es X.env)).any (·.1) = false := by rfl) :
    PE X (.Call (.Name x p) (e :: es) [] pos) (tCall sp dvs E0 t) :=
  ⟨fun pins s σ H Q I h => wpAny_Call_Name_kw (ld_glob I hg hm (PySem.W.callWith_K (h₀ := X.base) I.ok.mod.kin kp (thn (ha.run pos pins s σ H _ I h) fun us s1 ⟨vs, H1, I1, r, q⟩ => ⟨I1.kIn, run_G F g hr hb hd I1 r q⟩) e1 e2) ndb)⟩
theorem pe_callG0 (F : FnG X.prog X.w X.K X.mg X.base k f fd ps sp) (g : Gd X.A) (hr : Room k X.A) (hg : Gl X x) (hm : X.mg x = some (.ref f)) (kp : PySem.W.keepIn X.K (.ref f) = true) (hb : Binds X.K fd ps ds) (hd : Vals dvs ds)
    (ndb : (x == ("__debug__" : Str)) = false := by decide) : PE X (.Call (.Name x p) [] [] pos) (tCall sp dvs E0 tNil) :=
  ⟨fun pins s σ H Q I h => wpAny_Call_Name_kw (ld_glob I hg hm (PySem.W.callWith_K0 I.kIn kp (run_G (us := []) F g hr hb hd I .nil h)) ndb)⟩
end
/-! ### repr of data -/
/-- data, or an empty dict -/
def DE (K : PySem.W.Frag) (H : Hp) (v : V) (d : PyData) : Prop := Dp K H v d ∨ (d = .dict [] ∧ ∃ a, v = .ref a ∧ H a = some (.dK []))
theorem de_up {K : PySem.W.Frag} {S S' : Hp} (e : Ex S S') {v : V} {d : PyData} (h : DE K S v d) : DE K S' v d := h.imp (dp_up e _ _) fun ⟨h1, a, h2, h3⟩ => ⟨h1, a, h2, e _ _ h3⟩
def rReprD (K : PySem.W.Frag) : List V → Hp → VK → Prop := fun xs H Q => ∃ (v : V) (d : PyData), xs = [v] ∧ DE K H v d ∧ d.showable = true ∧ d.depth ≤ 40 ∧ d.shown.length ≤ sizeLine ∧ Q (.str d.shown) H
mutual
theorem dp_nodict {K : PySem.W.Frag} {H : Hp} : ∀ (d : PyData) (v : V), Dp K H v d → d.hasDict = false
  | .none, _, _ => by simp only [PyData.hasDict]
  | .bool _, _, _ => by simp only [PyData.hasDict]
  | .int _, _, _ => by simp only [PyData.hasDict]
  | .str _, _, _ => by simp only [PyData.hasDict]
  | .list xs, _, h => by
    cases h with
    | lst _ h2 =>
      simp only [PyData.hasDict]
      exact dpa_nodict xs _ h2
  | .tuple xs, _, h => by
    cases h with
    | tup _ h2 =>
      simp only [PyData.hasDict]
      exact dpa_nodict xs _ h2
  | .dict _, _, h => by cases h
theorem dpa_nodict {K : PySem.W.Frag} {H : Hp} : ∀ (ds : List PyData) (vs : List V), DpAll K H vs ds → PyData.hasDictAll ds = false
  | [], _, _ => by simp only [PyData.hasDictAll]
  | d :: ds, _, h => by
    cases h with
    | cons h1 h2 => simp only [PyData.hasDictAll, dp_nodict d _ h1, dpa_nodict ds _ h2, Bool.or_self]
end
theorem call_reprD {X : Cx} (g : Gd X.A) (hu : X.A.units + 64 < cLine) : CallR X (.builtin "repr") (rReprD X.K) := by
  intro pins s σ H xs us Q I r h
  obtain ⟨v, d, e, hd, hs, dp, sz, q⟩ := h
  subst e
  obtain ⟨u, eu, ru⟩ := vals1 r
  subst eu
  have I' := I
  rcases hd with hd | ⟨rfl, a, rfl, ha⟩
  rotate_left
  · cases ru
    obtain ⟨_, hsm, vs, rel, ob, es, ep, hob, hcl, hdat, _, hps, _⟩ := dk_of I.hok ha
    cases rel
    have he : es.toList = [] := List.eq_nil_of_length_eq_zero (by simpa using hps.length)
    have rdz : Reads s.heap (.ref a) (.dict []) (a :: [] ++ []) := Reads.dict hob hcl.1 hdat (by rw [he]; exact .nil) (by rw [he]; exact .nil)
    exact repr_of_reads' rdz hs (fun _ hm => by
      rcases List.mem_cons.mp hm with e | hm
      · rw [← e] at hsm
        simp at hsm
      · cases hm) g (by omega) (fun _ _ z => z) (fun h' u tk hk => ⟨.str _, H, I.kept (t' := tk) hk, ⟨_, rfl⟩, q⟩) sz
  obtain ⟨as, rd⟩ := Dp.reads I d v u hd ru
  have nd := dp_nodict d v hd
  cases rd with
  | none =>
    simp only [PyData.shown] at q
    exact PySem.P.repr_of_none ⟨.str _, H, I.tok _, ⟨_, rfl⟩, q⟩
  | bool b =>
    simp only [PyData.shown] at q
    exact PySem.P.repr_of_bool ⟨.str _, H, I.tok _, ⟨_, rfl⟩, q⟩
  | int i t =>
    simp only [PyData.shown] at q
    exact PySem.P.repr_of_int (by simpa [PyData.showable] using hs) ⟨.str _, H, I.tok _, ⟨_, rfl⟩, q⟩
  | str x t =>
    simp only [PyData.shown] at q sz
    exact PySem.P.repr_of_str ⟨.str _, H, I.tok _, ⟨_, rfl⟩, q⟩ sz
  | list h1 h2 h3 h4 => exact repr_of_reads' (Reads.list h1 h2 h3 h4) hs (PyData.noDict_hsm nd) g (by omega) (fun _ _ z => z) (fun h' u tk hk => ⟨.str _, H, I.kept (t' := tk) hk, ⟨_, rfl⟩, q⟩) sz
  | tuple h1 h2 h3 h4 => exact repr_of_reads' (Reads.tuple h1 h2 h3 h4) hs (PyData.noDict_hsm nd) g (by omega) (fun _ _ z => z) (fun h' u tk hk => ⟨.str _, H, I.kept (t' := tk) hk, ⟨_, rfl⟩, q⟩) sz
  | dict h1 h2 h3 h4 h5 => simp only [PyData.hasDict] at nd; cases nd
theorem vv_reprE {r : Rs} {s : L2.St} {S : Hp} {ta : TE} {K : PySem.W.Frag} {d : PyData} (h : EvS r ta s S fun v S1 => DE K S1 v d) (hs : d.showable = true) (hd : d.depth ≤ 40) (hz : d.shown.length ≤ sizeLine) : EvV r (tCB (rReprD K) (tCons ta tNil)) s S (.str d.shown) := fun S1 H e w Q q =>
  h S1 H e w _ fun v S2 H2 w2 s2 p => ⟨v, d, rfl, de_up w2.ex p, hs, hd, hz, q _ S2 H2 w2 s2 rfl⟩
theorem vv_reprD {r : Rs} {s : L2.St} {S : Hp} {ta : TE} {K : PySem.W.Frag} {d : PyData} (h : EvS r ta s S fun v S1 => Dp K S1 v d) (hs : d.showable = true) (hd : d.depth ≤ 40) (hz : d.shown.length ≤ sizeLine) : EvV r (tCB (rReprD K) (tCons ta tNil)) s S (.str d.shown) :=
  vv_reprE (h.imp fun _ _ _ p => .inl p) hs hd hz
mutual
theorem short_of_showable : ∀ d : PyData, d.hasDict = false → d.showable = true → PyData.intsShort 1921 d = true
  | .none, _, _ => rfl
  | .bool _, _, _ => rfl
  | .str _, _, _ => rfl
  | .int i, _, h => by
    have h1 : i.natAbs.log2 < 1920 := by simpa [PyData.showable] using h
    have h2 := int_text_len_1921 h1
    simp only [PyData.intsShort, decide_eq_true_eq]
    simpa only [PyData.shown] using h2
  | .list xs, hd, h => by
    simp only [PyData.intsShort]
    exact shortAll_of_showable xs (by simpa only [PyData.hasDict] using hd) (by simpa only [PyData.showable] using h)
  | .tuple xs, hd, h => by
    simp only [PyData.intsShort]
    exact shortAll_of_showable xs (by simpa only [PyData.hasDict] using hd) (by simpa only [PyData.showable] using h)
  | .dict _, hd, _ => by simp only [PyData.hasDict] at hd; cases hd
theorem shortAll_of_showable : ∀ xs : List PyData, PyData.hasDictAll xs = false → PyData.showableAll xs = true → PyData.intsShortAll 1921 xs = true
  | [], _, _ => rfl
  | x :: xs, hd, h => by
    have hd' : x.hasDict = false ∧ PyData.hasDictAll xs = false := by simpa only [PyData.hasDictAll, Bool.or_eq_false_iff] using hd
    have h' : x.showable = true ∧ PyData.showableAll xs = true := by simpa only [PyData.showableAll, Bool.and_eq_true] using h
    simp only [PyData.intsShortAll, Bool.and_eq_true]
    exact ⟨short_of_showable x hd'.1 h'.1, shortAll_of_showable xs hd'.2 h'.2⟩
end
/-- data that repr can be asked of -/
structure Shw (d : PyData) : Prop where
  show_ : d.showable = true
  low : d.depth ≤ 40
  fits : d.shown.length ≤ sizeLine
theorem Shw.mk' {d : PyData} (lay : d.canLay0 = true) (sh : d.showable = true) (small : d.weight ≤ 8000) (low : d.depth ≤ 40) : Shw d := ⟨sh, low, by
  have nd := PyData.hasDict_of_canLay d lay
  have h1 := PyData.shown_le 1921 (by decide) d (PyData.leavesShort_of_canLay0 1921 d lay (short_of_showable d nd sh))
  have h2 : (1921 + 2) * d.weight ≤ 1923 * 8000 := Nat.mul_le_mul (Nat.le_refl _) small
  rw [sizeLine_eq]
  omega⟩
section
variable {K : PySem.W.Frag} {α : Type} [DecidableEq α] {R : Rl α} [Dt K R] {r : Rs} {s : L2.St} {S : Hp} {ta tb : TE}
theorem Shw.of {a : α} (h1 : (Dt.d K R a).showable = true) (h2 : (Dt.d K R a).weight ≤ 8000) (h3 : Dt.dep K R ≤ 40 := by exact Nat.le_of_ble_eq_true rfl) : Shw (Dt.d K R a) := .mk' (Dt.lay a) h1 h2 (Nat.le_trans (Dt.dep_le a) h3)
theorem vv_rp {d : PyData} (h : EvS r ta s S fun v S1 => Dp K S1 v d) (x : Shw d) : EvV r (tCB (rReprD K) (tCons ta tNil)) s S (.str d.shown) := vv_reprD h x.show_ x.low x.fits
theorem vv_rpD {a : α} (h : EvS r ta s S fun v S1 => R a v S1) (x : Shw (Dt.d K R a)) : EvV r (tCB (rReprD K) (tCons ta tNil)) s S (.str (Dt.d K R a).shown) := vv_rp (h.imp fun _ _ _ p => Dt.dp p) x
/-- repr(e) != repr(f) -/
theorem vv_rpNe {z1 z2 : Str} (h : EvV r ta s S (.str z1)) (h2 : EvV r tb s S (.str z2)) (e : z1 = z2) : EvV r (tOp (rNeU K) ta tb) s S (.bl false) := (vv_op h h2 rs_neS).is (by rw [decide_eq_true e]; rfl)
end
theorem int_small {i : Int} (h : -(2 ^ 62) < i ∧ i < 2 ^ 62) : i.natAbs.log2 < 62 := by
  by_cases z : i.natAbs = 0
  · rw [z]
    decide
  · exact (Nat.log2_lt z).mpr (by omega)
theorem show_int {i : Int} (h : -(2 ^ 62) < i ∧ i < 2 ^ 62) : (PyData.int i).showable = true := by
  simp only [PyData.showable, decide_eq_true_eq]
  exact Nat.lt_trans (int_small h) (by decide)
theorem weight_int {i : Int} (h : -(2 ^ 62) < i ∧ i < 2 ^ 62) : (PyData.int i).weight ≤ 62 := by
  have := int_small h
  simp only [PyData.weight]
  split <;> omega
theorem show_ints : ∀ {ns : List Int}, (∀ i ∈ ns, -(2 ^ 62) < i ∧ i < 2 ^ 62) → PyData.showableAll (ns.map PyData.int) = true
  | [], _ => rfl
  | n :: r, h => by
    simp only [List.map_cons, PyData.showableAll, Bool.and_eq_true]
    exact ⟨show_int (h n List.mem_cons_self), show_ints fun i hi => h i (List.mem_cons_of_mem _ hi)⟩
theorem weight_ints : ∀ {ns : List Int}, (∀ i ∈ ns, -(2 ^ 62) < i ∧ i < 2 ^ 62) → PyData.weightAll (ns.map PyData.int) ≤ 63 * ns.length
  | [], _ => Nat.le_refl _
  | n :: r, h => by
    have h1 := weight_ints fun i hi => h i (List.mem_cons_of_mem _ hi)
    have h2 := weight_int (h n List.mem_cons_self)
    simp only [List.map_cons, PyData.weightAll, List.length_cons]
    omega
theorem lay_ints : ∀ (ns : List Int), PyData.canLayAll0 (ns.map PyData.int) = true
  | [] => rfl
  | n :: r => by
    simp only [List.map_cons, PyData.canLayAll0, PyData.canLay0, lay_ints r, Bool.and_self]
theorem depth_ints : ∀ (ns : List Int), PyData.depthAll (ns.map PyData.int) = 0
  | [] => rfl
  | n :: r => by
    simp only [List.map_cons, PyData.depthAll, PyData.depth, depth_ints r]
    rfl
theorem shw_tup {ns : List Int} (h : ∀ i ∈ ns, -(2 ^ 62) < i ∧ i < 2 ^ 62) (hl : ns.length ≤ 120) : Shw (.tuple (ns.map PyData.int)) := .mk' (by simp only [PyData.canLay0, lay_ints]) (by simp only [PyData.showable, show_ints h]) (by
  have := weight_ints h
  simp only [PyData.weight]
  omega) (by simp only [PyData.depth, depth_ints]; decide)
theorem shw_lst {ns : List Int} (h : ∀ i ∈ ns, -(2 ^ 62) < i ∧ i < 2 ^ 62) (hl : ns.length ≤ 120) : Shw (.list (ns.map PyData.int)) := .mk' (by simp only [PyData.canLay0, lay_ints]) (by simp only [PyData.showable, show_ints h]) (by
  have := weight_ints h
  simp only [PyData.weight]
  omega) (by simp only [PyData.depth, depth_ints]; decide)
theorem shw_int {i : Int} (h : -(2 ^ 62) < i ∧ i < 2 ^ 62) : Shw (.int i) := .mk' rfl (show_int h) (Nat.le_trans (weight_int h) (by decide)) (Nat.zero_le _)
theorem shw_bool {b : Bool} : Shw (.bool b) := .mk' rfl rfl (Nat.zero_le _) (Nat.zero_le _)
theorem shw_dict : Shw (.dict []) := ⟨by decide +kernel, by decide +kernel, by decide +kernel⟩
theorem shw_none : Shw .none := .mk' rfl rfl (Nat.zero_le _) (Nat.zero_le _)
theorem shw_str {z : Str} (h : (PyData.str z).canLay0 = true) (hl : z.cps.size ≤ 8000) : Shw (.str z) := .mk' h rfl (by simp only [PyData.weight]; exact hl) (Nat.zero_le _)
/-! ### the end of a law -/
/-- what is tracked when the law is called: the tables T; the script at a, unless the written part holds it -/
def H1st (K : PySem.W.Frag) (T : List Addr) (a : Addr) (o : Obj) (xs : List V) : Hp := fun b => if b ∈ T then some (.tbl #[]) else if b = a ∧ K.lookup a = none then some (.frz o (.lst xs)) else none
section
variable {K : PySem.W.Frag} {T : List Addr} {a b : Addr} {o : Obj} {xs : List V} {u : HO}
theorem h1_some (h : H1st K T a o xs b = some u) : (b ∈ T ∧ u = .tbl #[]) ∨ (b ∉ T ∧ b = a ∧ K.lookup a = none ∧ u = .frz o (.lst xs)) := by
  unfold H1st at h
  split at h
  next q => exact .inl ⟨q, (Option.some.inj h).symm⟩
  next q =>
    split at h
    next z => exact .inr ⟨q, z.1, z.2, (Option.some.inj h).symm⟩
    next => cases h
theorem h1_tab (h : b ∈ T) : H1st K T a o xs b = some (.tbl #[]) := if_pos h
theorem h1_own (h : a ∉ T) (z : K.lookup a = none) : H1st K T a o xs a = some (.frz o (.lst xs)) := (if_neg h).trans (if_pos ⟨rfl, z⟩)
end
/-- the code objects of the makers, with their tables, as the top left them -/
structure Tabd (K : PySem.W.Frag) (h : Heap) (cs : List (Addr × Addr)) : Prop where
  empty : ∀ q ∈ cs, h.get? q.2 = some { cls := .none, data := .fields #[] }
  apart : ∀ q ∈ cs, K.lookup q.2 = none
  code : ∀ q ∈ cs, PySem.W.CodeHd h q.1 q.2
section
variable {P : Program} {w : World} {K : PySem.W.Frag} {mg mb : Str → Option Value} {k : Nat} {fa a : Addr} {cs : List (Addr × Addr)} {fd : FuncData} {x : Str} {sp : Sp} {s₁ : Shared} {vs : List Value} {ns : List Int}
theorem law_G (KX : K.In s₁.heap) (hns : s₁.heap.Ns mainGlobals mg) (hb : s₁.heap.Ns builtinsNs mb) (hbb : ∀ y : Str, y ≠ "__name__" → mb y = bootBuiltins y) (lim : s₁.heap.NoLimit) (nogen : s₁.gens = #[]) (D : Tabd K s₁.heap cs)
    (bmain : ∃ (bm : Addr) (ob : Obj), mg "__builtins__" = some (.ref bm) ∧ bm ≠ builtinsNs ∧ s₁.heap.get? bm = some ob ∧ ob.cls = .type "module" ∧ ob.dict = some builtinsNs ∧ ob.data = .plain)
    (ha : s₁.heap.get? a = some { cls := .type "list", data := .seq vs.toArray }) (hi : IntsAre vs ns) (hl : ns.length ≤ sizeLine) (room : Room k callerA)
    (F : ∀ base : Heap, K.In base → base.Ns mainGlobals mg → (∀ q ∈ cs, LamX.TabB base mg q.1 q.2) → FnG P w K mg base k fa fd [x] sp) (bd : ∀ (s : Shared) (u : Value), BindsTo s fd ⟨[u], []⟩ [(x, u)])
    (used : ∀ H : Hp, (∀ q ∈ cs, H q.2 = some (.tbl #[])) → SqL K H a (ns.map V.int) → sp [.ref a] H (fun v _ => v = .bl true) E0) :
    codeAny (model P w) callerA (.call (.ref fa) ⟨[.ref a], []⟩) (fun r s' => r = .ok (.ret (.bool true)) ∧ OldK s₁.heap s'.heap ∧ s'.os = s₁.os ∧ AllBare s'.gens) s₁ := by
  have rel : Vals (ns.map V.int) vs := vals_ints hi
  have tabAt : ∀ b ∈ cs.map Prod.snd, s₁.heap.get? b = some { cls := .none, data := .fields #[] } ∧ K.lookup b = none := by
    intro b hbm
    obtain ⟨q, hq, rfl⟩ := List.mem_map.mp hbm
    exact ⟨D.empty q hq, D.apart q hq⟩
  have mem : ∀ q ∈ cs, q.2 ∈ cs.map Prod.snd := fun q hq => List.mem_map.mpr ⟨q, hq, rfl⟩
  have noT : a ∉ cs.map Prod.snd := fun z => by
    have y := ha.symm.trans (tabAt a z).1
    cases y
  generalize eH : H1st K (cs.map Prod.snd) a { cls := .type "list", data := .seq vs.toArray } (ns.map V.int) = H
  have tr : ∀ {b : Addr} {u : HO}, H b = some u → (b ∈ cs.map Prod.snd ∧ u = .tbl #[]) ∨ (b ∉ cs.map Prod.snd ∧ b = a ∧ K.lookup a = none ∧ u = .frz { cls := .type "list", data := .seq vs.toArray } (.lst (ns.map V.int))) := fun z => h1_some (by rw [eH]; exact z)
  have ok : HOk P w H s₁.heap := fun b u z => by
    rcases tr z with ⟨h1, rfl⟩ | ⟨_, rfl, _, rfl⟩
    · exact (tabAt b h1).1
    · exact ⟨ha, by rw [List.length_map]; exact hl, vs, _, rel, ha⟩
  have seen : SqL K H a (ns.map V.int) := by
    cases e : K.lookup a with
    | none => exact .inl (.inr ⟨_, by rw [← eH]; exact h1_own noT e⟩)
    | some o =>
      have z := KX a o e
      rw [ha] at z
      cases z
      exact .inr ⟨_, vs.toArray, _, e, rfl, rfl, rfl, by rw [List.size_toArray, hi.length]; exact hl, by simpa using rel⟩
  have free : ∀ {b : Addr} {o : Obj}, s₁.heap.get? b = some o → (∀ ws n, o.data ≠ .seq ws n) → o.data ≠ .fields #[] → H b = none := fun {b o} e n1 n2 => by
    cases z : H b with
    | none => rfl
    | some u =>
      rcases tr z with ⟨h1, _⟩ | ⟨_, h1, _⟩
      · have y := e.symm.trans (tabAt b h1).1
        cases y
        exact (n2 rfl).elim
      · subst h1
        have y := e.symm.trans ha
        cases y
        exact (n1 _ _ rfl).elim
  have old : ∀ {b : Addr} {o : Obj}, s₁.heap.get? b = some o → H b = none → (hidT s₁.heap H).get? b = some o := fun e n => hidT_get e n
  have dictNs : ∀ {b : Addr} {m : Str → Option Value}, s₁.heap.Ns b m → (hidT s₁.heap H).Ns b m := fun {b m} h => by
    obtain ⟨o, es, ep, e, d, r⟩ := h
    refine ⟨o, es, ep, old e (free e (fun ws n z => ?_) fun z => ?_), d, r⟩
    · exact nomatch d.symm.trans z
    · exact nomatch d.symm.trans z
  have KB : K.In (hidT s₁.heap H) := fun b o e => by
    refine old (KX b o e) ?_
    cases z : H b with
    | none => rfl
    | some u =>
      rcases tr z with ⟨h1, _⟩ | ⟨_, h1, h2, _⟩
      · exact nomatch (tabAt b h1).2.symm.trans e
      · subst h1
        exact nomatch h2.symm.trans e
  have TB : ∀ q ∈ cs, LamX.TabB (hidT s₁.heap H) mg q.1 q.2 := fun q hq => by
    refine ⟨?_, ?_, fun z => ?_⟩
    · obtain ⟨o, us, file, tf, flags, tg, inF, text, tt, e1, r1, r2, r3, rest⟩ := D.code q hq
      refine ⟨o, us, file, tf, flags, tg, inF, text, tt, old e1 (free e1 (fun ws n z => ?_) fun z => ?_), r1, r2, r3, rest⟩
      · exact nomatch r2.symm.trans z
      · have y := r2.symm.trans z
        cases y
        simp at r3
    · obtain ⟨bm, ob, b1, b2, b3, b4, b5, b6⟩ := bmain
      refine ⟨bm, ob, b1, b2, fun z => ?_, fun z => ?_, old b3 (free b3 (fun ws n z => ?_) fun z => ?_), b4, b5, b6⟩
      · obtain ⟨o, es, ep, e, d, _⟩ := hns
        rw [z] at b3
        have y := b3.symm.trans e
        cases y
        exact nomatch b6.symm.trans d
      · rw [z] at b3
        have y := b3.symm.trans (D.empty q hq)
        cases y
        cases b6
      · exact nomatch b6.symm.trans z
      · exact nomatch b6.symm.trans z
    · obtain ⟨o, es, ep, e, d, _⟩ := hns
      rw [z] at e
      have y := e.symm.trans (D.empty q hq)
      cases y
      cases d
  have M : L2.Mod K mg (hidT s₁.heap H) := by
    obtain ⟨mc, l1, l2⟩ := lim
    exact ⟨KB, dictNs hns, ⟨mb, dictNs hb, hbb⟩, mc, dictNs l1, l2⟩
  have env : Env0 P w K mg (hidT s₁.heap H) callerA [] s₁ H := ⟨rfl, M, fun _ _ e => of_hidT e, Nat.le_of_eq (hidT_size _ _), trivial, fun _ z => (by cases z), ok, .of_eq nogen⟩
  have tabH : ∀ q ∈ cs, H q.2 = some (.tbl #[]) := fun q hq => by
    rw [← eH]
    exact h1_tab (mem q hq)
  refine codeAny_mono ((F _ KB (dictNs hns) TB).runs (args := ⟨[.ref a], []⟩) (us := [.ref a]) (vs := [.ref a]) rfl room env (bd s₁ (.ref a)) (.cons rfl .nil) (used H tabH seen)) fun r s' res => ?_
  match r, res with
  | .error _, z => exact z.elim
  | .ok .next, z => exact z.elim
  | .ok .brk, z => exact z.elim
  | .ok .cont, z => exact z.elim
  | .ok (.ret u), ⟨v, H', os, bare, un, ok', ru, q⟩ =>
    obtain rfl : v = V.bl true := q
    obtain rfl : u = Value.bool true := ru
    have more : ∀ q ∈ cs, ∃ ps : Array Value, s'.heap.get? q.2 = some { cls := .none, data := .fields ps } := fun q hq => by
      obtain ⟨ps, z⟩ := un.tbls q.2 #[] (tabH q hq)
      exact ⟨_, ok' q.2 _ z⟩
    have same : ∀ {b : Addr} {o : Obj}, b ∉ cs.map Prod.snd → s₁.heap.get? b = some o → s'.heap.get? b = some o := fun {b o} nb e => by
      cases z : H b with
      | none => exact un.keep b o e z (fun y => (by cases y)) (fun y => (by cases y))
      | some u =>
        rcases tr z with ⟨h1, _⟩ | ⟨_, _, _, h1⟩
        · exact absurd h1 nb
        · subst h1
          have z2 := (ok b _ z).1
          rw [e] at z2
          cases z2
          exact (ok' b _ (un.frzs b _ _ z)).1
    refine ⟨rfl, ⟨fun b o e => ?_, fun b o e => ?_⟩, os, bare⟩ <;> by_cases nb : b ∈ cs.map Prod.snd
    · obtain ⟨q, hq, rfl⟩ := List.mem_map.mp nb
      obtain ⟨ps, hp⟩ := more q hq
      have z := (D.empty q hq).symm.trans e
      cases z
      exact .inr (.inl ⟨((D.code q hq).tab (D.empty q hq)).isCodeTable, rfl, #[], ps, rfl, by rw [Array.empty_append]; exact hp⟩)
    · exact .inl (same nb e)
    · obtain ⟨q, hq, rfl⟩ := List.mem_map.mp nb
      obtain ⟨ps, hp⟩ := more q hq
      exact ⟨_, hp⟩
    · exact ⟨o, same nb e⟩
/-- the law's promise at the heap behind the top -/
def LawG (l : PySem.W.OpenLaw) (w : World) (K : PySem.W.Frag) (k n : Nat) (x : Str) (mg : Str → Option Value) (fa : Addr) (h : Heap) : Prop :=
  ∃ (fd : FuncData) (cs : List (Addr × Addr)) (sp : Sp), Tabd K h cs ∧ (∀ (s : Shared) (u : Value), BindsTo s fd ⟨[u], []⟩ [(x, u)]) ∧
    (∀ (H : Hp) (a : Addr) (ns : List Int), ns.length ≤ n → (∀ z ∈ ns, Builtin.Int.intBits z ≤ 1048576) → (∀ q ∈ cs, H q.2 = some (.tbl #[])) → SqL K H a (ns.map V.int) → sp [.ref a] H (fun v _ => v = .bl true) E0) ∧
    ∀ base : Heap, K.In base → base.Ns mainGlobals mg → (∀ q ∈ cs, LamX.TabB base mg q.1 q.2) → FnG l.prog w K mg base k fa fd [x] sp
theorem walk_G {l : PySem.W.OpenLaw} {n k : Nat} {q : Program} {loose : List Str} {XP : (Str → Option Value) → Heap → Prop} {YP : World → Heap → Prop} {d : DefRec} {K : Params → PySem.W.Frag} {x : Str} (hn : l.most = some n) (hn2 : n ≤ sizeLine) (nd : d.params.defaults = []) (room : Room k callerA)
    (hY : ∀ (w : World) (h : Heap), YP w h → (K w.params).In h)
    (F : ∀ (w : World) (mg : Str → Option Value) (fa : Addr) (h : Heap), (K w.params).In h → h.Ns mainGlobals mg → mg d.name = some (.ref fa) →
      (∀ (y : Str) (f : Addr), ((recsOf q).any fun e => e.name == y) = true → mg y = some (.ref f) → LamX.OwnTab (K w.params) f h) → LawG l w (K w.params) k n x mg fa h) :
    PySem.W.WalkO q loose XP YP l.row.toRowW d [] (fun f vs => PySem.call f vs) := by
  refine Att.attach_callB hn nd fun w s₀ s₁ mg mb fa o pm cd doc a vs ns G Y ho hd hcd hmg hobj hints hlen hbits hg => ?_
  have KX := hY w _ Y
  have own : ∀ (y : Str) (f : Addr), ((recsOf q).any fun e => e.name == y) = true → mg y = some (.ref f) → LamX.OwnTab (K w.params) f s₁.heap := by
    intro y f hy hf c P o1 fd1 e dd vs1 sl k1 k2 k3 k4 k5
    obtain ⟨dL, hm, en⟩ := List.any_eq_true.mp hy
    obtain ⟨f', o', fd', c', P', h1, h2, h3, h4, h5, ⟨oc, vc, e1, _, e3, e4⟩, hP⟩ := G.T.tab dL hm
    rw [beq_iff_eq.mp en, hf] at h1
    cases h1
    have z1 := (KX _ _ k1).symm.trans h2
    cases z1
    have z2 := k2.symm.trans h3
    cases z2
    have z3 := k3.symm.trans h4
    cases z3
    have z4 := (KX _ _ k4).symm.trans e1
    cases z4
    cases e3
    have z5 := k5.symm.trans e4
    cases z5
    exact hP
  obtain ⟨fd, cs, sp, D, bd, use, hF⟩ := F w mg fa _ KX G.T.g hmg own
  exact law_G KX G.T.g G.T.b G.T.builtins G.T.nolimit hg D G.T.bmain hobj hints (Nat.le_trans hlen hn2) room hF bd fun H hH hS => use H a ns hlen hbits hH hS
end
end J

/-! J16: len(o), x in o, o[x], o == x by an own class's own methods. -/
namespace J
open PySem PySem.Spec PyProof.Rows L2 Evl RZ
section
variable {X : Cx} {CX : CXT} {k : Nat} {f C : Addr} {fd : FuncData} {ps : List Str} {sp : Sp} {E : XK}
/-- a call somewhere below the running body -/
theorem run_sub {A : Around} {pins : List (Addr × Obj)} {σ : L2.St} {H : Hp} {s : Shared} {Q : VK} {us : List Value} {vs : List V} (sb : Sub X k A) (F : FnOk X.prog X.w X.K X.mg X.base CX k f fd ps sp) (hb : Binds X.K fd ps []) (hx : Passes CX X E)
    (I : Inv X pins σ H s) (r : Vals vs us) (h : sp vs H Q E) : wpAny (model X.prog X.w) A (call (.ref f) us) (EP X pins σ Q) X.xe s := by
  have here : Env0 X.prog X.w X.K X.mg X.base A X.stack s H := by
    have e := I.env0
    exact ⟨by rw [sb.fr]; exact e.frames, e.mod, e.bs, e.bsz, e.funs, e.frf, e.hok, e.bare⟩
  have gLen : us.length = ps.length := by
    rw [← r.length]
    exact F.len _ _ _ _ h
  refine wpAny_call (codeAny_mono (F.run A X.stack s H ⟨us, []⟩ us vs Q E sb.room here (by
    have := hb s us I.kIn (by simpa using gLen)
    simpa using this) r h) fun r s' hq => ?_)
  cases r with
  | error e => exact hx pins σ H s e s' I hq
  | ok fl =>
    cases fl with
    | ret w => exact I.after hq
    | next => exact False.elim hq
    | brk => exact False.elim hq
    | cont => exact False.elim hq
def rLenO (C : Addr) (sp : Sp) (E : XK) : List V → Hp → VK → Prop := fun xs H Q => ∃ a dx fs, xs = [.ref a] ∧ H a = some (.ins C dx fs) ∧ sp [.ref a] H (fun v H' => ∃ n : Int, v = .int n ∧ (0 ≤ n ∧ n < 2 ^ 63) ∧ Q (.int n) H') E
theorem call_lenO (F : FnOk X.prog X.w X.K X.mg X.base CX k f fd ps sp) (M : Meth X.K C "__len__" f) (hr : Room (k + 1) X.A) (hb : Binds X.K fd ps []) (hx : Passes CX X E) : CallR X (.builtin "len") (rLenO C sp E) := by
  intro pins s σ H xs us Q I r h
  obtain ⟨a, dx, fs, rfl, ha, wants⟩ := h
  obtain ⟨u, rfl, ru⟩ := vals1 r
  cases ru
  obtain ⟨mA, J, _⟩ := ins_get I.hok ha
  obtain ⟨od, J, _⟩ := J.look
  obtain ⟨m, frame⟩ := I.fr
  refine PySem.W.len_K frame I.ok.mod.kin J M.at_ M.fn (wpAny_mono (run_sub (A := X.A.in1) (k := k) (vs := [V.ref a]) ⟨hr.in1, rfl⟩ F hb hx I (.cons rfl .nil) wants) (fun v s' back => ?_) fun _ _ z => z)
  obtain ⟨x, H', I', rx, n, rfl, hn, q⟩ := back
  obtain ⟨t, rfl⟩ := rx
  exact ⟨hn, .int n, H', I'.tok _, ⟨_, rfl⟩, q⟩
def rInO (C : Addr) (sp : Sp) (E : XK) : R2 := fun x y H Q => ∃ a dx fs, y = .ref a ∧ H a = some (.ins C dx fs) ∧ sp [.ref a, x] H (fun v H' => ∃ b, v = .bl b ∧ Q (.bl b) H') E
def rNotInO (C : Addr) (sp : Sp) (E : XK) : R2 := fun x y H Q => ∃ a dx fs, y = .ref a ∧ H a = some (.ins C dx fs) ∧ sp [.ref a, x] H (fun v H' => ∃ b, v = .bl b ∧ Q (.bl (!b)) H') E
theorem op_inO (F : FnOk X.prog X.w X.K X.mg X.base CX k f fd ps sp) (M : Meth X.K C "__contains__" f) (hr : Room k X.A) (hb : Binds X.K fd ps []) (hx : Passes CX X E) : OpR X (compareOp .In) (rInO C sp E) := by
  intro pins s σ H x y v u Q I rx ry h
  obtain ⟨a, dx, fs, rfl, ha, wants⟩ := h
  cases ry
  obtain ⟨mA, J, _⟩ := ins_get I.hok ha
  obtain ⟨od, J, _⟩ := J.look
  obtain ⟨m, frame⟩ := I.fr
  refine PySem.W.in_K frame I.ok.mod.kin J M.at_ M.fn (wpAny_mono (run_sub (A := X.A) (vs := [V.ref a, x]) ⟨hr, rfl⟩ F hb hx I (.cons rfl (.cons rx .nil)) wants) (fun v s' back => ?_) fun _ _ z => z)
  obtain ⟨x, H', I', rx, b, rfl, q⟩ := back
  cases rx
  exact wpAny_truthy_bool ⟨.bl b, H', I', rfl, q⟩
theorem op_notInO (F : FnOk X.prog X.w X.K X.mg X.base CX k f fd ps sp) (M : Meth X.K C "__contains__" f) (hr : Room k X.A) (hb : Binds X.K fd ps []) (hx : Passes CX X E) : OpR X (compareOp .NotIn) (rNotInO C sp E) := by
  intro pins s σ H x y v u Q I rx ry h
  obtain ⟨a, dx, fs, rfl, ha, wants⟩ := h
  cases ry
  obtain ⟨mA, J, _⟩ := ins_get I.hok ha
  obtain ⟨od, J, _⟩ := J.look
  obtain ⟨m, frame⟩ := I.fr
  refine PySem.W.notIn_K frame I.ok.mod.kin J M.at_ M.fn (wpAny_mono (run_sub (A := X.A) (vs := [V.ref a, x]) ⟨hr, rfl⟩ F hb hx I (.cons rfl (.cons rx .nil)) wants) (fun v s' back => ?_) fun _ _ z => z)
  obtain ⟨x, H', I', rx, b, rfl, q⟩ := back
  cases rx
  exact wpAny_truthy_bool ⟨.bl (!b), H', I', rfl, q⟩
end
section
variable {r : Rs} {s : L2.St} {S : Hp} {ta tb : TE} {v : V} {A : Type} {C : Addr} {pre : A → List V → Hp → Prop} {post : A → V → Hp → Prop} {E : XK}
/-- len(o), o told by a relation -/
theorem vv_lenO {n : Int} (a : A) (h : EvV r ta s S v) (back : ∃ x dx fs, v = .ref x ∧ S x = some (.ins C dx fs)) (hn : 0 ≤ n ∧ n < 2 ^ 63) (hp : ∀ S1, Ex S S1 → pre a [v] S1) (hq : ∀ u S1, post a u S1 → u = .int n) : EvV r (tCB (rLenO C (SpP pre post) E) (tCons ta tNil)) s S (.int n) := fun S1 H e w Q q =>
  h S1 H e w _ fun u S2 H2 w2 s2 eu => by
    subst eu
    obtain ⟨x, dx, fs, rfl, hx⟩ := back
    have e2 := e.trans s2.ex
    refine ⟨x, dx, fs, rfl, w2.ex _ _ (e2 _ _ hx), a, S2, hp S2 e2, w2.ex, fun u S3 H3 w3 s3 p3 => ⟨n, hq u S3 p3, hn, q _ S3 H3 (w2.lift w3 s3) (s2.trans s3.lift) rfl⟩⟩
theorem vv_inO {b : Bool} {x y : V} (a : A) (hx : EvV r ta s S x) (hy : EvV r tb s S y) (back : ∃ z dx fs, y = .ref z ∧ S z = some (.ins C dx fs)) (hp : ∀ S1, Ex S S1 → pre a [y, x] S1) (hq : ∀ u S1, post a u S1 → u = .bl b) : EvV r (tOp (rInO C (SpP pre post) E) ta tb) s S (.bl b) := fun S1 H e w Q q =>
  hx S1 H e w _ fun u S2 H2 w2 s2 eu => hy S2 H2 (e.trans s2.ex) w2 _ fun u' S3 H3 w3 s3 eu' => by
    subst eu
    subst eu'
    obtain ⟨z, dx, fs, rfl, hz⟩ := back
    have e3 := e.trans (s2.ex.trans s3.ex)
    exact ⟨z, dx, fs, rfl, w3.ex _ _ (e3 _ _ hz), a, S3, hp S3 e3, w3.ex, fun u S4 H4 w4 s4 p4 => ⟨b, hq u S4 p4, q _ S4 H4 (w3.lift w4 s4) ((s2.trans s3).trans s4.lift) rfl⟩⟩
theorem vv_notInO {b : Bool} {x y : V} (a : A) (hx : EvV r ta s S x) (hy : EvV r tb s S y) (back : ∃ z dx fs, y = .ref z ∧ S z = some (.ins C dx fs)) (hp : ∀ S1, Ex S S1 → pre a [y, x] S1) (hq : ∀ u S1, post a u S1 → u = .bl b) : EvV r (tOp (rNotInO C (SpP pre post) E) ta tb) s S (.bl (!b)) := fun S1 H e w Q q =>
  hx S1 H e w _ fun u S2 H2 w2 s2 eu => hy S2 H2 (e.trans s2.ex) w2 _ fun u' S3 H3 w3 s3 eu' => by
    subst eu
    subst eu'
    obtain ⟨z, dx, fs, rfl, hz⟩ := back
    have e3 := e.trans (s2.ex.trans s3.ex)
    exact ⟨z, dx, fs, rfl, w3.ex _ _ (e3 _ _ hz), a, S3, hp S3 e3, w3.ex, fun u S4 H4 w4 s4 p4 => ⟨b, hq u S4 p4, q _ S4 H4 (w3.lift w4 s4) ((s2.trans s3).trans s4.lift) rfl⟩⟩
end
end J

set_option pp.maxSteps 3000
/-! J17: C(**d): a new instance by the texts of a dict. -/
namespace J
open PySem PySem.Spec PyProof.Rows L2 Evl RZ
section
variable {prog : Program} {w : World} {κ : Type} [DecidableEq κ] {knd : KeyKind prog w κ} {A : Around} {E : Value → Shared → Prop} {s : Shared}
theorem wp_dictPut {d : Addr} {before : List (κ × Value)} {k : κ} {kv0 v : Value} {Q : Unit → Shared → Prop} (isKey : knd.is k kv0 = true) (gD : s.heap.DictOf knd d before) (gNot : k ∉ before.map (·.1))
    (goOn : ∀ h', h'.DictOf knd d (before ++ [(k, v)]) → Heap.SameBut d s.heap h' → Q () { s with heap := h' }) (gLen : before.length ≤ sizeLine) :
    wpAny (model prog w) A (dictFind d kv0 (knd.hash k) >>= fun r => if r.isSome = true then (rule "dict.merge.duplicate-key" >>= fun _ => newExc (.type "KeyError") [kv0] >>= fun e => (raiseNew e : Sem PUnit) >>= fun _ => dictPut d (knd.hash k) kv0 v) else dictPut d (knd.hash k) kv0 v) Q E s := by
  obtain ⟨ob0, ents, eno, gOb, gCls, gDat, gKs, gPs, gNd⟩ := gD
  have gSize : ents.size ≤ sizeLine := by
    have e1 := gPs.length
    have e2 : ents.toList.length = ents.size := by simp
    omega
  have gIx : (ents.findIdx? fun e => knd.is k e.key) = before.findIdx? fun kv => decide (kv.1 = k) := by
    rw [← gPs.findIdx k]; obtain ⟨l⟩ := ents; simp
  have gNone : (ents.findIdx? fun e => knd.is k e.key) = none := by
    rw [gIx, List.findIdx?_eq_none_iff]
    intro kv hkv
    exact decide_eq_false fun e => gNot (List.mem_map.mpr ⟨kv, hkv, e⟩)
  refine wpAny_bind (wpAny_dictFind_of isKey gOb gDat gKs ?_)
  rw [gNone]
  simp only [Option.isSome_none, Bool.false_eq_true, if_false]
  unfold dictPut
  refine wpAny_bind (wpAny_dictFind_of isKey gOb gDat gKs ?_)
  rw [gNone]
  refine (wpAny_updateDictKeys (hz := gSize) gOb gDat (goOn _ ⟨_, _, eno + 1, Heap.get?_update_self _ gOb (Obj.isFreed_of_dict (Obj.data_mapDictKeys gDat _)),
      gCls.mapDictKeys _, Obj.data_mapDictKeys gDat _, gKs.push isKey _, ?_, ?_⟩ (Heap.SameBut.update ..)))
  · have := gPs.append isKey (knd.hash k) v
    obtain ⟨l⟩ := ents
    simpa using this
  · rw [List.map_append, List.nodup_append]
    refine ⟨gNd, by simp, ?_⟩
    intro a ha b hb
    simp only [List.map_cons, List.map_nil, List.mem_singleton] at hb
    subst hb
    exact fun e => gNot (e ▸ ha)
theorem wp_merge {d o : Addr} {items : List (κ × Value)} {Q : Unit → Shared → Prop} (apart : d ≠ o) (noSys : (o == sysModules) = false)
    (hd : s.heap.DictOf knd d []) (ho : s.heap.DictOf knd o items)
    (goOn : ∀ h', h'.DictOf knd d items → Heap.SameBut d s.heap h' → Q () { s with heap := h' })
    (gFits : items.length ≤ sizeLine) : wpAny (model prog w) A (mergeMapping d (.ref o) true) Q E s := by
  obtain ⟨tgt, tgtEs, tgtEp, gTgt, gTgtC, gTgtD, gTgtK, gTgtP, gTgtN⟩ := id hd
  obtain ⟨src, srcEs, srcEp, gSrc, gSrcC, gSrcD, gSrcK, gSrcP, gSrcN⟩ := id ho
  have gLen : items.length = srcEs.size := by rw [← gSrcP.length]; simp
  have h0 : tgtEs = #[] := by
    have := gTgtP.length
    simp at this
    exact this
  unfold mergeMapping
  refine wpAny_bind (wpAny_isInstance ho.typeIs isSubtype_dict_dict ?_)
  simp only [if_true]
  refine wpAny_bind (wpAny_specialOf ho.typeIs F.slot_dict_iter.lookup ?_)
  simp only [beq_self_eq_true]
  refine wpAny_bind (wpAny_pure ?_)
  simp only [noSys, Bool.false_eq_true, if_false]
  refine wpAny_bind (wpAny_dictEntries gTgt gTgtD ?_)
  rw [h0]
  simp only [Array.isEmpty_empty, if_true]
  refine wpAny_bind (wpAny_dictEntries gSrc gSrcD ?_)
  have quiet : (forIn srcEs PUnit.unit fun (e : DictEntry) (_ : PUnit) => (do
      match e.key with
        | Value.ref a => do
          let __do_lift ← specialOf e.key (Str.ofString "__eq__")
          if (__do_lift != some (Value.builtin "object.__eq__")) = true then
              if (Array.filter (fun x => x.hash == e.hash) srcEs).size > 1 then do
                let _ ← (unsupported "dict.merge-into-an-empty-dict:keys-of-equal-hash" : Sem PUnit)
                pure (ForInStep.yield PUnit.unit)
              else pure (ForInStep.yield PUnit.unit)
            else pure (ForInStep.yield PUnit.unit)
        | x => pure (ForInStep.yield PUnit.unit) : Sem (ForInStep PUnit))) = pure PUnit.unit := by
    rw [← Array.forIn_toList]
    refine forIn_yield_id _ fun e he c => ?_
    obtain ⟨k, isKey, _⟩ := gSrcK e (Array.mem_toList_iff.mp he)
    have hb := knd.byValue k _ isKey
    cases hv : e.key with
    | ref a =>
      rw [hv] at hb
      exact absurd hb Bool.false_ne_true
    | _ => rfl
  refine wpAny_bind (wpAny_of_eq quiet ?_)
  refine wpAny_bind (wpAny_dictEntries gSrc gSrcD ?_)
  refine wpAny_bind (wpAny_dictEpoch gSrc gSrcD ?_)
  refine wpAny_bind ?_
  rw [List.range_eq_range']
  refine wpAny_forIn_list _
      (fun rest _ s' => ∃ h' i, s' = { s with heap := h' } ∧ rest = List.range' i (srcEs.size - i) ∧ i ≤ srcEs.size ∧ h'.DictOf knd d (items.take i) ∧ h'.get? o = some src ∧ Heap.SameBut d s.heap h')
      _ ?_ ?_ _ _ ⟨s.heap, 0, rfl, by simp, Nat.zero_le _, by simpa using hd, gSrc, Heap.SameBut.refl _ _⟩
  · rintro x rest b s' ⟨h', i, rfl, gRest, gI, nowD, nowS, nowB⟩
    have gLt : i < srcEs.size := by
      rcases Nat.lt_or_ge i srcEs.size with h | h
      · exact h
      · rw [Nat.sub_eq_zero_of_le h] at gRest; simp at gRest
    obtain ⟨rfl, gTail⟩ : x = i ∧ rest = List.range' (i + 1) (srcEs.size - (i + 1)) := by
      have e : srcEs.size - i = (srcEs.size - (i + 1)) + 1 := by omega
      rw [e, List.range'_succ] at gRest
      injection gRest with h1 h2
      exact ⟨h1, h2⟩
    refine wpAny_bind (wpAny_dictEntries nowS gSrcD ?_)
    rw [Array.getElem?_eq_getElem gLt]
    obtain ⟨kv, gAt⟩ : ∃ kv, items[x]? = some kv := ⟨items[x]'(by rw [gLen]; exact gLt), List.getElem?_eq_getElem _⟩
    obtain ⟨k, v⟩ := kv
    obtain ⟨isKey, gVal⟩ := gSrcP.get? (e := srcEs[x]) (by simp [gLt]) gAt
    obtain ⟨k', isKey2, gHash⟩ := gSrcK srcEs[x] (Array.getElem_mem gLt)
    obtain rfl : k' = k := knd.inj _ _ _ isKey2 isKey
    dsimp only
    rw [gHash, gVal]
    have gNew : k' ∉ (items.take x).map (·.1) := fun hm => by
      have hx : x < items.length := by omega
      have e1 : (items.map (·.1)) = (items.take x).map (·.1) ++ (items.drop x).map (·.1) := by rw [← List.map_append, List.take_append_drop]
      rw [e1, List.nodup_append] at gSrcN
      refine gSrcN.2.2 k' hm k' ?_ rfl
      rw [List.drop_eq_getElem_cons hx, List.map_cons, (List.getElem?_eq_some_iff.mp gAt).2]
      exact List.mem_cons_self
    refine wpAny_bind (wpAny_holding (wp_dictPut isKey nowD gNew (fun h'' thenD thenB => ?_) (by rw [List.length_take]; omega)))
    have thenS : h''.get? o = some src := (thenB.2 o (Ne.symm apart)).trans nowS
    refine wpAny_bind (wpAny_dictEpoch thenS gSrcD ?_)
    rw [if_neg (by simp)]
    refine wpAny_pure ⟨h'', x + 1, rfl, gTail, gLt, ?_, thenS, nowB.trans thenB⟩
    rw [List.take_add_one, gAt]
    exact thenD
  · rintro b s' ⟨h', i, rfl, gRest, gI, nowD, nowS, nowB⟩
    have gEnd : i = srcEs.size := by
      rcases Nat.lt_or_ge i srcEs.size with h | h
      · have e : srcEs.size - i = (srcEs.size - (i + 1)) + 1 := by omega
        rw [e, List.range'_succ] at gRest; exact nomatch gRest
      · exact Nat.le_antisymm gI h
    rw [gEnd, ← gLen, List.take_length] at nowD
    exact wpAny_pure (goOn h' nowD nowB)
end
end J

set_option pp.maxSteps 3000
/-! J18: C(**d): a new instance by the texts of a dict. -/
namespace J
open PySem PySem.Spec PyProof.Rows L2 Evl RZ
theorem forIn_kw {F : DictEntry → List (Str × Value) → Sem (ForInStep (List (Str × Value)))} (hF : ∀ h s t v kw, F ⟨h, .str s t, v⟩ kw = pure (.yield (kw ++ [(s, v)]))) : ∀ (l : List DictEntry) (ps kw : List (Str × Value)), Paired (fun (e : DictEntry) (p : Str × Value) => (∃ t, e.key = .str p.1 t) ∧ e.val = p.2) l ps → forIn l kw F = pure (kw ++ ps)
  | [], _, kw, h => by
    cases h
    rw [List.append_nil]
    rfl
  | ⟨hh, key, v⟩ :: l, _, kw, h => by
    cases h with
    | cons a t =>
      rename_i p ps
      obtain ⟨⟨tk, e1⟩, e2⟩ := a
      dsimp only at e1 e2
      subst e1
      subst e2
      rw [List.forIn_cons, hF, pure_bind]
      dsimp only
      rw [forIn_kw hF l ps _ t, List.append_assoc]
      rfl
theorem forIn_one {α β : Type} {F : α → β → Sem (ForInStep β)} {a : α} {b : β} : forIn [a] b F = F a b >>= fun r => match r with
    | .done b => pure b
    | .yield b => pure b := by
  rw [List.forIn_cons]
  congr 1
section
variable {prog : Program} {w : World} {A : Around} {E : Value → Shared → Prop} {s : Shared}
theorem pairs_kw : ∀ {es : List DictEntry} {more : List (Key × Value)}, PySem.Pairs (mixKind prog w) es more → ∀ ks : List Str, more.map (·.1) = ks.map Sum.inr → Paired (fun (e : DictEntry) (p : Str × Value) => (∃ t, e.key = .str p.1 t) ∧ e.val = p.2) es (ks.zip (more.map (·.2)))
  | _, _, .nil, ks, h => by
    cases ks with
    | nil => exact .nil
    | cons k ks => cases h
  | _, _, .cons (e := e) (kv := kv) h1 h2 t, ks, h => by
    cases ks with
    | nil => cases h
    | cons k ks =>
      rw [List.map_cons, List.map_cons] at h
      injection h with h3 h4
      refine .cons ⟨?_, h2⟩ (pairs_kw t ks h4)
      rcases keyIs_shape (show keyIs kv.1 e.key = true from h1) with ⟨i, tk, q1, q2⟩ | ⟨x, tk, q1, q2⟩
      · rw [q1] at h3
        cases h3
      · rw [q1] at h3
        injection h3 with h3
        subst h3
        exact ⟨tk, q2⟩
theorem wp_kwIn {f : Value} {d : Addr} {more : List (Key × Value)} {ks : List Str} {Q : List (Str × Value) → Shared → Prop} (hd : s.heap.DictOf (mixKind prog w) d more) (hk : more.map (·.1) = ks.map Sum.inr) (hQ : Q (ks.zip (more.map (·.2))) s) :
    wpAny (model prog w) A (keywordsIn f d) Q E s := by
  obtain ⟨o, es, ep, ho, hc, hdat, hko, hp, hno⟩ := id hd
  unfold keywordsIn
  refine wpAny_bind (wpAny_dictEntries ho hdat ?_)
  have hpr : Paired (fun (e : DictEntry) (p : Str × Value) => (∃ t, e.key = .str p.1 t) ∧ e.val = p.2) es.toList (ks.zip (more.map (·.2))) := pairs_kw hp ks hk
  rw [← Array.forIn_toList]
  refine wpAny_bind (wpAny_of_eq (forIn_kw (fun _ _ _ _ _ => rfl) _ _ _ hpr) ?_)
  exact wpAny_pure hQ
theorem wp_merged {f : Value} {x : Sem Value} {Q : Addr → Shared → Prop}
    (h : wpAny (model prog w) A x (fun v s1 => wpAny (model prog w) A (mergeMapping s.heap.objs.size v true) (fun _ s2 => Q s.heap.objs.size s2) (fun _ _ => False) s1) E { s with heap := s.heap.push { cls := .type "dict", data := .dict #[] } }) :
    wpAny (model prog w) A (mergedKeywords f [(none, x)]) Q E s := by
  unfold mergedKeywords
  refine wpAny_bind (wpAny_alloc ?_)
  dsimp only
  refine wpAny_bind (wpAny_holding ?_)
  rw [forIn_one]
  refine wpAny_bind (wpAny_bind ?_)
  refine wpAny_bind (wpAny_pure ?_)
  refine wpAny_bind (wpAny_mono h (fun v s1 h1 => ?_) fun _ _ z => z)
  refine wpAny_bind (wpAny_onRaise (wpAny_holding (wpAny_tryCatch (wpAny_onRaise (wpAny_mono h1 (fun _ s2 h2 => ?_) fun _ _ z => z.elim)))))
  refine wpAny_pure (wpAny_pure ?_)
  exact (show wpAny (model prog w) A (pure ()) _ E s2 from wpAny_pure (wpAny_pure h2))
theorem ev_args {f : Value} {x : Sem Value} {Q : Args → Shared → Prop}
    (h : wpAny (model prog w) A (mergedKeywords f [(none, x)]) (fun d s1 => wpAny (model prog w) A (keywordsIn f d) (fun kw s2 => Q ⟨[], kw⟩ s2) E s1) E s) : wpAny (model prog w) A (evalArgs f true [] [(none, x)]) Q E s := by
  unfold evalArgs
  refine wpAny_bind (wpAny_bind (wpAny_pure (wpAny_pure ?_)))
  refine wpAny_bind (wpAny_pure ?_)
  refine wpAny_holding ?_
  refine (show wpAny (model prog w) A (mergedKeywords f [(none, x)] >>= fun d => (pure [] : Sem (List Value)) >>= fun pos => holding (Value.ref d :: pos) (keywordsIn f d) >>= fun kw => pure (⟨pos, kw⟩ : Args)) _ E s from ?_)
  refine wpAny_bind (wpAny_mono h (fun d s1 h1 => ?_) fun _ _ z => z)
  exact wpAny_bind (wpAny_pure (wpAny_bind (wpAny_holding (wpAny_mono h1 (fun _ _ z => wpAny_pure z) fun _ _ z => z))))
theorem call_with {f : Value} {pos : Pos} {x : Sem Value} {Q : Value → Shared → Prop} {P : Heap → Prop}
    (keeps : ∀ h, P h → ∃ k, (k = Keeper.frame ∨ k = Keeper.machine ∨ k = Keeper.boundFrame) ∧ PySem.W.Looks (model prog w) h (keeperOf f) k)
    (h : wpAny (model prog w) A (evalArgs f true [] [(none, x)]) (fun a st1 => P st1.heap ∧ wpAny (model prog w) A (call f ([] ++ a.pos) a.kw) Q E st1) E s) : wpAny (model prog w) A (callWith pos f [] [] [(none, x)]) Q E s := by
  unfold callWith
  refine wpAny_bind (wpAny_holding (wpAny_mono h (fun a st1 got => wpAny_bind (wpAny_standAt ?_)) fun _ _ x => x))
  obtain ⟨k, kinds, look⟩ := keeps _ got.1
  refine wpAny_bind (look.here ?_)
  have closing : ∀ {t : Sem Value}, wpAny (model prog w) A t Q E st1 → wpAny (model prog w) A (t >>= fun r => holding [r] point >>= fun _ => pure r) Q E st1 :=
    fun run => wpAny_bind (wpAny_mono run (fun r st2 back => wpAny_bind (wpAny_holding (wpAny_point (wpAny_pure back)))) fun _ _ x => x)
  have byMark (mk : Value) : wpAny (model prog w) A (callMarked mk f ([] ++ a.pos) a.kw) Q E st1 := by unfold callMarked; exact Calls.wpAny_keep got.2
  rcases kinds with rfl | rfl | rfl <;> dsimp only <;> first | exact closing (byMark _) | exact closing (wpAny_operating got.2) | exact closing got.2
end
/-- C(**e): first a new dict, then e, whose items go there; then a new instance -/
def tMakeD (C : Addr) (ks : List Str) (sp : Sp) (gV : List V → List V → List V) (E : XK) (te : TE) : TE := fun σ H Q => ∀ D, H D = none → te σ (upd H D (.dK [])) fun v H1 => H1 D = some (.dK []) ∧ ∃ a kvs, v = .ref a ∧ a ≠ D ∧ H1 a = some (.dK kvs) ∧ kvs.map (·.1) = ks.map Sum.inr ∧
  ∀ x dx, (upd H1 D (.dK kvs)) x = none → (upd H1 D (.dK kvs)) dx = none → dx ≠ x → sp (gV [.ref x] (kvs.map (·.2))) (upd (upd (upd H1 D (.dK kvs)) dx (.own x)) x (.ins C dx [])) (fun v H3 => v = .non ∧ Q (.ref x) H3) E
theorem kv_vals : ∀ {kvs : List (Key × V)} {vs : List (Key × Value)}, KV kvs vs → Vals (kvs.map (·.2)) (vs.map (·.2))
  | _, _, .nil => .nil
  | _, _, .cons h t => .cons h.2 (kv_vals t)
section
variable {X : Cx} {CX : CXT} {k : Nat} {f C : Addr} {fd : FuncData} {ps ks : List Str} {sp : Sp} {E : XK} {x : Str} {p pos kpos : Pos} {e : Expr} {te : TE} {g : List Value → List Value → List Value} {gV : List V → List V → List V}
theorem pe_makeD (M : Mk X.K C f) (F : FnOk X.prog X.w X.K X.mg X.base CX k f fd ps sp) (hr : Room (k + 1) X.A) (hg : Gl X x) (hm : X.mg x = some (.ref C)) (hb : KBn X.K fd ps 1 ks g gV) (hx : Passes CX X E) (he : PE X e te)
    (hkw : backToKw pos (keywordEach [⟨none, e, kpos⟩] X.env) = [(none, do let v ← eval e X.env; standAt pos; pure v)] := by rfl) (hdb : (x == ("__debug__" : Str)) = false := by decide) :
    PE X (.Call (.Name x p) [] [⟨none, e, kpos⟩] pos) (tMakeD C ks sp gV E te) := by
  refine ⟨fun pins s σ H Q I h => ?_⟩
  have hn := I.hok.fresh (Nat.le_refl s.heap.objs.size)
  have I1 := I.laid (a := s.heap.objs.size) (o := .dK []) (h' := s.heap.push { cls := .type "dict", data := .dict #[] }) (t' := s.toks) (fun _ _ q => Heap.get?_push_of_some _ q) (Nat.le_refl _) (dk_empty s.heap I.big)
  refine wpAny_Call_Name_kw (ld_glob I hg hm ?_ hdb)
  rw [hkw]
  refine call_with (P := fun h => X.K.In h) (PySem.W.keeps_K M.kp) (ev_args (wp_merged ?_))
  refine wpAny_bind (thn (he.run pins _ σ _ _ I1 (h _ hn)) fun u s2 ⟨v, H2, I2, rv, eD, a, kvs, ev, ne, ha, hks, q2⟩ => wpAny_bind (wpAny_standAt (wpAny_pure ?_)))
  subst ev
  cases rv
  obtain ⟨z, lo, vs, rel, dd⟩ := dk_of I2.hok ha
  obtain ⟨z0, hd0, vs0, r0, dd0⟩ := dk_of I2.hok eD
  cases r0
  have hl : vs.length ≤ sizeLine := by
    rw [← rel.length]
    exact z
  refine wp_merge (knd := mixKind X.prog X.w) (Ne.symm ne) lo dd0 dd (fun h' dd' hs => ?_) hl
  have hex : ∃ q, h'.get? s.heap.objs.size = some q := let ⟨q, _, _, hq, _⟩ := dd'; ⟨q, hq⟩
  have I3 := d_write (t' := s2.toks) I2 (by rw [eD]; exact True.intro) hs hex (dk_new z hd0 rel dd')
  have hks2 : vs.map (·.1) = ks.map Sum.inr := by
    rw [← rel.keys]
    exact hks
  refine wp_kwIn dd' hks2 ⟨I3.kIn, ?_⟩
  have hlen : (kvs.map (·.2)).length = ks.length := by
    have := congrArg List.length hks
    rw [List.length_map, List.length_map] at this
    rw [List.length_map, this]
  exact run_makeK (us := []) (vs := []) M F hr hb hx I3 .nil (kv_vals rel) rfl hlen q2
end
section
variable {r : Rs} {s : L2.St} {S : Hp} {te : TE} {A : Type} {C : Addr} {ks : List Str} {pre : A → List V → Hp → Prop} {fr : A → List (Str × V) → Hp → Prop} {gV : List V → List V → List V} {E : XK} {P : List (Key × V) → Hp → Prop} {R : HO → Hp → Prop}
theorem en_makeD (h : EvS r te s S fun v S1 => ∃ a kvs, v = .ref a ∧ S1 a = some (.dK kvs) ∧ P kvs S1)
    (hp : ∀ kvs S1, Ex S S1 → P kvs S1 → kvs.map (·.1) = ks.map Sum.inr ∧ ∃ b us, (∀ x, gV [.ref x] (kvs.map (·.2)) = .ref x :: us) ∧ pre b us S1 ∧ ∀ dx fs S2, Ex S1 S2 → fr b fs S2 → R (.ins C dx fs) S2) : EvN r (tMakeD C ks (SpInit C pre fr) gV E te) s S R := fun S1 H e w Q q D hD =>
  h S1 (upd H D (.dK [])) e (w.new hD) _ fun v S2 H2 w2 s2 ⟨a, kvs, ev, ha, hpk⟩ => by
    have nD : D ∉ r.M := w.notM hD
    have h2 : H2 D = some (.dK []) := s2.kp D _ nD upd_same
    have n2 : S2 D = none := s2.fr D (ne_none upd_same) (w.fresh hD)
    obtain ⟨hk, b, us, hg, p1, p2⟩ := hp kvs S2 (e.trans s2.ex) hpk
    refine ⟨h2, a, kvs, ev, ne_of_none ha n2, w2.ex _ _ ha, hk, fun x dx hx hdx ne => ?_⟩
    rw [hg x]
    exact make_tail (w2.mut n2 nD) (((Stp.new hD).trans s2).mut hD) hx hdx ne p1 p2 q
/-- d[k] = e, d not stable -/
theorem sq_dput {r : Rs} {S H : Hp} {l : Addr} {kvs : List (Key × V)} {kk : Key} {td ty tv : TE} {tz : TS} {D : Ends} {R : V → Hp → Prop} (n : l ∉ r.M) (hv : EvS r tv s S R) (ho : EvV r td s S (.ref l)) (hk : EvV r ty s S (kV kk)) (w : Wd r S H) (hl : H l = some (.dK kvs)) (hs : S l = none) (hz : kvs.length < 100000)
    (k : ∀ v S1 H1, Wd r S1 H1 → Stp (r.more [l]) S H S1 H1 → S1 l = none → H1 l = some (.dK (putK kvs kk v)) → R v S1 → tz D s H1) : tSeq (sDPut td ty tv) tz D s H :=
  hv S H (Ex.refl _) w _ fun v S1 H1 w1 s1 p => ho S1 H1 s1.ex w1 _ fun u S2 H2 w2 s2 eu => hk S2 H2 (s1.ex.trans s2.ex) w2 _ fun u' S3 H3 w3 s3 eu' => by
    subst eu
    subst eu'
    have s13 := (s1.trans s2).trans s3
    refine ⟨l, upd H3 l (.dK (putK kvs kk v)), rfl, ?_, ?_⟩
    · exact DPut.k (s13.kp l _ n hl) (sz_lt hz)
    · refine k v S1 _ ⟨Ex.mut ((s2.ex.trans s3.ex).trans w3.ex) (s1.fr l (ne_none hl) hs), r.mono H3 _ (fun b o hb e => by
        rw [upd_ne (fun z : b = l => n (z ▸ hb))]
        exact e) (CoK.upd (nco_dK (s13.kp l _ n hl))) w3.inv, w1.dj⟩ ⟨s1.ex, fun b o nb e => ?_, s1.fr, fun b hb => ?_⟩ (s1.fr l (ne_none hl) hs) upd_same p
      · rw [upd_ne (fun z : b = l => nb (List.mem_append_left _ (z ▸ List.mem_singleton.mpr rfl)))]
        exact s13.kp b o (fun z => nb (List.mem_append_right _ z)) e
      · intro z
        by_cases e : b = l
        · rw [e, upd_same] at z
          cases z
        · rw [upd_ne e] at z
          exact s13.dm b hb z
end
end J

/-! J19: o == p of two instances of one class by its own __eq__. -/
namespace J
open PySem PySem.Spec PyProof.Rows L2 Evl RZ
section
variable {X : Cx} {CX : CXT} {k : Nat} {f C : Addr} {fd : FuncData} {ps : List Str} {sp : Sp} {E : XK}
def rEqO (C : Addr) (sp : Sp) (E : XK) : R2 := fun x y H Q => ∃ a dx fs b dy gs, x = .ref a ∧ y = .ref b ∧ H a = some (.ins C dx fs) ∧ H b = some (.ins C dy gs) ∧ sp [.ref a, .ref b] H (fun v H' => ∃ z, v = .bl z ∧ Q (.bl z) H') E
theorem op_eqO (F : FnOk X.prog X.w X.K X.mg X.base CX k f fd ps sp) (M : Meth X.K C "__eq__" f) (hr : Room k X.A) (hb : Binds X.K fd ps []) (hx : Passes CX X E) : OpR X (compareOp .Eq) (rEqO C sp E) := by
  intro pins s σ H x y v u Q I rx ry h
  obtain ⟨a, dx, fs, b, dy, gs, rfl, rfl, ha, hb2, wants⟩ := h
  cases rx
  cases ry
  obtain ⟨mA, J, _⟩ := ins_get I.hok ha
  obtain ⟨od, J, _⟩ := J.look
  obtain ⟨mB, J', _⟩ := ins_get I.hok hb2
  obtain ⟨od', J', _⟩ := J'.look
  obtain ⟨m, frame⟩ := I.fr
  refine PySem.W.cmp_ofEq (PySem.W.cmp_K (op := .Eq) (tb := .ref C) hr.units0 frame I.ok.mod.kin J J'.type (by simp [PySem.W.notFirst]) M.at_ M.fn ?_)
  refine wpAny_mono (run_sub (A := X.A) (vs := [V.ref a, V.ref b]) ⟨hr, rfl⟩ F hb hx I (.cons rfl (.cons rfl .nil)) wants) (fun w s' back => ?_) fun _ _ z => z
  obtain ⟨t, H', I', rt, z, rfl, q⟩ := back
  cases rt
  exact ⟨.bl z, H', I', rfl, q⟩
end
section
variable {r : Rs} {s : L2.St} {S : Hp} {ta tb : TE} {A : Type} {C : Addr} {pre : A → List V → Hp → Prop} {post : A → V → Hp → Prop} {E : XK}
theorem vv_eqO {b : Bool} {x y : V} (a : A) (hx : EvV r ta s S x) (hy : EvV r tb s S y) (bx : ∃ z dx fs, x = .ref z ∧ S z = some (.ins C dx fs)) (bk : ∃ z dx fs, y = .ref z ∧ S z = some (.ins C dx fs)) (hp : ∀ S1, Ex S S1 → pre a [x, y] S1) (hq : ∀ u S1, post a u S1 → u = .bl b) : EvV r (tOp (rEqO C (SpP pre post) E) ta tb) s S (.bl b) := fun S1 H e w Q q =>
  hx S1 H e w _ fun u S2 H2 w2 s2 eu => hy S2 H2 (e.trans s2.ex) w2 _ fun u' S3 H3 w3 s3 eu' => by
    subst eu
    subst eu'
    obtain ⟨z, dx, fs, rfl, hz⟩ := bx
    obtain ⟨z', dx', fs', rfl, hz'⟩ := bk
    have e3 := e.trans (s2.ex.trans s3.ex)
    exact ⟨z, dx, fs, z', dx', fs', rfl, rfl, w3.ex _ _ (e3 _ _ hz), w3.ex _ _ (e3 _ _ hz'), a, S3, hp S3 e3, w3.ex, fun u S4 H4 w4 s4 p4 => ⟨b, hq u S4 p4, q _ S4 H4 (w3.lift w4 s4) ((s2.trans s3).trans s4.lift) rfl⟩⟩
/-- (w, x, y, z) told by a relation -/
def QuadR {α β γ δ : Type} (K : PySem.W.Frag) (R : Rl α) (R' : Rl β) (R'' : Rl γ) (R3 : Rl δ) : Rl (α × β × γ × δ) := fun p v S => ∃ a x y z w, v = .ref a ∧ SqT K S a [x, y, z, w] ∧ R p.1 x S ∧ R' p.2.1 y S ∧ R'' p.2.2.1 z S ∧ R3 p.2.2.2 w S
instance {α β γ δ : Type} {K : PySem.W.Frag} {R : Rl α} {R' : Rl β} {R'' : Rl γ} {R3 : Rl δ} [Mono R] [Mono R'] [Mono R''] [Mono R3] : Mono (QuadR K R R' R'' R3) := ⟨fun e ⟨a, x, y, z, w, h1, h2, h3, h4, h5, h6⟩ => ⟨a, x, y, z, w, h1, ex_t e h2, Mono.up e h3, Mono.up e h4, Mono.up e h5, Mono.up e h6⟩⟩
instance {α β γ δ : Type} [DecidableEq α] [DecidableEq β] [DecidableEq γ] [DecidableEq δ] {K : PySem.W.Frag} {R : Rl α} {R' : Rl β} {R'' : Rl γ} {R3 : Rl δ} [Dt K R] [Dt K R'] [Dt K R''] [Dt K R3] : Dt K (QuadR K R R' R'' R3) where
  d p := .tuple [Dt.d K R p.1, Dt.d K R' p.2.1, Dt.d K R'' p.2.2.1, Dt.d K R3 p.2.2.2]
  dp h := by
    obtain ⟨a, x, y, z, w, e, h1, h2, h3, h4, h5⟩ := h
    subst e
    exact .tup h1 (.cons (Dt.dp h2) (.cons (Dt.dp h3) (.cons (Dt.dp h4) (.cons (Dt.dp h5) .nil))))
  eqv a b := by
    simp only [PyData.eqv, PyData.eqvAll]
    rw [Dt.eqv, Dt.eqv, Dt.eqv, Dt.eqv, Bool.and_true, ← Bool.decide_and, ← Bool.decide_and, ← Bool.decide_and]
    exact decide_eq_decide.mpr ⟨fun e => Prod.ext e.1 (Prod.ext e.2.1 (Prod.ext e.2.2.1 e.2.2.2)), fun e => by rw [e]; exact ⟨rfl, rfl, rfl, rfl⟩⟩
  lay a := by
    simp only [PyData.canLay0, PyData.canLayAll0, Dt.lay, Bool.and_self]
  dep := max (max (Dt.dep K R) (Dt.dep K R')) (max (Dt.dep K R'') (Dt.dep K R3)) + 1
  dep_le p := by
    simp only [PyData.depth, PyData.depthAll]
    have h1 := Dt.dep_le (K := K) (R := R) p.1
    have h2 := Dt.dep_le (K := K) (R := R') p.2.1
    have h3 := Dt.dep_le (K := K) (R := R'') p.2.2.1
    have h4 := Dt.dep_le (K := K) (R := R3) p.2.2.2
    omega
theorem ev_quad {α β γ δ : Type} {K : PySem.W.Frag} {R : Rl α} {R' : Rl β} {R'' : Rl γ} {R3 : Rl δ} [Mono R] [Mono R'] [Mono R''] [Mono R3] {a : α} {b : β} {c : γ} {d : δ} {t1 t2 t3 t4 : TE} (h1 : EvS r t1 s S fun v S1 => R a v S1) (h2 : ∀ S1, Ex S S1 → EvS r t2 s S1 fun v S2 => R' b v S2) (h3 : ∀ S1, Ex S S1 → EvS r t3 s S1 fun v S2 => R'' c v S2) (h4 : ∀ S1, Ex S S1 → EvS r t4 s S1 fun v S2 => R3 d v S2) : EvS r (tTup (tCons t1 (tCons t2 (tCons t3 (tCons t4 tNil))))) s S fun v S1 => QuadR K R R' R'' R3 (a, b, c, d) v S1 := fun S1 H e w Q q =>
  h1 S1 H e w _ fun v1 S2 H2 w2 s2 g1 => h2 S2 (e.trans s2.ex) S2 H2 (Ex.refl _) w2 _ fun v2 S3 H3 w3 s3 g2 => h3 S3 (e.trans (s2.ex.trans s3.ex)) S3 H3 (Ex.refl _) w3 _ fun v3 S4 H4 w4 s4 g3 => h4 S4 (e.trans (s2.ex.trans (s3.ex.trans s4.ex))) S4 H4 (Ex.refl _) w4 _ fun v4 S5 H5 w5 s5 g4 => ⟨sz_of (show [v1, v2, v3, v4].length ≤ 100000 by simp), fun p hp => by
    have n5 : Ex S5 (upd S5 p (.tup [v1, v2, v3, v4])) := Ex.new (w5.fresh hp)
    exact q (.ref p) (upd S5 p (.tup [v1, v2, v3, v4])) _ (w5.newS hp) ((s2.trans (s3.trans (s4.trans s5))).trans (Stp.newS w5 hp)) ⟨p, v1, v2, v3, v4, rfl, SqT.of upd_same, Mono.up (s3.ex.trans (s4.ex.trans (s5.ex.trans n5))) g1, Mono.up (s4.ex.trans (s5.ex.trans n5)) g2, Mono.up (s5.ex.trans n5) g3, Mono.up n5 g4⟩⟩
end
end J

set_option pp.maxSteps 3000
/-! J21: exception classes over ValueError, through a class of the program, whose __init__ says super().__init__(a text) and stores its argument. -/
namespace J
open PySem PySem.Spec PySem.Calls PyProof.Rows L2 Evl RZ
/-- the body of such an __init__ -/
abbrev xcBody (msg fld prm : Str) (j : Nat) (p0 p1 p2 p3 p4 p5 p6 p7 p8 p9 : Pos) : List Stmt :=
  [.Expr (.Call (.Attribute (.Call (.Name "super" p0) [] [] p1) "__init__" p2) [.Constant (.str msg) j p3] [] p4) p5, .Assign [.Attribute (.Name "self" p6) fld p7] (.Name prm p8) p9]
abbrev xcScope (prm : Str) : Scope := { kind := .function, names := [("self", .local), (prm, .local)], isGenerator := false, isCoroutine := false }
/-- an instance being made at a gets its field -/
def spXi (C : Addr) (fld : Str) : Sp := fun vs H Q _ => ∃ (a : Addr) (v : V), vs = [.ref a, v] ∧ H a = some (exo a C none) ∧ ∀ dx, H dx = none → dx ≠ a → Q .non (upd (upd H dx (exd dx [(fld, v)])) a (exo a C (some dx)))
/-- the facts of such a class -/
structure XcT (P : Program) (K : PySem.W.Frag) (mg : Str → Option Value) (C f : Addr) (qual fld prm : Str) (st : Stmt) (fd : FuncData) : Prop where
  cls : OexC K C
  ini : PySem.W.findIn K (.ref C) "__init__" = some (some (.ref f))
  tI : PySem.W.typeIn K (.ref f) = some (.type "function")
  fn : ∃ (oc kV doc pm ct : Value) (od an : Option Addr) (osl : Array (Option Value)) (cda cc : Addr), fd = PySem.W.ksFn "__init__" qual (defArgs st) (defBody st) (defScope st) .none kV doc pm an (.ref cda) ct cc ∧ K.lookup f = some ⟨oc, od, .func fd, osl⟩ ∧ PySem.W.codeIn K (.ref cda) qual = true ∧
    (∃ (ccl : Value) (cdd : Option Addr) (vs : Array Value) (ccs : Array (Option Value)) (file : Str) (tf : Tok), K.lookup cda = some ⟨ccl, cdd, .fields vs, ccs⟩ ∧ vs[2]? = some (.str file tf) ∧ ((P.main.file : Str) == file) = true) ∧
    ∃ (cl : Value) (cld : Option Addr) (csl : Array (Option Value)), K.lookup cc = some ⟨cl, cld, .cell (some (.ref C)), csl⟩
  sup : PySem.W.ks_superIn K C C "__init__" = some (some (.builtin "ValueError.__init__"))
  sB : PySem.W.subIn K (.ref C) (.type "ValueError") = some true
  sC : PySem.W.mroIn K C (.ref C) = some true
  fno : PySem.W.findIn K (.ref C) fld = some none
  zs : mg "super" = none
  tp : PySem.W.nsIn K cStatics "thirdparty.any" = some none
  top : (P.main.scope.names.lookup ("super" : Str)).isSome = false
  body : ∃ msg j p0 p1 p2 p3 p4 p5 p6 p7 p8 p9, defBody st = xcBody msg fld prm j p0 p1 p2 p3 p4 p5 p6 p7 p8 p9 ∧ ∀ env : Env, ∃ pl : Sem Bool, eval (.Call (.Attribute (.Call (.Name "super" p0) [] [] p1) "__init__" p2) [.Constant (.str msg) j p3] [] p4) env = (do
    let ov ← attributeBase (.Call (.Name "super" p0) [] [] p1) "__init__" env (eval (.Call (.Name "super" p0) [] [] p1) env)
    standAt p2.atName
    let (f, first) ← holding [ov] (getMethod ov "__init__" pl)
    callWith p4 f first (backTo p4 (starEach [.Constant (.str msg) j p3] env)) [])
  par : ((defArgs st).posonlyargs ++ (defArgs st).args).head?.map (fun a => a.arg) = some "self"
  sc1 : (defScope st).kind = .function
  sc2 : (defScope st).isCoroutine = false
  sc3 : (defScope st).isGenerator = false
  sc4 : ∀ x ∈ (defScope st).names, x.2 ≠ .cell
  sc5 : (defScope st).names.lookup ("self" : Str) = some .local
  sc6 : (defScope st).names.lookup prm = some .local
  sc7 : (defScope st).names.lookup ("super" : Str) = some .globalImplicit
  sc8 : (defScope st).names.lookup ("__class__" : Str) = some .free
  np : ("self" : Str) ≠ prm
  nd : (prm == ("__debug__" : Str)) = false
section
variable {P : Program} {w : World} {K : PySem.W.Frag} {mg : Str → Option Value} {base : Heap}
/-- the built-in __init__ bound to an instance a, called -/
theorem call_mw {A : Around} {E : Value → Shared → Prop} {s : Shared} {C a u t0 : Addr} {rest : List Value} {Q : Value → Shared → Prop} (T : OexC K C) (KX : K.In s.heap) (ha : s.heap.get? a = some (PySem.HandSPX.excO C t0)) (hu : s.heap.get? u = some (PySem.W.kxs_mw "ValueError.__init__" a)) (hl : rest.length ≤ sizeLine)
    (q : ∀ h' t1, (∀ b o, b ≠ a → s.heap.get? b = some o → h'.get? b = some o) → h'.get? a = some (PySem.HandSPX.excO C t1) → Q .none { s with heap := h' }) : wpAny (model P w) A (call (.ref u) rest) Q E s := by
  obtain ⟨nm, qn, N, bs, bm, sn, sub, ab, col, dd, k0, k1, k2, k3, k5, hC, hbm⟩ := T.cls
  obtain ⟨hp, g, d, t, os⟩ := s
  refine wpAny_call (codeAny_of_tree ?_)
  show wpAny _ A.in1 (callAny (.ref u) ⟨rest, []⟩) _ _ _
  simp only [callAny]
  refine wpAny_bind (wpAny_load hu ?_)
  simp only [PySem.W.kxs_mw, show (Value.type "method-wrapper" == Value.type "method" || Value.type "method-wrapper" == Value.type "builtin_function_or_method" || Value.type "method-wrapper" == Value.type "method-wrapper") = true by decide, if_true]
  refine PySem.W.KFB.if_so (by decide) (wpAny_bind (PySem.W.check_bound_init F.excBase_ValueError.toExcCallFacts (KX _ _ hC) ha rfl (wpAny_bind (wpAny_pure (wpAny_pure ⟨plainId_quiet F.excBase_ValueError.init.plain _, codeAny_builtin F.excBase_ValueError.initEntry ?_⟩)))))
  exact PySem.W.exc_init_tree (cls := .ref C) (t0 := t0) (dv := none) (c2 := .none) (c3 := .none) (b4 := .bool false) ha hl fun h' k e _ => q h' _ k e
theorem bindL_two {n0 n1 : Str} (hn : n0 ≠ n1) {v0 v1 : Value} {ko : Str → Option NameKind} (h0 : ko n0 = some .local) (h1 : ko n1 = some .local) : bindL ko [(n0, v0), (n1, v1)] (fun _ => none) = fun y => ([(n0, v0), (n1, v1)] : List (Str × Value)).reverse.lookup y := by
  funext y
  show bindL ko [(n0, v0), (n1, v1)] (fun _ => none) y = List.lookup y [(n1, v1), (n0, v0)]
  unfold bindL bindL bindL
  rw [if_pos h0, if_pos h1]
  by_cases e1 : y = n1
  · subst e1
    simp [List.lookup]
  · by_cases e0 : y = n0
    · subst e0
      have : (y == n1) = false := by simpa using e1
      simp [List.lookup, this, hn]
    · have z1 : (y == n1) = false := by simpa using e1
      have z0 : (y == n0) = false := by simpa using e0
      simp [List.lookup, z1, z0, e1, e0]
theorem scope2 {prm : Str} (h : ("self" : Str) ≠ prm) : FnScope ["self", prm] ["self", prm] (xcScope prm) := by
  refine ⟨rfl, rfl, rfl, by simpa using h, rfl, fun x hx => ?_, fun y hy => ?_⟩
  · rcases List.mem_cons.mp hx with rfl | hx
    · exact .inl (by simp [List.lookup])
    · rw [List.mem_singleton.mp hx]
      by_cases e : prm = ("self" : Str)
      · exact absurd e.symm h
      · have z : (prm == ("self" : Str)) = false := by simpa using e
        exact .inl (by simp [List.lookup, z])
  · rcases List.mem_cons.mp hy with rfl | hy
    · exact fun z => by cases z
    · rw [List.mem_singleton.mp hy]
      exact fun z => by cases z
theorem xinit_ok {C f : Addr} {qual fld prm : Str} {st : Stmt} {fd : FuncData} (T : XcT P K mg C f qual fld prm st fd) : FnOk P w K mg base CX0 1 f fd ["self", prm] (spXi C fld) := by
  refine ⟨fun vs H Q E h => ?_, fun A outer s H args us vs Q E hr e0 hb r h => ?_⟩
  · obtain ⟨a, v, rfl, _⟩ := h
    rfl
  · obtain ⟨a, v, rfl, ha, hq⟩ := h
    obtain ⟨oc, kV, doc, pm, ct, od, an, osl, cda, cc, efd, lk, hcd, ⟨ccl, cdd, vc, ccs, file, tf, k1, k2, k3⟩, ⟨cl, cld, csl, k4⟩⟩ := T.fn
    subst efd
    obtain ⟨msg, j, p0, p1, p2, p3, p4, p5, p6, p7, p8, p9, eb, mc⟩ := T.body
    have KX : K.In s.heap := e0.mod.kin.keeps fun b o e => (e0.bs b o e).1
    have lim : s.heap.NoLimit := e0.mod.nolimit.keeps fun b o e => (e0.bs b o e).1
    cases r with
    | @cons _ u0 _ us' r0 r' =>
    cases r' with
    | @cons _ u1 _ us'' r1 r'' =>
    cases r''
    obtain rfl : u0 = Value.ref a := r0
    have hs2 := scope2 T.np
    have l0 : (xcScope prm).names.lookup ("self" : Str) = some .local := by simp [List.lookup]
    have l1 : (xcScope prm).names.lookup prm = some .local := by
      have z : (prm == ("self" : Str)) = false := by simpa using T.np.symm
      simp [List.lookup, z]
    refine PySem.ks_codeAny_call_defAt (fd := PySem.W.ksFn "__init__" qual (defArgs st) (defBody st) (defScope st) .none kV doc pm an (.ref cda) ct cc) (body := defBody st) (binds := (["self", prm] : List Str).zip [.ref a, u1]) (hr.mono (Nat.zero_le 1)).depth (KX _ _ lk) rfl lim (PySem.W.codeRec_of KX hcd) rfl hb T.sc4 (fun y hy => ?_) (fun h₁ hns kp => ?_) T.sc2 T.sc3 T.sc1
    · rcases List.mem_cons.mp hy with rfl | hy
      · exact T.sc5
      · rw [List.mem_singleton.mp hy]
        exact T.sc6
    · have x : InCallC s s.heap.objs.size (bindL (envOfC qual (xcScope prm) s.heap.objs.size f (.ref cda)).kindOf ((["self", prm] : List Str).zip [.ref a, u1]) fun _ => none) (cellsFrom (s.heap.objs.size + 1) (xcScope prm).names []) (bindC (envOfC qual (xcScope prm) s.heap.objs.size f (.ref cda)).kindOf ((["self", prm] : List Str).zip [.ref a, u1]) fun _ => none) { s with heap := h₁, toks := s.toks + ((["self", prm] : List Str).zip [.ref a, u1]).length } := by
        refine ⟨⟨⟨_, _, rfl⟩, ?_, kp, Nat.le_refl _⟩, fun n c e => ?_, ?_, fun n c e => ?_⟩
        · have e2 := bindL_two (n0 := "self") (n1 := prm) (v0 := Value.ref a) (v1 := u1) (ko := (envOfC qual (xcScope prm) s.heap.objs.size f (.ref cda)).kindOf) T.np l0 l1
          show h₁.Ns _ (bindL _ [("self", Value.ref a), (prm, u1)] _)
          rw [e2]
          exact hns
        · cases e
        · exact List.Pairwise.nil
        · cases e
      have I := inv_start (CX := CX0) (w := w) (qual := qual) (f := f) (cd := .ref cda) (E := E) hs2 hr.hd e0 (show [V.ref a, v].length = (["self", prm] : List Str).length from rfl) (Paired.cons rfl (Paired.cons r1 Paired.nil) : Vals [V.ref a, v] [Value.ref a, u1]) x
      obtain ⟨ar, har, eself⟩ := Option.map_eq_some_iff.mp T.par
      obtain ⟨mb, hb1, hb2⟩ := e0.mod.blt
      have bk : ∀ b o, base.get? b = some o → h₁.get? b = some o := fun b o e => kp b o (e0.bs b o e).1
      have KX1 : K.In h₁ := e0.mod.kin.keeps bk
      obtain ⟨t1, ho1⟩ := exo_at I.hok ha
      have la : a ≠ s.heap.objs.size := fun z => by
        obtain ⟨t0, ho0⟩ := exo_at e0.hok ha
        exact Nat.lt_irrefl _ (z ▸ Heap.lt_size ho0)
      obtain ⟨nm, qn, N, bs, bm, sn, sub, ab, col, dd, q0, q1, q2, q3, q5, hC, hbm⟩ := T.cls.cls
      have hcl : PySem.W.clsIn K C = some { name := nm, bases := bs, mro := .ref C :: bm, ns := N, qualname := qn, hasDict := true, slotNames := sn, subclasses := sub, abstract := ab, collection := col, hasDel := false } := by
        unfold PySem.W.clsIn
        rw [hC]
      have hCo := KX1 _ _ hC
      have sup := T.sup
      unfold PySem.W.ks_superIn at sup
      rw [hcl] at sup
      show PySem.wpAt (model P w) (A.deeper (PySem.W.ksEnv qual (defScope st) s.heap.objs.size f (.ref cda) cc)) (.func (defBody st) (PySem.W.ksEnv qual (defScope st) s.heap.objs.size f (.ref cda) cc)) (execs (defBody st) (PySem.W.ksEnv qual (defScope st) s.heap.objs.size f (.ref cda) cc)) _ _ _
      rw [eb]
      obtain ⟨pl, hmc⟩ := mc (PySem.W.ksEnv qual (defScope st) s.heap.objs.size f (.ref cda) cc)
      have hint : interactive (PySem.W.ksEnv qual (defScope st) s.heap.objs.size f (.ref cda) cc) = false := by
        unfold interactive
        show ((defScope st).kind == ScopeKind.module && _) = false
        rw [T.sc1]
        rfl
      refine PySem.ks_wpAt_execs_cons (PySem.ks_wpAt_Expr_any (PySem.ks_wpAt_MethodCall (PySem.ks_wpAt_super_base T.sc7 T.sc8 (by decide) rfl (KX1 _ _ lk) rfl har rfl (KX1 _ _ k1) rfl k2 k3 T.top ?_) hmc) hint (by rfl))
      refine PySem.W.ks_loadName_global T.sc1 T.sc7 (PySem.Calls.loadGlobal_builtin (e0.mod.glob.keeps bk) T.zs (hb1.keeps bk) ((hb2 _ (by decide +kernel)).trans (by first | rfl | decide +kernel)) ⟨rfl, ?_⟩)
      refine wpAny_loadName_free T.sc1 T.sc8 rfl ⟨_, KX1 _ _ k4, rfl⟩ ?_
      rw [eself]
      refine wpAny_loadName_local (v := .ref a) T.sc1 T.sc5 hns (by
        have z : (("self" : Str) == prm) = false := by simpa using T.np
        simp [List.lookup, z]) ?_
      refine PySem.ks_wpAny_isType_cls hCo rfl ⟨rfl, ?_⟩
      refine PySem.ks_wpAny_call_super hCo rfl ho1 rfl (fun c e => by cases e) (PySem.W.looks_mroIn KX1 T.sC) (fun h2 e2 kp2 => ?_)
      have KX2 : K.In h2 := KX1.keeps kp2
      have hty : PySem.W.Looks (model P w) h2 (typeOf (.ref a)) (.ref C) := fun A Q E s k q => wpAny_typeOf_ref (k _ _ (kp2 _ _ ho1)) q
      have hI : PySem.W.Looks (model P w) h2 (isInstance (.ref a) (.type "ValueError")) true := PySem.W.Looks.andThen hty (PySem.W.looks_subIn KX2 T.sB)
      refine PySem.W.kxs_getMethod PySem.W.kxs_ValueError e2 (PySem.W.looks_opaque KX2 T.tp) (l₀ := .ref C :: bm) (fun A Q E s k q => wpAny_bind ((PySem.W.looks_clsIn KX2 hcl) A _ E s k (wpAny_pure q))) rfl KX2 sup hI (fun z => ?_) (by decide) ?_
      · rw [z, hCo] at ho1
        cases ho1
      refine PySem.W.kxs_callWith (i := "ValueError.__init__") (x := a) rfl (evalArgs_plain ?_)
      show wpAny _ _ (spliced ((false, eval (.Constant (.str msg) j p3) (PySem.W.ksEnv qual (defScope st) s.heap.objs.size f (.ref cda) cc)) :: backTo p4 (starEach [] (PySem.W.ksEnv qual (defScope st) s.heap.objs.size f (.ref cda) cc)))) _ _ _
      refine Calls.spliced_cons (Calls.Constant_str (Calls.spliced_nil ⟨Heap.get?_push_size _ rfl, ?_⟩))
      refine call_mw T.cls (KX2.keeps fun b o e => Heap.get?_push_of_some _ e) (Heap.get?_push_of_some _ (kp2 _ _ ho1)) (Heap.get?_push_size _ rfl) (by rw [sizeLine_eq]; exact Nat.le_of_ble_eq_true rfl) (fun h3 t3 kp3 ho3 => ?_)
      have kp13 : ∀ b o, b ≠ a → h₁.get? b = some o → h3.get? b = some o := fun b o hb e => kp3 b o hb (Heap.get?_push_of_some _ (kp2 b o e))
      have I3 := I.write (t' := s.toks + 2 + 1 + 1) (x := a) (e := a) (o := exo a C none) (by rw [ha]; exact True.intro) (.inl rfl) (h' := h3) kp13 ⟨_, ho3⟩ (exo_ok ho3)
      have eu : upd H a (exo a C none) = H := by
        funext b
        by_cases hb : b = a
        · rw [hb, upd_same, ha]
        · rw [upd_ne hb]
      rw [eu] at I3
      have hns3 : h3.Ns s.heap.objs.size fun y => (([("self", Value.ref a), (prm, u1)] : List (Str × Value)).reverse.lookup y) := by
        obtain ⟨o, es, ep, z1, z2, z3⟩ := hns
        exact ⟨o, es, ep, kp13 _ _ (Ne.symm la) z1, z2, z3⟩
      refine PySem.ks_wpAt_execs_cons (PySem.wpAt_of_wpAny (plainObj_wpAny_Assign_Attribute (wpAny_Name (wpAny_loadName_local (v := u1) T.sc1 T.sc6 hns3 (by simp [List.lookup]) ?_) T.nd) (by rfl)))
      refine wpAny_Name (wpAny_loadName_local (v := .ref a) T.sc1 T.sc5 hns3 (by
        have z : (("self" : Str) == prm) = false := by simpa using T.np
        simp [List.lookup, z]) ?_)
      refine ost_new T.cls I3 ha T.fno r1 fun dx s4 hd dne I4 => ?_
      exact PySem.wpAt_of_wpAny (wpAny_execs_nil ⟨.non, _, I4.os, I4.bare, I4.base, I4.hok, rfl, hq dx hd dne⟩)
end
section
variable {X : Cx} {C f : Addr} {qual fld prm : Str} {st : Stmt} {fd : FuncData} {x : Str} {e : Expr} {te : TE} {p pos : Pos}
/-- C(e), an exception that is made where none is handled -/
theorem pmk_xc {ta : TA} (T : XcT X.prog X.K X.mg C f qual fld prm st fd) (hr : Room 2 X.A) (hb : Binds X.K fd ["self", prm] []) (hg : Gl X x) (hm : X.mg x = some (.ref C)) (ha : PA X [e] ta)
    (ndb : (x == ("__debug__" : Str)) = false := by decide) (e1 : starEach [e] X.env = (false, eval e X.env) :: starEach [] X.env := by rfl) (e2 : (backTo pos (starEach [] X.env)).any (·.1) = false := by rfl) :
    L2N.PMk X (.Call (.Name x p) [e] [] pos) (fun σ H Q => ta σ H fun vs H1 => ∃ v, vs = [v] ∧ ∀ d, H1 d = none → Q (.ref C) (some d) (upd H1 d (.xd [(fld, v)]))) := by
  intro pins s σ H Q I h
  obtain ⟨nm, q, N, bs, bm, sn, sub, ab, col, dd, k0, k1, k2, k3, k5, hC, hbm⟩ := T.cls.cls
  refine wpAny_Call_Name_kw (ld_glob I hg hm (PySem.W.callWith_K (h₀ := X.base) I.ok.mod.kin T.cls.kC (thn (ha.run pos pins s σ H _ I h) fun us s1 ⟨vs, H1, I1, r1, q1⟩ => ⟨I1.kIn, ?_⟩) e1 e2) ndb)
  · obtain ⟨v, rfl, q1⟩ := q1
    show wpAny _ _ (call (.ref C) us) _ _ _
    obtain ⟨hp, g, dr, tk, os⟩ := s1
    have hsz : hp.objs.size ≤ hp.objs.size + 1 := Nat.le_succ _
    have na : H1 (hp.objs.size + 1) = none := I1.hok.fresh hsz
    have grow : ∀ b o, hp.get? b = some o → ((hp.push (PySem.W.kdv_tup us)).push (PySem.HandSPX.excO C hp.objs.size)).get? b = some o := fun b o z => Heap.get?_push_of_some _ (Heap.get?_push_of_some _ z)
    have made : ((hp.push (PySem.W.kdv_tup us)).push (PySem.HandSPX.excO C hp.objs.size)).get? (hp.objs.size + 1) = some (PySem.HandSPX.excO C hp.objs.size) := by heap_get
    have I2 := I1.laid (t' := tk) (a := hp.objs.size + 1) (o := exo (hp.objs.size + 1) C none) grow hsz (exo_ok made)
    have r2 : Vals [V.ref (hp.objs.size + 1), v] (Value.ref (hp.objs.size + 1) :: us) := .cons rfl r1
    have n2 : (Value.ref (hp.objs.size + 1) :: us ++ []).length = (["self", prm] : List Str).length := by
      rw [List.append_nil, ← r2.length]
      rfl
    have b2 := hb _ (Value.ref (hp.objs.size + 1) :: us) I2.kIn n2
    rw [List.append_nil] at b2
    have fits : us.length ≤ sizeLine := by
      rw [← Paired.length r1, sizeLine_eq]
      exact Nat.le_of_ble_eq_true rfl
    have want : spXi C fld [V.ref (hp.objs.size + 1), v] (upd H1 (hp.objs.size + 1) (exo (hp.objs.size + 1) C none)) (fun u H2 => u = .non ∧ ∃ d : Addr, H1 d = none ∧ H2 = upd (upd (upd H1 (hp.objs.size + 1) (exo (hp.objs.size + 1) C none)) d (exd d [(fld, v)])) (hp.objs.size + 1) (exo (hp.objs.size + 1) C (some d)) ∧ d ≠ hp.objs.size + 1) E0 :=
      ⟨_, v, rfl, upd_same, fun d hd dne => ⟨rfl, d, by rw [upd_ne dne] at hd; exact hd, rfl, dne⟩⟩
    refine wpAny_call (PySem.HandSPX.call_own F.excBase_ValueError (fun Y => PySem.HandSPX.refsVE_contains Y bm hbm) (I1.kIn _ _ hC) (PySem.W.looks_findIn I1.kIn T.ini) (fun self => PySem.W.bind_fn I1.kIn self T.tI) fits
      (codeAny_mono ((xinit_ok (w := X.w) (base := X.base) T).run _ X.stack _ _ ⟨Value.ref (hp.objs.size + 1) :: us, []⟩ _ _ _ E0 (hr.make C us []) (I2.env0.make C us []) b2 r2 want) fun r s' hq' => ?_))
    match r, hq' with
    | .error _, z => exact z.elim
    | .ok .next, z => exact z.elim
    | .ok .brk, z => exact z.elim
    | .ok .cont, z => exact z.elim
    | .ok (.ret u), ⟨_, H2, os2, bare2, un2, ok2, rv, rfl, d, hd, eH, dne⟩ =>
      obtain ⟨h2, g2, d2, t2, os'⟩ := s'
      have ea : H2 (hp.objs.size + 1) = some (exo (hp.objs.size + 1) C (some d)) := by
        rw [eH, upd_same]
      have ed : H2 d = some (exd d [(fld, v)]) := by
        rw [eH, upd_ne dne, upd_same]
      obtain ⟨t0, G, J, kG, ge, hoe, gone⟩ := mk_end0 (d2 := d2) (t2 := t2) I1 hsz grow un2 ok2 os2 bare2 ea ed hd
      have eF : upd (L2.del H2 (hp.objs.size + 1)) d (.xd [(fld, v)]) = upd H1 d (.xd [(fld, v)]) := by
        funext b
        by_cases hbd : b = d
        · rw [hbd, upd_same, upd_same]
        · rw [upd_ne hbd, upd_ne hbd]
          by_cases hba : b = hp.objs.size + 1
          · rw [hba, L2.del_same, na]
          · rw [L2.del_ne hba, eH, upd_ne hba, upd_ne hbd, upd_ne hba]
      rw [eF] at J gone
      refine ⟨rv, _, _, _, ⟨G, g2, d2, t2, os'⟩, _, .ref C, some d, rfl, J, kG, ge, hoe, ⟨rfl, rfl, fun vs hv => ?_⟩, rfl, rfl, gone, rfl, bare2, raises_own T.cls.exC T.cls.tyC, q1 d hd⟩
      cases hv
      rfl
end
end J

set_option pp.maxSteps 3000
/-! J22: defs that raise where nothing is handled; what raises, told over the stable heap. -/
namespace J
open PySem PySem.Spec PyProof.Rows L2 Evl RZ
section
variable {P : Program} {w : World} {K : PySem.W.Frag} {mg : Str → Option Value} {base : Heap} {q qual : Str} {st : Stmt} {f : Addr} {fd : FuncData} {N ps : List Str} {k : Nat} {sp : Sp} {sc : Scope} {cd : Value} {A : Around} {outer : List Env} {s0 : Shared} {H0 : Hp} {E : XK}
/-- the context of such a def's body -/
abbrev cxN (P : Program) (w : World) (K : PySem.W.Frag) (mg : Str → Option Value) (base : Heap) (N : List Str) (qual : Str) (sc : Scope) (f : Addr) (cd : Value) (A : Around) (outer : List Env) (s0 : Shared) (H0 : Hp) (E : XK) : Cx := cxOf (L2N.CX P w) P w K mg base N qual sc f cd A outer s0 H0 E
theorem takesN : L2N.Takes (cxN P w K mg base N qual sc f cd A outer s0 H0 E) (fun cls d _ H => E cls d H) := L2N.takes_of rfl rfl rfl rfl
/-- what a callee lets out flies on -/
theorem passN : Passes (L2N.CX P w) (cxN P w K mg base N qual sc f cd A outer s0 H0 E) E := L2N.passes_call takesN fun _ _ _ _ h => h
theorem ownN : PassesOwn (model P w) (cxN P w K mg base N qual sc f cd A outer s0 H0 E).A (cxN P w K mg base N qual sc f cd A outer s0 H0 E).env (cxN P w K mg base N qual sc f cd A outer s0 H0 E).xe := L2.passes_of rfl
/-- a def by its body, errors let out -/
theorem ok_N (F : Fun K q qual st f fd) (S : FnScope N ps (defScope st)) (len : ∀ vs H Q E, sp vs H Q E → vs.length = ps.length)
    (body : ∀ (cdv : Value) (A : Around) (outer : List Env) (s : Shared) (H : Hp) (vs : List V) (Q : VK) (E : XK), Room k (A.deeper (envOfC qual (defScope st) s.heap.objs.size f cdv)) → sp vs H Q E →
      ∃ t, PSs (cxN P w K mg base N qual (defScope st) f cdv A outer s H E) (defBody st) t ∧ t { nx := fun _ H' => Q .non H', rt := Q } (start N vs) H) : FnOk P w K mg base (L2N.CX P w) (k + 1) f fd ps sp := by
  obtain ⟨oc, od, kV, doc, pm, an, cdv, ct, osl, e, lk, hcd⟩ := F.ex
  subst e
  exact fn_of lk hcd S len fun A outer s H vs Q E hr h => body cdv A outer s H vs Q E hr h
/-- raise C(e) -/
def tRs (C : Addr) (fld : Str) (E : XK) (ta : TA) : TS := fun _ σ H => ta σ H fun vs H1 => ∃ v, vs = [v] ∧ ∀ d, H1 d = none → E (.ref C) (some d) (upd H1 d (.xd [(fld, v)]))
theorem ps_rs {C fx : Addr} {xq fld prm x : Str} {stx : Stmt} {fdx : FuncData} {ta : TA} {e : Expr} {p pos rpos : Pos} (T : XcT P K mg C fx xq fld prm stx fdx) (hr : Room 2 (cxN P w K mg base N qual sc f cd A outer s0 H0 E).A) (hb : Binds K fdx ["self", prm] []) (hg : Gl (cxN P w K mg base N qual sc f cd A outer s0 H0 E) x) (hm : mg x = some (.ref C))
    (ha : PA (cxN P w K mg base N qual sc f cd A outer s0 H0 E) [e] ta) (ndb : (x == ("__debug__" : Str)) = false := by decide)
    (e1 : starEach [e] (cxN P w K mg base N qual sc f cd A outer s0 H0 E).env = (false, eval e (cxN P w K mg base N qual sc f cd A outer s0 H0 E).env) :: starEach [] (cxN P w K mg base N qual sc f cd A outer s0 H0 E).env := by rfl)
    (e2 : (backTo pos (starEach [] (cxN P w K mg base N qual sc f cd A outer s0 H0 E).env)).any (·.1) = false := by rfl) :
    PS (cxN P w K mg base N qual sc f cd A outer s0 H0 E) (.Raise (some (.Call (.Name x p) [e] [] pos)) none rpos) (tRs C fld E ta) :=
  L2N.ps_raise rfl takesN (pmk_xc (X := cxN P w K mg base N qual sc f cd A outer s0 H0 E) T hr hb hg hm ha ndb e1 e2)
end
/-- one reading or another -/
def tAlt (t u : TE) : TE := fun σ H Q => t σ H Q ∨ u σ H Q
theorem pe_alt {X : Cx} {e : Expr} {t u : TE} (h1 : PE X e t) (h2 : PE X e u) : PE X e (tAlt t u) := ⟨fun pins s σ H Q I h => h.elim (h1.run pins s σ H Q I) (h2.run pins s σ H Q I)⟩
/-- the reading raises C(v), v told by R -/
def EvX (E : XK) (C : Addr) (fld : Str) (r : Rs) (te : TE) (s : L2.St) (S : Hp) (R : V → Hp → Prop) : Prop :=
  ∀ S1 H, Ex S S1 → Wd r S1 H → (∀ d v S2 H2, Wd r S2 H2 → Stp r S1 H S2 H2 → R v S2 → S2 d = some (.xd [(fld, v)]) → E (.ref C) (some d) H2) → ∀ Q, te s H Q
/-- a def that raises: from b, told by pre, an error C(v), v told by val -/
def SpX {B : Type} (C : Addr) (fld : Str) (pre : B → List V → Hp → Prop) (val : B → V → Hp → Prop) : Sp := fun vs H _ E => ∃ (b : B) (S : Hp), pre b vs S ∧ Wd Rs.nil S H ∧ ∀ d v S1 H1, Wd Rs.nil S1 H1 → Stp Rs.nil S H S1 H1 → val b v S1 → S1 d = some (.xd [(fld, v)]) → E (.ref C) (some d) H1
/-- an __init__ that raises -/
abbrev SpXi {B : Type} (C : Addr) (fld : Str) (pre : B → List V → Hp → Prop) (val : B → V → Hp → Prop) : Sp := SpX C fld (fun b vs S => ∃ x us, vs = V.ref x :: us ∧ pre b us S) val
section
variable {r : Rs} {s : L2.St} {S H : Hp} {ta tb te : TE} {t u : TE} {R : V → Hp → Prop} {E : XK} {C : Addr} {fld : Str} {B : Type} {pre : B → List V → Hp → Prop} {val : B → V → Hp → Prop} {dvs vs : List V} {ts : TA} {PA' : List V → Hp → Prop} {D : Ends}
theorem Wd.bare (w : Wd r S H) : Wd Rs.nil S H := ⟨w.ex, True.intro, fun a h => by cases h⟩
theorem EvX.mono {S' : Hp} (h : EvX E C fld r te s S R) (e : Ex S S') : EvX E C fld r te s S' R := fun S1 H e1 w k Q => h S1 H (e.trans e1) w k Q
theorem EvX.imp {R' : V → Hp → Prop} (h : EvX E C fld r te s S R) (k : ∀ v S1, Ex S S1 → R v S1 → R' v S1) : EvX E C fld r te s S R' := fun S1 H e1 w kE Q => h S1 H e1 w (fun d v S2 H2 w2 s2 hv hd => kE d v S2 H2 w2 s2 (k v S2 (e1.trans s2.ex) hv) hd) Q
theorem ex_altR (h : EvX E C fld r u s S R) : EvX E C fld r (tAlt t u) s S R := fun S1 H e w k Q => .inr (h S1 H e w k Q)
theorem ex_altL (h : EvX E C fld r t s S R) : EvX E C fld r (tAlt t u) s S R := fun S1 H e w k Q => .inl (h S1 H e w k Q)
theorem ev_altL (h : EvS r t s S R) : EvS r (tAlt t u) s S R := fun S1 H e w Q q => .inl (h S1 H e w Q q)
theorem ex_call (h : EvAS r ts s S PA') (hp : ∀ us S1, Ex S S1 → PA' us S1 → ∃ b, pre b (us ++ dvs) S1 ∧ ∀ v S2, Ex S1 S2 → val b v S2 → R v S2) : EvX E C fld r (tCall (SpX C fld pre val) dvs E ts) s S R := fun S1 H e w k Q =>
  h S1 H e w _ fun us S2 H2 w2 s2 p => by
    obtain ⟨b, p1, p2⟩ := hp us S2 (e.trans s2.ex) p
    exact ⟨b, S2, p1, w2.bare, fun d v S3 H3 w3 s3 hv hd => k d v S3 H3 (w2.lift w3 s3) (s2.trans s3.lift) (p2 v S3 s3.ex hv) hd⟩
theorem vx_call (b : B) (h : EvAV r ts s S vs) (hp : ∀ S1, Ex S S1 → pre b (vs ++ dvs) S1) (hq : ∀ v S2, Ex S S2 → val b v S2 → R v S2) : EvX E C fld r (tCall (SpX C fld pre val) dvs E ts) s S R :=
  ex_call h fun us S1 e eu => ⟨b, by rw [show us = vs from eu]; exact hp S1 e, fun v S2 e2 hv => hq v S2 (e.trans e2) hv⟩
theorem ex_make {C' : Addr} (h : EvAS r ts s S PA') (hp : ∀ us S1, Ex S S1 → PA' us S1 → ∃ b, pre b (us ++ dvs) S1 ∧ ∀ v S2, Ex S1 S2 → val b v S2 → R v S2) : EvX E C fld r (tMake C' (SpXi C fld pre val) dvs E ts) s S R := fun S1 H e w k Q =>
  h S1 H e w _ fun us S2 H2 w2 s2 p x dx hx hdx ne => by
    obtain ⟨b, p1, p2⟩ := hp us S2 (e.trans s2.ex) p
    have hx1 : (upd H2 dx (.own x)) x = none := by
      rw [upd_ne ne.symm]
      exact hx
    have w3 : Wd r S2 (upd (upd H2 dx (.own x)) x (.ins C' dx [])) := (w2.new hdx).new hx1
    have s3 : Stp r S2 H2 S2 (upd (upd H2 dx (.own x)) x (.ins C' dx [])) := (Stp.new hdx).trans (Stp.new hx1)
    exact ⟨b, S2, ⟨x, _, rfl, p1⟩, w3.bare, fun d v S4 H4 w4 s4 hv hd => k d v S4 H4 (w3.lift w4 s4) ((s2.trans s3).trans s4.lift) (p2 v S4 s4.ex hv) hd⟩
theorem ex_meth {C' : Addr} {mn : Str} {Q1 : V → Hp → Prop} (h : EvS r te s S Q1) (h2 : EvAV r ts s S vs)
    (hp : ∀ x S1 S2, Ex S S1 → Q1 x S1 → Ex S1 S2 → ∃ a dx fs, x = .ref a ∧ S1 a = some (.ins C' dx fs) ∧ fs.lookup mn = none ∧ ∃ b, pre b (x :: vs) S2 ∧ ∀ v S3, Ex S2 S3 → val b v S3 → R v S3) : EvX E C fld r (tMeth C' mn (SpX C fld pre val) [] E te ts) s S R := fun S1 H e w k Q =>
  h S1 H e w _ fun x S2 H2 w2 s2 hx => by
    obtain ⟨a, dx, fs, e1, e2, e3, _⟩ := hp x S2 S2 (e.trans s2.ex) hx (Ex.refl _)
    subst e1
    refine ⟨a, dx, fs, rfl, w2.ex _ _ e2, e3, h2 S2 H2 (e.trans s2.ex) w2 _ fun us S3 H3 w3 s3 eu => ?_⟩
    obtain ⟨a', dx', fs', e1', e2', e3', b, p1, p2⟩ := hp (.ref a) S2 S3 (e.trans s2.ex) hx s3.ex
    subst eu
    exact ⟨b, S3, by rw [List.append_nil]; exact p1, w3.bare, fun v d4 S4 H4 w4 s4 hv hd => k v d4 S4 H4 (w3.lift w4 s4) ((s2.trans s3).trans s4.lift) (p2 d4 S4 s4.ex hv) hd⟩
/-! statements -/
theorem st_rs {ts : TA} (h : EvAS r ts s S fun us S1 => ∃ v, us = [v] ∧ R v S1) (w : Wd r S H) (hR : ∀ v S1 S2, Ex S1 S2 → R v S1 → R v S2) (k : ∀ d v S1 H1, Wd r S1 H1 → Stp r S H S1 H1 → R v S1 → S1 d = some (.xd [(fld, v)]) → E (.ref C) (some d) H1) : tRs C fld E ts D s H :=
  h S H (Ex.refl S) w _ fun us S1 H1 w1 s1 ⟨v, eu, hv⟩ => ⟨v, eu, fun d hd => k d v (upd S1 d (.xd [(fld, v)])) _ (w1.newS hd) (s1.trans (Stp.newS w1 hd)) (hR v _ _ (Ex.new (w1.fresh hd)) hv) upd_same⟩
/-- raise C(x), x a known value -/
theorem st_rsV {ts : TA} {v : V} (h : EvAV r ts s S [v]) (w : Wd r S H) (k : ∀ d v' S1 H1, Wd r S1 H1 → Stp r S H S1 H1 → v' = v → S1 d = some (.xd [(fld, v')]) → E (.ref C) (some d) H1) : tRs C fld E ts D s H :=
  st_rs (R := fun v' _ => v' = v) (EvAS.imp' h fun us S1 _ e => ⟨v, e, rfl⟩) w (fun _ _ _ _ h => h) k
theorem st_retX (h : EvX E C fld r te s S R) (w : Wd r S H) (k : ∀ d v S1 H1, Wd r S1 H1 → Stp r S H S1 H1 → R v S1 → S1 d = some (.xd [(fld, v)]) → E (.ref C) (some d) H1) : tRet te D s H := h S H (Ex.refl S) w k _
theorem st_dropX (h : EvX E C fld r te s S R) (w : Wd r S H) (k : ∀ d v S1 H1, Wd r S1 H1 → Stp r S H S1 H1 → R v S1 → S1 d = some (.xd [(fld, v)]) → E (.ref C) (some d) H1) : tDrop te D s H := h S H (Ex.refl S) w k _
theorem st_asgX {g : TG} (h : EvX E C fld r te s S R) (w : Wd r S H) (k : ∀ d v S1 H1, Wd r S1 H1 → Stp r S H S1 H1 → R v S1 → S1 d = some (.xd [(fld, v)]) → E (.ref C) (some d) H1) : tAsg te g D s H := h S H (Ex.refl S) w k _
end
end J

set_option pp.maxSteps 3000
/-! J23: x(lambda: e), where e may raise, and x works where no repr runs. -/
namespace J
open PySem PySem.Spec PyProof.Rows L2 Evl RZ LamX
/-- a table grown by a new code object -/
theorem tabs_grow {T : List (Addr × Str)} {H : Hp} {P c : Addr} {q : Str} {ps : Array Value} {pos : Pos} (hT : Tabs T H) (hP : H P = some (.tbl ps)) (hu : ∀ y ∈ T, y.1 = P → y.2 = q) (hq : (P, q) ∈ T) (nc : H c = none) :
    Tabs T (upd (upd H P (.tbl (ps ++ #[rawInt pos.line, rawInt pos.col, .ref c]))) c (CodeO c q)) := by
  have kp : ∀ b o, b ≠ P → H b = some o → upd (upd H P (.tbl (ps ++ #[rawInt pos.line, rawInt pos.col, .ref c]))) c (CodeO c q) b = some o := fun b o hb e => by
    rw [upd_ne (ne_of_none e nc), upd_ne hb]
    exact e
  have atC : ∀ {b : Addr} {z : Str}, H b = some (CodeO b z) → upd (upd H P (.tbl (ps ++ #[rawInt pos.line, rawInt pos.col, .ref c]))) c (CodeO c q) b = some (CodeO b z) := fun {b z} e =>
    kp b _ (fun y => codeO_ne ps (Option.some.inj (e.symm.trans (by rw [y]; exact hP)))) e
  obtain ⟨ps0, g1, g2, g3⟩ := hT _ hq
  obtain rfl : ps0 = ps := by
    have z := g1.symm.trans hP
    cases z
    rfl
  have ls : (ps0 ++ #[rawInt pos.line, rawInt pos.col, .ref c]).toList = ps0.toList ++ [rawInt pos.line, rawInt pos.col, .ref c] := by simp
  intro y hy
  by_cases e : y.1 = P
  · rw [hu y hy e, e]
    refine ⟨_, by rw [upd_ne (ne_of_none hP nc), upd_same], by rw [ls]; exact PySem.TriplesOk_snoc _ _ _ _ g2, fun p2 cv hcv => ?_⟩
    rw [ls] at hcv
    rcases among_app _ g2 hcv with z | z
    · obtain ⟨c0, k1, k2⟩ := g3 p2 cv z
      exact ⟨c0, k1, atC k2⟩
    · exact ⟨c, z, upd_same⟩
  · obtain ⟨qs, k1, k2, k3⟩ := hT y hy
    refine ⟨qs, kp _ _ e k1, k2, fun p2 cv hcv => ?_⟩
    obtain ⟨c0, m1, m2⟩ := k3 p2 cv hcv
    exact ⟨c0, m1, atC m2⟩
section
variable {X : Cx} {pins : List (Addr × Obj)} {σ : L2.St} {H : Hp} {s : Shared}
/-- a lambda is made: of what is tracked nothing but the table at P changes -/
theorem lam_mk {T : List (Addr × Str)} {c P : Addr} {params : Arguments} {body : Expr} {sc : Scope} {pos : Pos} {E : Value → Shared → Prop} {Q : Value → Shared → Prop} (I : Inv X pins σ H s) (TB : TabB X.base X.mg c P) (hcode : X.env.code = .ref c)
    (hq : (P, X.env.qual ++ "<lambda>") ∈ T) (hu : ∀ y ∈ T, y.1 = P → y.2 = X.env.qual ++ "<lambda>") (hT : Tabs T H) (hdef : defaultsOf params X.env = ([], [])) (hfree : ∀ y ∈ sc.names, y.2 = .free → ∃ c, X.env.cells.lookup y.1 = some c)
    (k : ∀ (f c1 : Addr) (pm ctv : Value) (H1 : Hp) (s1 : Shared), Inv X pins σ H1 s1 → (∀ b o, b ≠ P → H b = some o → H1 b = some o) → Tabs T H1 → s1.heap.get? f = some (PySem.W.kla_obj "<lambda>" (X.env.qual ++ "<lambda>") params body sc (cloFrom X.env.cells sc.names []) pm c1 ctv) →
      H1 f = none → f ∉ frs X.stack → H1 c1 = some (CodeO c1 (X.env.qual ++ "<lambda>")) → Q (.ref f) s1) : wpAny (model X.prog X.w) X.A (eval (.Lambda params body sc pos) X.env) Q E s := by
  obtain ⟨ps, hP, tri, known⟩ := hT _ hq
  have atP : s.heap.get? P = some { cls := .none, data := .fields ps } := I.hok P _ hP
  have apart : ∀ f, s.heap.objs.size ≤ f → f ∉ frs X.stack := fun f hf z => (List.mem_cons.mp (I.stkSub _ z)).elim (fun e => by
    have lt := I.lt
    rw [← e] at lt
    exact Nat.lt_irrefl _ (Nat.lt_of_lt_of_le lt hf)) (I.nofs hf)
  have clo := closure_ok hfree
  have glb : X.base.Ns mainGlobals X.mg → s.heap.Ns mainGlobals X.mg := fun z => z.keeps I.bk
  have head := TB.code.keeps I.bk
  have blt : s.heap.BuiltinsAt X.mg P := TB.bm.keeps I.bk
  refine PySem.W.kla_eval hdef ?_
  match hc : codeAmong pos ps.toList with
  | some cv =>
    obtain ⟨c1, rfl, at1⟩ := known pos cv hc
    refine PySem.W.kla_makeFunctionHit (mg := X.mg) (c := c) (P := P) (ps := ps) clo I.ok.glob (glb I.mod.glob) hcode head atP tri hc blt fun ctv h1 tk kp sz => ?_
    have J1 : Inv X pins σ H { s with heap := h1.push (PySem.W.kla_obj "<lambda>" (X.env.qual ++ "<lambda>") params body sc (cloFrom X.env.cells sc.names []) ((X.mg "__name__").getD .none) c1 ctv), toks := tk } := I.kept fun b o e => Heap.get?_push_of_some _ (kp b o e)
    exact k _ _ _ _ H _ J1 (fun _ _ _ e => e) hT (Heap.get?_push_size _ rfl) (I.hok.fresh sz) (apart _ sz) at1
  | none =>
    refine PySem.W.kla_makeFunction (mg := X.mg) (c := c) (P := P) (ps := ps) clo I.ok.glob (glb I.mod.glob) hcode head atP tri hc TB.gP blt fun c1 ctv h1 tk kp ge lt rec_ tab => ?_
    obtain ⟨c2, oc, vs, t, e2, k1, k2, k3⟩ := rec_
    cases e2
    have sz : s.heap.objs.size ≤ h1.objs.size := by omega
    have nc : H c1 = none := I.hok.fresh ge
    have J1 := inv_table (t' := tk) (more := #[rawInt pos.line, rawInt pos.col, .ref c1]) (h' := h1.push (PySem.W.kla_obj "<lambda>" (X.env.qual ++ "<lambda>") params body sc (cloFrom X.env.cells sc.names []) ((X.mg "__name__").getD .none) c1 ctv)) I hP
      (fun b o hb e => Heap.get?_push_of_some _ (kp b o hb e)) (Heap.get?_push_of_some _ tab) ge ⟨oc, vs, t, Heap.get?_push_of_some _ k1, k2, k3⟩
    refine k h1.objs.size c1 _ ctv _ _ J1 (fun b o hb e => ?_) (tabs_grow hT hP hu hq nc) (Heap.get?_push_size _ rfl) ?_ (apart _ sz) upd_same
    · rw [upd_ne (ne_of_none e nc), upd_ne hb]
      exact e
    · rw [upd_ne (show h1.objs.size ≠ c1 by omega), upd_ne (show h1.objs.size ≠ P from Nat.ne_of_gt (Nat.lt_of_lt_of_le (Heap.lt_size atP) sz))]
      exact I.hok.fresh sz
end
/-- the reading of x(lambda: e): the table at P may grow -/
def tLm (P : Addr) (T : List (Addr × Str)) (TT : (XK → Hp → VK → Prop) → Hp → VK → Prop) (t : XK → TE) : TE := fun σ H Q => Tabs T H ∧ ∀ H1, (∀ b o, b ≠ P → H b = some o → H1 b = some o) → Tabs T H1 → TT (fun E H' Q' => t E σ H' Q') H1 Q
/-- where the lambda's body runs: errors let out know no context -/
abbrev lamN (X : Cx) (A : Around) (outer : List Env) (s : Shared) (H : Hp) (E : XK) (sc : Scope) (f c : Addr) : Cx :=
  (lamCx X A outer s H E sc f c).wish fun e s1 => wpAny (model X.prog X.w) (A.deeper (lamEnv X sc s.heap.objs.size f c)) (leaving (lamEnv X sc s.heap.objs.size f c) e) (fun _ s2 => L2N.CX X.prog X.w outer H s E e s2) (fun e2 s2 => L2N.CX X.prog X.w outer H s E e2 s2) s1
section
variable {X : Cx} {pins : List (Addr × Obj)} {σ : L2.St} {H HZ : Hp} {s s1 : Shared} {A : Around} {outer : List Env} {E : XK} {sc : Scope} {f c : Addr}
theorem lamN_takes : L2N.Takes (lamN X A outer s H E sc f c) (fun cls d _ H => E cls d H) := L2N.takes_of rfl rfl rfl rfl
theorem lamN_pass : Passes (L2N.CX X.prog X.w) (lamN X A outer s H E sc f c) E := L2N.passes_call lamN_takes fun _ _ _ _ h => h
theorem lamN_own : PassesOwn (model X.prog X.w) (lamN X A outer s H E sc f c).A (lamN X A outer s H E sc f c).env (lamN X A outer s H E sc f c).xe := L2.passes_of rfl
/-- the lambda made in X at s is called at s1 -/
theorem lamN_go {k : Nat} {params : Arguments} {body : Expr} {pm ctv : Value} {Q : VK} {tb : TE} (I : Inv X pins σ H s) (L : LamS X.env.scope sc) (e0 : Env0 X.prog X.w X.K X.mg X.base A outer s1 HZ) (un : Un (frs X.stack) [] H HZ s.heap s1.heap) (lim : s1.heap.NoLimit)
    (hf : s1.heap.get? f = some (PySem.W.kla_obj "<lambda>" (X.env.qual ++ "<lambda>") params body sc (cloFrom X.env.cells sc.names []) pm c ctv)) (hc : HZ c = some (CodeO c (X.env.qual ++ "<lambda>")))
    (hbind : bindArgs (PySem.W.kla_fn "<lambda>" (X.env.qual ++ "<lambda>") params body sc (cloFrom X.env.cells sc.names []) pm (.ref c) ctv) ⟨[], []⟩ = pure []) (hr : Room (k + 1) A)
    (hbody : Room k (A.deeper (lamEnv X sc s1.heap.objs.size f c)) → PE (lamN X A outer s1 HZ E sc f c) body tb) (h : tb σ HZ Q) :
    codeAny (model X.prog X.w) A (.call (.ref f) ⟨[], []⟩) (CR (L2N.CX X.prog X.w) outer X.prog X.w HZ s1 Q E) s1 := by
  obtain ⟨⟨oc, vs, tk, co, cd, cn⟩, _⟩ := e0.hok c _ hc
  refine PySem.W.kla_callFunE hr.depth hf rfl L.co L.gen rfl ⟨c, oc, vs, tk, rfl, co, cd, cn⟩ ?_
  rw [hbind]
  refine wpAny_pure (wpAny_newFunctionEnv (fun y hy => (L.own y hy).2) (fun y hy => (by cases hy)) (fun h1 hns hsb => ⟨lim.fresh _ hsb, ?_⟩) L.kind)
  have kp : ∀ b o, s1.heap.get? b = some o → h1.get? b = some o := fun b o e => hsb.extBut b o (Nat.ne_of_lt (Heap.lt_size e)) (Heap.get?_push_of_some _ e)
  have J0 := (lam_start2 (E := E) (f := f) (c' := c) (tk := s1.toks + ([] : List (Str × Value)).length) I L e0 hr.hd un hns kp).wish (lamN X A outer s1 HZ E sc f c).xe
  show codeAny _ _ (.expr body (lamEnv X sc s1.heap.objs.size f c)) _ _
  exact PySem.W.kla_codeExpr (wpAny_mono ((hbody (hr.deeper _)).run [] _ _ HZ Q J0 h) (fun v s2 ⟨u, H2, J2, rv, q2⟩ => ⟨u, H2, J2.os, J2.bare, J2.base, J2.hok, rv, q2⟩) fun _ _ hq => hq)
end
/-- the context of the def g that X hands the lambda -/
abbrev cxG (X : Cx) (N : List Str) (x : Str) (sg : Scope) (g : Addr) (cdg : Value) (s : Shared) (H : Hp) : Cx := cxOf CX0 X.prog X.w X.K X.mg X.base N x sg g cdg X.A X.stack s H E0
/-- what g does with the lambda that it gets as a: TT, of the lambda's reading -/
def Gives (X : Cx) (j : Nat) (N : List Str) (x a : Str) (sg : Scope) (g : Addr) (cdg : Value) (bg : List Stmt) (q : Str) (TT : (XK → Hp → VK → Prop) → Hp → VK → Prop) : Prop :=
  ∀ (f c : Addr) (s : Shared) (H : Hp) (Q : VK) (tl : XK → Hp → VK → Prop), Room j (X.A.deeper (envOfC x sg s.heap.objs.size g cdg)) →
    (∀ (W : WX) (pn : List (Addr × Obj)) (xe : Value → Shared → Prop) (E : XK) (p1 p2 : Pos), L2N.Takes ((cxG X N x sg g cdg s H).tr pn xe) W → (∀ cls d σ' H', E cls d H' → W cls d σ' H') →
      PE ((cxG X N x sg g cdg s H).tr pn xe) (.Call (.Name a p1) [] [] p2) (fun σ1 H1 Q1 => σ1[0]? = some (some (.ref f)) ∧ H1 c = some (CodeO c q) ∧ tl E H1 Q1)) →
    H c = some (CodeO c q) → TT tl H Q → ∃ t, PSs (cxG X N x sg g cdg s H).nox bg t ∧ t { nx := fun _ H' => Q .non H', rt := Q } (L2.start N [.ref f]) H
section
variable {X : Cx} {pins : List (Addr × Obj)} {σ : L2.St} {H : Hp} {s : Shared}
/-- a() in g -/
theorem pe_actN {N : List Str} {qg a : Str} {sg : Scope} {g f c : Addr} {cdg pm ctv : Value} {params : Arguments} {body : Expr} {sc : Scope} {k : Nat} {pn : List (Addr × Obj)} {xe : Value → Shared → Prop} {W : WX} {E : XK} {tb : TE} {p1 p2 : Pos}
    (I : Inv X pins σ H s) (L : LamS X.env.scope sc) (hf : s.heap.get? f = some (PySem.W.kla_obj "<lambda>" (X.env.qual ++ "<lambda>") params body sc (cloFrom X.env.cells sc.names []) pm c ctv)) (nf : H f = none) (ns : f ∉ frs X.stack)
    (hbind : bindArgs (PySem.W.kla_fn "<lambda>" (X.env.qual ++ "<lambda>") params body sc (cloFrom X.env.cells sc.names []) pm (.ref c) ctv) ⟨[], []⟩ = pure [])
    (tk : L2N.Takes ((cxG X N qg sg g cdg s H).tr pn xe) W) (hW : ∀ cls d σ' H', E cls d H' → W cls d σ' H') (hr : Room (k + 1) (X.A.deeper (envOfC qg sg s.heap.objs.size g cdg)))
    (hbody : ∀ (A : Around) (outer : List Env) (s : Shared) (H : Hp), Room k (A.deeper (lamEnv X sc s.heap.objs.size f c)) → PE (lamN X A outer s H E sc f c) body tb)
    (hN : N[0]? = some a) (hv : Vis sg a) (hd : (a == ("__debug__" : Str)) = false) (hcd : (a == ("__classdict__" : Str)) = false) :
    PE ((cxG X N qg sg g cdg s H).tr pn xe) (.Call (.Name a p1) [] [] p2) (fun σ1 H1 Q => σ1[0]? = some (some (.ref f)) ∧ H1 c = some (CodeO c (X.env.qual ++ "<lambda>")) ∧ tb σ H1 Q) := by
  refine ⟨fun pinsZ s1 σ1 H1 Q I1 ⟨e1, e2, ht⟩ => ?_⟩
  refine wpAny_Call_Name_kw (thn ((pe_var (pos := p1) (i := 0) hN hv hd hcd).run pinsZ s1 σ1 H1 (fun v H2 => v = .ref f ∧ H2 = H1) I1 ⟨.ref f, e1, rfl, rfl⟩) fun u s2 ⟨v, H2, I2, rv, ev, eH⟩ => ?_)
  subst ev
  subst eH
  obtain rfl : u = Value.ref f := rv
  have of2 := I2.base.keep f _ hf nf ns (fun z => nomatch (show f ∈ ([] : List Addr) from z))
  have un : Un (frs X.stack) [] H H2 s.heap s2.heap := I2.base
  have e0 : Env0 X.prog X.w X.K X.mg X.base (X.A.deeper (envOfC qg sg s.heap.objs.size g cdg)) (envOfC qg sg s.heap.objs.size g cdg :: X.stack) s2 H2 := I2.env0
  have rc : codeAny (model X.prog X.w) (X.A.deeper (envOfC qg sg s.heap.objs.size g cdg)) (.call (.ref f) ⟨[], []⟩) (CR (L2N.CX X.prog X.w) (envOfC qg sg s.heap.objs.size g cdg :: X.stack) X.prog X.w H2 s2 Q E) s2 :=
    lamN_go (X := X) (tb := tb) I L e0 un I2.nolimit of2 e2 hbind hr (hbody _ _ s2 H2) ht
  refine PySem.W.callWith_F0 ⟨_, _, _, _, of2⟩ (wpAny_call (codeAny_mono rc fun res s3 hq => ?_))
  match res, hq with
  | .error e, z => exact L2N.passes_call tk hW pinsZ σ1 H2 s2 e s3 I2 z
  | .ok (.ret _), z => exact I2.after z
  | .ok .next, z => exact z.elim
  | .ok .brk, z => exact z.elim
  | .ok .cont, z => exact z.elim
/-- x(lambda: body) -/
theorem pe_lamN {T : List (Addr × Str)} {TT : (XK → Hp → VK → Prop) → Hp → VK → Prop} {x a : Str} {g c P : Addr} {k : Nat} {st : Stmt} {fd : FuncData} {N : List Str} {params : Arguments} {body : Expr} {sc : Scope} {t : XK → TE} {p lpos pos : Pos}
    (F : Fun X.K x x st g fd) (hb : L2.Binds X.K fd [a] []) (Sg : FnScope N [a] (defScope st)) (hG : ∀ cdg, Gives X (k + 1) N x a (defScope st) g cdg (defBody st) (X.env.qual ++ "<lambda>") TT) (hr : Room (k + 2) X.A) (hg : Gl X x) (hm : X.mg x = some (.ref g))
    (TB : TabB X.base X.mg c P) (hcode : X.env.code = .ref c) (hT : (P, X.env.qual ++ "<lambda>") ∈ T) (hu : ∀ y ∈ T, y.1 = P → y.2 = X.env.qual ++ "<lambda>") (L : LamS X.env.scope sc)
    (hbody : ∀ (A : Around) (outer : List Env) (s : Shared) (H : Hp) (E : XK) (f c' : Addr), Room k (A.deeper (lamEnv X sc s.heap.objs.size f c')) → PE (lamN X A outer s H E sc f c') body (t E))
    (hbind : ∀ (q : Str) (cl : List (Str × Addr)) (pm cv ctv : Value), bindArgs (PySem.W.kla_fn "<lambda>" q params body sc cl pm cv ctv) ⟨[], []⟩ = pure [] := by exact fun _ _ _ _ _ => rfl) (hdef : defaultsOf params X.env = ([], []) := by rfl)
    (hN : N[0]? = some a := by rfl) (hv : Vis (defScope st) a := by exact Or.inl rfl) (hdb : (x == ("__debug__" : Str)) = false := by decide) (hd : (a == ("__debug__" : Str)) = false := by decide) (hcd : (a == ("__classdict__" : Str)) = false := by decide) :
    PE X (.Call (.Name x p) [.Lambda params body sc lpos] [] pos) (tLm P T TT t) := by
  have kp := F.kp
  obtain ⟨oc, od, kV, doc, pm0, an, cdv, ct, osl, e, lk, hcg⟩ := F.ex
  subst e
  refine ⟨fun pins s σ H Q I ⟨hTs, h⟩ => wpAny_Call_Name_kw (ld_glob I hg hm ?_ hdb)⟩
  refine PySem.W.callWith_K (h₀ := X.base) I.ok.mod.kin kp ?_ (by rfl) (by rfl)
  show wpAny _ _ (spliced ((false, eval (.Lambda params body sc lpos) X.env) :: backTo pos (starEach [] X.env))) _ _ s
  refine Calls.spliced_cons (lam_mk I TB hcode hT hu hTs hdef (L.has I.ok) fun f c' pm ctv H1 s1 I1 eN T1 hf nf ns hco => Calls.spliced_nil ⟨I1.kIn, ?_⟩)
  have run : codeAny (model X.prog X.w) X.A (.call (.ref g) ⟨[.ref f], []⟩) (CR CX0 X.stack X.prog X.w H1 s1 Q E0) s1 :=
    run_ofS (N := N) (ps := [a]) (us := [.ref f]) (vs := [.ref f]) lk hcg Sg hr I1.env0 (hb s1 [.ref f] I1.kIn rfl) (.cons rfl .nil) rfl fun hr1 => by
      obtain ⟨t', ht', hq'⟩ := hG cdv f c' s1 H1 Q (fun E H' Q' => t E σ H' Q') hr1 (fun W pn xe E p1 p2 tk hW => pe_actN (a := a) I1 L hf nf ns (hbind _ _ _ _ _) tk hW hr1 (fun A outer s H hr2 => hbody A outer s H E f c' hr2) hN hv hd hcd) hco (h H1 eN T1)
      exact ⟨t', ht'.nox, hq'⟩
  refine wpAny_call (codeAny_mono run fun res s2 hq => ?_)
  match res, hq with
  | .error _, z => exact z.elim
  | .ok (.ret _), z => exact I1.after z
  | .ok .next, z => exact z.elim
  | .ok .brk, z => exact z.elim
  | .ok .cont, z => exact z.elim
end
end J

set_option pp.maxSteps 3000
/-! J24: the tables of code objects as part of a resource. -/
namespace J
open PySem PySem.Spec PyProof.Rows L2 Evl RZ LamX
theorem Tabs.keep {T : List (Addr × Str)} {H H' : Hp} (t : Tabs T H) (k : ∀ y ∈ T, ∀ o, H y.1 = some o → H' y.1 = some o) (kc : CoK H H') : Tabs T H' := fun y hy => by
  obtain ⟨ps, h1, h2, h3⟩ := t y hy
  refine ⟨ps, k y hy _ h1, h2, fun pos cv h => ?_⟩
  obtain ⟨c, e1, e2⟩ := h3 pos cv h
  exact ⟨c, e1, kc _ _ e2⟩
/-- r, and the tables of T -/
def Rs.tabs (r : Rs) (T : List (Addr × Str)) : Rs := ⟨T.map Prod.fst ++ r.M, fun H => r.I H ∧ Tabs T H, fun H H' k kc h => ⟨r.mono H H' (fun a o ha e => k a o (List.mem_append_right _ ha) e) kc h.1, Tabs.keep h.2 (fun y hy o e => k y.1 o (List.mem_append_left _ (List.mem_map.mpr ⟨y, hy, rfl⟩)) e) kc⟩, fun H h a ha => by
  rcases List.mem_append.mp ha with ha | ha
  · obtain ⟨y, hy, rfl⟩ := List.mem_map.mp ha
    obtain ⟨ps, h1, _⟩ := h.2 y hy
    exact ne_none h1
  · exact r.has H h.1 a ha⟩
/-- nothing of r is a code object or a table -/
class Rs.Plain (r : Rs) : Prop where
  co : ∀ H, r.I H → ∀ a, a ∈ r.M → ∀ q, H a ≠ some (CodeO a q)
  tb : ∀ H, r.I H → ∀ a, a ∈ r.M → ∀ ps, H a ≠ some (.tbl ps)
instance : Rs.Plain Rs.nil := ⟨fun _ _ a h => (by cases h), fun _ _ a h => (by cases h)⟩
instance {p c : Addr} : Rs.Plain (srcR p c) := by
  refine ⟨fun H h a ha => ?_, fun H h a ha ps z => ?_⟩ <;> obtain ⟨cs, pos, big, seed, h⟩ := h <;> have ha : a ∈ [p, c] := ha <;> rcases List.mem_cons.mp ha with rfl | ha
  · exact nco_lst h.hp
  · rw [List.mem_singleton.mp ha]
    exact nco_lst h.hc
  · rw [h.hp] at z
    cases z
  · rw [List.mem_singleton.mp ha, h.hc] at z
    cases z
section
variable {r : Rs} {T : List (Addr × Str)} {S H S1 H1 S2 H2 : Hp} {s : L2.St} {te : TE} {ts : TA} {R : V → Hp → Prop} {RN : HO → Hp → Prop} {RA : List V → Hp → Prop}
theorem Wd.untab (w : Wd (r.tabs T) S H) : Wd r S H := ⟨w.ex, w.inv.1, fun a ha => w.dj a (List.mem_append_right _ ha)⟩
theorem Wd.tab [p : Rs.Plain r] (w : Wd (r.tabs T) S H) (w2 : Wd r S2 H2) (s2 : Stp r S H S2 H2) : Wd (r.tabs T) S2 H2 := by
  have apart : ∀ y ∈ T, y.1 ∉ r.M := fun y hy z => by
    obtain ⟨ps, h1, _⟩ := w.inv.2 y hy
    exact p.tb H w.inv.1 _ z ps h1
  refine ⟨w2.ex, ⟨w2.inv, Tabs.keep w.inv.2 (fun y hy o e => s2.kp _ o (apart y hy) e) fun a q e => s2.kp a _ (fun z => p.co H w.inv.1 a z q e) e⟩, fun a ha => ?_⟩
  rcases List.mem_append.mp ha with ha | ha
  · obtain ⟨y, hy, rfl⟩ := List.mem_map.mp ha
    obtain ⟨ps, h1, _⟩ := w.inv.2 y hy
    exact s2.fr _ (ne_none h1) (w.dj _ (List.mem_append_left _ (List.mem_map.mpr ⟨y, hy, rfl⟩)))
  · exact w2.dj a ha
theorem Stp.tab (s2 : Stp r S H S2 H2) : Stp (r.tabs T) S H S2 H2 := ⟨s2.ex, fun a o n e => s2.kp a o (fun z => n (List.mem_append_right _ z)) e, s2.fr, s2.dm⟩
/-- what works with r works with the tables beside it -/
theorem EvS.tab [Rs.Plain r] (h : EvS r te s S R) : EvS (r.tabs T) te s S R := fun S1 H e w Q q => h S1 H e w.untab Q fun v S2 H2 w2 s2 hv => q v S2 H2 (w.tab w2 s2) s2.tab hv
theorem EvN.tab [Rs.Plain r] (h : EvN r te s S RN) : EvN (r.tabs T) te s S RN := fun S1 H e w Q q => h S1 H e w.untab Q fun p o S2 H2 h1 h2 h3 w2 s2 hv => q p o S2 H2 h1 h2 h3 (w.tab w2 s2) s2.tab hv
theorem EvAS.tab [Rs.Plain r] (h : EvAS r ts s S RA) : EvAS (r.tabs T) ts s S RA := fun S1 H e w Q q => h S1 H e w.untab Q fun v S2 H2 w2 s2 hv => q v S2 H2 (w.tab w2 s2) s2.tab hv
theorem EvX.tab [Rs.Plain r] {E : XK} {C : Addr} {fld : Str} (h : EvX E C fld r te s S R) : EvX E C fld (r.tabs T) te s S R := fun S1 H e w k Q => h S1 H e w.untab (fun d v S2 H2 w2 s2 hv hd => k d v S2 H2 (w.tab w2 s2) s2.tab hv hd) Q
/-- the table at P grew -/
theorem Wd.grown [p : Rs.Plain r] {P : Addr} {q : Str} (hP : (P, q) ∈ T) (w : Wd (r.tabs T) S H) (k : ∀ b o, b ≠ P → H b = some o → H1 b = some o) (t : Tabs T H1) : Wd (r.tabs T) S H1 ∧ Stp (r.tabs T) S H S H1 := by
  have mP : P ∈ (r.tabs T).M := List.mem_append_left _ (List.mem_map.mpr ⟨_, hP, rfl⟩)
  obtain ⟨ps, h1, _⟩ := w.inv.2 _ hP
  have h1 : H P = some (.tbl ps) := h1
  obtain ⟨qs, h2, _⟩ := t _ hP
  have h2 : H1 P = some (.tbl qs) := h2
  refine ⟨⟨fun a o e => k a o (fun z => ?_) (w.ex a o e), ⟨r.mono H H1 (fun a o ha e => k a o (fun z => p.tb H w.inv.1 a ha ps (by rw [z]; exact h1)) e) (fun a q e => k a _ (fun z => ?_) e) w.inv.1, t⟩, w.dj⟩, Ex.refl S, fun a o n e => k a o (fun z => n (by rw [z]; exact mP)) e, fun _ _ e => e, fun a q z => ?_⟩
  · rw [z, w.dj P mP] at e
    cases e
  · rw [z, h1] at e
    unfold CodeO at e
    cases e
  · by_cases e : a = P
    · rw [e, h2] at z
      cases z
    · cases u : H a with
      | none => exact q u
      | some o =>
        rw [k a o e u] at z
        cases z
theorem ev_lam [Rs.Plain r] {P : Addr} {q : Str} {TT : (XK → Hp → VK → Prop) → Hp → VK → Prop} {t : XK → TE} (hP : (P, q) ∈ T)
    (h : ∀ S1 H1, Ex S S1 → Wd (r.tabs T) S1 H1 → ∀ Q : VK, (∀ v S2 H2, Wd (r.tabs T) S2 H2 → Stp (r.tabs T) S1 H1 S2 H2 → R v S2 → Q v H2) → TT (fun E H' Q' => t E s H' Q') H1 Q) : EvS (r.tabs T) (tLm P T TT t) s S R := fun S1 H e w Q q =>
  ⟨w.inv.2, fun H1 k t1 => by
    obtain ⟨w1, s1⟩ := w.grown hP k t1
    exact h S1 H1 e w1 Q fun v S2 H2 w2 s2 hv => q v S2 H2 w2 (s1.trans s2) hv⟩
end
/-- try: a() / except R as e: return [kind of e, repr of its value] / return None: kd C z: z is the kind of C -/
def TTw (K : PySem.W.Frag) (kd : Addr → Str → Prop) : (XK → Hp → VK → Prop) → Hp → VK → Prop := fun tl H Q =>
  tl (fun cls d H' => ∃ (C dd : Addr) (v : V) (D : PyData) (z : Str) (S : Hp), cls = .ref C ∧ d = some dd ∧ kd C z ∧ Ex S H' ∧ S dd = some (.xd [("value", v)]) ∧ DE K S v D ∧ Shw D ∧ ∀ u S1 H1, Wd Rs.nil S1 H1 → Stp Rs.nil S H' S1 H1 → LstR StrR [z, D.shown] u S1 → Q u H1) H fun _ H' => Q .non H'
section
variable {K : PySem.W.Frag} {r : Rs} {T : List (Addr × Str)} {S : Hp} {s : L2.St} {R : V → Hp → Prop} {kd : Addr → Str → Prop} {P : Addr} {q : Str} {t : XK → TE}
/-- the body raises -/
theorem ev_wrongE [Rs.Plain r] {C : Addr} {z : Str} {D : PyData} (hP : (P, q) ∈ T) (h : ∀ E, EvX E C "value" (r.tabs T) (t E) s S R) (hC : kd C z) (hd : ∀ v S1, Ex S S1 → R v S1 → DE K S1 v D) (hs : Shw D) : EvS (r.tabs T) (tLm P T (TTw K kd) t) s S fun u S1 => LstR StrR [z, D.shown] u S1 :=
  ev_lam hP fun S1 H1 e w Q q => h _ S1 H1 e w (fun d v S2 H2 w2 s2 hv hd2 => ⟨C, d, v, D, z, S2, rfl, rfl, hC, w2.ex, hd2, hd v S2 (e.trans s2.ex) hv, hs, fun u S3 H3 w3 s3 hl => q u S3 H3 (w2.lift w3 s3) (s2.trans s3.lift) hl⟩) _
theorem ev_wrong [Rs.Plain r] {C : Addr} {z : Str} {D : PyData} (hP : (P, q) ∈ T) (h : ∀ E, EvX E C "value" (r.tabs T) (t E) s S R) (hC : kd C z) (hd : ∀ v S1, Ex S S1 → R v S1 → Dp K S1 v D) (hs : Shw D) : EvS (r.tabs T) (tLm P T (TTw K kd) t) s S fun u S1 => LstR StrR [z, D.shown] u S1 :=
  ev_wrongE hP h hC (fun v S1 e p => .inl (hd v S1 e p)) hs
/-- the body tells something -/
theorem vv_fine [Rs.Plain r] (hP : (P, q) ∈ T) (h : ∀ E, EvS (r.tabs T) (t E) s S R) : EvV (r.tabs T) (tLm P T (TTw K kd) t) s S .non :=
  ev_lam hP fun S1 H1 e w Q q => h _ S1 H1 e w _ fun v S2 H2 w2 s2 _ => q .non S2 H2 w2 s2 rfl
end
end J

set_option pp.maxSteps 3000
/-! J25: try with several clauses, each with a name; the caught error handed to a def; its class asked. -/
namespace J
open PySem PySem.Spec PyProof.Rows L2 Evl RZ
/-- an error caught in X: it lies on the ground, sI is the state without it -/
structure Down (X : Cx) (pins : List (Addr × Obj)) (a : Addr) (B : Heap) (sI : Shared) (σ : L2.St) (H : Hp) (cls : Value) (d : Option Addr) (s : Shared) : Prop where
  inv : Inv X pins σ H sI
  gr : ∀ b o, sI.heap.get? b = some o → b ∉ frs X.stack → B.get? b = some o
  up : sI.heap.UpToSlots s.heap
  fl : HandSPX.FlyingZ B (X.env :: X.outer) a (L2N.Zn cls d) s.heap
  na : H a = none
  os : s.os = sI.os
  bare : AllBare s.gens
section
variable {X : Cx} {pins : List (Addr × Obj)} {a : Addr} {B : Heap} {sI s : Shared} {σ : L2.St} {H : Hp} {cls : Value} {d : Option Addr}
theorem Down.here (x : Down X pins a B sI σ H cls d s) : Inv X pins σ H s := x.inv.landed x.gr x.fl.1 x.up x.os x.bare
theorem Down.suite (x : Down X pins a B sI σ H cls d s) (hf : X.env.frame = some X.env.locals) : ∃ oe vs, s.heap.get? a = some oe ∧ L2N.Zn cls d oe ∧ oe.data = .fields vs ∧ Inv (X.suite a ((a, oe) :: (X.pn ++ pins))) [] σ H s := by
  obtain ⟨oe, vs, ha, hz, hd⟩ := x.fl.there
  have off : a ∉ frs (X.env :: X.outer) := fun hm => by
    obtain ⟨_, o, e, nf⟩ := x.fl.2.2.1.mem hm
    rw [ha] at e
    cases e
    exact nf _ hd
  have nL : a ≠ X.env.locals := fun z => off (List.mem_filterMap.mpr ⟨X.env, List.mem_cons_self, by rw [hf, z]⟩)
  have nF : a ∉ X.fs := fun hm => by
    obtain ⟨y, hy, q⟩ := List.mem_filterMap.mp hm
    exact off (List.mem_filterMap.mpr ⟨y, List.mem_cons_of_mem _ hy, q⟩)
  exact ⟨oe, vs, ha, hz, hd, x.here.suite ha hd x.na nL nF⟩
theorem Down.at (x : Down X pins a B sI σ H cls d s) {h : Heap} (fl : HandSPX.FlyingZ B (X.env :: X.outer) a (L2N.Zn cls d) h) (up : s.heap.UpToSlots h) : Down X pins a B sI σ H cls d { s with heap := h } :=
  ⟨x.inv, x.gr, x.up.trans up, fl, x.na, x.os, x.bare⟩
end
/-- the ends of a suite whose name, at slot i, goes behind it -/
abbrev endsC (D : Ends) (i : Nat) : Ends := { nx := fun σ H => D.nx (σ.set i none) H, rt := D.rt, bk := fun σ H => D.bk (σ.set i none) H, ct := fun σ H => D.ct (σ.set i none) H }
/-- what the clauses wish of an error of the body, one after another -/
def wNamed (K : PySem.W.Frag) (Wout : WX) (D : Ends) : List (Value × Nat × (Addr → Value → Option Addr → TS)) → WX
  | [] => Wout
  | (c, i, ts) :: l => fun cls d σ H => ∃ b, PySem.W.exmOne K cls c = some b ∧ (b = true → ∀ a, H a = none → ts a cls d (endsC D i) (σ.set i (some (.ref a))) H) ∧ (b = false → wNamed K Wout D l cls d σ H)
inductive HdsAs (X : Cx) : List ExceptHandler → List (Value × Nat × (Addr → Value → Option Addr → TS)) → Prop
  | nil : HdsAs X [] []
  | cons {x n : Str} {c : Value} {i : Nat} {ts : Addr → Value → Option Addr → TS} {b0 : Stmt} {more : List Stmt} {p1 p2 : Pos} {hds : List ExceptHandler} {l : List (Value × Nat × (Addr → Value → Option Addr → TS))} (hi : X.N[i]? = some n) (hl : X.env.kindOf n = some .local) (hc : Names X x c)
      (hsu : ∀ (a : Addr) (oe : Obj) (cls : Value) (d : Option Addr) (pn : List (Addr × Obj)), L2N.Zn cls d oe → (∃ vs, oe.data = .fields vs) → PSs (X.suite a ((a, oe) :: pn)) (b0 :: more) (ts a cls d)) (r : HdsAs X hds l) :
      HdsAs X (.ExceptHandler (some (.Name x p1)) (some n) (b0 :: more) p2 :: hds) ((c, i, ts) :: l)
section
variable {X : Cx} {pins : List (Addr × Obj)} {Wout : WX} {D : Ends}
theorem handle_nm {a : Addr} {B : Heap} {sI : Shared} {σ : L2.St} {H : Hp} {cls : Value} {d : Option Addr} (hs : X.stack = X.env :: X.outer) (hf : X.env.frame = some X.env.locals) (hN : X.N.Nodup) (tk : L2N.Takes X Wout) :
    ∀ {hds : List ExceptHandler} {l : List (Value × Nat × (Addr → Value → Option Addr → TS))}, HdsAs X hds l → ∀ {s : Shared}, Down X pins a B sI σ H cls d s → wNamed X.K Wout D l cls d σ H → wpAny (model X.prog X.w) X.A (handleBy (.ref a) X.env hds) (SP X pins D) X.xe s := by
  intro hds l hk
  induction hk with
  | nil =>
    intro s x w
    obtain ⟨_, _, _, oe, vs, T, oT, ts, ha, hz, hd, h1, _⟩ := id x.fl
    refine wpAny_handleBy_nil ?_
    unfold PySem.passOn
    refine wpAny_bind (wpAny_field ha hd h1 ?_)
    rw [if_neg (show ¬ ((Value.ref T == Value.none) = true) from by simp)]
    have out : wpAny (model X.prog X.w) X.A (setFlight (.ref a) X.env.frame) (fun _ s2 => wpAny (model X.prog X.w) X.A (throw (.ref a) : Sem Flow) (SP X pins D) X.xe s2) X.xe s := by
      rw [hf]
      refine HandSPX.setFlight_upZ x.fl fun h2 held up2 => wpAny_throw (tk _ _ ⟨a, B, sI, pins, σ, H, cls, d, rfl, x.inv, x.gr, x.up.trans up2, .inr (.inr ?_), x.na, x.os, x.bare, w⟩)
      rw [hs]
      exact held
    first
      | exact wpAny_bind (wpAny_pure (wpAny_bind out))
      | exact wpAny_bind out
  | @cons nx n c i ts b0 more p1 p2 hds l hi hl hc hsu r ih =>
    intro s x w
    obtain ⟨b, hb, yes, no⟩ := w
    obtain ⟨oe, vs, ha, hz, hd, J⟩ := x.suite hf
    have ok := x.inv.ok
    refine wpAny_handleBy_cons (codeAny_handlers_test ?_) (by intro q; cases q)
    have ty : PySem.W.Looks (model X.prog X.w) s.heap (typeOf (.ref a)) cls := fun A Q E s' k q => wpAny_typeOf_ref (k _ _ ha) (by rw [hz.1]; exact q)
    have mt := PySem.W.exm_one (M := model X.prog X.w) x.here.kIn ty hb
    have name : ∀ {Q : Value → Shared → Prop} {E : Value → Shared → Prop}, Q c s → wpAny (model X.prog X.w) (X.A.mark (some (.ref a))) (eval (.Name nx p1) X.env) Q E s := fun {Q E} q => by
      obtain ⟨hg, hdb, hm | ⟨hm, hv, hn⟩⟩ := hc
      · exact ld_glob (X := X.suite a ((a, oe) :: (X.pn ++ pins))) J hg hm q hdb
      · exact ld_blt (X := X.suite a ((a, oe) :: (X.pn ++ pins))) J hg hm hv q hn hdb
    refine name (mt.here ?_)
    cases b with
    | false =>
      show wpAny _ X.A (handleBy (.ref a) X.env hds) _ _ _
      exact ih x (no rfl)
    | true =>
      refine codeAny_handlers_suite_as (HandSPX.lands_againZ x.fl fun h2 fl2 up2 => ?_)
      have x2 := x.at fl2 up2
      obtain ⟨o2, v2, a2, z2, d2, J2⟩ := x2.suite hf
      refine store_ok (X := X.suite a ((a, o2) :: (X.pn ++ pins))) (v := .ref a) J2 hN hi (Or.inl hl) rfl (fun s3 J3 => ?_) (.inr hl)
      refine wpAny_mono ((hsu a o2 cls d (X.pn ++ pins) z2 ⟨_, d2⟩).run [] s3 _ H _ J3 (yes rfl a x.na)) (fun fl s4 res => ?_) (fun _ _ z => False.elim z)
      have goes : ∀ {σ4 : L2.St} {H4 : Hp} {Q : Shared → Prop}, Inv (X.suite a ((a, o2) :: (X.pn ++ pins))) [] σ4 H4 s4 → (∀ s5, Inv X pins (σ4.set i none) H4 s5 → Q s5) →
          wpAny (model X.prog X.w) X.A (do bindName X.env n .none; unbindBehindTheSuite X.env n p2) (fun _ s5 => Q s5) X.xe s4 := fun {σ4 H4 Q} K4 q => gone_ok (K4.unsuite ok) hN hi hl q
      match fl, res with
      | .next, ⟨σ4, H4, K4, q4⟩ => exact goes K4 fun s5 J5 => ⟨_, _, J5, q4⟩
      | .brk, ⟨σ4, H4, K4, q4⟩ => exact goes K4 fun s5 J5 => ⟨_, _, J5, q4⟩
      | .cont, ⟨σ4, H4, K4, q4⟩ => exact goes K4 fun s5 J5 => ⟨_, _, J5, q4⟩
      | .ret u, ⟨v4, σ4, H4, K4, r4, q4⟩ => exact goes K4 fun s5 J5 => ⟨_, _, _, J5, r4, q4⟩
theorem ps_try_nm {body : List Stmt} {h0 : ExceptHandler} {hds : List ExceptHandler} {l : List (Value × Nat × (Addr → Value → Option Addr → TS))} {pos : Pos} {tb : WX → TS} (hs : X.stack = X.env :: X.outer) (hf : X.env.frame = some X.env.locals) (hN : X.N.Nodup) (tk : L2N.Takes X Wout)
    (hb : ∀ (W : WX) (pn : List (Addr × Obj)) (xe : Value → Shared → Prop), L2N.Takes (X.tr pn xe) W → PassesOwn (model X.prog X.w) X.A X.env xe → PSs (X.tr pn xe) body (tb W)) (hh : HdsAs X (h0 :: hds) l) :
    PS X (.Try body (h0 :: hds) [] [] pos) (fun D σ H => tb (fun cls d σ1 H1 => σ1.length = X.N.length → wNamed X.K Wout D l cls d σ1 H1) D σ H) := by
  refine ⟨fun pins s σ H D I h => ?_⟩
  have ok := I.ok
  have fr : X.A.frames = some (X.env :: X.outer) := by rw [ok.frames, hs]
  refine wpAny_Try_except (wpAny_mono ((hb (fun cls d σ1 H1 => σ1.length = X.N.length → wNamed X.K Wout D l cls d σ1 H1) (X.pn ++ pins) _ (fun u s1 x1 => ?_) PassesOwn.looking).run [] s σ H D (I.toTry _) h) (fun fl s1 res => ?_) (fun e s1 he => he))
  · obtain ⟨a, B, sI, p2, σ2, H2, cls, d, rfl, J, gr, up, sky, na, os, bare, w⟩ := x1
    have J : Inv X pins σ2 H2 sI := J.ofTry ok
    have sky : Sky B (X.env :: X.outer) a (L2N.Zn cls d) X.env.locals s1.heap := by rw [← hs]; exact sky
    exact L2N.Sky.land L2N.Zn.steady fr hf sky fun h2 fl2 up2 => handle_nm hs hf hN tk hh ⟨J, gr, up.trans up2, fl2, na, os, bare⟩ (w J.len)
  · match fl, res with
    | .next, ⟨σ2, H2, J, q⟩ => exact wpAny_execs_nil ⟨σ2, H2, J.ofTry ok, q⟩
    | .brk, ⟨σ2, H2, J, q⟩ => exact ⟨σ2, H2, J.ofTry ok, q⟩
    | .cont, ⟨σ2, H2, J, q⟩ => exact ⟨σ2, H2, J.ofTry ok, q⟩
    | .ret u, ⟨v, σ2, H2, J, r, q⟩ => exact ⟨v, σ2, H2, J.ofTry ok, r, q⟩
end
end J

set_option pp.maxSteps 3000
/-! J26: defs that get the caught error; its class and its field asked in a suite. -/
namespace J
open PySem PySem.Spec PyProof.Rows L2 Evl RZ
theorem hot_units {k : Nat} {A : Around} (r : L2H.RoomH k A) : A.units + 64 < cLine := by
  have := r.un
  omega
theorem room_hot {k : Nat} {A : Around} {e : Option Value} (r : Room k A) : L2H.RoomH k (A.mark e) := ⟨r.dp, r.un⟩
theorem Gd.mark {A : Around} (g : Gd A) (e : Option Value) : Gd (A.mark e) := g
/-- a def's promise where p's error is handled: cls its class, d its dict -/
structure FnK (P : Program) (w : World) (K : PySem.W.Frag) (mg : Str → Option Value) (base : Heap) (k : Nat) (f : Addr) (fd : FuncData) (ps : List Str) (sp : Addr → Value → Option Addr → Sp) : Prop where
  count : ∀ {a : Addr} {cls : Value} {d : Option Addr} {vs : List V} {H : Hp} {Q : VK} {E : XK}, sp a cls d vs H Q E → vs.length = ps.length
  runs : ∀ {A : Around} {outer : List Env} {s : Shared} {H : Hp} {args : Args} {us : List Value} {vs : List V} {Q : VK} {E : XK} {p : Addr × Obj} {cls : Value} {d : Option Addr}, L2H.RoomH k A → L2H.Hot1 A p → L2H.PinOk outer H s p → L2N.Zn cls d p.2 → Env0 P w K mg base A outer s H → BindsTo s fd args (ps.zip us) → Vals vs us →
    sp p.1 cls d vs H Q E → codeAny (model P w) A (.call (.ref f) args) (CR CX0 outer P w H s Q E) s
section
variable {P : Program} {w : World} {K : PySem.W.Frag} {mg : Str → Option Value} {base : Heap} {x qual : Str} {st : Stmt} {f : Addr} {fd : FuncData} {N ps : List Str} {k : Nat} {sp : Addr → Value → Option Addr → Sp}
theorem ok_K (F : Fun K x qual st f fd) (S : FnScope N ps (defScope st)) (len : ∀ a cls d vs H Q E, sp a cls d vs H Q E → vs.length = ps.length)
    (body : ∀ (cdv : Value) (A : Around) (outer : List Env) (s : Shared) (H : Hp) (vs : List V) (Q : VK) (E : XK) (p : Addr × Obj) (cls : Value) (d : Option Addr), L2H.Hot1 A p → L2N.Zn cls d p.2 → L2H.RoomH k (A.deeper (envOfC qual (defScope st) s.heap.objs.size f cdv)) → sp p.1 cls d vs H Q E →
      ∃ t, PSs (L2H.cxH CX0 P w K mg base N qual (defScope st) f cdv A outer s H E p).nox (defBody st) t ∧ t { nx := fun _ H' => Q .non H', rt := Q } (start N vs) H) : FnK P w K mg base (k + 1) f fd ps sp := by
  obtain ⟨oc, od, kV, doc, pm, an, cdv, ct, osl, e, lk, hcd⟩ := F.ex
  subst e
  refine ⟨fun h => len _ _ _ _ _ _ _ h, fun {A outer s H args us vs Q E p cls d} hr hot pin zn e0 hb r h => ?_⟩
  have KX : K.In s.heap := e0.mod.kin.keeps fun b o e => (e0.bs b o e).1
  have lim : s.heap.NoLimit := e0.mod.nolimit.keeps fun b o e => (e0.bs b o e).1
  have kinds : ∀ y ∈ ps.zip us, (defScope st).names.lookup y.1 = some .local ∨ ((defScope st).names.lookup y.1 = some .cell ∧ ((cellsFrom (s.heap.objs.size + 1) (defScope st).names []).lookup y.1).isSome = true) := fun y hy =>
    (S.par y.1 (List.of_mem_zip (show (y.1, y.2) ∈ ps.zip us from hy)).1).imp id fun q => ⟨q, PySem.W.cellsFrom_some _ _ _ (.inl q)⟩
  obtain ⟨t, ht, hq⟩ := body cdv A outer s H vs Q E p cls d hot zn (hr.deeper _) h
  refine codeAny_call_function hr.depth (KX _ _ lk) rfl S.co S.gen rfl (PySem.W.codeRec_of KX hcd) (hb _ _ _ _ (wpAny_newFunctionEnv_cells S.kind kinds fun env he s1 ic => ?_))
  subst he
  have I := L2H.inv_startH (CX := CX0) (w := w) (qual := qual) (f := f) (cd := cdv) (E := E) S pin e0 (len _ _ _ _ _ _ _ h) r ic
  refine ⟨lim.keeps ic.toInCall.keep, codeAny_func (wpAny_mono (ht.nox.run [] s1 (L2.start N vs) H _ I hq) (fun fl s2 res => ?_) fun _ _ z => z)⟩
  match fl, res with
  | .ret u, ⟨v, σ2, H2, J2, rv, q⟩ => exact ⟨v, H2, J2.os, J2.bare, J2.base, J2.hok, rv, q⟩
  | .next, ⟨σ2, H2, J2, q⟩ => exact ⟨.non, H2, J2.os, J2.bare, J2.base, J2.hok, rfl, q⟩
  | .brk, ⟨_, _, _, q⟩ => exact q.elim
  | .cont, ⟨_, _, _, q⟩ => exact q.elim
end
section
variable {X : Cx} {p : Addr × Obj} {cls : Value} {d : Option Addr}
/-- such a def called -/
theorem pe_callK {k : Nat} {f : Addr} {fd : FuncData} {ps : List Str} {sp : Addr → Value → Option Addr → Sp} {x : Str} {q pos : Pos} {e : Expr} {es : List Expr} {t : TA} (F : FnK X.prog X.w X.K X.mg X.base k f fd ps sp) (hr : L2H.RoomH k X.A) (hot : L2H.Hot1 X.A p) (hp : p ∈ X.pn) (zn : L2N.Zn cls d p.2) (hg : Gl X x) (hm : X.mg x = some (.ref f)) (kp : PySem.W.keepIn X.K (.ref f) = true) (hb : Binds X.K fd ps [])
    (ha : PA X (e :: es) t) (ndb : (x == ("__debug__" : Str)) = false := by decide) (e1 : starEach (e :: es) X.env = (false, eval e X.env) :: starEach es X.env := by rfl) (e2 : (backTo pos (starEach es X.env)).any (·.1) = false := by rfl) :
    PE X (.Call (.Name x q) (e :: es) [] pos) (tCall (sp p.1 cls d) [] E0 t) :=
  ⟨fun pins s σ H Q I h => wpAny_Call_Name_kw (ld_glob I hg hm (PySem.W.callWith_K (h₀ := X.base) I.ok.mod.kin kp (thn (ha.run pos pins s σ H _ I h) fun us s1 ⟨vs, H1, I1, r, z⟩ => ⟨I1.kIn, by
    have z : sp p.1 cls d vs H1 Q E0 := by
      have z' : sp p.1 cls d (vs ++ []) H1 Q E0 := z
      rwa [List.append_nil] at z'
    have gl : (us ++ []).length = ps.length := by rw [List.append_nil, ← r.length]; exact F.count z
    have bt := hb s1 us I1.kIn gl
    rw [List.append_nil] at bt
    obtain ⟨g1, g2, g3, g4, g5⟩ := I1.pin p (List.mem_append_left _ hp)
    have pin : L2H.PinOk X.stack H1 s1 p := ⟨g1, g2, fun hm => (List.mem_cons.mp (I1.stkSub p.1 hm)).elim g3 g4, g5⟩
    refine wpAny_call (codeAny_mono (F.runs hr hot pin zn I1.env0 bt r z) fun res s2 hq => ?_)
    match res, hq with
    | .error _, z => exact z.elim
    | .ok (.ret _), z => exact I1.after z
    | .ok .next, z => exact z.elim
    | .ok .brk, z => exact z.elim
    | .ok .cont, z => exact z.elim⟩) e1 e2) ndb)⟩
/-- the instance as the library sees it -/
theorem inst_of {pins : List (Addr × Obj)} {σ : L2.St} {H : Hp} {s : Shared} {D dd : Addr} {fs : List (Str × V)} (I : Inv X pins σ H s) (hp : p ∈ X.pn) (zn : L2N.Zn (.ref D) (some dd) p.2) (hf : ∃ vs, p.2.data = .fields vs) (ea : H dd = some (.xd fs)) :
    ∃ od, s.heap.get? dd = some od ∧ PySem.W.InstAt s.heap p.1 p.2 D (some od) ∧ ∀ n v, fs.lookup n = some v → ∃ u : Value, PySem.W.lookIn n od = some (some u) ∧ L2.RelV v u := by
  obtain ⟨m, hns, hr⟩ := (I.hok dd _ ea : ObjOk X.prog X.w H s.heap dd (.xd fs))
  obtain ⟨od, ho, hl⟩ := lookIn_ns hns
  obtain ⟨vs, hd⟩ := hf
  refine ⟨od, ho, ⟨(I.pin p (List.mem_append_left _ hp)).1, zn.1, by unfold PySem.W.notCls; rw [hd] <;> rfl, by rw [zn.2.1]; exact ho⟩, fun n v l => ?_⟩
  obtain ⟨u, hu, ru⟩ := RelO.some_of (v := v) (o := m n) (by rw [← l]; exact hr n)
  exact ⟨u, by rw [hl n, hu], ru⟩
/-- isinstance(e, C), e the error that is handled -/
def rIsX (K : PySem.W.Frag) (a : Addr) (cls : Value) (d : Option Addr) : List V → Hp → VK → Prop := fun xs H Q => ∃ (C D dd : Addr) (b : Bool) (fs : List (Str × V)), xs = [.ref a, .ref C] ∧ cls = .ref D ∧ d = some dd ∧ L2.ExcC K D ∧ PySem.W.kitOne K (.ref D) (.ref C) = some b ∧ H dd = some (.xd fs) ∧ Q (.bl b) H
theorem call_isX (hp : p ∈ X.pn) (zn : L2N.Zn cls d p.2) (hf : ∃ vs, p.2.data = .fields vs) : CallR X (.builtin "isinstance") (rIsX X.K p.1 cls d) := by
  intro pins s σ H xs us Q I r h
  obtain ⟨C, D, dd, b, fs, rfl, rfl, rfl, T, e, ea, q⟩ := h
  cases r with
  | cons rx rr =>
    cases rr with
    | cons rt rr =>
      cases rr
      cases rx
      cases rt
      obtain ⟨od, ho, J, _⟩ := inst_of I hp zn hf ea
      have hcl : (PySem.W.clsIn X.K D).isSome = true := by
        have z := T.hd
        unfold PySem.W.hasDictIn at z
        obtain ⟨cd, hc, _⟩ := PySem.W.any_some z
        rw [hc]
        rfl
      exact PySem.W.kia_one (PySem.W.kitx_exc hcl T.hg T.hk T.hs T.ha T.hn T.ht T.hm) I.kIn J e (fun z => nomatch z) fun tk => ⟨.bl b, H, I.kept (t' := tk) fun _ _ z => z, rfl, q⟩
/-- e.f -/
def tXv (K : PySem.W.Frag) (a : Addr) (cls : Value) (d : Option Addr) (f : Str) (te : TE) : TE := fun σ H Q => te σ H fun x H1 => x = .ref a ∧ ∃ (D dd : Addr) (fs : List (Str × V)) (v : V), cls = .ref D ∧ d = some dd ∧ L2.XfC K D ∧ PySem.W.findIn K (.ref D) f = some none ∧ H1 dd = some (.xd fs) ∧ fs.lookup f = some v ∧ Q v H1
theorem pe_xv {e : Expr} {te : TE} {pos : Pos} {f : Str} (hp : p ∈ X.pn) (zn : L2N.Zn cls d p.2) (hf : ∃ vs, p.2.data = .fields vs) (he : PE X e te) (hb : attributeBase e f X.env (eval e X.env) = eval e X.env := by rfl) : PE X (.Attribute e f pos) (tXv X.K p.1 cls d f te) := by
  refine ⟨fun pins s σ H Q I h => attr_of hb (thn (he.run pins s σ H _ I h) fun u s1 ⟨x, H1, I1, rx, ex, hx⟩ => ?_)⟩
  obtain ⟨D, dd, fs, v, rfl, rfl, T, no, ea, l, q⟩ := hx
  subst ex
  obtain rfl : u = Value.ref p.1 := rx
  obtain ⟨od, ho, J, at_⟩ := inst_of I1 hp zn hf ea
  obtain ⟨u, hu, ru⟩ := at_ f v l
  exact HandSPX.exc_get I1.kIn J T.ga T.gg T.exC (PySem.W.findObj_own T.hdC no rfl hu) (handed_of ru) ⟨v, H1, I1.tok _, ru, q⟩
end
section
variable {K : PySem.W.Frag} {r : Rs} {s : L2.St} {S : Hp} {te : TE} {ta : TA} {a : Addr} {cls : Value} {d : Option Addr}
theorem vv_isX {C D dd : Addr} {b : Bool} {fs : List (Str × V)} (h : EvAV r ta s S [.ref a, .ref C]) (e1 : cls = .ref D) (e2 : d = some dd) (T : L2.ExcC K D) (k : PySem.W.kitOne K (.ref D) (.ref C) = some b) (ea : S dd = some (.xd fs)) : EvV r (tCB (rIsX K a cls d) ta) s S (.bl b) :=
  vv_cb h fun H e Q q => ⟨C, D, dd, b, fs, rfl, e1, e2, T, k, e _ _ ea, q⟩
theorem vv_xv {D dd : Addr} {f : Str} {fs : List (Str × V)} {v : V} (h : EvV r te s S (.ref a)) (e1 : cls = .ref D) (e2 : d = some dd) (T : L2.XfC K D) (no : PySem.W.findIn K (.ref D) f = some none) (ea : S dd = some (.xd fs)) (l : fs.lookup f = some v) : EvV r (tXv K a cls d f te) s S v := fun S1 H e w Q q =>
  h S1 H e w _ fun x S2 H2 w2 s2 ex => ⟨ex, D, dd, fs, v, e1, e2, T, no, w2.ex _ _ (s2.ex _ _ (e _ _ ea)), l, q v S2 H2 w2 s2 rfl⟩
end
end J

set_option pp.maxSteps 3000
/-! J27: what the end finds of error classes; a def whose code object is known; a law that begins with tables. -/
namespace J
open PySem PySem.Spec PyProof.Rows L2 Evl RZ
/-- an error class over ValueError, as it lies -/
def oexB (K : PySem.W.Frag) (C : Addr) : Bool := match K.lookup C with
  | some ⟨.type "type", _, .cls cd, sl⟩ => (match cd.mro, sl.toList with
    | .ref C1 :: bm, [_, _, _, _, some (.builtin n), _] => C1 == C && n == "ValueError.__new__" && !cd.hasDel && cd.hasDict && PySem.HandSPX.refsVE bm
    | _, _ => false)
  | _ => false
theorem oexB_ok {K : PySem.W.Frag} {C : Addr} (h : oexB K C = true) : ∃ nm q N bs bm sn sub ab col dd k0 k1 k2 k3 k5, K.lookup C = some (excClassObj nm q C N bs bm true sn sub ab col dd k0 k1 k2 k3 k5 "ValueError.__new__") ∧ PySem.HandSPX.refsVE bm = true := by
  unfold oexB at h
  split at h
  · rename_i dd cd sl ho
    split at h
    · rename_i C1 bm k0 k1 k2 k3 n k5 hm hs
      simp only [Bool.and_eq_true, beq_iff_eq, Bool.not_eq_true'] at h
      obtain ⟨⟨⟨⟨rfl, rfl⟩, hdel⟩, hdc⟩, ht⟩ := h
      obtain ⟨nm, bs, mro, ns, qn, hd, sn, sub, ab, col, del⟩ := cd
      dsimp only at hm hdel hdc
      subst hm hdel hdc
      have e : sl = #[k0, k1, k2, k3, some (.builtin "ValueError.__new__"), k5] := by
        obtain ⟨l⟩ := sl
        simp only at hs
        rw [hs]
      subst e
      exact ⟨nm, qn, ns, bs, bm, sn, sub, ab, col, dd, k0, k1, k2, k3, k5, ho, ht⟩
    · cases h
  · cases h
/-- all that is asked of such a class and its __init__ -/
def xcAll (K : PySem.W.Frag) (C f cda : Addr) (qual fld : Str) : Bool :=
  oexB K C && decide (PySem.W.findIn K (.ref C) "__setattr__" = some (some (.builtin "object.__setattr__"))) && decide (PySem.W.subIn K (.ref C) (.type "BaseException") = some true) && decide (PySem.W.typeIn K (.ref C) = some (.type "type")) && PySem.W.keepIn K (.ref C) &&
    decide (PySem.W.typeIn K (.ref f) = some (.type "function")) && PySem.W.codeIn K (.ref cda) qual && decide (PySem.W.ks_superIn K C C "__init__" = some (some (.builtin "ValueError.__init__"))) && decide (PySem.W.subIn K (.ref C) (.type "ValueError") = some true) && decide (PySem.W.mroIn K C (.ref C) = some true) &&
    decide (PySem.W.findIn K (.ref C) fld = some none) && decide (PySem.W.nsIn K cStatics "thirdparty.any" = some none)
/-- isinstance and fields of its instances -/
def xiAll (K : PySem.W.Frag) (C : Addr) : Bool :=
  decide (PySem.W.findIn K (.ref C) "__getattribute__" = some (some (.builtin "BaseException.__getattribute__"))) && decide (PySem.W.findIn K (.ref C) "__getattr__" = some none) && decide (PySem.W.subIn K (.ref C) (.type "BaseException") = some true) && PySem.W.hasDictIn K C &&
    decide (PySem.W.findIn K (.ref C) "__class__" = some (some (.builtin "object.__class__"))) && decide (PySem.W.specialIn K (.builtin "object.__class__") "__get__" = some (some (.builtin "getset_descriptor.__get__"))) && decide (PySem.W.takesIn K (.builtin "object.__class__") = some true) && decide (PySem.W.mroIn K C (.type "object") = some true)
theorem xi_ok {K : PySem.W.Frag} {C : Addr} (h : xiAll K C = true) : L2.ExcC K C ∧ L2.XfC K C := by
  unfold xiAll at h
  simp only [Bool.and_eq_true, decide_eq_true_eq] at h
  obtain ⟨⟨⟨⟨⟨⟨⟨h1, h2⟩, h3⟩, h4⟩, h5⟩, h6⟩, h7⟩, h8⟩ := h
  exact ⟨⟨h1, h2, h3, h4, h5, h6, h7, h8⟩, ⟨h1, h2, h3, h4⟩⟩
/-- which of the classes of l C is one of -/
def kitRow (K : PySem.W.Frag) (C : Addr) : List (Addr × Bool) → Bool
  | [] => true
  | (D, b) :: l => decide (PySem.W.kitOne K (.ref C) (.ref D) = some b) && kitRow K C l
theorem kitRow_cons {K : PySem.W.Frag} {C D : Addr} {b : Bool} {l : List (Addr × Bool)} (h : kitRow K C ((D, b) :: l) = true) : PySem.W.kitOne K (.ref C) (.ref D) = some b ∧ kitRow K C l = true := by
  unfold kitRow at h
  simp only [Bool.and_eq_true, decide_eq_true_eq] at h
  exact h
theorem XcT.of {P : Program} {K : PySem.W.Frag} {mg : Str → Option Value} {C f cda cc : Addr} {qual fld prm file : Str} {st : Stmt} {oc kV doc pm ct ccl cl : Value} {od an cdd cld : Option Addr} {osl ccs csl : Array (Option Value)} {vs : Array Value} {tf : Tok}
    (ini : PySem.W.findIn K (.ref C) "__init__" = some (some (.ref f))) (l : K.lookup f = some ⟨oc, od, .func (PySem.W.ksFn "__init__" qual (defArgs st) (defBody st) (defScope st) .none kV doc pm an (.ref cda) ct cc), osl⟩)
    (lc : K.lookup cda = some ⟨ccl, cdd, .fields vs, ccs⟩) (lcc : K.lookup cc = some ⟨cl, cld, .cell (some (.ref C)), csl⟩) (hv : vs[2]? = some (.str file tf)) (hfile : ((P.main.file : Str) == file) = true) (q : xcAll K C f cda qual fld = true) (zs : mg "super" = none)
    (top : (P.main.scope.names.lookup ("super" : Str)).isSome = false)
    (body : ∃ msg j p0 p1 p2 p3 p4 p5 p6 p7 p8 p9, defBody st = xcBody msg fld prm j p0 p1 p2 p3 p4 p5 p6 p7 p8 p9 ∧ ∀ env : Env, ∃ pl : Sem Bool, eval (.Call (.Attribute (.Call (.Name "super" p0) [] [] p1) "__init__" p2) [.Constant (.str msg) j p3] [] p4) env = (do
      let ov ← attributeBase (.Call (.Name "super" p0) [] [] p1) "__init__" env (eval (.Call (.Name "super" p0) [] [] p1) env)
      standAt p2.atName
      let (f, first) ← holding [ov] (getMethod ov "__init__" pl)
      callWith p4 f first (backTo p4 (starEach [.Constant (.str msg) j p3] env)) []))
    (par : ((defArgs st).posonlyargs ++ (defArgs st).args).head?.map (fun a => a.arg) = some "self") (sc1 : (defScope st).kind = .function) (sc2 : (defScope st).isCoroutine = false) (sc3 : (defScope st).isGenerator = false) (sc4 : ∀ x ∈ (defScope st).names, x.2 ≠ .cell)
    (sc5 : (defScope st).names.lookup ("self" : Str) = some .local) (sc6 : (defScope st).names.lookup prm = some .local) (sc7 : (defScope st).names.lookup ("super" : Str) = some .globalImplicit) (sc8 : (defScope st).names.lookup ("__class__" : Str) = some .free) (np : ("self" : Str) ≠ prm) (nd : (prm == ("__debug__" : Str)) = false) :
    XcT P K mg C f qual fld prm st (PySem.W.ksFn "__init__" qual (defArgs st) (defBody st) (defScope st) .none kV doc pm an (.ref cda) ct cc) := by
  unfold xcAll at q
  simp only [Bool.and_eq_true, decide_eq_true_eq] at q
  obtain ⟨⟨⟨⟨⟨⟨⟨⟨⟨⟨⟨q1, q2⟩, q3⟩, q4⟩, q5⟩, q6⟩, q7⟩, q8⟩, q9⟩, q10⟩, q11⟩, q12⟩ := q
  exact ⟨⟨oexB_ok q1, q2, q3, q4, q5⟩, ini, q6, ⟨oc, kV, doc, pm, ct, od, an, osl, cda, cc, rfl, l, q7, ⟨ccl, cdd, vs, ccs, file, tf, lc, hv, hfile⟩, ⟨cl, cld, csl, lcc⟩⟩, q8, q9, q10, q11, zs, q12, top, body, par, sc1, sc2, sc3, sc4, sc5, sc6, sc7, sc8, np, nd⟩
/-- a def whose code object lies at c -/
structure FunC (K : PySem.W.Frag) (x qual : Str) (st : Stmt) (f : Addr) (fd : FuncData) (c : Addr) : Prop where
  ex : ∃ (oc : Value) (od : Option Addr) (kV doc pm : Value) (an : Option Addr) (ct : Value) (osl : Array (Option Value)), fd = PySem.W.fnOf x qual (defArgs st) (defBody st) (defScope st) .none kV doc pm an (.ref c) ct ∧ K.lookup f = some ⟨oc, od, .func fd, osl⟩ ∧ PySem.W.codeIn K (.ref c) qual = true
section
variable {P : Program} {w : World} {K : PySem.W.Frag} {mg : Str → Option Value} {base : Heap} {x qual : Str} {st : Stmt} {f c : Addr} {fd : FuncData} {N ps : List Str} {k : Nat} {sp : Sp}
theorem ok_GC (F : FunC K x qual st f fd c) (S : FnScope N ps (defScope st)) (len : ∀ vs H Q E, sp vs H Q E → vs.length = ps.length)
    (body : ∀ (A : Around) (outer : List Env) (s : Shared) (H : Hp) (vs : List V) (Q : VK) (E : XK), Gd A → Room k (A.deeper (envOfC qual (defScope st) s.heap.objs.size f (.ref c))) → sp vs H Q E →
      ∃ t, PSs (cxOf CX0 P w K mg base N qual (defScope st) f (.ref c) A outer s H E).nox (defBody st) t ∧ t { nx := fun _ H' => Q .non H', rt := Q } (start N vs) H) : FnG P w K mg base (k + 1) f fd ps sp := by
  obtain ⟨oc, od, kV, doc, pm, an, ct, osl, e, lk, hcd⟩ := F.ex
  subst e
  refine ⟨fun h => len _ _ _ _ h, fun {A outer s H args us vs Q E} g hr e0 hb r h => ?_⟩
  exact LamX.run_ofS lk hcd S hr e0 hb r (len _ _ _ _ h) fun hr1 => by
    obtain ⟨t, ht, hq⟩ := body A outer s H vs Q E g hr1 h
    exact ⟨t, ht.nox, hq⟩
end
/-! ### the beginning -/
/-- H without the tables of T -/
def offT (T : List (Addr × Str)) (H : Hp) : Hp := fun b => if b ∈ T.map Prod.fst then none else H b
section
variable {K : PySem.W.Frag} {T : List (Addr × Str)} {H : Hp} {a : Addr} {xs : List V}
theorem offT_ex : Ex (offT T H) H := fun b o e => by
  unfold offT at e
  split at e
  · cases e
  · exact e
theorem offT_sq (t : ∀ y ∈ T, H y.1 = some (.tbl #[])) (h : SqL K H a xs) : SqL K (offT T H) a xs := by
  have at_ : ∀ o, H a = some o → (∀ ps, o ≠ .tbl ps) → offT T H a = some o := fun o e n => by
    unfold offT
    rw [if_neg fun z => ?_]
    · exact e
    · obtain ⟨y, hy, e1⟩ := List.mem_map.mp z
      have e2 := t y hy
      rw [e1, e] at e2
      exact n #[] (Option.some.inj e2)
  rcases h with (h | ⟨o, h⟩) | h
  · exact .inl (.inl (at_ _ h fun _ z => nomatch z))
  · exact .inl (.inr ⟨o, at_ _ h fun _ z => nomatch z⟩)
  · exact .inr h
theorem tabs_nil (t : ∀ y ∈ T, H y.1 = some (.tbl #[])) : LamX.Tabs T H := fun y hy => LamX.TabS.nil (t y hy)
/-- the source beside the tables -/
theorem Wd.begin {p c : Addr} {S1 H1 : Hp} (t : ∀ y ∈ T, H y.1 = some (.tbl #[])) (w : Wd (srcR p c) S1 H1) (s : Stp Rs.nil (offT T H) H S1 H1) : Wd ((srcR p c).tabs T) S1 H1 := by
  have kp : ∀ b o, H b = some o → H1 b = some o := fun b o e => s.kp b o (fun z => by cases z) e
  refine ⟨w.ex, ⟨w.inv, (tabs_nil t).ext kp⟩, fun b hb => ?_⟩
  rcases List.mem_append.mp hb with hb | hb
  · obtain ⟨y, hy, rfl⟩ := List.mem_map.mp hb
    exact s.fr _ (ne_none (t y hy)) (if_pos hb)
  · exact w.dj b hb
end
end J

set_option pp.maxSteps 3000
/-! J28: o != p where only __eq__ is own; == and != of an instance and anything; instances made by positions and keywords. -/
namespace J
open PySem PySem.Spec PyProof.Rows L2 Evl RZ
/-- what the class says of != -/
structure NeC (K : PySem.W.Frag) (C : Addr) : Prop where
  ne : PySem.W.findIn K (.ref C) "__ne__" = some (some (.builtin "object.__ne__"))
  ob : PySem.W.mroIn K C (.type "object") = some true
section
variable {prog : Program} {w : World} {A : Around} {E : Value → Shared → Prop} {s : Shared} {K : PySem.W.Frag} {x C L f : Addr} {h0 : Heap} {m : Str → Option Value} {ox : Obj} {od : Option Obj} {b tb : Value}
theorem ne_tree {tk : List Value} {Q : Fin → Shared → Prop} (hu : A.units < cLine) (X : K.In s.heap) (I : PySem.W.InstAt s.heap x ox C od) (hs : PySem.W.findIn K (.ref C) "__eq__" = some (some (.ref f))) (hf : PySem.W.isFn K (.ref f) = true)
    (h : wpAny (model prog w) A (call (.ref f) [.ref x, b]) (fun v s1 => ∃ t, v = .bool t ∧ Q (.done (.ret (.bool (!t)))) s1) E s) : wpAny (model prog w) A (Builtin.«object.__ne__» ⟨[.ref x, b], []⟩) Q E s := by
  unfold Builtin.«object.__ne__»
  refine wpAny_bind (wpAny_of_eq (a := ((Value.ref x : Value), [b])) (by first | rfl | (simp only [slotArgs]; rfl)) ?_)
  refine wpAny_bind (wpAny_cRoomFor hu ?_)
  refine wpAny_bind (PySem.W.ifBound_K X I hs hf (wpAny_mono h (fun v s1 hv => ?_) fun _ _ z => z))
  obtain ⟨t, rfl, q⟩ := hv
  exact wpAny_bind (wpAny_truthy_bool (wpAny_pure q))
theorem ifBound_B {M : Model} {name : Str} {id : String} {args : List Value} {Q : Option Value → Shared → Prop} (X : K.In s.heap) (I : PySem.W.InstAt s.heap x ox C od) (hs : PySem.W.findIn K (.ref C) name = some (some (.builtin id))) (hb : ∀ self, bindSpecial (.builtin id) self = pure (.builtin id, [self]))
    (h : wpAny M A (call (.builtin id) (.ref x :: args)) (fun v => Q (some v)) E s) : wpAny M A (callSpecialIfBound? (.ref x) name args) Q E s := by
  simp only [callSpecialIfBound?, bindSpecialIfBound?]
  refine wpAny_holding (wpAny_bind (wpAny_bind (wpAny_bind (I.type.here ((PySem.W.looks_findIn X hs).here ?_)))))
  simp only [hb]
  refine wpAny_bind (wpAny_askSetting (wpAny_ite ?_))
  have go : wpAny M A (call (.builtin id) ([.ref x] ++ args) >>= fun v => pure (some v)) Q E s := wpAny_bind (wpAny_mono h (fun v s1 z => wpAny_pure z) fun _ _ z => z)
  split
  · exact wpAny_bind (wpAny_pure (wpAny_pure (by exact go)))
  · exact wpAny_tryCatch (wpAny_bind (wpAny_pure (wpAny_pure (by exact go))))
theorem ne_K {Q : Value → Shared → Prop} (hu : A.units + 1 < cLine) (F : Fr h0 L s.heap m) (X0 : K.In h0) (I : PySem.W.InstAt s.heap x ox C od) (hb : PySem.W.Looks (model prog w) s.heap (typeOf b) tb) (hn : PySem.W.notFirst K C tb = true) (N : NeC K C)
    (hs : PySem.W.findIn K (.ref C) "__eq__" = some (some (.ref f))) (hf : PySem.W.isFn K (.ref f) = true)
    (h : wpAny (model prog w) A.in1 (call (.ref f) [.ref x, b]) (fun v s1 => ∃ t, v = .bool t ∧ Q (.bool (!t)) s1) E s) : wpAny (model prog w) A (richCompare .NotEq (.ref x) b) Q E s := by
  have X := X0.keeps F.keep
  have sub : PySem.W.Looks (model prog w) s.heap (isInstance (.ref x) (.type "object")) true := I.type.andThen (PySem.W.looks_mroIn X N.ob)
  have one : wpAny (model prog w) A (tryCompare (.ref x) (cmpInfo .NotEq).2.1 b) (fun r s1 => ∃ v, r = some v ∧ Q v s1) E s := by
    unfold tryCompare
    refine wpAny_bind (ifBound_B X I N.ne PySem.F.cmp_object.ne.bind (wpAny_call (codeAny_call_builtin PySem.F.cmp_object.ne.plain PySem.F.cmpEntry_ne (PySem.W.check_slot PySem.F.cmpKind_ne PySem.F.cmpSplit_ne sub (PySem.F.cmpArgs_ne _ _) (ne_tree (tk := []) (A := A.in1) hu X I hs hf (wpAny_mono h (fun v s1 hv => ?_) fun _ _ z => z))))))
    obtain ⟨t, rfl, q⟩ := hv
    exact ⟨_, rfl, wpAny_pure ⟨_, rfl, q⟩⟩
  unfold richCompare
  simp only [oneThing_ref]
  refine wpAny_holding (wpAny_bind (wpAny_cRoomFor (by omega) (wpAny_bind (I.type.here (wpAny_bind (hb.here ?_))))))
  split
  · rename_i q
    have e : PySem.W.subIn K tb (.ref C) = some false := by
      rcases Bool.or_eq_true_iff.mp hn with e | e
      · rw [beq_iff_eq.mp e] at q; simp at q
      · exact beq_iff_eq.mp e
    refine wpAny_bind ((PySem.W.looks_subIn X e).here ?_)
    simp only [Bool.false_eq_true, if_false]
    refine wpAny_bind (wpAny_mono one (fun r s1 z => ?_) fun _ _ e => e)
    obtain ⟨v, rfl, hq⟩ := z
    exact wpAny_pure hq
  · refine wpAny_bind (wpAny_pure ?_)
    simp only [Bool.false_eq_true, if_false]
    refine wpAny_bind (wpAny_mono one (fun r s1 z => ?_) fun _ _ e => e)
    obtain ⟨v, rfl, hq⟩ := z
    exact wpAny_pure hq
end
section
variable {X : Cx} {CX : CXT} {k : Nat} {f C : Addr} {fd : FuncData} {ps : List Str} {sp : Sp} {E : XK}
def rNeO (C : Addr) (sp : Sp) (E : XK) : R2 := fun x y H Q => ∃ a dx fs b dy gs, x = .ref a ∧ y = .ref b ∧ H a = some (.ins C dx fs) ∧ H b = some (.ins C dy gs) ∧ sp [.ref a, .ref b] H (fun v H' => ∃ z, v = .bl z ∧ Q (.bl (!z)) H') E
theorem op_neO (F : FnOk X.prog X.w X.K X.mg X.base CX k f fd ps sp) (M : Meth X.K C "__eq__" f) (N : NeC X.K C) (hr : Room (k + 1) X.A) (hb : Binds X.K fd ps []) (hx : Passes CX X E) : OpR X (compareOp .NotEq) (rNeO C sp E) := by
  intro pins s σ H x y v u Q I rx ry h
  obtain ⟨a, dx, fs, b, dy, gs, rfl, rfl, ha, hb2, wants⟩ := h
  cases rx
  cases ry
  obtain ⟨mA, J, _⟩ := ins_get I.hok ha
  obtain ⟨od, J, _⟩ := J.look
  obtain ⟨mB, J', _⟩ := ins_get I.hok hb2
  obtain ⟨od', J', _⟩ := J'.look
  obtain ⟨m, frame⟩ := I.fr
  refine PySem.W.cmp_ofNotEq (ne_K (tb := .ref C) (units1 hr) frame I.ok.mod.kin J J'.type (by simp [PySem.W.notFirst]) N M.at_ M.fn ?_)
  refine wpAny_mono (run_sub (A := X.A.in1) (vs := [V.ref a, V.ref b]) ⟨hr.in1, rfl⟩ F hb hx I (.cons rfl (.cons rfl .nil)) wants) (fun w s' back => ?_) fun _ _ z => z
  obtain ⟨t, H', I', rt, z, rfl, q⟩ := back
  cases rt
  exact ⟨z, rfl, .bl (!z), H', I', rfl, q⟩
/-- an instance == a tuple -/
def rEqTp (K : PySem.W.Frag) (C : Addr) (sp : Sp) (E : XK) : R2 := fun x y H Q => ∃ a dx fs b ys, x = .ref a ∧ y = .ref b ∧ H a = some (.ins C dx fs) ∧ SqT K H b ys ∧ sp [.ref a, .ref b] H (fun v H' => ∃ z, v = .bl z ∧ Q (.bl z) H') E
theorem op_eqTp (F : FnOk X.prog X.w X.K X.mg X.base CX k f fd ps sp) (M : Meth X.K C "__eq__" f) (nf : PySem.W.notFirst X.K C (.type "tuple") = true) (hr : Room k X.A) (hb : Binds X.K fd ps []) (hx : Passes CX X E) : OpR X (compareOp .Eq) (rEqTp X.K C sp E) := by
  intro pins s σ H x y v u Q I rx ry h
  obtain ⟨a, dx, fs, b, ys, rfl, rfl, ha, hb2, wants⟩ := h
  cases rx
  cases ry
  obtain ⟨mA, J, _⟩ := ins_get I.hok ha
  obtain ⟨od, J, _⟩ := J.look
  obtain ⟨its, _, ⟨ob, ho, hc, _⟩, _⟩ := I.tuple hb2
  obtain ⟨m, frame⟩ := I.fr
  have ty : PySem.W.Looks (model X.prog X.w) s.heap (typeOf (.ref b)) (.type "tuple") := fun A Q E s k q => wpAny_typeOf_ref (k _ _ ho) (by rw [hc]; exact q)
  refine PySem.W.cmp_ofEq (PySem.W.cmp_K (op := .Eq) (tb := .type "tuple") hr.units0 frame I.ok.mod.kin J ty nf M.at_ M.fn ?_)
  refine wpAny_mono (run_sub (A := X.A) (vs := [V.ref a, V.ref b]) ⟨hr, rfl⟩ F hb hx I (.cons rfl (.cons rfl .nil)) wants) (fun w s' back => ?_) fun _ _ z => z
  obtain ⟨t, H', I', rt, z, rfl, q⟩ := back
  cases rt
  exact ⟨.bl z, H', I', rfl, q⟩
end
section
variable {K : PySem.W.Frag} {r : Rs} {s : L2.St} {S : Hp} {ta tb : TE} {A : Type} {C : Addr} {pre : A → List V → Hp → Prop} {post : A → V → Hp → Prop} {E : XK} {Rx Ry : V → Hp → Prop}
/-- both sides told by relations that mean instances -/
theorem ev_neO {b : Bool} (hx : EvS r ta s S Rx) (hy : ∀ S1, Ex S S1 → EvS r tb s S1 Ry) (mx : ∀ v S1 S2, Ex S1 S2 → Rx v S1 → Rx v S2) (hp : ∀ x y S1, Ex S S1 → Rx x S1 → Ry y S1 → ∃ z dx fs z' dx' fs', x = .ref z ∧ y = .ref z' ∧ S1 z = some (.ins C dx fs) ∧ S1 z' = some (.ins C dx' fs') ∧ ∃ a, pre a [x, y] S1 ∧ ∀ u S2, Ex S1 S2 → post a u S2 → u = .bl b) : EvV r (tOp (rNeO C (SpP pre post) E) ta tb) s S (.bl (!b)) := fun S1 H e w Q q =>
  hx S1 H e w _ fun x S2 H2 w2 s2 ex => hy S2 (e.trans s2.ex) S2 H2 (Ex.refl _) w2 _ fun y S3 H3 w3 s3 ey => by
    obtain ⟨z, dx, fs, z', dx', fs', rfl, rfl, hz, hz', a, p1, p2⟩ := hp x y S3 (e.trans (s2.ex.trans s3.ex)) (mx _ _ _ s3.ex ex) ey
    exact ⟨z, dx, fs, z', dx', fs', rfl, rfl, w3.ex _ _ hz, w3.ex _ _ hz', a, S3, p1, w3.ex, fun u S4 H4 w4 s4 p4 => ⟨b, p2 u S4 s4.ex p4, q _ S4 H4 (w3.lift w4 s4) ((s2.trans s3).trans s4.lift) rfl⟩⟩
theorem ev_eqO {b : Bool} (hx : EvS r ta s S Rx) (hy : ∀ S1, Ex S S1 → EvS r tb s S1 Ry) (mx : ∀ v S1 S2, Ex S1 S2 → Rx v S1 → Rx v S2) (hp : ∀ x y S1, Ex S S1 → Rx x S1 → Ry y S1 → ∃ z dx fs z' dx' fs', x = .ref z ∧ y = .ref z' ∧ S1 z = some (.ins C dx fs) ∧ S1 z' = some (.ins C dx' fs') ∧ ∃ a, pre a [x, y] S1 ∧ ∀ u S2, Ex S1 S2 → post a u S2 → u = .bl b) : EvV r (tOp (rEqO C (SpP pre post) E) ta tb) s S (.bl b) := fun S1 H e w Q q =>
  hx S1 H e w _ fun x S2 H2 w2 s2 ex => hy S2 (e.trans s2.ex) S2 H2 (Ex.refl _) w2 _ fun y S3 H3 w3 s3 ey => by
    obtain ⟨z, dx, fs, z', dx', fs', rfl, rfl, hz, hz', a, p1, p2⟩ := hp x y S3 (e.trans (s2.ex.trans s3.ex)) (mx _ _ _ s3.ex ex) ey
    exact ⟨z, dx, fs, z', dx', fs', rfl, rfl, w3.ex _ _ hz, w3.ex _ _ hz', a, S3, p1, w3.ex, fun u S4 H4 w4 s4 p4 => ⟨b, p2 u S4 s4.ex p4, q _ S4 H4 (w3.lift w4 s4) ((s2.trans s3).trans s4.lift) rfl⟩⟩
theorem ev_eqTp {b : Bool} (hx : EvS r ta s S Rx) (hy : ∀ S1, Ex S S1 → EvS r tb s S1 Ry) (mx : ∀ v S1 S2, Ex S1 S2 → Rx v S1 → Rx v S2) (hp : ∀ x y S1, Ex S S1 → Rx x S1 → Ry y S1 → ∃ z dx fs z' ys, x = .ref z ∧ y = .ref z' ∧ S1 z = some (.ins C dx fs) ∧ SqT K S1 z' ys ∧ ∃ a, pre a [x, y] S1 ∧ ∀ u S2, Ex S1 S2 → post a u S2 → u = .bl b) : EvV r (tOp (rEqTp K C (SpP pre post) E) ta tb) s S (.bl b) := fun S1 H e w Q q =>
  hx S1 H e w _ fun x S2 H2 w2 s2 ex => hy S2 (e.trans s2.ex) S2 H2 (Ex.refl _) w2 _ fun y S3 H3 w3 s3 ey => by
    obtain ⟨z, dx, fs, z', ys, rfl, rfl, hz, hz', a, p1, p2⟩ := hp x y S3 (e.trans (s2.ex.trans s3.ex)) (mx _ _ _ s3.ex ex) ey
    exact ⟨z, dx, fs, z', ys, rfl, rfl, w3.ex _ _ hz, ex_t w3.ex hz', a, S3, p1, w3.ex, fun u S4 H4 w4 s4 p4 => ⟨b, p2 u S4 s4.ex p4, q _ S4 H4 (w3.lift w4 s4) ((s2.trans s3).trans s4.lift) rfl⟩⟩
/-- C(e .., k = e, ..) -/
theorem en_makeK {fr : A → List (Str × V) → Hp → Prop} {n m : Nat} {gV : List V → List V → List V} {ts tk : TA} {us zs : List V} {R : HO → Hp → Prop} (h : EvAV r ts s S us) (h2 : EvAV r tk s S zs) (l1 : us.length = n) (l2 : zs.length = m)
    (hp : ∀ S1, Ex S S1 → ∃ a ws, (∀ x, gV (.ref x :: us) zs = .ref x :: ws) ∧ pre a ws S1 ∧ ∀ dx fs S2, Ex S1 S2 → fr a fs S2 → R (.ins C dx fs) S2) : EvN r (tMakeK C n m (SpInit C pre fr) gV E ts tk) s S R := fun S1 H e w0 Q q =>
  h S1 H e w0 _ fun us' S2 H2 w2 s2 e1 => h2 S2 H2 (e.trans s2.ex) w2 _ fun zs' S3 H3 w3 s3 e2 => by
    subst e1
    subst e2
    obtain ⟨a, ws, hg, p1, p2⟩ := hp S3 (e.trans (s2.ex.trans s3.ex))
    refine ⟨l1, l2, fun x dx hx hd ne => ?_⟩
    rw [hg x]
    exact make_tail w3 (s2.trans s3) hx hd ne p1 p2 q
end
end J

set_option pp.maxSteps 3000
/-! J29: l.count(x) of flat values; l.index(x). -/
namespace J
open PySem PySem.Spec PyProof.Rows L2 Evl RZ
def rCntF (K : PySem.W.Frag) : V → List V → Hp → VK → Prop := fun x xs H Q => ∃ (p : Addr) (ys : List V) (y : V), x = .ref p ∧ xs = [y] ∧ SqL K H p ys ∧ flatV y = true ∧ ys.all flatV = true ∧ Q (.int (ys.countP (fun z => eqV z y) : Nat)) H
theorem countU {y : V} : ∀ {ys : List V} {us : List Value}, Vals ys us → ys.all flatV = true → us.countP (eqU y) = ys.countP fun z => eqV z y
  | _, _, .nil, _ => rfl
  | _ :: _, _ :: _, .cons h t, f => by
    simp only [List.all_cons, Bool.and_eq_true] at f
    rw [List.countP_cons, List.countP_cons, countU t f.2, eqU_of h f.1]
theorem mt_countF {X : Cx} {K : PySem.W.Frag} (hK : X.K = K := by rfl) : MtR X "list.count" (rCntF K) := by
  subst hK
  intro pins s σ H x xs v us Q I rx rxs h
  obtain ⟨a, ys, y, rfl, rfl, hs, fy, fys, q⟩ := h
  cases rx
  obtain ⟨u, rfl, ru⟩ := rxs.one
  obtain ⟨its, rv, ⟨⟨cls, dd, data, sl⟩, n, ho, hc, hdn, hd⟩, hlen⟩ := I.list hs
  simp only at hc hd
  subst hc hd
  refine call_meets PySem.F.slot_list_count ⟨_, ho, rfl⟩ PySem.F.entry_list_count (PySem.F.args_list_count_2 _ _)
    (SeqAt.list_countAt a its.toArray n dd sl u (eqU y)) ⟨ho, fun w hw => mem_eqAt ru fy rv fys w (by simpa using hw), ?_⟩
  refine ⟨.int (ys.countP (fun z => eqV z y) : Nat), H, I.tok _, ⟨s.toks, ?_⟩, q⟩
  have e : its.toArray.toList.countP (eqU y) = ys.countP fun z => eqV z y := countU rv fys
  show Value.int ((its.toArray.toList.countP (eqU y) : Nat) : Int) s.toks = _
  rw [e]
section
variable {r : Rs} {s : L2.St} {S : Hp} {ta te : TE} {K : PySem.W.Frag}
/-- l.index(True), l.count(True) of a list that holds True once -/
theorem vv_bm1 {o : V → List V → Hp → VK → Prop} {a : Addr} {xs : List V} {y z : V} {ts : TA} (h : EvV r ta s S (.ref a)) (h2 : EvAV r ts s S [y]) (ha : S a = some (.lst xs)) (ho : ∀ H, H a = some (.lst xs) → ∀ Q : VK, Q z H → o (.ref a) [y] H Q) : EvV r (tBM K "list" o ta ts) s S z := fun S1 H e w Q q =>
  h S1 H e w _ fun v S2 H2 w2 s2 ev => by
    subst ev
    exact ⟨.inl ⟨rfl, _, .inl (.inl (w2.ex _ _ (s2.ex _ _ (e _ _ ha))))⟩, h2 S2 H2 (e.trans s2.ex) w2 _ fun vs S3 H3 w3 s3 evs => by
      subst evs
      exact ho H3 (w3.ex _ _ (s3.ex _ _ (s2.ex _ _ (e _ _ ha)))) Q (q z S3 H3 w3 (s2.trans s3) rfl)⟩
theorem vv_count1 {a : Addr} {xs : List V} {y : V} {n : Nat} {ts : TA} (h : EvV r ta s S (.ref a)) (h2 : EvAV r ts s S [y]) (ha : S a = some (.lst xs)) (fy : flatV y = true) (fx : xs.all flatV = true) (e : xs.countP (fun z => eqV z y) = n) : EvV r (tBM K "list" (rCntF K) ta ts) s S (.int (n : Nat)) :=
  vv_bm1 h h2 ha fun H hH Q q => ⟨a, xs, y, rfl, rfl, SqL.of hH, fy, fx, by rw [e]; exact q⟩
theorem vv_index1 {a : Addr} {xs : List V} {y z : V} {j : Nat} {ts : TA} (h : EvV r ta s S (.ref a)) (h2 : EvAV r ts s S [y]) (ha : S a = some (.lst xs)) (fy : flatV y = true) (fx : xs.all flatV = true) (hz : xs[j]? = some z) (hzj : eqV z y = true) (hno : ∀ (m : Nat) (z' : V), m < j → xs[m]? = some z' → eqV z' y = false) : EvV r (tBM K "list" (rIndex K) ta ts) s S (.int (j : Nat)) :=
  vv_bm1 h h2 ha fun H hH Q q => ⟨a, xs, y, j, z, rfl, rfl, SqL.of hH, fy, fx, hz, hzj, hno, q⟩
end
/-! a != b, a == b of data with any texts -/
def rNeP (K : PySem.W.Frag) : R2 := fun x y H Q => ∃ d e, Dp K H x d ∧ Dp K H y e ∧ d.plain = true ∧ e.plain = true ∧ d.depth ≤ 40 ∧ Q (.bl (!PyData.eqv d e)) H
def rEqP (K : PySem.W.Frag) : R2 := fun x y H Q => ∃ d e, Dp K H x d ∧ Dp K H y e ∧ d.plain = true ∧ e.plain = true ∧ d.depth ≤ 40 ∧ Q (.bl (PyData.eqv d e)) H
theorem op_neP {X : Cx} {K : PySem.W.Frag} (hu : X.A.units + 64 < cLine) (hK : X.K = K := by rfl) : OpR X (compareOp .NotEq) (rNeP K) := by
  subst hK
  intro pins s σ H x y v u Q I rx ry h
  obtain ⟨d, e, hd, he, sd, se, dp, q⟩ := h
  obtain ⟨as, r1⟩ := Dp.reads I d x v hd rx
  obtain ⟨bs, r2⟩ := Dp.reads I e y u he ry
  exact PySem.SeqAt.ne_plain r1 r2 sd se (by omega) ⟨.bl _, H, I, rfl, q⟩
theorem op_eqP {X : Cx} {K : PySem.W.Frag} (hu : X.A.units + 64 < cLine) (hK : X.K = K := by rfl) : OpR X (compareOp .Eq) (rEqP K) := by
  subst hK
  intro pins s σ H x y v u Q I rx ry h
  obtain ⟨d, e, hd, he, sd, se, dp, q⟩ := h
  obtain ⟨as, r1⟩ := Dp.reads I d x v hd rx
  obtain ⟨bs, r2⟩ := Dp.reads I e y u he ry
  exact PySem.SeqAt.eq_plain r1 r2 sd se (by omega) ⟨.bl _, H, I, rfl, q⟩
section
variable {r : Rs} {s : L2.St} {S : Hp} {ta tb : TE} {K : PySem.W.Frag} {d e : PyData}
theorem ev_neP (h1 : EvS r ta s S fun v S1 => Dp K S1 v d) (h2 : ∀ S1, Ex S S1 → EvS r tb s S1 fun v S2 => Dp K S2 v e) (pd : d.plain = true) (pe : e.plain = true) (dp : d.depth ≤ 40) : EvV r (tOp (rNeP K) ta tb) s S (.bl (!PyData.eqv d e)) :=
  ev_op2 h1 (fun _ S1 e _ => h2 S1 e) fun x y S1 S2 _ hx e hy => ⟨_, fun H eH Q q => ⟨_, _, dp_up (e.trans eH) _ _ hx, dp_up eH _ _ hy, pd, pe, dp, q⟩, rfl⟩
theorem ev_eqP (h1 : EvS r ta s S fun v S1 => Dp K S1 v d) (h2 : ∀ S1, Ex S S1 → EvS r tb s S1 fun v S2 => Dp K S2 v e) (pd : d.plain = true) (pe : e.plain = true) (dp : d.depth ≤ 40) : EvV r (tOp (rEqP K) ta tb) s S (.bl (PyData.eqv d e)) :=
  ev_op2 h1 (fun _ S1 e _ => h2 S1 e) fun x y S1 S2 _ hx e hy => ⟨_, fun H eH Q q => ⟨_, _, dp_up (e.trans eH) _ _ hx, dp_up eH _ _ hy, pd, pe, dp, q⟩, rfl⟩
end
section
variable {K : PySem.W.Frag}
theorem dp_strs {S : Hp} : ∀ {zs : List Str} {vs : List V}, All2 StrR S zs vs → DpAll K S vs (zs.map PyData.str)
  | _, _, .nil => .nil
  | _, _, .cons h t => by
    rw [show _ = _ from h]
    exact .cons (.str _) (dp_strs t)
theorem dp_strL {S : Hp} {zs : List Str} {v : V} (h : LstR StrR zs v S) : Dp K S v (.list (zs.map PyData.str)) := by
  obtain ⟨a, vs, rfl, h1, h2⟩ := h
  exact .lst (SqL.of h1) (dp_strs h2)
theorem plain_strs : ∀ zs : List Str, PyData.plainAll (zs.map PyData.str) = true
  | [] => rfl
  | z :: r => by simp only [List.map_cons, PyData.plainAll, PyData.plain, plain_strs r, Bool.and_self]
theorem depth_strs : ∀ zs : List Str, PyData.depthAll (zs.map PyData.str) = 0
  | [] => rfl
  | z :: r => by
    simp only [List.map_cons, PyData.depthAll, PyData.depth, depth_strs r]
    rfl
theorem eqv_strs : ∀ zs : List Str, PyData.eqvAll (zs.map PyData.str) (zs.map PyData.str) = true
  | [] => rfl
  | z :: r => by simp [List.map_cons, PyData.eqvAll, PyData.eqv, eqv_strs r]
variable {r : Rs} {s : L2.St} {S : Hp} {ta tb : TE} {zs : List Str}
/-- the same texts in two lists -/
theorem vv_neT (h1 : EvS r ta s S fun v S1 => LstR StrR zs v S1) (h2 : ∀ S1, Ex S S1 → EvS r tb s S1 fun v S2 => LstR StrR zs v S2) : EvV r (tOp (rNeP K) ta tb) s S (.bl false) :=
  EvV.is (ev_neP (d := .list (zs.map PyData.str)) (e := .list (zs.map PyData.str)) (h1.imp fun _ _ _ h => dp_strL h) (fun S1 e => (h2 S1 e).imp fun _ _ _ h => dp_strL h) (by simp only [PyData.plain, plain_strs]) (by simp only [PyData.plain, plain_strs]) (by simp only [PyData.depth, depth_strs]; decide)) (by
    simp only [PyData.eqv, eqv_strs]
    rfl)
theorem vv_eqT (h1 : EvS r ta s S fun v S1 => LstR StrR zs v S1) (h2 : ∀ S1, Ex S S1 → EvS r tb s S1 fun v S2 => LstR StrR zs v S2) : EvV r (tOp (rEqP K) ta tb) s S (.bl true) :=
  EvV.is (ev_eqP (d := .list (zs.map PyData.str)) (e := .list (zs.map PyData.str)) (h1.imp fun _ _ _ h => dp_strL h) (fun S1 e => (h2 S1 e).imp fun _ _ _ h => dp_strL h) (by simp only [PyData.plain, plain_strs]) (by simp only [PyData.plain, plain_strs]) (by simp only [PyData.depth, depth_strs]; decide)) (by
    simp only [PyData.eqv, eqv_strs])
end
end J

set_option pp.maxSteps 3000
/-! J30: o[i] by an own __getitem__. -/
namespace J
open PySem PySem.Spec PyProof.Rows L2 Evl RZ
def rIxO (C : Addr) (sp : Sp) (E : XK) : R2 := fun x y H Q => ∃ p dx fs, x = .ref p ∧ H p = some (.ins C dx fs) ∧ sp [x, y] H Q E
theorem pe_ixO {X : Cx} {CX : CXT} {k : Nat} {f C : Addr} {fd : FuncData} {ps : List Str} {sp : Sp} {E : XK} {a b : Expr} {ta tb : TE} {pos : Pos} (F : FnOk X.prog X.w X.K X.mg X.base CX k f fd ps sp) (M : Meth X.K C "__getitem__" f) (hfn : PySem.W.fnIn X.K f = true) (hr : Room (k + 1) X.A) (hb : Binds X.K fd ps []) (hx : Passes CX X E)
    (h1 : PE X a ta) (h2 : PE X b tb) (hsl : ∀ x i, subscripted b true (.ref x) i = runValue (.builtin "lifetime.subscript" ⟨[.ref x, i], []⟩) := by intro _ _; with_unfolding_all rfl) : PE X (.Subscript a b pos) (tOp (rIxO C sp E) ta tb) := by
  refine ⟨fun pins s σ H Q I h => Subscript_ (binT h1 h2 I h fun v u s2 x y H2 I2 rx ry q => ?_)⟩
  obtain ⟨p, dx, fs, rfl, hp, wants⟩ := q
  cases rx
  obtain ⟨mA, J, _⟩ := ins_get I2.hok hp
  obtain ⟨od, J, _⟩ := J.look
  obtain ⟨m, frame⟩ := I2.fr
  exact PySem.W.sub_K frame I2.ok.mod.kin J M.at_ hfn M.fn (run_sub (A := X.A.in1) (vs := [V.ref p, y]) ⟨hr.in1, rfl⟩ F hb hx I2 (.cons rfl (.cons ry .nil)) wants) (hsl _ _)
section
variable {r : Rs} {s : L2.St} {S : Hp} {ta tb : TE} {A : Type} {C CE : Addr} {fld : Str} {pre : A → List V → Hp → Prop} {post : A → V → Hp → Prop} {E : XK} {R : V → Hp → Prop} {x y : V}
theorem ev_ixO (a : A) (hx : EvV r ta s S x) (hy : EvV r tb s S y) (back : ∃ z dx fs, x = .ref z ∧ S z = some (.ins C dx fs)) (hp : ∀ S1, Ex S S1 → pre a [x, y] S1) (hq : ∀ u S1, Ex S S1 → post a u S1 → R u S1) : EvS r (tOp (rIxO C (SpP pre post) E) ta tb) s S R := fun S1 H e w Q q =>
  hx S1 H e w _ fun v S2 H2 w2 s2 ev => hy S2 H2 (e.trans s2.ex) w2 _ fun u S3 H3 w3 s3 eu => by
    subst ev
    subst eu
    obtain ⟨z, dx, fs, rfl, hz⟩ := back
    have e3 := e.trans (s2.ex.trans s3.ex)
    exact ⟨z, dx, fs, rfl, w3.ex _ _ (e3 _ _ hz), a, S3, hp S3 e3, w3.ex, fun u S4 H4 w4 s4 p4 => q u S4 H4 (w3.lift w4 s4) ((s2.trans s3).trans s4.lift) (hq u S4 (e3.trans s4.ex) p4)⟩
theorem ex_ixO (a : A) (hx : EvV r ta s S x) (hy : EvV r tb s S y) (back : ∃ z dx fs, x = .ref z ∧ S z = some (.ins C dx fs)) (hp : ∀ S1, Ex S S1 → pre a [x, y] S1) (hq : ∀ u S1, Ex S S1 → post a u S1 → R u S1) : EvX E CE fld r (tOp (rIxO C (SpX CE fld pre post) E) ta tb) s S R := fun S1 H e w k Q =>
  hx S1 H e w _ fun v S2 H2 w2 s2 ev => hy S2 H2 (e.trans s2.ex) w2 _ fun u S3 H3 w3 s3 eu => by
    subst ev
    subst eu
    obtain ⟨z, dx, fs, rfl, hz⟩ := back
    have e3 := e.trans (s2.ex.trans s3.ex)
    exact ⟨z, dx, fs, rfl, w3.ex _ _ (e3 _ _ hz), a, S3, hp S3 e3, w3.bare, fun d v S4 H4 w4 s4 p4 hd => k d v S4 H4 (w3.lift w4 s4) ((s2.trans s3).trans s4.lift) (hq v S4 (e3.trans s4.ex) p4) hd⟩
end
end J

set_option pp.maxSteps 3000
/-! J31: == of two dicts of data; an instance == a list; {}. -/
namespace J
open PySem PySem.Spec PyProof.Rows L2 Evl RZ
theorem ne_beq {a b : Addr} (h : (a == b) = false) : a ≠ b := by simpa using h
/-- the values of ks against those of ls at the same keys, all data -/
inductive HitsD (K : PySem.W.Frag) (H : Hp) (ls : List (Key × V)) : List (Key × V) → Bool → Prop
  | nil : HitsD K H ls [] true
  | hit {k : Key} {v u : V} {d e : PyData} {r : List (Key × V)} {b : Bool} : valV ls k = some u → Dp K H v d → Dp K H u e → SeqAt.shaped d = true → SeqAt.shaped e = true → HitsD K H ls r b → HitsD K H ls ((k, v) :: r) (PyData.eqv d e && b)
theorem HitsD.up {K : PySem.W.Frag} {S S' : Hp} (x : Ex S S') {ls ks : List (Key × V)} {b : Bool} (h : HitsD K S ls ks b) : HitsD K S' ls ks b := by
  induction h with
  | nil => exact .nil
  | hit h1 h2 h3 h4 h5 _ ih => exact .hit h1 (dp_up x _ _ h2) (dp_up x _ _ h3) h4 h5 ih
def rEqKD (K : PySem.W.Frag) : R2 := fun x y H Q => ∃ a b ks ls r, x = .ref a ∧ y = .ref b ∧ H a = some (.dK ks) ∧ H b = some (.dK ls) ∧ ks.length = ls.length ∧ HitsD K H ls ks r ∧ Q (.bl r) H
section
variable {X : Cx}
theorem keq_hits {pins : List (Addr × Obj)} {σ : L2.St} {H : Hp} {s : Shared} (I : Inv X pins σ H s) {A : Around} (hu : A.units + 64 < cLine) {ls : List (Key × V)} {vb : List (Key × Value)} (rb : KV ls vb) {ks : List (Key × V)} {r : Bool} (h : HitsD X.K H ls ks r) : ∀ {va : List (Key × Value)}, KV ks va → PySem.W.KeqHits A s vb va r := by
  induction h with
  | nil =>
    intro va ra
    unfold KV at ra
    cases ra
    exact .nil
  | @hit k v u d e r b h1 h2 h3 h4 h5 h6 ih =>
    intro va ra
    unfold KV at ra
    cases ra with
    | @cons p q ps qs hpq t =>
      obtain ⟨k1, k2⟩ := hpq
      obtain ⟨key, val⟩ := q
      obtain rfl : k = key := k1
      have rr : RelO (some u) (valueAt vb k) := by rw [← h1]; exact rb.val k
      obtain ⟨y, hy, ry⟩ := rr.some_of
      obtain ⟨as, r1⟩ := Dp.reads I d v val h2 k2
      obtain ⟨bs, r2⟩ := Dp.reads I e u y h3 ry
      exact .hit hy (SeqAt.eqAt_reads d e A s val y as bs r1 r2 (SeqAt.canLay_of_shaped h4) (SeqAt.canLay_of_shaped h5) (SeqAt.room_of_shaped h4 hu)) (ih t)
theorem op_eqKD (hu : X.A.units + 65 < cLine) : OpR X (compareOp .Eq) (rEqKD X.K) := by
  intro pins s σ H x y v u Q I rx ry h
  obtain ⟨a, b, ks, ls, r, rfl, rfl, ea, eb, hlen, hh, q⟩ := h
  obtain rfl : v = Value.ref a := rx
  obtain rfl : u = Value.ref b := ry
  obtain ⟨_, ya, va, ra, da⟩ := (show ObjOk X.prog X.w H s.heap a (.dK ks) from I.hok a _ ea)
  obtain ⟨_, yb, vb, rb, db⟩ := (show ObjOk X.prog X.w H s.heap b (.dK ls) from I.hok b _ eb)
  have hl : va.length = vb.length := by rw [← ra.length, ← rb.length]; exact hlen
  exact PySem.W.keq_eq (knd := mixKind X.prog X.w) (r := r) ya yb da db (by omega) (fun _ => keq_hits I (A := X.A.in1) (by show X.A.units + 1 + 64 < cLine; omega) rb hh ra) (fin_bl I q (by simp [hl]))
theorem op_eqKDK {K : PySem.W.Frag} (hu : X.A.units + 65 < cLine) (hK : X.K = K := by rfl) : OpR X (compareOp .Eq) (rEqKD K) := by
  subst hK
  exact op_eqKD hu
end
section
variable {r : Rs} {s : L2.St} {S : Hp} {ta tb : TE} {K : PySem.W.Frag}
theorem vv_eqKD {a b : Addr} {ks ls : List (Key × V)} {e : Bool} (h1 : EvV r ta s S (.ref a)) (h2 : EvV r tb s S (.ref b)) (ha : S a = some (.dK ks)) (hb : S b = some (.dK ls)) (hl : ks.length = ls.length) (hh : HitsD K S ls ks e) : EvV r (tOp (rEqKD K) ta tb) s S (.bl e) :=
  vv_op h1 h2 fun H eH Q q => ⟨a, b, ks, ls, e, rfl, rfl, eH _ _ ha, eH _ _ hb, hl, hh.up eH, q⟩
theorem ev_dnew : EvS r tDNewK s S fun v S1 => ∃ a, v = .ref a ∧ S1 a = some (.dK []) := fun S1 H e w Q q p hp => q (.ref p) (upd S1 p (.dK [])) _ (w.newS hp) (Stp.newS w hp) ⟨p, rfl, upd_same⟩
end
/-! an instance == a list -/
section
variable {X : Cx} {CX : CXT} {k : Nat} {f C : Addr} {fd : FuncData} {ps : List Str} {sp : Sp} {E : XK}
def rEqLs (C : Addr) (sp : Sp) (E : XK) : R2 := fun x y H Q => ∃ a dx fs b ys, x = .ref a ∧ y = .ref b ∧ H a = some (.ins C dx fs) ∧ H b = some (.lst ys) ∧ sp [.ref a, .ref b] H (fun v H' => ∃ z, v = .bl z ∧ Q (.bl z) H') E
theorem op_eqLs (F : FnOk X.prog X.w X.K X.mg X.base CX k f fd ps sp) (M : Meth X.K C "__eq__" f) (nf : PySem.W.notFirst X.K C (.type "list") = true) (hr : Room k X.A) (hb : Binds X.K fd ps []) (hx : Passes CX X E) : OpR X (compareOp .Eq) (rEqLs C sp E) := by
  intro pins s σ H x y v u Q I rx ry h
  obtain ⟨a, dx, fs, b, ys, rfl, rfl, ha, hb2, wants⟩ := h
  cases rx
  cases ry
  obtain ⟨mA, J, _⟩ := ins_get I.hok ha
  obtain ⟨od, J, _⟩ := J.look
  obtain ⟨its, _, ⟨ob, nob, ho, hc, _⟩, _⟩ := I.list (SqL.of (K := X.K) hb2)
  obtain ⟨m, frame⟩ := I.fr
  have ty : PySem.W.Looks (model X.prog X.w) s.heap (typeOf (.ref b)) (.type "list") := fun A Q E s k q => wpAny_typeOf_ref (k _ _ ho) (by rw [hc]; exact q)
  refine PySem.W.cmp_ofEq (PySem.W.cmp_K (op := .Eq) (tb := .type "list") hr.units0 frame I.ok.mod.kin J ty nf M.at_ M.fn ?_)
  refine wpAny_mono (run_sub (A := X.A) (vs := [V.ref a, V.ref b]) ⟨hr, rfl⟩ F hb hx I (.cons rfl (.cons rfl .nil)) wants) (fun w s' back => ?_) fun _ _ z => z
  obtain ⟨t, H', I', rt, z, rfl, q⟩ := back
  cases rt
  exact ⟨.bl z, H', I', rfl, q⟩
end
section
variable {K : PySem.W.Frag} {r : Rs} {s : L2.St} {S : Hp} {ta tb : TE} {A : Type} {C : Addr} {pre : A → List V → Hp → Prop} {post : A → V → Hp → Prop} {E : XK} {Rx : V → Hp → Prop}
theorem ev_eqLs {b : Bool} (hx : EvS r ta s S Rx) (hy : ∀ S1, Ex S S1 → EvS r tb s S1 fun y S2 => ∃ l ys, y = .ref l ∧ S2 l = some (.lst ys)) (mx : ∀ v S1 S2, Ex S1 S2 → Rx v S1 → Rx v S2) (hp : ∀ x l ys S1, Ex S S1 → Rx x S1 → S1 l = some (.lst ys) → ∃ z dx fs, x = .ref z ∧ S1 z = some (.ins C dx fs) ∧ ∃ a, pre a [x, .ref l] S1 ∧ ∀ u S2, Ex S1 S2 → post a u S2 → u = .bl b) : EvV r (tOp (rEqLs C (SpP pre post) E) ta tb) s S (.bl b) := fun S1 H e w Q q =>
  hx S1 H e w _ fun x S2 H2 w2 s2 ex => hy S2 (e.trans s2.ex) S2 H2 (Ex.refl _) w2 _ fun y S3 H3 w3 s3 ⟨l, ys, ey, hl⟩ => by
    subst ey
    obtain ⟨z, dx, fs, rfl, hz, a, p1, p2⟩ := hp x l ys S3 (e.trans (s2.ex.trans s3.ex)) (mx _ _ _ s3.ex ex) hl
    exact ⟨z, dx, fs, l, ys, rfl, rfl, w3.ex _ _ hz, w3.ex _ _ hl, a, S3, p1, w3.ex, fun u S4 H4 w4 s4 p4 => ⟨b, p2 u S4 s4.ex p4, q _ S4 H4 (w3.lift w4 s4) ((s2.trans s3).trans s4.lift) rfl⟩⟩
end
/-! C(k = v, ..) that raises; what is lent while something is made -/
section
variable {r : Rs} {s : L2.St} {S H : Hp} {te : TE} {R : V → Hp → Prop} {E : XK} {C : Addr} {fld : Str} {B : Type} {pre : B → List V → Hp → Prop} {val : B → V → Hp → Prop} {P : List V → Hp → Prop} {tk : TA} {gV : List V → List V → List V} {m : Nat} {l : Addr} {o : HO}
theorem ex_makeK0 {C' : Addr} (h : EvAS r tk s S P) (hp : ∀ zs S1, Ex S S1 → P zs S1 → zs.length = m ∧ ∃ b us, (∀ x, gV [.ref x] zs = .ref x :: us) ∧ pre b us S1 ∧ ∀ v S2, Ex S1 S2 → val b v S2 → R v S2) : EvX E C fld r (tMakeK C' 0 m (SpXi C fld pre val) gV E tNil tk) s S R := fun S1 H e w k Q =>
  h S1 H e w _ fun zs S2 H2 w2 s2 hz => by
    obtain ⟨l2, b, us, hg, p1, p2⟩ := hp zs S2 (e.trans s2.ex) hz
    refine ⟨rfl, l2, fun x dx hx hdx ne => ?_⟩
    rw [hg x]
    have hx1 : (upd H2 dx (.own x)) x = none := by
      rw [upd_ne ne.symm]
      exact hx
    have w3 : Wd r S2 (upd (upd H2 dx (.own x)) x (.ins C' dx [])) := (w2.new hdx).new hx1
    have s3 : Stp r S2 H2 S2 (upd (upd H2 dx (.own x)) x (.ins C' dx [])) := (Stp.new hdx).trans (Stp.new hx1)
    exact ⟨b, S2, ⟨x, _, rfl, p1⟩, w3.bare, fun d v S4 H4 w4 s4 hv hd => k d v S4 H4 (w3.lift w4 s4) ((s2.trans s3).trans s4.lift) (p2 v S4 s4.ex hv) hd⟩
theorem borrowS (h : EvS r te s (upd S l o) R) (w : Wd r S H) (hl : H l = some o) (n : l ∉ r.M) (sl : S l = none) {Q : VK} (q : ∀ v S1 S2 H1, Wd r S1 H1 → Stp r S H S1 H1 → S1 l = none → S1 = del l S2 → S2 l = some o → R v S2 → Q v H1) : te s H Q :=
  h _ H (Ex.refl _) (w.settle hl n) Q fun v S2 H1 w1 s1 e => q v (del l S2) S2 H1 w1.del (s1.del sl) del_same rfl (s1.ex _ _ upd_same) e
theorem del_t {K : PySem.W.Frag} {S2 : Hp} {a : Addr} {xs ys : List V} (hl : S2 l = some (.lst xs)) (h : SqT K S2 a ys) : SqT K (del l S2) a ys := by
  have at_ : ∀ o, S2 a = some o → (∀ zs, o ≠ .lst zs) → del l S2 a = some o := fun o e n => by
    rw [del_ne (fun z => ?_)]
    · exact e
    · rw [z, hl] at e
      exact n xs (Option.some.inj e).symm
  rcases h with (h | ⟨o, h⟩) | h
  · exact .inl (.inl (at_ _ h fun _ z => nomatch z))
  · exact .inl (.inr ⟨o, at_ _ h fun _ z => nomatch z⟩)
  · exact .inr h
theorem del_o {S2 : Hp} {a : Addr} {xs : List V} {o : HO} (hl : S2 l = some (.lst xs)) (h : S2 a = some o) (n : ∀ zs, o ≠ .lst zs) : del l S2 a = some o := by
  rw [del_ne (fun z => ?_)]
  · exact h
  · rw [z, hl] at h
    exact n xs (Option.some.inj h).symm
end
end J

set_option pp.maxSteps 3000
/-! J41: try with one clause of two names, except (A, B):. -/
namespace J
open PySem PySem.Spec PyProof.Rows L2 Evl RZ
theorem flying_push {B h : Heap} {l : List Env} {a : Addr} {Z : Obj → Prop} (x : HandSPX.FlyingZ B l a Z h) (o : Obj) : HandSPX.FlyingZ B l a Z (h.push o) := by
  obtain ⟨st, bn, ff, oe, vs, T, oT, ts, he, hz, hd, h1, bT, ne, hT, hTd, h3⟩ := x
  exact ⟨fun b o' e => Heap.get?_push_of_some _ (st b o' e), bn, Heap.FunFrames.of_keeps (fun b o' e _ => ⟨o', Heap.get?_push_of_some _ e, rfl⟩) ff, oe, vs, T, oT, ts, Heap.get?_push_of_some _ he, hz, hd, h1, bT, ne, Heap.get?_push_of_some _ hT, hTd, h3⟩
theorem upTo_push {h : Heap} (o : Obj) : h.UpToSlots (h.push o) := fun b o' e _ => ⟨o'.slots, Heap.get?_push_of_some _ e⟩
/-- what the clause wishes of an error of the body -/
def wT2 (K : PySem.W.Frag) (Wout : WX) (D : Ends) (c1 c2 : Value) (ts : Addr → Value → Option Addr → TS) : WX := fun cls d σ H => ∃ b, PySem.W.exmAny K cls [c1, c2] = some b ∧ (b = true → ∀ a, H a = none → ts a cls d D σ H) ∧ (b = false → Wout cls d σ H)
theorem exm_two {K : PySem.W.Frag} {cls c1 c2 : Value} {b1 b2 : Bool} (h1 : PySem.W.exmOne K cls c1 = some b1) (h2 : PySem.W.exmOne K cls c2 = some b2) : PySem.W.exmAny K cls [c1, c2] = some (b1 || b2) := by
  unfold PySem.W.exmAny
  rw [h1]
  unfold PySem.W.exmAny
  rw [h2]
  unfold PySem.W.exmAny
  simp
section
variable {X : Cx} {pins : List (Addr × Obj)} {Wout : WX} {D : Ends} {x1 x2 : Str} {c1 c2 : Value} {p1 p2 p3 tp : Pos} {kk : Nat} {b0 : Stmt} {more : List Stmt} {ts : Addr → Value → Option Addr → TS}
theorem handle_t2 {a : Addr} {B : Heap} {sI : Shared} {σ : L2.St} {H : Hp} {cls : Value} {d : Option Addr} {s : Shared} (hs : X.stack = X.env :: X.outer) (hf : X.env.frame = some X.env.locals) (hN : X.N.Nodup) (tk : L2N.Takes X Wout) (n1 : Names X x1 c1) (n2 : Names X x2 c2)
    (hsu : ∀ (a : Addr) (oe : Obj) (cls : Value) (d : Option Addr) (pn : List (Addr × Obj)), L2N.Zn cls d oe → (∃ vs, oe.data = .fields vs) → PSs (X.suite a ((a, oe) :: pn)) (b0 :: more) (ts a cls d))
    (x : Down X pins a B sI σ H cls d s) (w : wT2 X.K Wout D c1 c2 ts cls d σ H) : wpAny (model X.prog X.w) X.A (handleBy (.ref a) X.env [.ExceptHandler (some (.Tuple [.Name x1 p1, .Name x2 p2] kk tp)) none (b0 :: more) p3]) (SP X pins D) X.xe s := by
  obtain ⟨b, hb, yes, no⟩ := w
  obtain ⟨oe, vs, ha, hz, hd, J⟩ := x.suite hf
  have ok := x.inv.ok
  refine wpAny_handleBy_cons (codeAny_handlers_test ?_) (by intro q; cases q)
  have ty : PySem.W.Looks (model X.prog X.w) s.heap (typeOf (.ref a)) cls := fun A Q E s' k q => wpAny_typeOf_ref (k _ _ ha) (by rw [hz.1]; exact q)
  have name : ∀ {nx : Str} {c : Value} {p1 : Pos} {Q : Value → Shared → Prop} {E : Value → Shared → Prop}, Names X nx c → Q c s → wpAny (model X.prog X.w) (X.A.mark (some (.ref a))) (eval (.Name nx p1) X.env) Q E s := fun {nx c p1 Q E} hc q => by
    obtain ⟨hg, hdb, hm | ⟨hm, hv, hn⟩⟩ := hc
    · exact ld_glob (X := X.suite a ((a, oe) :: (X.pn ++ pins))) J hg hm q hdb
    · exact ld_blt (X := X.suite a ((a, oe) :: (X.pn ++ pins))) J hg hm hv q hn hdb
  refine wpAny_Tuple ?_
  refine wpAny_items_cons (name n1 ?_)
  refine wpAny_items_cons (name n2 ?_)
  refine wpAny_items_nil ⟨by size_fits, ?_⟩
  have kp : ∀ q o, s.heap.get? q = some o → (s.heap.push { cls := .type "tuple", data := .seq [c1, c2].toArray }).get? q = some o := fun _ _ z => Heap.get?_push_of_some _ z
  have x' : Down X pins a B sI σ H cls d { s with heap := s.heap.push { cls := .type "tuple", data := .seq [c1, c2].toArray } } := x.at (flying_push x.fl _) (upTo_push _)
  have mt := PySem.W.exm_tup2 (M := model X.prog X.w) (x.here.kIn.keeps kp) (ty.keeps kp) (Heap.get?_push_size s.heap rfl) hb
  refine mt.here ?_
  cases b with
  | false =>
    show wpAny _ X.A (handleBy (.ref a) X.env []) _ _ _
    exact handle_nm hs hf hN tk HdsAs.nil x' (no rfl)
  | true =>
    refine codeAny_handlers_suite (HandSPX.lands_againZ x'.fl fun h2 fl2 up2 => ?_)
    have x2 := x'.at fl2 up2
    obtain ⟨o2, v2, a2, z2, d2, J2⟩ := x2.suite hf
    refine wpAny_mono ((hsu a o2 cls d (X.pn ++ pins) z2 ⟨_, d2⟩).run [] _ _ H _ J2 (yes rfl a x.na)) (fun fl s4 res => ?_) (fun _ _ z => False.elim z)
    match fl, res with
    | .next, ⟨σ4, H4, K4, q4⟩ => exact ⟨_, _, K4.unsuite ok, q4⟩
    | .brk, ⟨σ4, H4, K4, q4⟩ => exact ⟨_, _, K4.unsuite ok, q4⟩
    | .cont, ⟨σ4, H4, K4, q4⟩ => exact ⟨_, _, K4.unsuite ok, q4⟩
    | .ret u, ⟨v4, σ4, H4, K4, r4, q4⟩ => exact ⟨_, _, _, K4.unsuite ok, r4, q4⟩
theorem ps_try_t2 {body : List Stmt} {pos : Pos} {tb : WX → TS} (hs : X.stack = X.env :: X.outer) (hf : X.env.frame = some X.env.locals) (hN : X.N.Nodup) (tk : L2N.Takes X Wout) (n1 : Names X x1 c1) (n2 : Names X x2 c2)
    (hb : ∀ (W : WX) (pn : List (Addr × Obj)) (xe : Value → Shared → Prop), L2N.Takes (X.tr pn xe) W → PassesOwn (model X.prog X.w) X.A X.env xe → PSs (X.tr pn xe) body (tb W))
    (hsu : ∀ (a : Addr) (oe : Obj) (cls : Value) (d : Option Addr) (pn : List (Addr × Obj)), L2N.Zn cls d oe → (∃ vs, oe.data = .fields vs) → PSs (X.suite a ((a, oe) :: pn)) (b0 :: more) (ts a cls d)) :
    PS X (.Try body [.ExceptHandler (some (.Tuple [.Name x1 p1, .Name x2 p2] kk tp)) none (b0 :: more) p3] [] [] pos) (fun D σ H => tb (wT2 X.K Wout D c1 c2 ts) D σ H) := by
  refine ⟨fun pins s σ H D I h => ?_⟩
  have ok := I.ok
  have fr : X.A.frames = some (X.env :: X.outer) := by rw [ok.frames, hs]
  refine wpAny_Try_except (wpAny_mono ((hb (wT2 X.K Wout D c1 c2 ts) (X.pn ++ pins) _ (fun u s1 x1 => ?_) PassesOwn.looking).run [] s σ H D (I.toTry _) h) (fun fl s1 res => ?_) (fun e s1 he => he))
  · obtain ⟨a, B, sI, p2, σ2, H2, cls, d, rfl, J, gr, up, sky, na, os, bare, w⟩ := x1
    have J : Inv X pins σ2 H2 sI := J.ofTry ok
    have sky : Sky B (X.env :: X.outer) a (L2N.Zn cls d) X.env.locals s1.heap := by rw [← hs]; exact sky
    exact L2N.Sky.land L2N.Zn.steady fr hf sky fun h2 fl2 up2 => handle_t2 hs hf hN tk n1 n2 hsu ⟨J, gr, up.trans up2, fl2, na, os, bare⟩ w
  · match fl, res with
    | .next, ⟨σ2, H2, J, q⟩ => exact wpAny_execs_nil ⟨σ2, H2, J.ofTry ok, q⟩
    | .brk, ⟨σ2, H2, J, q⟩ => exact ⟨σ2, H2, J.ofTry ok, q⟩
    | .cont, ⟨σ2, H2, J, q⟩ => exact ⟨σ2, H2, J.ofTry ok, q⟩
    | .ret u, ⟨v, σ2, H2, J, r, q⟩ => exact ⟨v, σ2, H2, J.ofTry ok, r, q⟩
end
end J

set_option pp.maxSteps 3000
/-! J42: for i, x in enumerate(tuple). -/
namespace PySem
open Sem (wp)
open Builtin
set_option maxHeartbeats 1000000 in
theorem meets_enumerate_newB1 {v : Value} {o : Obj} {H : Heap → Prop} (B : Begins v o H) :
    Meets (Builtin.«enumerate.__new__» ⟨[.type "enumerate", v], []⟩) (fun _ R s => H s.heap ∧
      R (.ok (.ret (.ref (s.heap.push o).objs.size))) { s with heap := (s.heap.push o).push { cls := .type "enumerate", data := .fields #[.none, .bool false, .ref s.heap.objs.size, rawInt 0, .none, .none] } }) :=
  .of_wp fun prog w A R s h => by
    obtain ⟨hp, g, d, tk, os⟩ := s; obtain ⟨h1, h⟩ := h
    have hsub := sub_enumerate
    have q1 : ∀ {A' : Around} {E : Value → Shared → Prop} {Q : Value → Shared → Prop}, Q (.ref hp.objs.size) ⟨hp.push o, g, d, tk, os⟩ → wpAny (model prog w) A' (pyIter v) Q E ⟨hp, g, d, tk, os⟩ :=
      fun q => B.iter prog w _ _ ⟨hp, g, d, tk, os⟩ _ h1 q
    wp_walk using q1
    refine wpAny_stack_any fun st => wpAny_pure ?_
    split
    · rename_i c _ _ _ _ _
      cases (c == Value.type "enumerate")
      · wp_walk using q1
        exact ⟨_, rfl, h⟩
      · wp_walk using q1
        exact ⟨_, rfl, h⟩
    · wp_walk using q1
      exact ⟨_, rfl, h⟩
section
variable {prog : Program} {w : World} {A : Around} {E : Value → Shared → Prop} {s : Shared}
theorem enum_begins1 {v : Value} {o : Obj} {H : Heap → Prop} {Q : Value → Shared → Prop} (B : Begins v o H) (h1 : H s.heap)
    (h : ∀ h', IsEnum h' (s.heap.objs.size + 1) s.heap.objs.size 0 .none → h'.get? s.heap.objs.size = some o → h'.objs.size = s.heap.objs.size + 2 →
      (∀ b o, s.heap.get? b = some o → h'.get? b = some o) → Q (.ref (s.heap.objs.size + 1)) { s with heap := h' }) :
    wpAny (model prog w) A (call (.type "enumerate") [v]) Q E s := by
  refine callType_new F.called_enumerate (by decide) (F.typeCall_enumerate_1 _) (F.newCall_enumerate_1 _) (fun obj => F.args_object_init_2 obj _) F.entry_enumerate_new
    (meets_enumerate_newB1 B) ⟨h1, ?_⟩
  have hz : (s.heap.push o).objs.size = s.heap.objs.size + 1 := Heap.size_push ..
  show _ ∧ _
  rw [hz]
  have he : IsEnum ((s.heap.push o).push { cls := .type "enumerate", data := .fields #[.none, .bool false, .ref s.heap.objs.size, rawInt 0, .none, .none] }) (s.heap.objs.size + 1) s.heap.objs.size 0 .none := by
    have := Heap.get?_push_size (s.heap.push o) (o := { cls := .type "enumerate", data := .fields #[.none, .bool false, .ref s.heap.objs.size, rawInt 0, .none, .none] }) rfl
    rw [hz] at this; exact this
  refine ⟨⟨_, he, rfl⟩, h _ he (Heap.get?_push_of_some _ (Heap.get?_push_size _ B.free)) (by rw [Heap.size_push, hz]) fun b o x => Heap.get?_push_of_some _ (Heap.get?_push_of_some _ x)⟩
theorem wpAny_pyNext_enum_endT {e it t : Addr} {i : Nat} {items : Array Value} {old : Value} {Q : Option Value → Shared → Prop} (hh : A.handled = none)
    (he : IsEnum s.heap e it i old) (hit : s.heap.IsTupleIter it t i) (hl : s.heap.IsTuple t items) (hx : items[i]? = none)
    (hQ : ∀ h', Heap.ExtBut it s.heap h' → Q none { s with heap := h' }) : wpAny (model prog w) A (pyNext (.ref e)) Q E s := by
  have hT : s.TypeIs (.ref e) "enumerate" := ⟨_, he, rfl⟩
  unfold pyNext
  refine wpAny_bind (wpAny_attempt (wpAny_callSpecial?_slot (name := Str.ofString "__next__") hT F.slot_enumerate_next
    (wpAny_call_entry F.slot_enumerate_next hT F.entry_enumerate_next ?_ (F.args_enumerate_next_1 _))))
  show wpAny _ _ (field (.ref e) 2 >>= _) _ _ _
  refine wpAny_bind (wpAny_field he rfl (x := .ref it) rfl ?_)
  refine wpAny_bind (wpAny_nextOf_tuple_end (show A.in1.handled = none from hh) hit hl hx fun h' x he' hx' => ?_)
  obtain ⟨o, ho, hc⟩ := hx'
  refine wpAny_bind (wpAny_isInstance (T := "StopIteration") (b := true) ⟨o, ho, hc⟩ isSubtype_stop ?_)
  exact wpAny_pure (hQ _ he')
end
end PySem
namespace J
open PySem PySem.Spec PyProof.Rows L2 Evl
/-- the tuple at a, each item in a new pair -/
def IteT (K : PySem.W.Frag) (a : Addr) : It :=
  ⟨fun i H => ∃ (xs : List V) (x : V), SqT K H a xs ∧ xs[i]? = some x, fun i H v H' => ∃ T x, v = .ref T ∧ H T = none ∧ H' = upd H T (.tup [.int (i : Nat), x]) ∧ ∀ xs, SqT K H a xs → xs[i]? = some x, fun i H => ∃ xs : List V, SqT K H a xs ∧ xs.length ≤ i⟩
theorem turn_enumT {P : Program} {w : World} {K : PySem.W.Frag} {elts : List PySem.Expr} {kk : Nat} {tpos : Pos} (a e it : Addr) (hae : a ≠ e) (hai : a ≠ it) :
    Turn P w K (.Tuple elts kk tpos) (IteT K a) [e, it] e (fun i h => (∃ old, IsEnum h e it ((i : Nat) : Int) old) ∧ h.IsTupleIter it a i ∧ e ≠ it) where
  mem := by simp
  obj := fun i h st b hb => by
    obtain ⟨⟨old, he⟩, ⟨o, ho, hc, hd⟩, _⟩ := st
    have e' : b = e ∨ b = it := by simpa using hb
    rcases e' with z | z
    · rw [z]; exact ⟨_, he, fun v q => nomatch q⟩
    · rw [z]; exact ⟨o, ho, fun v q => by rw [hd] at q; cases q⟩
  keep := fun i h h' st k => let ⟨⟨old, he⟩, hi, hne⟩ := st; ⟨⟨old, k e (by simp) _ he⟩, hi.at fun o q => k it (by simp) o q, hne⟩
  item := by
    intro X hP hw hK hc i pins s σ H E I hf st hg
    subst hP hw hK
    obtain ⟨⟨old, he⟩, hit, hne⟩ := st
    obtain ⟨xs, x, hq, hx⟩ := hg
    obtain ⟨its, rv, p, hz⟩ := I.tuple hq
    obtain ⟨u, hu, ru⟩ := rv.get hx
    have hel : e < s.heap.objs.size := Heap.lt_size he
    have hil : it < s.heap.objs.size := by obtain ⟨_, q, _⟩ := hit; exact Heap.lt_size q
    have lt : i < its.toArray.size := by
      have := (List.getElem?_eq_some_iff.mp hu).1
      simpa using this
    have D : Draws X.prog X.w X.A.in1 it [it, a] its.toArray.size (fun i v => its.toArray[i]? = some v) (fun i h => h.IsTupleIter it a i ∧ h.IsTuple a its.toArray) := Draws.tuple (show X.A.in1.handled = none from I.ok.hd hc) it a hai its.toArray
    refine wpAny_pyNext_enum_itemD D he ⟨hit, p⟩ lt hne (by simp only [List.mem_cons, List.not_mem_nil, or_false, not_or]; exact ⟨hne, Ne.symm hae⟩) fun y h' tk hy ho hst hT hsz hk => ?_
    have ey : y = u := by
      rw [show its.toArray[i]? = its[i]? from by simp, hu] at hy
      exact (Option.some.inj hy).symm
    subst ey
    refine ⟨_, rfl, wpAny_letOwnedTupleGo_enum (s := { s with heap := h', toks := tk + 1 }) ho fun h'' he' sb => ?_⟩
    have hT2 : h''.get? s.heap.objs.size = some { cls := .type "tuple", data := .seq #[.int i tk, y] } := (sb.2 _ (Nat.ne_of_gt hel)).trans hT
    have new : ObjOk X.prog X.w (upd H s.heap.objs.size (.tup [.int (i : Nat), x])) h'' s.heap.objs.size (.tup [.int (i : Nat), x]) :=
      ⟨by show 2 ≤ sizeLine; decide, [.int i tk, y], .cons ⟨_, rfl⟩ (.cons ru .nil), ⟨_, hT2, rfl, _, rfl⟩⟩
    have I1 : Inv X pins σ (upd H s.heap.objs.size (.tup [.int (i : Nat), x])) { s with heap := h'', toks := tk + 1 } :=
      I.turnedNew (ch := [e, it]) (fun b ob hb q => (sb.2 b (fun z => hb (by simp [z]))).trans (hk b ob (fun z => hb (by simp [z])) (fun z => hb (by simp [z])) q)) hf (Nat.le_refl _) new
    refine ⟨.ref s.heap.objs.size, _, I1, rfl, ⟨_, x, rfl, I.hok.fresh (Nat.le_refl _), rfl, fun ys hy => by rw [I.tuple_inj hy hq]; exact hx⟩, ⟨⟨y, ?_⟩, hst.1.at fun o q => (sb.2 it (Ne.symm hne)).trans q, hne⟩, fun b hb => ?_⟩
    · have e1 : ((i + 1 : Nat) : Int) = (i : Int) + 1 := by omega
      rw [e1]; exact he'
    · have hb' : b < s.heap.objs.size := by
        have e' : b = e ∨ b = it := by simpa using hb
        rcases e' with z | z
        · rw [z]; exact hel
        · rw [z]; exact hil
      rw [upd_ne (Nat.ne_of_lt hb')]
      exact (hf b hb).1
  done := by
    intro X hP hw hK hc i pins s σ H E I hf st hg
    subst hP hw hK
    obtain ⟨⟨old, he⟩, hit, hne⟩ := st
    obtain ⟨xs, hq, hx⟩ := hg
    obtain ⟨its, rv, p, hz⟩ := I.tuple hq
    obtain ⟨f0, f1, f2, f3, f4, f5⟩ := hf it (by simp)
    have hl := rv.length
    exact wpAny_pyNext_enum_endT (I.ok.hd hc) he hit (show s.heap.IsTuple a its.toArray from p) (by simp; omega) fun h' eb => ⟨rfl, I.turned (t' := s.toks) (fun b o hb q => eb b o hb q) f0 f1 f3 f4 f5⟩
  self := fun A i s Q E st h => let ⟨⟨_, he⟩, _⟩ := st; wpAny_pyIter_enum he h
def iEnumT (K : PySem.W.Frag) (ta : TA) : TI := fun σ H R => ta σ H fun vs H1 => ∃ a xs, vs = [.ref a] ∧ SqT K H1 a xs ∧ R (IteT K a) H1
theorem pi_enumT {X : Cx} {e : PySem.Expr} {ta : TA} {p pos tpos : Pos} {elts : List PySem.Expr} {kk : Nat} (hg : Gl X "enumerate") (hm : X.mg "enumerate" = none) (ha : PA X [e] ta) (hs : starEach [e] X.env = [(false, eval e X.env)] := by rfl) :
    PI X (.Tuple elts kk tpos) (.Call (.Name "enumerate" p) [e] [] pos) (iEnumT X.K ta) := by
  refine ⟨fun pins s σ H R I h => ?_⟩
  refine Call_ (ld_blt I hg hm boot_enumerate (PyProof.Rows.callWith_type1 (thn (ha.run pos pins s σ H _ I h) fun us s1 ⟨vs, H1, I1, r1, q1⟩ => ?_) hs rfl))
  obtain ⟨a, xs, ex, hq, q⟩ := q1
  subst ex
  cases r1 with
  | cons r rr =>
    cases rr
    cases r
    obtain ⟨its, rv, p', hz⟩ := I1.tuple hq
    have hlt : a < s1.heap.objs.size := by
      obtain ⟨o, ho, _⟩ := (show s1.heap.IsTuple a its.toArray from p')
      exact Heap.lt_size ho
    refine enum_begins1 (begins_tuple a its.toArray) p' fun h' he hit hsz hk => wpAny_pyIter_enum he ?_
    have I2 : Inv X pins σ H1 { s1 with heap := h' } := I1.kept (t' := s1.toks) hk
    refine ⟨s1.heap.objs.size + 1, [s1.heap.objs.size + 1, s1.heap.objs.size], _, _, H1, rfl, I2, turn_enumT a (s1.heap.objs.size + 1) s1.heap.objs.size (Nat.ne_of_lt (Nat.lt_succ_of_lt hlt)) (Nat.ne_of_lt hlt), ⟨⟨.none, he⟩, ⟨_, hit, rfl, rfl⟩, Nat.succ_ne_self _⟩, fun b hb => ?_, q⟩
    have e' : b = s1.heap.objs.size + 1 ∨ b = s1.heap.objs.size := by simpa using hb
    have hle : s1.heap.objs.size ≤ b := by
      rcases e' with z | z
      · rw [z]; exact Nat.le_add_right _ _
      · rw [z]; exact Nat.le_refl _
    exact I1.fpOk hle (I1.hok.fresh hle)
/-- enumerate(list or tuple) -/
def iEnumU (K : PySem.W.Frag) (ta : TA) : TI := fun σ H R => iEnum K ta σ H R ∨ iEnumT K ta σ H R
theorem pi_enumUK {K : PySem.W.Frag} {X : Cx} {e : PySem.Expr} {ta : TA} {p pos tpos : Pos} {elts : List PySem.Expr} {kk : Nat} (hg : Gl X "enumerate") (hm : X.mg "enumerate" = none) (ha : PA X [e] ta) (hs : starEach [e] X.env = [(false, eval e X.env)] := by rfl) (hK : X.K = K := by rfl) :
    PI X (.Tuple elts kk tpos) (.Call (.Name "enumerate" p) [e] [] pos) (iEnumU K ta) := by
  subst hK
  exact PI.or (pi_enum hg hm ha hs) (pi_enumT hg hm ha hs)
section
variable {α : Type} {r : Rs} {s : L2.St} {S : Hp} {K : PySem.W.Frag}
theorem walk_enumT {a : Addr} {xs : List V} : Walk (IteT K a) xs.length (fun H => SqT K H a xs) (YPair (fun i => some (.int (i : Nat))) (fun i => xs[i]?)) := by
  refine ⟨fun i _ hi q => ⟨xs, xs[i], q, by simp [hi]⟩, fun _ q => ⟨xs, q, Nat.le_refl _⟩, fun i H v H' _ q y => ?_⟩
  obtain ⟨T, x, h1, h2, h3, h4⟩ := y
  exact ⟨T, _, x, h1, h2, h3, rfl, h4 xs q⟩
theorem ei_enumT {ta : TA} {ys : List α} {X : Rl α} [Mono X] (h : EvAS r ta s S fun us S1 => ∃ a vs, us = [.ref a] ∧ SqT K S1 a vs ∧ All2 X S1 ys vs) : EvI r (iEnumT K ta) s S (enumL ys) (PairR K IntR X) := fun S1 H a w R q =>
  h S1 H a w _ fun us S2 H2 w2 s2 ⟨b, vs, e1, e2, e3⟩ => ⟨b, vs, e1, ex_t w2.ex e2, q (IteT K b) S2 H2 (fun H => SqT K H b vs) (YPair (fun i => some (.int (i : Nat))) (fun i => vs[i]?)) w2 s2 (by
    have wk := walk_enumT (K := K) (a := b) (xs := vs)
    rw [e3.len, ← enumL_len ys] at wk
    exact wk) (fun S' H' e w' => ex_t w'.ex (ex_t e e2)) fun i S' H' v H'' hi e w' ⟨T, x, y, e4, e5, e6, e7, e8⟩ => by
      obtain ⟨y', h1, h2⟩ := (e3.up e).get e8
      subst e6
      cases e7
      exact ⟨_, _, enumL_get h1, w'.newS e5, Stp.newS w' e5, T, _, _, e4, SqT.of upd_same, rfl, Mono.up (Ex.new (w'.fresh e5)) h2⟩⟩
/-- for i, x in enumerate(e), e known -/
theorem ei_enumU {ta : TE} {ys : List α} {X : Rl α} [Mono X] {v : V} (h : EvV r ta s S v) (hv : SeqR K X ys v S) : EvI r (iEnumU K (tCons ta tNil)) s S (enumL ys) (PairR K IntR X) := by
  rcases hv with ⟨a, vs, rfl, g1, g2⟩ | ⟨a, vs, rfl, g1, g2⟩
  · exact EvI.or1 (ei_enum (EvAS.imp' (va_cons h va_nil) fun us S1 e eu => ⟨a, vs, eu, e _ _ g1, g2.up e⟩))
  · exact EvI.or2 (ei_enumT (EvAS.imp' (va_cons h va_nil) fun us S1 e eu => ⟨a, vs, eu, ex_t e g1, g2.up e⟩))
end
end J

set_option pp.maxSteps 3000
/-! J43: C(**d) that raises; xs[::-1]. -/
namespace J
open PySem PySem.Spec PyProof.Rows L2 Evl RZ
theorem pe_revK {K : PySem.W.Frag} {X : Cx} {e : PySem.Expr} {te : TE} {k : Nat} {p1 p2 p3 pos : Pos} (he : PE X e te) (hK : X.K = K := by rfl) : PE X (.Subscript e (.Slice none none (some (.UnaryOp .USub (.Constant (.int 1) k p1) p2)) p3) pos) (tRevL K te) := by
  subst hK
  exact pe_revL he
section
variable {r : Rs} {s : L2.St} {S : Hp} {te : TE} {C C' : Addr} {fld : Str} {ks : List Str} {B : Type} {pre : B → List V → Hp → Prop} {val : B → V → Hp → Prop} {gV : List V → List V → List V} {E : XK} {P : List (Key × V) → Hp → Prop} {R : V → Hp → Prop} {K : PySem.W.Frag} {α : Type} {Rx : Rl α}
theorem ex_makeD (h : EvS r te s S fun v S1 => ∃ a kvs, v = .ref a ∧ S1 a = some (.dK kvs) ∧ P kvs S1)
    (hp : ∀ kvs S1, Ex S S1 → P kvs S1 → kvs.map (·.1) = ks.map Sum.inr ∧ ∃ b us, (∀ x, gV [.ref x] (kvs.map (·.2)) = .ref x :: us) ∧ pre b us S1 ∧ ∀ v S2, Ex S1 S2 → val b v S2 → R v S2) : EvX E C fld r (tMakeD C' ks (SpXi C fld pre val) gV E te) s S R := fun S1 H e w k Q D hD =>
  h S1 (upd H D (.dK [])) e (w.new hD) _ fun v S2 H2 w2 s2 ⟨a, kvs, ev, ha, hpk⟩ => by
    have nD : D ∉ r.M := w.notM hD
    have h2 : H2 D = some (.dK []) := s2.kp D _ nD upd_same
    have n2 : S2 D = none := s2.fr D (ne_none upd_same) (w.fresh hD)
    obtain ⟨hk, b, us, hg, p1, p2⟩ := hp kvs S2 (e.trans s2.ex) hpk
    refine ⟨h2, a, kvs, ev, ne_of_none ha n2, w2.ex _ _ ha, hk, fun x dx hx hdx ne => ?_⟩
    rw [hg x]
    have w2' := w2.mut (o := .dK kvs) n2 nD
    have s2' := ((Stp.new hD).trans s2).mut (o := .dK kvs) hD
    have hx1 : (upd (upd H2 D (.dK kvs)) dx (.own x)) x = none := by
      rw [upd_ne ne.symm]
      exact hx
    have w3 := (w2'.new (o := .own x) hdx).new (o := .ins C' dx []) hx1
    have s3 := (Stp.new (r := r) (S := S2) (o := .own x) hdx).trans (Stp.new (o := .ins C' dx []) hx1)
    exact ⟨b, S2, ⟨x, _, rfl, p1⟩, w3.bare, fun d v S4 H4 w4 s4 hv hd => k d v S4 H4 (w3.lift w4 s4) ((s2'.trans s3).trans s4.lift) (p2 v S4 s4.ex hv) hd⟩
/-- xs[::-1] -/
theorem ev_rev [Mono Rx] {xs : List α} (h : EvS r te s S fun v S1 => LstR Rx xs v S1) : EvS r (tRevL K te) s S fun v S1 => LstR Rx xs.reverse v S1 := fun S1 H e w Q q =>
  h S1 H e w _ fun v S2 H2 w2 s2 ⟨a, vs, ev, ha, hv⟩ => ⟨a, vs, ev, SqL.of (w2.ex _ _ ha), fun p hp => q (.ref p) (upd S2 p (.lst vs.reverse)) _ (w2.newS hp) (s2.trans (Stp.newS w2 hp)) ⟨p, vs.reverse, rfl, upd_same, (all2_rev hv).up (Ex.new (w2.fresh hp))⟩⟩
where
  all2_rev {S : Hp} : ∀ {xs : List α} {vs : List V}, All2 Rx S xs vs → All2 Rx S xs.reverse vs.reverse
    | _, _, .nil => .nil
    | _, _, .cons h t => by
      rw [List.reverse_cons, List.reverse_cons]
      exact (all2_rev t).snoc h
end
end J

/-! J44: C.m(..) where m is a staticmethod of the program's class C; o <= p by an own __le__. -/
namespace J
open PySem PySem.Spec PyProof.Rows L2 Evl RZ
/-- C.m is a staticmethod: its record at p, its def at g -/
structure SMet (K : PySem.W.Frag) (C : Addr) (mc : Value) (m : Str) (p g : Addr) : Prop where
  at_ : PySem.W.findCls K (.ref C) mc m = some (.get (.builtin "staticmethod.__get__") (.ref p) .none (.ref C))
  rc : ∃ rest, PySem.W.recIn K p "staticmethod" = some (.ref g :: rest)
  kp : PySem.W.keepIn K (.ref g) = true
section
variable {X : Cx} {pins : List (Addr × Obj)} {σ : L2.St} {H : Hp} {s : Shared} {C p g : Addr} {mc : Value} {m : Str} {A : Around} {E : Value → Shared → Prop}
theorem getsm_ok {b : Bool} {Q : Value → Shared → Prop} (I : Inv X pins σ H s) (r : ClX.CRead X.K C mc) (c : SMet X.K C mc m p g) (h : ∀ s', Inv X pins σ H s' → Q (.ref g) s') : wpAny (model X.prog X.w) A (getAttr (.ref C) m b) Q E s := by
  obtain ⟨rest, hp⟩ := c.rc
  refine PySem.W.cls_bind I.kIn r.rd c.at_ ?_
  refine wpAny_call (PySem.W.sm_get (s := { s with toks := s.toks + 1 }) I.kIn hp (PySem.W.handed_on rfl ?_))
  exact h _ (I.tok _)
theorem getmethsm_ok {pl : Sem Bool} {Q : Value × List Value → Shared → Prop} (I : Inv X pins σ H s) (r : ClX.CRead X.K C mc) (c : SMet X.K C mc m p g) (h : ∀ s', Inv X pins σ H s' → Q (.ref g, []) s') : wpAny (model X.prog X.w) A (getMethod (.ref C) m pl) Q E s :=
  PySem.W.method_cls I.kIn r.ga (getsm_ok I r c h)
end
section
variable {X : Cx} {CX : CXT} {k : Nat} {E : XK} {C p g : Addr} {fd : FuncData} {ps : List Str} {ds : List Value} {dvs : List V} {mc : Value} {sp : Sp} {x m : Str} {e : Expr} {es : List Expr} {pos apos np : Pos} {t : TA} {pl : Sem Bool}
theorem pe_static (F : FnOk X.prog X.w X.K X.mg X.base CX k g fd ps sp) (hr : Room k X.A) (hg : Gl X x) (hm : X.mg x = some (.ref C)) (r : ClX.CRead X.K C mc) (c : SMet X.K C mc m p g) (hb : Binds X.K fd ps ds) (hd : Vals dvs ds) (hx : Passes CX X E)
    (ha : PA X (e :: es) t) (ndb : (x == ("__debug__" : Str)) = false := by decide) (e1 : starEach (e :: es) X.env = (false, eval e X.env) :: starEach es X.env := by rfl) (e2 : (backTo pos (starEach es X.env)).any (·.1) = false := by rfl)
    (ht : eval (.Call (.Attribute (.Name x np) m apos) (e :: es) [] pos) X.env = (do
      let ov ← eval (.Name x np) X.env
      standAt apos.atName
      let (f, first) ← holding [ov] (getMethod ov m pl)
      callWith pos f first (backTo pos (starEach (e :: es) X.env)) (backToKw pos (keywordEach [] X.env))) := by rfl) :
    PE X (.Call (.Attribute (.Name x np) m apos) (e :: es) [] pos) (tCall sp dvs E t) := by
  refine ⟨fun pins s σ H Q I h => ?_⟩
  refine PySem.W.methodCall_KW (pl := pl) (ld_glob I hg hm ?_ ndb) ht
  refine getmethsm_ok I r c fun s2 I2 => ?_
  exact PySem.W.callWith_K (h₀ := X.base) I2.ok.mod.kin c.kp (thn (ha.run pos pins s2 σ H _ I2 h) fun us s1 ⟨vs, H1, I1, r, q⟩ => ⟨I1.kIn, run_fn F hr hb hd hx I1 r q⟩) e1 e2
theorem pe_static0 (F : FnOk X.prog X.w X.K X.mg X.base CX k g fd ps sp) (hr : Room k X.A) (hg : Gl X x) (hm : X.mg x = some (.ref C)) (r : ClX.CRead X.K C mc) (c : SMet X.K C mc m p g) (hb : Binds X.K fd ps ds) (hd : Vals dvs ds) (hx : Passes CX X E)
    (ndb : (x == ("__debug__" : Str)) = false := by decide)
    (ht : eval (.Call (.Attribute (.Name x np) m apos) [] [] pos) X.env = (do
      let ov ← eval (.Name x np) X.env
      standAt apos.atName
      let (f, first) ← holding [ov] (getMethod ov m pl)
      callWith pos f first (backTo pos (starEach [] X.env)) (backToKw pos (keywordEach [] X.env))) := by rfl) :
    PE X (.Call (.Attribute (.Name x np) m apos) [] [] pos) (tCall sp dvs E tNil) := by
  refine ⟨fun pins s σ H Q I h => ?_⟩
  refine PySem.W.methodCall_KW (pl := pl) (ld_glob I hg hm ?_ ndb) ht
  refine getmethsm_ok I r c fun s2 I2 => ?_
  exact PySem.W.callWith_K0 I2.kIn c.kp (run_fn (us := []) F hr hb hd hx I2 .nil h)
end
section
variable {X : Cx} {CX : CXT} {k : Nat} {f C : Addr} {fd : FuncData} {ps : List Str} {sp : Sp} {E : XK}
/-- o <= p by an own __le__ -/
theorem op_leO (F : FnOk X.prog X.w X.K X.mg X.base CX k f fd ps sp) (M : Meth X.K C "__le__" f) (hr : Room k X.A) (hb : Binds X.K fd ps []) (hx : Passes CX X E) : OpR X (compareOp .LtE) (rEqO C sp E) := by
  intro pins s σ H x y v u Q I rx ry h
  obtain ⟨a, dx, fs, b, dy, gs, rfl, rfl, ha, hb2, wants⟩ := h
  cases rx
  cases ry
  obtain ⟨mA, J, _⟩ := ins_get I.hok ha
  obtain ⟨od, J, _⟩ := J.look
  obtain ⟨mB, J', _⟩ := ins_get I.hok hb2
  obtain ⟨od', J', _⟩ := J'.look
  obtain ⟨m, frame⟩ := I.fr
  refine PySem.W.cmp_ofLtE (PySem.W.cmp_K (op := .LtE) (tb := .ref C) hr.units0 frame I.ok.mod.kin J J'.type (by simp [PySem.W.notFirst]) M.at_ M.fn ?_)
  refine wpAny_mono (run_sub (A := X.A) (vs := [V.ref a, V.ref b]) ⟨hr, rfl⟩ F hb hx I (.cons rfl (.cons rfl .nil)) wants) (fun w s' back => ?_) fun _ _ z => z
  obtain ⟨t, H', I', rt, z, rfl, q⟩ := back
  cases rt
  exact ⟨.bl z, H', I', rfl, q⟩
end
theorem sm_of {K : PySem.W.Frag} {C : Addr} {m : Str} (h : He5.wrapB K C "staticmethod" "staticmethod.__get__" m = true) (kp : PySem.W.keepIn K (.ref (He5.wf K C "staticmethod" m)) = true) : SMet K C (.type "type") m (He.ma K C m) (He5.wf K C "staticmethod" m) := ⟨(He5.wrapB_ok h).1, (He5.wrapB_ok h).2, kp⟩
/-- a reading that is never reached -/
def tNo : TE := fun _ _ _ => False
theorem pe_no {X : Cx} {e : Expr} : PE X e tNo := ⟨fun _ _ _ _ _ _ h => h.elim⟩
end J

/-! J45: a list of own objects != a list of own objects, item by item equal. -/
namespace J
open PySem PySem.Spec PyProof.Rows L2 Evl RZ GQ PySem.Calls Builtin PySem.MeetsSeq3
section
variable {prog : Program} {w : World} {A : Around} {R : Result → Shared → Prop}
theorem ne_loopG (l b : Addr) (N : Nat) (I : Nat → Shared → Prop) (hl : ListI prog w A (fun e s' => R (.error e) s') l b N I) (fin : ∀ s, I N s → R (.ok (.ret (.bool false))) s) (k : Nat) :
    ∀ i : Nat, N - i = k → i ≤ N → ∀ s, I i s → wpAny (model prog w) A.in1 (Builtin.«list.__eq__.loop» ⟨[.ref l, .ref b, rawInt i, rawInt 3], []⟩) (FinOf prog w A R) (fun e s' => R (.error e) s') s := by
  induction k with
  | zero =>
    intro i hk hi s h
    obtain ⟨xs, ys, n, n2, h1, h2, z1, z2, _⟩ := hl _ _ h
    obtain rfl : i = N := by omega
    have done := fin s h
    obtain ⟨hp, g, d, tk, os⟩ := s
    wp_walk using wpAny_loadPart' h1, wpAny_loadPart' h2
    rw [show xs[((i : Nat) : Int).toNat]? = none by simp; omega, show ys[((i : Nat) : Int).toNat]? = none by simp; omega]
    wp_walk using wpAny_loadPart' h1, wpAny_loadPart' h2
    show R (.ok (.ret (.bool (xs.size != ys.size)))) _
    rw [z1, z2]
    simpa using done
  | succ k ih =>
    intro i hk hi s h
    obtain ⟨xs, ys, n, n2, h1, h2, z1, z2, turn⟩ := hl _ _ h
    have l1 : i < xs.size := by omega
    have l2 : i < ys.size := by omega
    have t := turn l1 l2
    obtain ⟨hp, g, d, tk, os⟩ := s
    wp_walk using wpAny_loadPart' h1, wpAny_loadPart' h2
    rw [show xs[((i : Nat) : Int).toNat]? = some xs[i] by simp [l1], show ys[((i : Nat) : Int).toNat]? = some ys[i] by simp [l2]]
    refine wpAny_bind (wpAny_mono t (fun r s2 q => ?_) fun _ _ x => x)
    obtain ⟨rfl, q⟩ := q
    have next := ih (i + 1) (by omega) (by omega) s2 q
    obtain ⟨hp2, g2, d2, tk2, os2⟩ := s2
    wp_walk
    rw [show ((i : Int) + 1) = ((i + 1 : Nat) : Int) by omega]
    exact ⟨plainId_quiet plain_eq_loop _, codeAny_builtin entry_eq_loop (by
      rw [Around.under_plainId plain_eq_loop _]
      exact next)⟩
theorem list_neG (l b : Addr) (N : Nat) (I : Nat → Shared → Prop) (hl : ListI prog w A (fun e s' => R (.error e) s') l b N I) (fin : ∀ s, I N s → R (.ok (.ret (.bool false))) s) {s : Shared} (h : I 0 s) :
    wpAny (model prog w) A.in1 (Builtin.«list.__ne__» ⟨[.ref l, .ref b], []⟩) (FinOf prog w A R) (fun e s' => R (.error e) s') s := by
  obtain ⟨xs, ys, n, n2, h1, h2, z1, z2, _⟩ := hl _ _ h
  have next := ne_loopG (A := A) (R := R) l b N I hl fin _ 0 rfl (Nat.zero_le _) s h
  obtain ⟨hp, g, d, tk, os⟩ := s
  have f3 := AutoSeq1.sub_list_list
  have hne : ¬ (xs.size != ys.size) = true := by simp [z1, z2]
  wp_walk using wpAny_loadPart' h1, wpAny_loadPart' h2
  exact ⟨plainId_quiet plain_eq_loop _, codeAny_builtin entry_eq_loop (by
    rw [Around.under_plainId plain_eq_loop _]
    exact next)⟩
end
section
variable {prog : Program} {w : World} {A : Around} {E : Value → Shared → Prop} {s : Shared}
theorem rc_listNeG {l b : Addr} {N : Nat} {Q : Value → Shared → Prop} (hu : A.units < cLine) (I : Nat → Shared → Prop) (hl : ListI prog w A E l b N I) (fin : ∀ s, I N s → Q (.bool false) s) (h : I 0 s) : wpAny (model prog w) A (richCompare .NotEq (.ref l) (.ref b)) Q E s := by
  obtain ⟨xs, ys, n, n2, h1, h2, _, _, _⟩ := hl _ _ h
  refine wpAny_richCompare_same_room (op := .NotEq) ⟨_, h1, rfl⟩ ⟨_, h2, rfl⟩ F.slot_list_ne (call_here F.slot_list_ne ⟨_, h1, rfl⟩ F.entry_list_ne (F.args_list_ne_2 _ _) ?_) hu
  exact list_neG (R := wants (fun v s' => v ≠ .notImplemented ∧ Q v s') E) l b N I hl (fun s' q => ⟨(fun x => nomatch x), fin s' q⟩) h
end
section
variable {X : Cx} {n : Nat} {D : Eqv}
/-- two lists, item by item equal: != gives False -/
def rNeLG (D : Eqv) : R2 := fun x y H Q => DList D x y H ∧ ∀ H', Ext H H' → Q (.bl false) H'
theorem op_neLG (hD : Mon D) (h : EqG X n D) (hr : Room (n + 1) X.A) : OpR X (compareOp .NotEq) (rNeLG D) := by
  intro pins s σ H x y v u Q I rx ry hq
  obtain ⟨⟨a, b, xs, ys, rfl, rfl, ha, hb, p⟩, q⟩ := hq
  cases rx
  cases ry
  show wpAny (model X.prog X.w) X.A (richCompare .NotEq (.ref a) (.ref b)) (EP X pins σ Q) X.xe s
  refine rc_listNeG (N := xs.length) hr.units0 (fun _ s' => LoopI X pins σ H s') (fun i s' l => ?_) (fun s' l => ?_) ⟨H, I, Ext.rfl'⟩
  · obtain ⟨H1, I1, e1⟩ := id l
    obtain ⟨z, its, k, r, e⟩ := I1.hok a _ (e1 _ _ ha)
    obtain ⟨z2, its2, k2, r2, e2⟩ := I1.hok b _ (e1 _ _ hb)
    exact ⟨its.toArray, its2.toArray, k, k2, e, e2, by rw [List.size_toArray, ← r.length], by rw [List.size_toArray, ← r2.length, ← p.1], fun h1 h2 => turnG hD h ⟨hr, rfl⟩ p r r2 i h1 h2 s' l⟩
  · obtain ⟨H', I', e⟩ := l
    exact ⟨.bl false, H', I', rfl, q H' e⟩
end
section
variable {X : Cx} {CX : CXT} {n : Nat} {f C : Addr} {fd : FuncData} {ps : List Str} {sp : Sp} {E : XK} {D : Eqv}
/-- items of one class, equal by its own __eq__ -/
theorem rcG_own (F : FnOk X.prog X.w X.K X.mg X.base CX n f fd ps sp) (M : Meth X.K C "__eq__" f) (hb : Binds X.K fd ps []) (hx : Passes CX X E)
    (hi : ∀ x y H, D x y H → ∃ a b dx dy fs gs, x = .ref a ∧ y = .ref b ∧ H a = some (.ins C dx fs) ∧ H b = some (.ins C dy gs)) (hsp : ∀ x y H Q, D x y H → (∀ H', Ext H H' → Q (.bl true) H') → sp [x, y] H Q E) : RcG X n D := by
  intro A pins s σ H x y u v sb I rx ry d
  obtain ⟨a, b, dx, dy, fs, gs, rfl, rfl, ha, hb2⟩ := hi _ _ _ d
  cases rx
  cases ry
  obtain ⟨mA, J, _⟩ := ins_get I.hok ha
  obtain ⟨od, J, _⟩ := J.look
  obtain ⟨mB, J', _⟩ := ins_get I.hok hb2
  obtain ⟨od', J', _⟩ := J'.look
  obtain ⟨m, frame⟩ := I.fr
  refine PySem.W.cmp_K (op := .Eq) (tb := .ref C) sb.room.units0 frame I.ok.mod.kin J J'.type (by simp [PySem.W.notFirst]) M.at_ M.fn ?_
  refine wpAny_mono (run_sub (A := A) (vs := [V.ref a, V.ref b]) sb F hb hx I (.cons rfl (.cons rfl .nil)) (hsp _ _ _ (fun v H' => v = .bl true ∧ Ext H H') d fun H' e => ⟨rfl, e⟩)) (fun w s' back => ?_) fun _ _ z => z
  obtain ⟨t, H', I', rt, rfl, e⟩ := back
  cases rt
  exact ⟨rfl, H', I', e⟩
theorem eqG_own (F : FnOk X.prog X.w X.K X.mg X.base CX n f fd ps sp) (M : Meth X.K C "__eq__" f) (hb : Binds X.K fd ps []) (hx : Passes CX X E)
    (hi : ∀ x y H, D x y H → ∃ a b dx dy fs gs, x = .ref a ∧ y = .ref b ∧ H a = some (.ins C dx fs) ∧ H b = some (.ins C dy gs)) (hsp : ∀ x y H Q, D x y H → (∀ H', Ext H H' → Q (.bl true) H') → sp [x, y] H Q E) : EqG X n D :=
  (rcG_own F M hb hx hi hsp).eqG fun x y H d => by
    obtain ⟨a, b, _, _, _, _, h1, h2, _⟩ := hi x y H d
    exact ⟨a, b, h1, h2⟩
end
/-- two values of one datum -/
def DRel {α : Type} (R : Rl α) : Eqv := fun x y H => ∃ a S, Ex S H ∧ R a x S ∧ R a y S
theorem mon_rel {α : Type} {R : Rl α} : Mon (DRel R) := fun x y H H' e ⟨a, S, h, h1, h2⟩ => ⟨a, S, fun b o q => e b o (h b o q), h1, h2⟩
theorem prs_rel {α : Type} {R : Rl α} {S H : Hp} (e : Ex S H) : ∀ {xs : List α} {vs ws : List V}, All2 R S xs vs → All2 R S xs ws → Prs (DRel R) vs ws H
  | _, _, _, .nil, .nil => .nil
  | _, _, _, .cons h t, .cons h' t' => .cons ⟨_, S, e, h, h'⟩ (prs_rel e t t')
theorem Wd.ext {r : Rs} {S H H' : Hp} (w : Wd r S H) (x : Ext H H') : Wd r S H' := ⟨fun a o h => x _ _ (w.ex a o h), r.mono H H' (fun a o _ e => x a o e) (fun a q e => x a _ e) w.inv, w.dj⟩
theorem Stp.ext {r : Rs} {S H H' : Hp} (x : Ext H H') : Stp r S H S H' := ⟨Ex.refl S, fun a o _ h => x a o h, fun _ _ h => h, fun a h z => by
  cases q : H a with
  | none => exact h q
  | some o =>
    rw [x a o q] at z
    cases z⟩
section
variable {r : Rs} {s : L2.St} {S : Hp} {ta tb : TE} {α : Type} {R : Rl α}
theorem vv_neLG [Mono R] {xs : List α} (h1 : EvS r ta s S fun v S1 => LstR R xs v S1) (h2 : ∀ S1, Ex S S1 → EvS r tb s S1 fun v S2 => LstR R xs v S2) : EvV r (tOp (rNeLG (DRel R)) ta tb) s S (.bl false) := fun S1 H e w Q q =>
  h1 S1 H e w _ fun v S2 H2 w2 s2 p => h2 S2 (e.trans s2.ex) S2 H2 (Ex.refl _) w2 _ fun v' S3 H3 w3 s3 p' => by
    obtain ⟨a, vs, rfl, ha, hv⟩ := Mono.up s3.ex p
    obtain ⟨b, ws, rfl, hb, hw⟩ := p'
    exact ⟨⟨a, b, vs, ws, rfl, rfl, w3.ex _ _ ha, w3.ex _ _ hb, prs_rel w3.ex hv hw⟩, fun H' x => q _ S3 H' (w3.ext x) ((s2.trans s3).trans (Stp.ext x)) rfl⟩
end
/-- the own __eq__ of a class that is told by a relation -/
theorem spP_rel {A : Type} {pre : A → List V → Hp → Prop} {post : A → V → Hp → Prop} {α : Type} {R : Rl α} {E : XK} (hp : ∀ a x y S, R a x S → R a y S → ∃ z, pre z [x, y] S ∧ ∀ v S1, post z v S1 → v = .bl true) (x y : V) (H : Hp) (Q : VK) (d : DRel R x y H) (q : ∀ H', Ext H H' → Q (.bl true) H') : SpP pre post [x, y] H Q E := by
  obtain ⟨a, S, e, h1, h2⟩ := d
  obtain ⟨z, p, hv⟩ := hp a x y S h1 h2
  exact ⟨z, S, p, e, fun v S1 H1 w s u => by
    rw [hv v S1 u]
    exact q H1 fun b o h => s.kp b o (fun m => nomatch m) h⟩
end J

/-! J46: some keywords given, the others by defaults; loops that append to one list; l.extend(e). -/
namespace J
open PySem PySem.Spec PyProof.Rows L2 Evl RZ
/-- us, then the values of keywords and defaults by their places in ws ++ mv -/
def selG {α : Type} (l : List Nat) (us mv ws : List α) : List α := us ++ l.filterMap fun i => (ws ++ mv)[i]?
theorem vals_get : ∀ {vs : List V} {us : List Value} (i : Nat), Vals vs us → (vs[i]? = none ∧ us[i]? = none) ∨ ∃ v u, vs[i]? = some v ∧ us[i]? = some u ∧ RelV v u
  | _, _, i, .nil => .inl ⟨by simp, by simp⟩
  | _, _, 0, .cons h _ => .inr ⟨_, _, rfl, rfl, h⟩
  | _, _, i + 1, .cons _ t => by
    rw [List.getElem?_cons_succ, List.getElem?_cons_succ]
    exact vals_get i t
theorem vals_sel {vs : List V} {us : List Value} (h : Vals vs us) : ∀ l : List Nat, Vals (l.filterMap fun i => vs[i]?) (l.filterMap fun i => us[i]?)
  | [] => .nil
  | i :: l => by
    rcases vals_get i h with ⟨e1, e2⟩ | ⟨v, u, e1, e2, r⟩
    · rw [List.filterMap_cons_none e1, List.filterMap_cons_none e2]
      exact vals_sel h l
    · rw [List.filterMap_cons_some e1, List.filterMap_cons_some e2]
      exact .cons r (vals_sel h l)
theorem selG_rel (l : List Nat) {vs mz zs : List V} {us mv ws : List Value} (h1 : Vals vs us) (h2 : Vals mz mv) (h3 : Vals zs ws) : Vals (selG l vs mz zs) (selG l us mv ws) := h1.append (vals_sel (h3.append h2) l)
/-! ### what is appended to -/
section
variable {α β : Type} {Y : Rl β} {l : Addr}
/-- at l a list, not stable, of zs -/
def AccS (l : Addr) (Y : Rl β) (zs : List β) (S H : Hp) : Prop := ∃ vs, H l = some (.lst vs) ∧ S l = none ∧ All2 Y S zs vs
variable {r : Rs} {s : L2.St} {S S' H H' : Hp} {ta te : TE} {tu tz : TS} {D : Ends} {zs : List β} {K : PySem.W.Frag}
theorem AccS.step [Mono Y] (n : l ∉ r.M) (a : AccS l Y zs S H) (st : Stp r S H S' H') : AccS l Y zs S' H' := by
  obtain ⟨vs, h1, h2, h3⟩ := a
  exact ⟨vs, st.kp _ _ n h1, st.fr _ (ne_none h1) h2, h3.up st.ex⟩
theorem st_appendA [Mono Y] {y : β} (n : l ∉ r.M) (ho : EvV r ta s S (.ref l)) (hv : EvS r te s S fun v S1 => Y y v S1) (w : Wd r S H) (a : AccS l Y zs S H) (hz : zs.length < 100000)
    (k : ∀ S1 H1, Wd r S1 H1 → Stp (r.more [l]) S H S1 H1 → AccS l Y (zs ++ [y]) S1 H1 → D.nx s H1) : tDrop (tBM K "list" rAppend ta (tCons te tNil)) D s H := by
  obtain ⟨vs, h1, h2, h3⟩ := a
  exact st_append n ho hv w h1 h2 (by rw [h3.len]; exact hz) fun v S1 H1 w1 s1 n1 e1 p => k S1 H1 w1 s1 ⟨_, e1, n1, (h3.up s1.ex).snoc p⟩
theorem sq_appendA [Mono Y] {y : β} (n : l ∉ r.M) (ho : EvV r ta s S (.ref l)) (hv : EvS r te s S fun v S1 => Y y v S1) (w : Wd r S H) (a : AccS l Y zs S H) (hz : zs.length < 100000)
    (k : ∀ S1 H1, Wd r S1 H1 → Stp (r.more [l]) S H S1 H1 → AccS l Y (zs ++ [y]) S1 H1 → tz D s H1) : tSeq (tDrop (tBM K "list" rAppend ta (tCons te tNil))) tz D s H := st_appendA (D := { D with nx := tz D }) n ho hv w a hz k
/-- l.extend(e) -/
theorem st_extendA [Mono Y] {ys : List β} (n : l ∉ r.M) (ho : EvV r ta s S (.ref l)) (hv : EvS r te s S fun v S1 => LstR Y ys v S1) (w : Wd r S H) (a : AccS l Y zs S H) (hz : zs.length + ys.length ≤ 100000)
    (k : ∀ S1 H1, Wd r S1 H1 → Stp (r.more [l]) S H S1 H1 → AccS l Y (zs ++ ys) S1 H1 → D.nx s H1) : tDrop (tBM K "list" rExtend ta (tCons te tNil)) D s H := by
  obtain ⟨vs, hl, hs, h3⟩ := a
  refine ho S H (Ex.refl _) w _ fun u S1 H1 w1 s1 eu => ?_
  subst eu
  have h1 : H1 l = some (.lst vs) := s1.kp l _ n hl
  refine ⟨.inl ⟨rfl, _, .inl (.inl h1)⟩, hv S1 H1 s1.ex w1 _ fun v S2 H2 w2 s2 ⟨b, ws, ev, hb, hws⟩ => ?_⟩
  subst ev
  have s12 := s1.trans s2
  have h2 := s12.kp l _ n hl
  have n2 := s12.fr l (ne_none hl) hs
  refine ⟨l, b, vs, ws, rfl, rfl, h2, w2.ex _ _ hb, sz_of (by rw [h3.len, hws.len]; exact hz), ?_⟩
  exact k S2 _ (w2.mut n2 n (nco_lst h2)) ((s12.more).trans (Stp.upd1 (s12.dm l (ne_none hl)))) ⟨_, upd_same, n2, (h3.up s12.ex).append hws⟩
theorem sq_extendA [Mono Y] {ys : List β} (n : l ∉ r.M) (ho : EvV r ta s S (.ref l)) (hv : EvS r te s S fun v S1 => LstR Y ys v S1) (w : Wd r S H) (a : AccS l Y zs S H) (hz : zs.length + ys.length ≤ 100000)
    (k : ∀ S1 H1, Wd r S1 H1 → Stp (r.more [l]) S H S1 H1 → AccS l Y (zs ++ ys) S1 H1 → tz D s H1) : tSeq (tDrop (tBM K "list" rExtend ta (tCons te tNil))) tz D s H := st_extendA (D := { D with nx := tz D }) n ho hv w a hz k
theorem take_flat {ys : List α} {f : α → List β} {i : Nat} {y : α} (h : ys[i]? = some y) : (ys.take (i + 1)).flatMap f = (ys.take i).flatMap f ++ f y := by
  rw [List.take_add_one, h, Option.toList_some, List.flatMap_append, List.flatMap_singleton]
theorem flat_len {ys : List α} {f : α → List β} {m : Nat} (h : ∀ y, y ∈ ys → (f y).length ≤ m) : (ys.flatMap f).length ≤ ys.length * m := by
  induction ys with
  | nil => simp
  | cons y ys ih =>
    rw [List.flatMap_cons, List.length_append, List.length_cons, Nat.succ_mul]
    have := ih fun z hz => h z (List.mem_cons_of_mem _ hz)
    have := h y List.mem_cons_self
    omega
theorem take_len {ys : List α} {f : α → List β} {m i : Nat} (h : ∀ y, y ∈ ys → (f y).length ≤ m) : ((ys.take i).flatMap f).length ≤ ys.length * m :=
  Nat.le_trans (flat_len fun y hy => h y (List.mem_of_mem_take hy)) (Nat.mul_le_mul_right _ (by rw [List.length_take]; omega))
/-- for x in ys: what f tells of each is appended at l; Sh: how the row of names looks -/
theorem st_forA [Mono Y] {wi : TI} {g : TG} {ys : List α} {X : Rl α} (f : α → List β) (m : Nat) (Sh : L2.St → Prop) (hm : ∀ y, y ∈ ys → (f y).length ≤ m) (n : l ∉ r.M) (hi : EvI r wi s S ys X) (w : Wd r S H) (a : AccS l Y zs S H) (hs : Sh s)
    (body : ∀ y v s' S' H' zs', y ∈ ys → X y v S' → Sh s' → Wd r S' H' → Ex S S' → AccS l Y zs' S' H' → zs'.length ≤ zs.length + ys.length * m → ∀ D' : Ends, (∀ s2 S2 H2, Sh s2 → Wd r S2 H2 → Stp (r.more [l]) S' H' S2 H2 → AccS l Y (zs' ++ f y) S2 H2 → D'.nx s2 H2) → g v s' H' fun s1 H1 => tu D' s1 H1)
    (k : ∀ s2 S2 H2, Sh s2 → Wd r S2 H2 → Stp (r.more [l]) S H S2 H2 → AccS l Y (zs ++ ys.flatMap f) S2 H2 → D.nx s2 H2) : tFor wi g tu D s H := by
  refine st_for hi w fun S2 H2 w2 s2 => ⟨fun i s' S' H' => Wd r S' H' ∧ Ex S2 S' ∧ Stp (r.more [l]) S H S' H' ∧ Sh s' ∧ AccS l Y (zs ++ (ys.take i).flatMap f) S' H', ⟨w2, Ex.refl _, s2.more, hs, ?_⟩, fun i s' S' H' p => ⟨p.1, p.2.1⟩, ?_, ?_⟩
  · rw [List.take_zero, List.flatMap_nil, List.append_nil]
    exact a.step n s2
  · rintro i y v s' S' H' S3 H3 hy ⟨w', e', st', hs', a'⟩ w3 s3 hx
    refine body y v s' S3 H3 (zs ++ (ys.take i).flatMap f) (List.mem_of_getElem? hy) hx hs' w3 (s2.ex.trans (e'.trans s3.ex)) (a'.step n s3) (by
      rw [List.length_append]
      have := take_len (i := i) hm
      omega) _ fun s4 S4 H4 hs4 w4 s4' a4 => ⟨S4, w4, e'.trans (s3.ex.trans s4'.ex), st'.trans (s3.more.trans s4'), hs4, ?_⟩
    rw [take_flat hy, ← List.append_assoc]
    exact a4
  · rintro s' S' H' ⟨w', e', st', hs', a'⟩
    rw [List.take_length] at a'
    exact k s' S' H' hs' w' st' a'
theorem sq_forA [Mono Y] {wi : TI} {g : TG} {ys : List α} {X : Rl α} (f : α → List β) (m : Nat) (Sh : L2.St → Prop) (hm : ∀ y, y ∈ ys → (f y).length ≤ m) (n : l ∉ r.M) (hi : EvI r wi s S ys X) (w : Wd r S H) (a : AccS l Y zs S H) (hs : Sh s)
    (body : ∀ y v s' S' H' zs', y ∈ ys → X y v S' → Sh s' → Wd r S' H' → Ex S S' → AccS l Y zs' S' H' → zs'.length ≤ zs.length + ys.length * m → ∀ D' : Ends, (∀ s2 S2 H2, Sh s2 → Wd r S2 H2 → Stp (r.more [l]) S' H' S2 H2 → AccS l Y (zs' ++ f y) S2 H2 → D'.nx s2 H2) → g v s' H' fun s1 H1 => tu D' s1 H1)
    (k : ∀ s2 S2 H2, Sh s2 → Wd r S2 H2 → Stp (r.more [l]) S H S2 H2 → AccS l Y (zs ++ ys.flatMap f) S2 H2 → tz D s2 H2) : tSeq (tFor wi g tu) tz D s H := st_forA (D := { D with nx := tz D }) f m Sh hm n hi w a hs body k
/-- it is done: the list is stable from here on -/
theorem AccS.settle [Mono Y] (n : l ∉ r.M) (a : AccS l Y zs S H) (w : Wd r S H) {S0 H0 : Hp} (h0 : H0 l = none) (st : Stp (r.more [l]) S0 H0 S H) (st0 : Stp r S0 H0 S0 H0) : ∃ S1, Wd r S1 H ∧ Stp r S0 H0 S1 H ∧ LstR Y zs (.ref l) S1 := by
  obtain ⟨vs, h1, h2, h3⟩ := a
  refine ⟨L2.upd S l (.lst vs), w.settle h1 n, (Stp.drop st0 st fun b hb => by rw [List.mem_singleton.mp hb]; exact h0).settle h0 h2, l, vs, rfl, upd_same, h3.up (Ex.new h2)⟩
end
end J

/-! J47: comprehensions of two clauses. -/
namespace J
open PySem PySem.Spec PyProof.Rows L2 Evl RZ
/-- the inner walk of such a one: Pv by the turn and the heap (the list that is made at D within) -/
theorem lc_in {J : It} {n : Nat} {G : Hp → Prop} {Y : Nat → Hp → V → Hp → Prop} (w : Walk J n G Y) {g : TG} {tt : TT} {te : TE} {vs : List Nat} {σ : L2.St} {H0 : Hp} {D : Addr} {Qd : Hp → Prop} (Pv : Nat → Hp → Prop) (h0 : Pv 0 H0) (hG : ∀ i H, i ≤ n → Pv i H → G H)
    (hs : ∀ i x H H', i < n → Pv i H → Y i H x H' → g x (wipe σ vs) H' fun σ2 H2 => wipe σ2 vs = wipe σ vs ∧ tt σ2 H2 fun b H3 =>
      if b = true then te σ2 H3 fun y H4 => ∃ acc, H4 D = some (.lst acc) ∧ acc.length < sizeLine ∧ Pv (i + 1) (upd H4 D (.lst (acc ++ [y]))) else Pv (i + 1) H3) (hd : ∀ H, Pv n H → Qd H) :
    ∃ W : Nat → Nat → Hp → Prop, (∃ m, W 0 m H0) ∧ ∀ i m H, W i m H →
      (J.stop i H ∧ Qd H) ∨ (J.go i H ∧ ∃ Nx : Hp → Prop, (∀ H', Nx H' → ∃ m', m' < m ∧ W (i + 1) m' H') ∧ ∀ x H', J.yld i H x H' → g x (wipe σ vs) H' fun σ2 H2 => wipe σ2 vs = wipe σ vs ∧ tt σ2 H2 fun b H3 =>
        if b = true then te σ2 H3 fun y H4 => ∃ acc, H4 D = some (.lst acc) ∧ acc.length < sizeLine ∧ Nx (upd H4 D (.lst (acc ++ [y]))) else Nx H3) := by
  refine ⟨fun i m H => m = n - i ∧ i ≤ n ∧ Pv i H, ⟨n, by simp, Nat.zero_le _, h0⟩, ?_⟩
  rintro i m H ⟨rfl, hi, p⟩
  have q := hG i H hi p
  by_cases hlt : i < n
  · refine .inr ⟨w.goes i H hlt q, Pv (i + 1), fun H' p' => ⟨n - (i + 1), by omega, rfl, hlt, p'⟩, fun x H' y => hs i x H H' hlt p (w.yields i H x H' hlt q y)⟩
  · have e : i = n := by omega
    subst e
    exact .inl ⟨w.stops H q, hd H p⟩
section
variable {r : Rs} {s : L2.St} {S S' H : Hp} {te : TE} {tt tt1 : TT} {α β γ : Type}
/-- what such a one gives -/
def twoL (ys : List α) (zs : α → List γ) (f : α → Bool) (f1 : α → γ → Bool) (gf : α → γ → β) : List β := (ys.filter f).flatMap fun y => ((zs y).filter (f1 y)).map (gf y)
theorem two_take {ys : List α} {zs : α → List γ} {f : α → Bool} {f1 : α → γ → Bool} {gf : α → γ → β} {i : Nat} {y : α} (h : ys[i]? = some y) : twoL (ys.take (i + 1)) zs f f1 gf = twoL (ys.take i) zs f f1 gf ++ if f y = true then ((zs y).filter (f1 y)).map (gf y) else [] := by
  unfold twoL
  rw [List.take_add_one, h, Option.toList_some, List.filter_append, List.flatMap_append]
  congr 1
  by_cases e : f y = true
  · rw [if_pos e, List.filter_cons, if_pos e, List.filter_nil, List.flatMap_singleton]
  · rw [if_neg e, List.filter_cons, if_neg e, List.filter_nil, List.flatMap_nil]
theorem two_len {ys : List α} {zs : α → List γ} {f : α → Bool} {f1 : α → γ → Bool} {gf : α → γ → β} {m : Nat} (h : ∀ y, y ∈ ys → (zs y).length ≤ m) : (twoL ys zs f f1 gf).length ≤ ys.length * m := by
  refine Nat.le_trans (flat_len (m := m) fun y hy => ?_) (Nat.mul_le_mul_right _ (List.length_filter_le _ _))
  rw [List.length_map]
  exact Nat.le_trans (List.length_filter_le _ _) (h y (List.mem_filter.mp hy).1)
theorem en_lcc {wi wi1 : TI} {g g1 : TG} {vs vs1 : List Nat} {ys : List α} (zs : α → List γ) {X : Rl α} {X1 : Rl γ} (f : α → Bool) (f1 : α → γ → Bool) (gf : α → γ → β) {Yr : Rl β} [Mono Yr] (m : Nat) (hm : ∀ y, y ∈ ys → (zs y).length ≤ m) (hz : ys.length * m ≤ 100000) (hi : EvI r wi s S ys X)
    (hb : ∀ y v S1, Ex S S1 → y ∈ ys → X y v S1 → ∃ s2, wipe s2 vs = wipe s vs ∧ (∀ H k, Ex S1 H → k s2 H → g v (wipe s vs) H k) ∧ EvB r tt s2 S1 (f y) ∧ (f y = true → EvI r wi1 s2 S1 (zs y) X1 ∧
      ∀ z v1 S2, Ex S1 S2 → z ∈ zs y → X1 z v1 S2 → ∃ s3, wipe s3 vs1 = wipe s2 vs1 ∧ (∀ H k, Ex S2 H → k s3 H → g1 v1 (wipe s2 vs1) H k) ∧ EvB r tt1 s3 S2 (f1 y z) ∧ (f1 y z = true → EvS r te s3 S2 fun u S3 => Yr (gf y z) u S3))) :
    EvN r (tLc2 wi g tt wi1 g1 tt1 te vs vs1) s S fun o S1 => ∃ ws, o = .lst ws ∧ All2 Yr S1 (twoL ys zs f f1 gf) ws := fun S1 H a w Q q =>
  hi S1 H a w _ fun J S2 H2 G Y w2 s2 wk hG hY D hD => by
    have hM : D ∉ r.M := w2.notM hD
    have ht : ∀ i, (twoL (ys.take i) zs f f1 gf).length ≤ 100000 := fun i => Nat.le_trans (two_len (m := m) fun y hy => hm y (List.mem_of_mem_take hy)) (Nat.le_trans (Nat.mul_le_mul_right _ (by rw [List.length_take]; omega)) hz)
    have main : ∃ W : Nat → Nat → Hp → Prop, (∃ m, W 0 m (upd H2 D (.lst []))) ∧ ∀ i m H, W i m H →
        (J.stop i H ∧ Q (.ref D) H) ∨ (J.go i H ∧ ∃ Nx : Hp → Prop, (∀ H', Nx H' → ∃ m', m' < m ∧ W (i + 1) m' H') ∧ ∀ x H', J.yld i H x H' → g x (wipe s vs) H' fun σ2 H2 => wipe σ2 vs = wipe s vs ∧ tt σ2 H2 fun b H3 =>
          if b = true then wi1 σ2 H3 fun J1 H4 => ∃ W1 : Nat → Nat → Hp → Prop, (∃ m, W1 0 m H4) ∧ ∀ j k H, W1 j k H →
            (J1.stop j H ∧ Nx H) ∨ (J1.go j H ∧ ∃ Nx1 : Hp → Prop, (∀ H', Nx1 H' → ∃ k', k' < k ∧ W1 (j + 1) k' H') ∧ ∀ x H', J1.yld j H x H' → g1 x (wipe σ2 vs1) H' fun σ3 H5 => wipe σ3 vs1 = wipe σ2 vs1 ∧ tt1 σ3 H5 fun b H6 =>
              if b = true then te σ3 H6 fun y H7 => ∃ acc, H7 D = some (.lst acc) ∧ acc.length < sizeLine ∧ Nx1 (upd H7 D (.lst (acc ++ [y]))) else Nx1 H6)
          else Nx H3) := by
      let Pv : Nat → Hp → Prop := fun i H' => ∃ S' ws, Wd r S' H' ∧ Stp r S2 H2 S' H' ∧ S' D = none ∧ H' D = some (.lst ws) ∧ All2 Yr S' (twoL (ys.take i) zs f f1 gf) ws
      refine ⟨fun i m H => m = ys.length - i ∧ i ≤ ys.length ∧ Pv i H, ⟨ys.length, by simp, Nat.zero_le _, S2, [], w2.new hD, Stp.new hD, w2.fresh hD, upd_same, .nil⟩, ?_⟩
      rintro i mm H' ⟨rfl, hi', p⟩
      obtain ⟨S', ws, w', s', n', l', a'⟩ := p
      have q' := hG S' H' s'.ex w'
      by_cases hlt : i < ys.length
      · refine .inr ⟨wk.goes i H' hlt q', Pv (i + 1), fun H'' p' => ⟨ys.length - (i + 1), by omega, rfl, hlt, p'⟩, fun v H'' y' => ?_⟩
        obtain ⟨S3, y, gy, w3, s3, x3⟩ := hY i S' H' v H'' hlt s'.ex w' (wk.yields i H' v H'' hlt q' y')
        have e3 : Ex S S3 := a.trans (s2.ex.trans (s'.ex.trans s3.ex))
        obtain ⟨sg, hw, hg, hbt, hbe⟩ := hb y v S3 e3 (List.mem_of_getElem? gy) x3
        have l3 : H'' D = some (.lst ws) := s3.kp D _ hM l'
        have n3 : S3 D = none := s3.fr D (ne_none l') n'
        refine hg H'' _ w3.ex ⟨hw, hbt S3 H'' (Ex.refl _) w3 _ fun b S4 H4 w4 s4 eb => ?_⟩
        subst eb
        have l4 : H4 D = some (.lst ws) := s4.kp D _ hM l3
        have n4 : S4 D = none := s4.fr D (ne_none l3) n3
        have s24 : Stp r S2 H2 S4 H4 := s'.trans (s3.trans s4)
        have a4 : All2 Yr S4 (twoL (ys.take i) zs f f1 gf) ws := a'.up (s3.ex.trans s4.ex)
        have et := two_take (zs := zs) (f := f) (f1 := f1) (gf := gf) gy
        cases hf : f y with
        | false =>
          refine iteF ⟨S4, ws, w4, s24, n4, l4, ?_⟩
          rw [et, hf, if_neg (by decide), List.append_nil]
          exact a4
        | true =>
          rw [hf, if_pos rfl] at et
          obtain ⟨hi1, hb1⟩ := hbe hf
          refine iteT (hi1 S4 H4 s4.ex w4 _ fun J1 S5 H5 G1 Y1 w5 s5 wk1 hG1 hY1 => ?_)
          refine lc_in wk1 (fun j Hj => ∃ S' ws, Wd r S' Hj ∧ Ex S5 S' ∧ Stp r S2 H2 S' Hj ∧ S' D = none ∧ Hj D = some (.lst ws) ∧ All2 Yr S' (twoL (ys.take i) zs f f1 gf ++ (((zs y).take j).filter (f1 y)).map (gf y)) ws) ⟨S5, ws, w5, Ex.refl _, s24.trans s5, s5.fr D (ne_none l4) n4, s5.kp D _ hM l4, by
            rw [List.take_zero, List.filter_nil, List.map_nil, List.append_nil]
            exact a4.up s5.ex⟩ (fun j Hj _ ⟨S', ws, w', e', _⟩ => hG1 S' Hj e' w') ?_ ?_
          · rintro j v1 Hj Hj' hltj ⟨Sj, wsj, wj, ej, sj, nj, lj, aj⟩ yj
            obtain ⟨S6, z, gz, w6, s6, x6⟩ := hY1 j Sj Hj v1 Hj' hltj ej wj yj
            obtain ⟨sz, hwz, hgz, hbz, hez⟩ := hb1 z v1 S6 (s4.ex.trans (s5.ex.trans (ej.trans s6.ex))) (List.mem_of_getElem? gz) x6
            have l6 : Hj' D = some (.lst wsj) := s6.kp D _ hM lj
            have n6 : S6 D = none := s6.fr D (ne_none lj) nj
            have ez : (zs y).take (j + 1) = (zs y).take j ++ [z] := by rw [List.take_add_one, gz]; rfl
            refine hgz Hj' _ w6.ex ⟨hwz, hbz S6 Hj' (Ex.refl _) w6 _ fun b S7 H7 w7 s7 eb => ?_⟩
            subst eb
            have l7 : H7 D = some (.lst wsj) := s7.kp D _ hM l6
            have n7 : S7 D = none := s7.fr D (ne_none l6) n6
            have s27 : Stp r S2 H2 S7 H7 := sj.trans (s6.trans s7)
            have a7 := aj.up (s6.ex.trans s7.ex)
            have e57 := ej.trans (s6.ex.trans s7.ex)
            cases hf1 : f1 y z with
            | true =>
              refine iteT (hez hf1 S7 H7 s7.ex w7 _ fun u S8 H8 w8 s8 y8 => ⟨wsj, s8.kp D _ hM l7, ?_, S8, wsj ++ [u], w8.mut (s8.fr D (ne_none l7) n7) hM (nco_lst (s8.kp D _ hM l7)), e57.trans s8.ex, (s27.trans s8).mut hD, s8.fr D (ne_none l7) n7, upd_same, ?_⟩)
              · have h1 := a7.len
                have h2 : (twoL (ys.take i) zs f f1 gf).length ≤ i * m := by
                  refine Nat.le_trans (two_len (m := m) fun y hy => hm y (List.mem_of_mem_take hy)) (Nat.mul_le_mul_right _ ?_)
                  rw [List.length_take]
                  omega
                have h3 := List.length_filter_le (f1 y) ((zs y).take j)
                rw [List.length_append, List.length_map] at h1
                rw [List.length_take] at h3
                have h4 := hm y (List.mem_of_getElem? gy)
                have h5 : (i + 1) * m ≤ ys.length * m := Nat.mul_le_mul_right _ hlt
                rw [Nat.succ_mul] at h5
                exact sz_lt (by omega)
              · rw [ez, List.filter_append, List.map_append, List.filter_cons, if_pos hf1, ← List.append_assoc]
                exact (a7.up s8.ex).append (.cons y8 .nil)
            | false =>
              refine iteF ⟨S7, wsj, w7, e57, s27, n7, l7, ?_⟩
              rw [ez, List.filter_append, List.map_append, List.filter_cons, if_neg (by rw [hf1]; decide), ← List.append_assoc]
              show All2 Yr S7 (_ ++ []) wsj
              rw [List.append_nil]
              exact a7
          · rintro Hj ⟨Sj, wsj, wj, ej, sj, nj, lj, aj⟩
            rw [List.take_length, ← et] at aj
            exact ⟨Sj, wsj, wj, sj, nj, lj, aj⟩
      · have e : i = ys.length := by omega
        subst e
        rw [List.take_length] at a'
        have h1 : H D = none := by
          cases e : H D with
          | none => rfl
          | some ob => exact absurd hD (s2.dm D (ne_none e))
        exact .inl ⟨wk.stops H' q', q D _ S' H' h1 l' n' w' (s2.trans s') ⟨ws, rfl, a'⟩⟩
    exact main
end
end J

/-! J48: a def that hands the lambda that it got on to another one; sorted ints, any number of them. -/
namespace J
open PySem PySem.Spec PyProof.Rows L2 Evl LamX
/-! ### heaps behind two calls -/
theorem un_two {fs fs' : List Addr} {H H1 H2 : Hp} {h h1 h2 : Heap} (a : Un fs [] H H1 h h1) (b : Un fs' [] H1 H2 h1 h2) (k : ∀ x o, h.get? x = some o → x ∈ fs' → x ∈ fs) : Un fs [] H H2 h h2 where
  keep := fun c ob q n hc hx => b.keep c ob (a.keep c ob q n hc hx) (a.free c ob q n hx) (fun z => hc (k c ob q z)) hx
  slot := fun c ob q n hc hx => by
    obtain ⟨sl, e1⟩ := a.slot c ob q n hc hx
    obtain ⟨sl', e2⟩ := b.any e1 (a.free c ob q n hx) hx
    exact ⟨sl', e2⟩
  free := fun c ob q n hx => by
    obtain ⟨o', e1⟩ := a.there c ob q hx
    exact b.free c o' e1 (a.free c ob q n hx) hx
  there := fun c ob q hx => by
    obtain ⟨o', e1⟩ := a.there c ob q hx
    exact b.there c o' e1 hx
  tups := fun c xs q => b.tups c xs (a.tups c xs q)
  frzs := fun c ob xs q => b.frzs c ob xs (a.frzs c ob xs q)
  tbls := fun c ps q => by
    obtain ⟨m1, e1⟩ := a.tbls c ps q
    obtain ⟨m2, e2⟩ := b.tbls c _ e1
    exact ⟨m1 ++ m2, by rw [e2, Array.append_assoc]⟩
/-- the def g gets the lambda as its only argument, and may hand it on: TT, of the lambda's reading -/
def GivesK (X : Cx) (k : Nat) (N : List Str) (x : Str) (sg : Scope) (g : Addr) (cdg : Value) (bg : List Stmt) (q : Str) (TT : (XK → Hp → VK → Prop) → Hp → VK → Prop) : Prop :=
  ∀ (f c : Addr) (s : Shared) (H : Hp) (Q : VK) (tl : XK → Hp → VK → Prop), Room (k + 2) (X.A.deeper (envOfC x sg s.heap.objs.size g cdg)) →
    (∀ (pins1 : List (Addr × Obj)) (σ1 : L2.St) (H1 : Hp) (s1 : Shared), Inv (cxG X N x sg g cdg s H).nox pins1 σ1 H1 s1 → ∀ (N2 : List Str) (x2 a2 : Str) (sg2 : Scope) (g2 : Addr) (cdg2 : Value), N2[0]? = some a2 → Vis sg2 a2 → (a2 == ("__debug__" : Str)) = false → (a2 == ("__classdict__" : Str)) = false →
      Room (k + 1) ((cxG X N x sg g cdg s H).nox.A.deeper (envOfC x2 sg2 s1.heap.objs.size g2 cdg2)) →
      ∀ (W : WX) (pn : List (Addr × Obj)) (xe : Value → Shared → Prop) (E : XK) (p1 p2 : Pos), L2N.Takes ((cxG (cxG X N x sg g cdg s H).nox N2 x2 sg2 g2 cdg2 s1 H1).tr pn xe) W → (∀ cls d σ' H', E cls d H' → W cls d σ' H') →
        PE ((cxG (cxG X N x sg g cdg s H).nox N2 x2 sg2 g2 cdg2 s1 H1).tr pn xe) (.Call (.Name a2 p1) [] [] p2) (fun σ2 H2 Q2 => σ2[0]? = some (some (.ref f)) ∧ H2 c = some (CodeO c q) ∧ tl E H2 Q2)) →
    H c = some (CodeO c q) → TT tl H Q → ∃ t, PSs (cxG X N x sg g cdg s H).nox bg t ∧ t { nx := fun _ H' => Q .non H', rt := Q } (L2.start N [.ref f]) H
section
variable {X : Cx} {pins : List (Addr × Obj)} {σ : L2.St} {H : Hp} {s : Shared}
/-- the lambda called in the second def -/
theorem pe_actK {N1 N : List Str} {q1 qg a : Str} {sg1 sg : Scope} {g1 g f c : Addr} {cd1 cdg pm ctv : Value} {params : Arguments} {body : Expr} {sc : Scope} {k : Nat} {pins1 pn : List (Addr × Obj)} {σ1 : L2.St} {H1 : Hp} {s1 : Shared} {xe : Value → Shared → Prop} {W : WX} {E : XK} {tb : TE} {p1 p2 : Pos}
    (I : Inv X pins σ H s) (L : LamS X.env.scope sc) (hf : s.heap.get? f = some (PySem.W.kla_obj "<lambda>" (X.env.qual ++ "<lambda>") params body sc (cloFrom X.env.cells sc.names []) pm c ctv)) (nf : H f = none) (ns : f ∉ frs X.stack)
    (hbind : bindArgs (PySem.W.kla_fn "<lambda>" (X.env.qual ++ "<lambda>") params body sc (cloFrom X.env.cells sc.names []) pm (.ref c) ctv) ⟨[], []⟩ = pure [])
    (I1 : Inv (cxG X N1 q1 sg1 g1 cd1 s H).nox pins1 σ1 H1 s1)
    (tk : L2N.Takes ((cxG (cxG X N1 q1 sg1 g1 cd1 s H).nox N qg sg g cdg s1 H1).tr pn xe) W) (hW : ∀ cls d σ' H', E cls d H' → W cls d σ' H') (hr : Room (k + 1) ((cxG X N1 q1 sg1 g1 cd1 s H).nox.A.deeper (envOfC qg sg s1.heap.objs.size g cdg)))
    (hbody : ∀ (A : Around) (outer : List Env) (s : Shared) (H : Hp), Room k (A.deeper (lamEnv X sc s.heap.objs.size f c)) → PE (lamN X A outer s H E sc f c) body tb)
    (hN : N[0]? = some a) (hv : Vis sg a) (hd : (a == ("__debug__" : Str)) = false) (hcd : (a == ("__classdict__" : Str)) = false) :
    PE ((cxG (cxG X N1 q1 sg1 g1 cd1 s H).nox N qg sg g cdg s1 H1).tr pn xe) (.Call (.Name a p1) [] [] p2) (fun σ2 H2 Q => σ2[0]? = some (some (.ref f)) ∧ H2 c = some (CodeO c (X.env.qual ++ "<lambda>")) ∧ tb σ H2 Q) := by
  have un1 : Un (frs X.stack) [] H H1 s.heap s1.heap := I1.base
  have of1 := un1.keep f _ hf nf ns (fun z => nomatch (show f ∈ ([] : List Addr) from z))
  have nf1 : H1 f = none := un1.free f _ hf nf (fun z => nomatch (show f ∈ ([] : List Addr) from z))
  have hfs : ∀ x o, s.heap.get? x = some o → x ∈ frs (cxG X N1 q1 sg1 g1 cd1 s H).nox.stack → x ∈ frs X.stack := fun x o e z => by
    have z' : x ∈ frs (envOfC q1 sg1 s.heap.objs.size g1 cd1 :: X.stack) := z
    unfold frs at z' ⊢
    rw [List.filterMap_cons] at z'
    split at z'
    · exact z'
    · rename_i b hb
      rcases List.mem_cons.mp z' with rfl | z'
      · have : (envOfC q1 sg1 s.heap.objs.size g1 cd1).frame = some s.heap.objs.size := rfl
        rw [this] at hb
        cases hb
        exact absurd (Heap.lt_size e) (Nat.lt_irrefl _)
      · exact z'
  have ns1 : f ∉ frs (cxG X N1 q1 sg1 g1 cd1 s H).nox.stack := fun z => ns (hfs f _ hf z)
  refine ⟨fun pinsZ s2 σ2 H2 Q I2 ⟨e1, e2, ht⟩ => ?_⟩
  refine wpAny_Call_Name_kw (thn ((pe_var (pos := p1) (i := 0) hN hv hd hcd).run pinsZ s2 σ2 H2 (fun v H3 => v = .ref f ∧ H3 = H2) I2 ⟨.ref f, e1, rfl, rfl⟩) fun u s3 ⟨v, H3, I3, rv, ev, eH⟩ => ?_)
  subst ev
  subst eH
  obtain rfl : u = Value.ref f := rv
  have of2 := I3.base.keep f _ of1 nf1 ns1 (fun z => nomatch (show f ∈ ([] : List Addr) from z))
  have un2 : Un (frs (cxG X N1 q1 sg1 g1 cd1 s H).nox.stack) [] H1 H3 s1.heap s3.heap := I3.base
  have un : Un (frs X.stack) [] H H3 s.heap s3.heap := un_two un1 un2 hfs
  have e0 : Env0 X.prog X.w X.K X.mg X.base ((cxG X N1 q1 sg1 g1 cd1 s H).nox.A.deeper (envOfC qg sg s1.heap.objs.size g cdg)) (envOfC qg sg s1.heap.objs.size g cdg :: (cxG X N1 q1 sg1 g1 cd1 s H).nox.stack) s3 H3 := I3.env0
  have rc : codeAny (model X.prog X.w) ((cxG X N1 q1 sg1 g1 cd1 s H).nox.A.deeper (envOfC qg sg s1.heap.objs.size g cdg)) (.call (.ref f) ⟨[], []⟩) (CR (L2N.CX X.prog X.w) (envOfC qg sg s1.heap.objs.size g cdg :: (cxG X N1 q1 sg1 g1 cd1 s H).nox.stack) X.prog X.w H3 s3 Q E) s3 :=
    lamN_go (X := X) (tb := tb) I L e0 un I3.nolimit of2 e2 hbind hr (hbody _ _ s3 H3) ht
  refine PySem.W.callWith_F0 ⟨_, _, _, _, of2⟩ (wpAny_call (codeAny_mono rc fun res s4 hq => ?_))
  match res, hq with
  | .error e, z => exact L2N.passes_call tk hW pinsZ σ2 H3 s3 e s4 I3 z
  | .ok (.ret _), z => exact I3.after z
  | .ok .next, z => exact z.elim
  | .ok .brk, z => exact z.elim
  | .ok .cont, z => exact z.elim
/-- x(lambda: body), x hands it on -/
theorem pe_lamK {T : List (Addr × Str)} {TT : (XK → Hp → VK → Prop) → Hp → VK → Prop} {x a : Str} {g c P : Addr} {k : Nat} {st : Stmt} {fd : FuncData} {N : List Str} {params : Arguments} {body : Expr} {sc : Scope} {t : XK → TE} {p lpos pos : Pos}
    (F : Fun X.K x x st g fd) (hb : L2.Binds X.K fd [a] []) (Sg : FnScope N [a] (defScope st)) (hG : ∀ cdg, GivesK X k N x (defScope st) g cdg (defBody st) (X.env.qual ++ "<lambda>") TT) (hr : Room (k + 3) X.A) (hg : Gl X x) (hm : X.mg x = some (.ref g))
    (TB : TabB X.base X.mg c P) (hcode : X.env.code = .ref c) (hT : (P, X.env.qual ++ "<lambda>") ∈ T) (hu : ∀ y ∈ T, y.1 = P → y.2 = X.env.qual ++ "<lambda>") (L : LamS X.env.scope sc)
    (hbody : ∀ (A : Around) (outer : List Env) (s : Shared) (H : Hp) (E : XK) (f c' : Addr), Room k (A.deeper (lamEnv X sc s.heap.objs.size f c')) → PE (lamN X A outer s H E sc f c') body (t E))
    (hbind : ∀ (q : Str) (cl : List (Str × Addr)) (pm cv ctv : Value), bindArgs (PySem.W.kla_fn "<lambda>" q params body sc cl pm cv ctv) ⟨[], []⟩ = pure [] := by exact fun _ _ _ _ _ => rfl) (hdef : defaultsOf params X.env = ([], []) := by rfl)
    (hdb : (x == ("__debug__" : Str)) = false := by decide) :
    PE X (.Call (.Name x p) [.Lambda params body sc lpos] [] pos) (tLm P T TT t) := by
  have kp := F.kp
  obtain ⟨oc, od, kV, doc, pm0, an, cdv, ct, osl, e, lk, hcg⟩ := F.ex
  subst e
  refine ⟨fun pins s σ H Q I ⟨hTs, h⟩ => wpAny_Call_Name_kw (ld_glob I hg hm ?_ hdb)⟩
  refine PySem.W.callWith_K (h₀ := X.base) I.ok.mod.kin kp ?_ (by rfl) (by rfl)
  show wpAny _ _ (spliced ((false, eval (.Lambda params body sc lpos) X.env) :: backTo pos (starEach [] X.env))) _ _ s
  refine Calls.spliced_cons (lam_mk I TB hcode hT hu hTs hdef (L.has I.ok) fun f c' pm ctv H1 s1 I1 eN T1 hf nf ns hco => Calls.spliced_nil ⟨I1.kIn, ?_⟩)
  have run : codeAny (model X.prog X.w) X.A (.call (.ref g) ⟨[.ref f], []⟩) (CR CX0 X.stack X.prog X.w H1 s1 Q E0) s1 :=
    run_ofS (N := N) (ps := [a]) (us := [.ref f]) (vs := [.ref f]) lk hcg Sg hr I1.env0 (hb s1 [.ref f] I1.kIn rfl) (.cons rfl .nil) rfl fun hr1 => by
      obtain ⟨t', ht', hq'⟩ := hG cdv f c' s1 H1 Q (fun E H' Q' => t E σ H' Q') hr1 (fun pins1 σ1 H2 s2 I2 N2 x2 a2 sg2 g2 cdg2 b1 b2 b3 b4 hr2 W pn xe E p1 p2 tk hW => pe_actK (a := a2) I1 L hf nf ns (hbind _ _ _ _ _) I2 tk hW hr2 (fun A outer s H hr3 => hbody A outer s H E f c' hr3) b1 b2 b3 b4) hco (h H1 eN T1)
      exact ⟨t', ht'.nox, hq'⟩
  refine wpAny_call (codeAny_mono run fun res s2 hq => ?_)
  match res, hq with
  | .error _, z => exact z.elim
  | .ok (.ret _), z => exact I1.after z
  | .ok .next, z => exact z.elim
  | .ok .brk, z => exact z.elim
  | .ok .cont, z => exact z.elim
end
section
variable {Y : Cx}
/-- x(e), e the lambda f, which x calls -/
theorem pe_passK {TT : (XK → Hp → VK → Prop) → Hp → VK → Prop} {tl : XK → Hp → VK → Prop} {x a q : Str} {g f c : Addr} {k : Nat} {st : Stmt} {fd : FuncData} {N : List Str} {e : Expr} {p pos : Pos}
    (F : Fun Y.K x x st g fd) (hb : L2.Binds Y.K fd [a] []) (Sg : FnScope N [a] (defScope st)) (hG : ∀ cdg, Gives Y (k + 1) N x a (defScope st) g cdg (defBody st) q TT) (hr : Room (k + 2) Y.A) (hg : Gl Y x) (hm : Y.mg x = some (.ref g)) (ha : PA Y [e] (tCons (tVar 0) tNil))
    (act : ∀ (pins1 : List (Addr × Obj)) (σ1 : L2.St) (H1 : Hp) (s1 : Shared), Inv Y pins1 σ1 H1 s1 → ∀ (cdg : Value), Room (k + 1) (Y.A.deeper (envOfC x (defScope st) s1.heap.objs.size g cdg)) →
      ∀ (W : WX) (pn : List (Addr × Obj)) (xe : Value → Shared → Prop) (E : XK) (p1 p2 : Pos), L2N.Takes ((cxG Y N x (defScope st) g cdg s1 H1).tr pn xe) W → (∀ cls d σ' H', E cls d H' → W cls d σ' H') →
        PE ((cxG Y N x (defScope st) g cdg s1 H1).tr pn xe) (.Call (.Name a p1) [] [] p2) (fun σ2 H2 Q2 => σ2[0]? = some (some (.ref f)) ∧ H2 c = some (CodeO c q) ∧ tl E H2 Q2))
    (e1 : starEach [e] Y.env = (false, eval e Y.env) :: starEach [] Y.env := by rfl) (e2 : (backTo pos (starEach [] Y.env)).any (·.1) = false := by rfl) (hdb : (x == ("__debug__" : Str)) = false := by decide) :
    PE Y (.Call (.Name x p) [e] [] pos) (fun σ H Q => σ[0]? = some (some (.ref f)) ∧ H c = some (CodeO c q) ∧ TT tl H Q) := by
  have kp := F.kp
  obtain ⟨oc, od, kV, doc, pm0, an, cdv, ct, osl, eq, lk, hcg⟩ := F.ex
  subst eq
  refine ⟨fun pins s σ H Q I ⟨h0, hc, h⟩ => wpAny_Call_Name_kw (ld_glob I hg hm ?_ hdb)⟩
  refine PySem.W.callWith_K (h₀ := Y.base) I.ok.mod.kin kp (thn (ha.run pos pins s σ H (fun vs H' => vs = [V.ref f] ∧ H' = H) I ⟨.ref f, h0, rfl, rfl⟩) fun us s1 ⟨vs, H1, I1, r, ev, eH⟩ => ⟨I1.kIn, ?_⟩) e1 e2
  subst ev
  subst eH
  obtain ⟨u, rfl, ru⟩ := r.one
  obtain rfl : u = Value.ref f := ru
  have run : codeAny (model Y.prog Y.w) Y.A (.call (.ref g) ⟨[.ref f], []⟩) (CR CX0 Y.stack Y.prog Y.w H1 s1 Q E0) s1 :=
    run_ofS (N := N) (ps := [a]) (us := [.ref f]) (vs := [.ref f]) lk hcg Sg hr I1.env0 (hb s1 [.ref f] I1.kIn rfl) (.cons rfl .nil) rfl fun hr1 => by
      obtain ⟨t', ht', hq'⟩ := hG cdv f c s1 H1 Q tl hr1 (fun W pn xe E p1 p2 tk hW => act pins σ H1 s1 I1 cdv hr1 W pn xe E p1 p2 tk hW) hc h
      exact ⟨t', ht'.nox, hq'⟩
  refine wpAny_call (codeAny_mono run fun res s2 hq => ?_)
  match res, hq with
  | .error _, z => exact z.elim
  | .ok (.ret _), z => exact I1.after z
  | .ok .next, z => exact z.elim
  | .ok .brk, z => exact z.elim
  | .ok .cont, z => exact z.elim
end
/-- found = g(call): 'none' if found is None else found[0] -/
def kRest (K : PySem.W.Frag) (f : Addr) (Q : VK) (v : V) (H : Hp) : Prop := (tRet (tIf (tTest (tOp rIsU (tVar 1) (tC .non))) (tC (.str ("none" : Str))) (tOp (rIx K) (tVar 1) (tC (.int 0))))) { nx := fun _ H' => Q .non H', rt := Q } [some (.ref f), some v] H
def TTk (K : PySem.W.Frag) (kd : Addr → Str → Prop) : (XK → Hp → VK → Prop) → Hp → VK → Prop := fun tl H Q => ∀ f : Addr, TTw K kd tl H (kRest K f Q)
section
variable {K : PySem.W.Frag} {r : Rs} {T : List (Addr × Str)} {S : Hp} {s : L2.St} {R : V → Hp → Prop} {kd : Addr → Str → Prop} {P : Addr} {q : Str} {t : XK → TE}
theorem ev_kindE [Rs.Plain r] {C : Addr} {z : Str} {D : PyData} (hP : (P, q) ∈ T) (h : ∀ E, EvX E C "value" (r.tabs T) (t E) s S R) (hC : kd C z) (hd : ∀ v S1, Ex S S1 → R v S1 → DE K S1 v D) (hs : Shw D) : EvV (r.tabs T) (tLm P T (TTk K kd) t) s S (.str z) :=
  ev_lam hP fun S1 H1 e w Q q f => h _ S1 H1 e w (fun d v S2 H2 w2 s2 hv hd2 => ⟨C, d, v, D, z, S2, rfl, rfl, hC, w2.ex, hd2, hd v S2 (e.trans s2.ex) hv, hs, fun u S3 H3 w3 s3 ⟨l, ws, eu, hl, hws⟩ => by
    subst eu
    have e3 := hws.strs
    subst e3
    have w3' : Wd (r.tabs T) S3 H3 := w2.lift w3 s3
    refine st_ret (R := fun v _ => v = .str z) (ev_if (b := false) (tb_test ((vv_op (vv_var rfl) vv_c rs_isN').is rfl)) (fun c => nomatch c) fun _ => vv_op (vv_var rfl) vv_c (rs_ixL' (SqL.of hl) (atI_nat (j := 0) rfl))) w3' fun v S4 H4 w4 s4 ev => q v S4 H4 w4 ((s2.trans s3.lift).trans s4) ev⟩) _
theorem ev_kind [Rs.Plain r] {C : Addr} {z : Str} {D : PyData} (hP : (P, q) ∈ T) (h : ∀ E, EvX E C "value" (r.tabs T) (t E) s S R) (hC : kd C z) (hd : ∀ v S1, Ex S S1 → R v S1 → Dp K S1 v D) (hs : Shw D) : EvV (r.tabs T) (tLm P T (TTk K kd) t) s S (.str z) :=
  ev_kindE hP h hC (fun v S1 e p => .inl (hd v S1 e p)) hs
end
instance {p c : Addr} : Rs.Plain (poolR p c) := by
  refine ⟨fun H h a ha => ?_, fun H h a ha ps z => ?_⟩ <;> obtain ⟨cs, pos, cnt, seed, k, h⟩ := h <;> have ha : a ∈ [p, c] := ha <;> rcases List.mem_cons.mp ha with rfl | ha
  · exact nco_lst h.hp
  · rw [List.mem_singleton.mp ha]
    exact nco_lst h.hc
  · rw [h.hp] at z
    cases z
  · rw [List.mem_singleton.mp ha, h.hc] at z
    cases z
/-- the pool beside the tables -/
theorem Wd.beginP {T : List (Addr × Str)} {p c : Addr} {S1 H1 H : Hp} (t : ∀ y ∈ T, H y.1 = some (.tbl #[])) (w : Wd (poolR p c) S1 H1) (s : Stp Rs.nil (offT T H) H S1 H1) : Wd ((poolR p c).tabs T) S1 H1 := by
  have kp : ∀ b o, H b = some o → H1 b = some o := fun b o e => s.kp b o (fun z => by cases z) e
  refine ⟨w.ex, ⟨w.inv, (tabs_nil t).ext kp⟩, fun b hb => ?_⟩
  rcases List.mem_append.mp hb with hb | hb
  · obtain ⟨y, hy, rfl⟩ := List.mem_map.mp hb
    exact s.fr _ (ne_none (t y hy)) (if_pos hb)
  · exact w.dj b hb
/-- a callee that raises nothing of what is told -/
theorem passF {P : Program} {w : World} {X : Cx} : Passes (L2N.CX P w) X E0 := fun _ _ _ _ _ _ _ ⟨_, _, _, _, _, _, _, _, _, _, _, _, h⟩ => h.elim
/-! ### sorted -/
def rSortedV (K : PySem.W.Frag) : List V → Hp → VK → Prop := fun xs H Q => rSortedU K xs H Q ∨ rSortedI K xs H Q
theorem call_sortedVK {X : Cx} {K : PySem.W.Frag} (hK : X.K = K := by rfl) : CallR X (.builtin "sorted") (rSortedV K) := by
  subst hK
  exact CallR.or call_sortedU cr_sortedI
theorem en_sortedV {K : PySem.W.Frag} {r : Rs} {s : L2.St} {S : Hp} {ta : TE} {ns : List Int} (h : EvS r ta s S fun v S1 => LstR IntR ns v S1) : EvN r (tCB (rSortedV K) (tCons ta tNil)) s S fun o S1 => ∃ ms : List Int, o = .lst (ms.map V.int) ∧ ms.Perm ns ∧ ms.Pairwise (· ≤ ·) :=
  en_cb (ea_one h) fun vs S1 e ⟨v, ev, a, ws, ea, h1, h2⟩ H eH Q q => by
    subst ev
    subst ea
    have e2 := h2.ints
    subst e2
    exact .inr ⟨a, ns, rfl, SqL.of (eH _ _ h1), fun ns' p hp hs hn => q p _ hn ⟨ns', rfl, hp, hs⟩⟩
end J

/-! J49: a call of a def that a name holds. -/
namespace J
open PySem PySem.Spec PyProof.Rows L2 Evl RZ
/-- the name at slot i holds the def f -/
def tCallV (i : Nat) (f : Addr) (te : TE) : TE := fun σ H Q => σ[i]? = some (some (.ref f)) ∧ te σ H Q
section
variable {X : Cx} {CX : CXT} {k i : Nat} {f : Addr} {fd : FuncData} {ps : List Str} {sp : Sp} {E : XK} {y : Str} {e : Expr} {es : List Expr} {t : TA} {p pos : Pos}
theorem pe_callV (hv : PE X (.Name y p) (tVar i)) (F : FnOk X.prog X.w X.K X.mg X.base CX k f fd ps sp) (hr : Room k X.A) (kp : PySem.W.keepIn X.K (.ref f) = true) (hb : Binds X.K fd ps []) (hx : Passes CX X E) (ha : PA X (e :: es) t)
    (e1 : starEach (e :: es) X.env = (false, eval e X.env) :: starEach es X.env := by rfl) (e2 : (backTo pos (starEach es X.env)).any (·.1) = false := by rfl) : PE X (.Call (.Name y p) (e :: es) [] pos) (tCallV i f (tCall sp [] E t)) := by
  refine ⟨fun pins s σ H Q I ⟨h0, h⟩ => ?_⟩
  refine wpAny_Call_Name_kw (thn (hv.run pins s σ H (fun v H1 => v = .ref f ∧ H1 = H) I ⟨.ref f, h0, rfl, rfl⟩) fun u s1 ⟨v, H1, I1, rv, ev, eH⟩ => ?_)
  subst ev
  subst eH
  obtain rfl : u = Value.ref f := rv
  exact PySem.W.callWith_K (h₀ := X.base) I1.ok.mod.kin kp (thn (ha.run pos pins s1 σ H1 _ I1 h) fun us s2 ⟨vs, H2, I2, r, q⟩ => ⟨I2.kIn, run_fn F hr hb .nil hx I2 r q⟩) e1 e2
end
section
variable {r : Rs} {s : L2.St} {S : Hp} {te : TE} {R : V → Hp → Prop} {E : XK} {C f : Addr} {fld : Str} {i : Nat}
theorem ev_callV (h : s[i]? = some (some (.ref f))) (k : EvS r te s S R) : EvS r (tCallV i f te) s S R := fun S1 H e w Q q => ⟨h, k S1 H e w Q q⟩
theorem ex_callV (h : s[i]? = some (some (.ref f))) (k : EvX E C fld r te s S R) : EvX E C fld r (tCallV i f te) s S R := fun S1 H e w kk Q => ⟨h, k S1 H e w kk Q⟩
end
end J

/-! J50: the last pair of a list of pairs is changed, or a new one appended. -/
namespace J
open PySem PySem.Spec PyProof.Rows L2 Evl RZ
section
variable {r : Rs} {s : L2.St} {S S' H : Hp} {ta tb te ti t1 t2 t3 : TE} {tt : TT} {v : V} {K : PySem.W.Frag} {D : Ends} {l : Addr} {c : HO} {tu tz : TS}
/-- l[i] = e, e reckoned with l's own items: a new object that is known -/
theorem st_setN {xs : List V} {i : Int} {j : Nat} (n : l ∉ r.M) (hv : EvN r te s (upd S l (.lst xs)) fun ob _ => ob = c) (ho : ∀ S1, EvV r ta s S1 (.ref l)) (hi : ∀ S1, EvV r ti s S1 (.int i)) (w : Wd r S H) (hl : H l = some (.lst xs)) (sl : S l = none) (hj : ixN xs.length i = some j)
    (k : ∀ p S1 H1, Wd r S1 H1 → Stp (r.more [l]) S H S1 H1 → S1 l = none → H1 l = some (.lst (xs.set j (.ref p))) → S1 p = some c → D.nx s H1) : tAsg te (gSub ta ti rSetL) D s H :=
  borrowN hv w hl n sl fun p S1 H1 p0 p1 p2 w1 s1 n1 => by
    have np : p ∉ r.M := w.notM p0
    have hl1 := s1.kp l _ n hl
    have nlp : l ≠ p := fun e => by
      rw [e, p0] at hl
      cases hl
    have w1' : Wd r (upd S1 p c) H1 := w1.settle p1 np
    have s1' : Stp r S H (upd S1 p c) H1 := s1.settle p0 p2
    have n1' : (upd S1 p c) l = none := by
      rw [upd_ne nlp]
      exact n1
    refine ho _ _ H1 (Ex.refl _) w1' _ fun u S2 H2 w2 s2 eu => hi S2 S2 H2 (Ex.refl _) w2 _ fun u' S3 H3 w3 s3 eu' => ?_
    subst eu
    subst eu'
    have s23 := s2.trans s3
    have s13 := s1'.trans s23
    have hl3 : H3 l = some (.lst xs) := s13.kp l _ n hl
    have n3 : S3 l = none := s23.fr l (ne_none hl1) n1'
    refine ⟨l, xs, i, j, rfl, rfl, hl3, hj, ?_⟩
    exact k p S3 _ (w3.mut n3 n (nco_lst hl3)) (s13.more.trans (Stp.upd1 (s13.dm l (ne_none hl)))) n3 upd_same (s23.ex _ _ upd_same)
/-- the last one changed by g if c holds of it, else y added -/
def lastG {α : Type} (c : α → Bool) (g : α → α) (y : α) (zs : List α) : List α :=
  match zs.getLast? with
  | some p => if c p then zs.set (zs.length - 1) (g p) else zs ++ [y]
  | none => zs ++ [y]
theorem lastG_nil {α : Type} {c : α → Bool} {g : α → α} {y : α} : lastG c g y [] = [y] := rfl
theorem lastG_snoc {α : Type} {c : α → Bool} {g : α → α} {y p : α} {zs : List α} : lastG c g y (zs ++ [p]) = if c p then zs ++ [g p] else zs ++ [p, y] := by
  unfold lastG
  rw [List.getLast?_concat]
  dsimp only
  rw [List.length_append, List.length_singleton, Nat.add_sub_cancel, List.set_append_right _ _ (Nat.le_refl _), Nat.sub_self, List.append_assoc]
  rfl
theorem atI_neg1J {xs : List V} {L : Nat} {v : V} (hl : xs.length = L + 1) (h : xs[L]? = some v) : atI xs (-1) = some v := by
  unfold atI ixN
  rw [if_neg (by decide), if_pos (by omega)]
  show xs[((-1 : Int) + (xs.length : Int)).toNat]? = _
  rw [show ((-1 : Int) + (xs.length : Int)).toNat = L by omega]
  exact h
theorem ixN_neg1 {L : Nat} : ixN (L + 1) (-1) = some L := by
  unfold ixN
  rw [if_neg (by decide), if_pos (by omega)]
  congr 1
  omega
theorem st_last {i : Nat} {zs : List (Int × Int)} (cc : Int × Int → Bool) {y1 y2 a2 : Int} (n : l ∉ r.M) (hs : s[i]? = some (some (.ref l))) (w : Wd r S H) (a : AccS l (PairR K IntR IntR) zs S H) (hz : zs.length < 100000)
    (ht : ∀ p S1, EvV r (tOp (rIx K) (tOp (rIx K) (tVar i) (tUn (rU fun i => .int (-i)) (tC (.int 1)))) (tC (.int 1))) s S1 (.int p.2) → EvB r tt s S1 (cc p))
    (h1 : ∀ S1, EvV r t1 s S1 (.int y1)) (h2 : ∀ S1, EvV r t2 s S1 (.int y2)) (h3 : ∀ S1, EvV r t3 s S1 (.int a2))
    (k : ∀ S1 H1, Wd r S1 H1 → Stp (r.more [l]) S H S1 H1 → AccS l (PairR K IntR IntR) (lastG cc (fun p => (p.1, a2)) (y1, y2) zs) S1 H1 → D.nx s H1) :
    tIfS (tAnd (tTest (tOp (rNeU K) (tVar i) (tLst tNil))) tt) (tAsg (tTup (tCons (tOp (rIx K) (tOp (rIx K) (tVar i) (tUn (rU fun i => .int (-i)) (tC (.int 1)))) (tC (.int 0))) (tCons t3 tNil))) (gSub (tVar i) (tUn (rU fun i => .int (-i)) (tC (.int 1))) rSetL)) (tDrop (tBM K "list" rAppend (tVar i) (tCons (tTup (tCons t1 (tCons t2 tNil))) tNil))) D s H := by
  have hn : ∀ {S1 : Hp} {vs : List V}, S1 l = some (.lst vs) → All2 (PairR K IntR IntR) S1 zs vs → EvB r (tTest (tOp (rNeU K) (tVar i) (tLst tNil))) s S1 (!decide (zs = [])) := fun h a => tb_test (vv_neD (R := LstR (PairR K IntR IntR)) ((vv_var hs).imp fun v S e ev => ⟨l, _, ev, e _ _ h, a.up e⟩) fun S1 _ => ev_nilL)
  have app : ∀ S1 H1, Wd r S1 H1 → Stp r S H S1 H1 → lastG cc (fun p => (p.1, a2)) (y1, y2) zs = zs ++ [(y1, y2)] → AccS l (PairR K IntR IntR) zs S1 H1 → tDrop (tBM K "list" rAppend (tVar i) (tCons (tTup (tCons t1 (tCons t2 tNil))) tNil)) D s H1 := fun S1 H1 w1 s1 e a1 =>
    st_appendA (Y := PairR K IntR IntR) (y := (y1, y2)) n (vv_var hs) (ev_pair (K := K) (R := IntR) (R' := IntR) (h1 _) fun S2 e => h2 _) w1 a1 hz fun S2 H2 w2 s2 a2 => k S2 H2 w2 (s1.more.trans s2) (by
      rw [e]
      exact a2)
  obtain ⟨vs, hl, sl, av⟩ := a
  have av' := av.up (Ex.new (o := .lst vs) sl)
  rcases List.eq_nil_or_concat zs with rfl | ⟨ys, p, rfl⟩
  · refine st_ifB (b := false) (EvB.is (tb_and (a := false) (b := false) ((hn upd_same av').is (by rfl)) fun z => nomatch z) rfl) w hl n sl (fun z => nomatch z) fun _ S1 H1 w1 s1 n1 => ?_
    exact app S1 H1 w1 s1 rfl ⟨vs, s1.kp l _ n hl, n1, av.up s1.ex⟩
  · rw [List.concat_eq_append] at *
    have hlen : vs.length = ys.length + 1 := by
      rw [av.len, List.length_append]
      rfl
    obtain ⟨x, hx1, q, x1, x2, rfl, hq, hx2, hx3⟩ := av.at (i := ys.length) (x := p) (by rw [List.getElem?_append_right (Nat.le_refl _), Nat.sub_self]; rfl)
    obtain rfl : x1 = .int p.1 := hx2
    obtain rfl : x2 = .int p.2 := hx3
    have ix : ∀ {S1 : Hp} (j : Nat) {u : V}, Ex (upd S l (.lst vs)) S1 → ([V.int p.1, V.int p.2])[j]? = some u → EvV r (tOp (rIx K) (tOp (rIx K) (tVar i) (tUn (rU fun i => .int (-i)) (tC (.int 1)))) (tC (.int (j : Int)))) s S1 u := fun j u e hj =>
      vv_op (vv_op (vv_var hs) (vv_un vv_c ru_neg') (rs_ixL' (SqL.of (e _ _ upd_same)) (atI_neg1J hlen hx1))) vv_c (rs_ixT' (ex_t ((Ex.new sl).trans e) hq) (atI_nat hj))
    refine st_ifB (b := cc p) (EvB.is (tb_and (a := true) (b := cc p) ((hn upd_same av').is (by simp)) fun _ => ht p _ (ix 1 (Ex.refl _) rfl)) (by simp)) w hl n sl (fun hc S1 H1 w1 s1 n1 => ?_) (fun hc S1 H1 w1 s1 n1 => ?_)
    · have e1 : Ex (upd S l (.lst vs)) (upd S1 l (.lst vs)) := ex_both s1.ex
      refine st_setN (c := .tup [.int p.1, .int a2]) (j := ys.length) n ((en_tup (va_cons (ix 0 e1 rfl) (va_cons (h3 _) va_nil)) (fun vs _ e => by rw [e]; simp)).imp fun o S6 _ ⟨us, e6, e7⟩ => by rw [e6, e7]) (fun _ => vv_var hs) (fun _ => vv_un vv_c ru_neg') w1 (s1.kp l _ n hl) n1 (by rw [hlen]; exact ixN_neg1) fun q2 S2 H2 w2 s2 n2 h2' hq2 => ?_
      refine k S2 H2 w2 (s1.more.trans s2) ⟨_, h2', n2, ?_⟩
      have := All2.set (R := PairR K IntR IntR) (S := S2) (x := (p.1, a2)) (v := .ref q2) ⟨q2, _, _, rfl, SqT.of hq2, rfl, rfl⟩ ys.length (av.up (s1.ex.trans s2.ex))
      rw [lastG_snoc, if_pos hc]
      rw [List.set_append_right _ _ (Nat.le_refl _), Nat.sub_self] at this
      exact this
    · refine app S1 H1 w1 s1 ?_ ⟨vs, s1.kp l _ n hl, n1, av.up s1.ex⟩
      rw [lastG_snoc, if_neg (by rw [hc]; decide), List.append_assoc]
      rfl
end
end J

/-! J51: a dict walked by its keys: locked while it is walked. -/
namespace J
open PySem PySem.Spec PyProof.Rows L2 Evl RZ
theorem nco_frz {H : Hp} {p : Addr} {o : Obj} {u : HO} (h : H p = some (.frz o u)) : ∀ q, H p ≠ some (LamX.CodeO p q) := fun q z => by
  rw [h] at z
  unfold LamX.CodeO at z
  cases z
theorem Wd.both {r : Rs} {S H : Hp} {d : Addr} {x : HO} (w : Wd r S H) (n : d ∉ r.M) (nco : ∀ q, H d ≠ some (LamX.CodeO d q)) : Wd r (L2.upd S d x) (L2.upd H d x) :=
  ⟨ex_both w.ex, r.mono H _ (fun b o hb e => by
    rw [upd_ne (fun z : b = d => n (z ▸ hb))]
    exact e) (CoK.upd nco) w.inv, fun a ha => by
    rw [upd_ne (fun z : a = d => n (z ▸ ha))]
    exact w.dj a ha⟩
section
variable {r : Rs} {s : L2.St} {S H : Hp} {te : TE} {d : Addr} {kvs : List (Key × V)}
/-- e while the dict at d is locked -/
theorem ev_lock {R R' : V → Hp → Prop} (hd : S d = some (.dK kvs)) (n : d ∉ r.M) (hR : ∀ v S2 od, S2 d = some (.frz od (.dK kvs)) → R' v S2 → R v (upd S2 d (.dK kvs)))
    (h : ∀ od S1, S1 d = some (.frz od (.dK kvs)) → (∀ a o, a ≠ d → S a = some o → S1 a = some o) → EvS r te s S1 R') : EvS r (tLockE te) s S R := fun S1 H e w Q q => by
  have h1 := e _ _ hd
  have hH := w.ex _ _ h1
  refine ⟨d, .dK kvs, hH, True.intro, fun od => ?_⟩
  have w' : Wd r (upd S1 d (.frz od (.dK kvs))) (upd H d (.frz od (.dK kvs))) := w.both n (nco_dK hH)
  refine h od (upd S1 d (.frz od (.dK kvs))) upd_same (fun a o na ha => by
    rw [upd_ne na]
    exact e _ _ ha) _ _ (Ex.refl _) w' _ fun v S2 H2 w2 s2 hv => ?_
  have f2 := s2.ex _ _ upd_same
  have g2 := w2.ex _ _ f2
  refine ⟨g2, q v (upd S2 d (.dK kvs)) (upd H2 d (.dK kvs)) (w2.both n (nco_frz g2)) ⟨fun a o ha => ?_, fun a o na ha => ?_, fun a ha hs => ?_, fun a ha => ?_⟩ (hR v S2 od f2 hv)⟩
  · by_cases z : a = d
    · rw [z] at ha ⊢
      rw [h1] at ha
      rw [upd_same, ← ha]
    · rw [upd_ne z]
      refine s2.ex a o ?_
      rw [upd_ne z]
      exact ha
  · by_cases z : a = d
    · rw [z] at ha ⊢
      rw [hH] at ha
      rw [upd_same, ← ha]
    · rw [upd_ne z]
      refine s2.kp a o na ?_
      rw [upd_ne z]
      exact ha
  · have z : a ≠ d := fun z => by
      rw [z, h1] at hs
      cases hs
    rw [upd_ne z]
    refine s2.fr a ?_ ?_
    · rw [upd_ne z]
      exact ha
    · rw [upd_ne z]
      exact hs
  · by_cases z : a = d
    · rw [z, upd_same]
      exact fun z => nomatch z
    · rw [upd_ne z]
      refine s2.dm a ?_
      rw [upd_ne z]
      exact ha
/-- the keys of a locked dict, whole numbers -/
theorem ei_keys {ks : List Int} {od : Obj} (h : EvV r te s S (.ref d)) (hd : S d = some (.frz od (.dK kvs))) (hk : kvs.map (·.1) = ks.map (Sum.inl : Int → Key)) : EvI r (iKeys te) s S ks IntR := fun S1 H a w R q =>
  h S1 H a w _ fun v S2 H2 w2 s2 ev => by
    have hlen : kvs.length = ks.length := by
      have := congrArg List.length hk
      rw [List.length_map, List.length_map] at this
      exact this
    have f2 := s2.ex _ _ (a _ _ hd)
    refine ⟨d, od, ev, .inl ⟨kvs, w2.ex _ _ f2, q (Itk d od kvs) S2 H2 (fun H => H d = some (.frz od (.dK kvs))) (fun i H x H' => H' = H ∧ ∃ k v, kvs[i]? = some (k, v) ∧ x = kV k) w2 s2 (by
      have wk := walk_keys (d := d) (o := od) (kvs := kvs)
      rw [hlen] at wk
      exact wk) (fun S' H' e w' => w'.ex _ _ (e _ _ f2)) fun i S' H' v H'' hi e w' ⟨e4, k, v', e5, e6⟩ => ?_⟩⟩
    subst e4
    have h3 : (kvs.map (·.1))[i]? = some k := by rw [List.getElem?_map, e5]; rfl
    rw [hk, List.getElem?_map, List.getElem?_eq_getElem hi] at h3
    have h4 : (Sum.inl ks[i] : Key) = k := Option.some.inj h3
    exact ⟨S', ks[i], List.getElem?_eq_getElem hi, w', Stp.refl, by rw [e6, ← h4]; rfl⟩
/-- d[k] = e, the last statement -/
theorem st_dput {l : Addr} {kk : Key} {td ty tv : TE} {D : Ends} {R : V → Hp → Prop} (n : l ∉ r.M) (hv : EvS r tv s S R) (ho : EvV r td s S (.ref l)) (hk : EvV r ty s S (kV kk)) (w : Wd r S H) (hl : H l = some (.dK kvs)) (hs : S l = none) (hz : kvs.length < 100000)
    (k : ∀ v S1 H1, Wd r S1 H1 → Stp (r.more [l]) S H S1 H1 → S1 l = none → H1 l = some (.dK (putK kvs kk v)) → R v S1 → D.nx s H1) : sDPut td ty tv D s H := sq_dput (tz := tNext) (D := D) n hv ho hk w hl hs hz k
theorem keys_put {kvs : List (Key × V)} {ks : List Int} {k : Int} {v : V} (h : kvs.map (·.1) = ks.map (Sum.inl : Int → Key)) : (putK kvs (.inl k) v).map (·.1) = (if k ∈ ks then ks else ks ++ [k]).map (Sum.inl : Int → Key) := by
  have hm : (kvs.any fun kv => decide (kv.1 = (Sum.inl k : Key))) = decide (k ∈ ks) := by
    have e : (kvs.any fun kv => decide (kv.1 = (Sum.inl k : Key))) = (kvs.map (·.1)).any fun z => decide (z = (Sum.inl k : Key)) := by rw [List.any_map]; rfl
    rw [e, h, List.any_map]
    clear e h
    induction ks with
    | nil => rfl
    | cons x r ih =>
      rw [List.any_cons, ih]
      by_cases z : x = k
      · subst z
        simp
      · have z2 : ¬ k = x := fun e => z e.symm
        simp [z, z2]
  unfold putK
  rw [hm]
  by_cases z : k ∈ ks
  · rw [if_pos (decide_eq_true z), if_pos z, ← h, List.map_map]
    refine List.map_congr_left fun kv _ => ?_
    show (if kv.1 = Sum.inl k then (kv.1, v) else kv).1 = kv.1
    split <;> rfl
  · rw [if_neg (by rw [decide_eq_false z]; decide), if_neg z, List.map_append, List.map_append, h]
    rfl
end
end J

/-! J52: tuple(d), d.update(e), dict(pairs). -/
namespace J
open PySem PySem.Spec PyProof.Rows L2 Evl RZ PySem.W
section
variable {prog : Program} {w : World} {A : Around} {E : Value → Shared → Prop} {s : Shared} {T : String} {r d : Addr} {n : Nat} {P : Nat → Value → Prop} {OK : Heap → Prop}
theorem collect_kdl {Q : List Value → Shared → Prop} (K : KdlSrc prog w T r d n P OK) (hh : A.handled = none) (hok : OK s.heap) (hn : n ≤ sizeLine)
    (hQ : ∀ (h' : Heap) (tk : Nat) (acc : Array Value), (∀ b o, s.heap.get? b = some o → h'.get? b = some o) → ItemsOf P acc n → Q acc.toList { s with heap := h', toks := tk }) :
    wpAny (model prog w) A (collect (.ref r)) Q E s := by
  unfold collect
  refine wpAny_bind (wpAny_runValue (codeAny_builtin PySem.F.entry_proto_collect ?_))
  rw [Around.under_plainId PySem.F.plain_proto_collect _]
  show wpAny _ A.in1 (newList [] >>= fun l => again (.builtin "list.__iadd__" ⟨[l, .ref r], []⟩)) _ _ s
  refine wpAny_bind (wpAny_newObj_type ?_)
  refine wpAny_pure ⟨plainId_quiet PySem.F.plain_list_iadd _, codeAny_builtin PySem.F.entry_list_iadd ?_⟩
  rw [Around.under_plainId PySem.F.plain_list_iadd _]
  show wpAny _ A.in1 (Builtin.List.listExtendWith (.ref s.heap.objs.size) (.ref r) (.ref s.heap.objs.size)) _ _ _
  have hS : (s.heap.push { cls := .type "list", data := .seq ([] : List Value).toArray }).get? s.heap.objs.size = some { cls := .type "list", data := .seq #[] 0 } := Heap.get?_push_size _ rfl
  have hlt := K.there _ hok
  refine wpAny_mono (kdl_extend (A := A) (R := fun rr s' => rr = .ok (.ret (.ref s.heap.objs.size)) ∧ ∃ (h' : Heap) (tk : Nat) (acc : Array Value) (c' : Nat), s' = { s with heap := h', toks := tk } ∧
      (∀ b o, s.heap.get? b = some o → h'.get? b = some o) ∧ h'.get? s.heap.objs.size = some { cls := .type "list", dict := none, data := .seq acc c', slots := #[] } ∧ ItemsOf P acc n)
    (s := { s with heap := s.heap.push { cls := .type "list", data := .seq ([] : List Value).toArray } }) K hh (K.keep _ _ hok fun b _ o e => Heap.get?_push_of_some _ e) s.heap.objs.size (Nat.ne_of_gt hlt.1) (Nat.ne_of_gt hlt.2) _ 0 hS
    (fun h' tk acc c' hk e hi => ⟨rfl, h', tk, acc, c', rfl, fun b o q => hk b o (Nat.ne_of_lt (Heap.lt_size q)) (Heap.get?_push_of_some _ q), e, hi⟩) hn) (fun fin s' h => ?_) (fun e s' h => ?_)
  · cases fin with
    | done f =>
      obtain ⟨e, h', tk, acc, c', rfl, hk, hS', hi⟩ := h
      cases e
      show wpAny _ A (load s.heap.objs.size >>= _) _ _ _
      exact wpAny_bind (wpAny_load hS' (wpAny_pure (hQ h' tk acc hk hi)))
    | again c' =>
      refine ⟨h.1, codeAny_mono h.2 fun rr s'' hr' => ?_⟩
      obtain ⟨rfl, h', tk, acc, c', rfl, hk, hS', hi⟩ := hr'
      show wpAny _ A (load s.heap.objs.size >>= _) _ _ _
      exact wpAny_bind (wpAny_load hS' (wpAny_pure (hQ h' tk acc hk hi)))
  · exact absurd h.1 (by simp)
theorem code_tuple_new_kdl {Q₁ : Value → Shared → Prop} (K : KdlSrc prog w T r d n P OK) (hh : A.handled = none) (hok : OK s.heap) (hn : n ≤ sizeLine) (nt : T ≠ "tuple")
    (h : ∀ (h' : Heap) (tk : Nat) (acc : Array Value), (∀ b o, s.heap.get? b = some o → h'.get? b = some o) → ItemsOf P acc n →
      Q₁ (.ref h'.objs.size) { s with heap := h'.push { cls := .type "tuple", data := .seq acc }, toks := tk }) :
    codeAny (model prog w) A (.call (.builtin "tuple.__new__") ⟨[.type "tuple", .ref r], []⟩) (wants Q₁ E) s := by
  refine codeAny_of_tree ?_
  show wpAny _ A.in1 (do checkBuiltinCall "tuple.__new__" ⟨[.type "tuple", .ref r], []⟩; again (.builtin "tuple.__new__" ⟨[.type "tuple", .ref r], []⟩)) _ _ s
  refine wpAny_bind (wpAny_of_eq (PySem.F.newCall_tuple_1 _) (wpAny_pure ⟨plainId_quiet PySem.F.plain_tuple_new _, codeAny_builtin PySem.F.entry_tuple_new ?_⟩))
  rw [Around.under_plainId PySem.F.plain_tuple_new _]
  have hsub := sub_tuple_self
  have hinit := init_tuple_lookup
  have hmh := madeHere_tuple
  have hTI : s.TypeIs (.ref r) T := K.type s hok
  have hnt : (Value.type T == Value.type "tuple") = false := K.notTuple
  have hh1 : A.in1.handled = none := hh
  wp_walk using wpAny_typeOf hTI, collect_kdl (A := A.in1) K hh1 hok hn
  intro h' tk acc hk hacc
  show wpAny _ _ (Builtin.Tuple.tupleExact acc.toList.toArray >>= fun v => ret v) _ _ _
  unfold Builtin.Tuple.tupleExact
  refine wpAny_bind (wpAny_newObj_type ?_ (by show acc.toList.toArray.size ≤ sizeLine; simp only [Array.toArray_toList]; rw [hacc.1]; exact hn))
  refine wpAny_pure ?_
  have e : acc.toList.toArray = acc := by simp
  rw [e]
  exact h h' tk acc hk hacc
theorem call_tuple_kdl {Q : Value → Shared → Prop} (K : KdlSrc prog w T r d n P OK) (hh : A.handled = none) (hok : OK s.heap) (hn : n ≤ sizeLine) (nt : T ≠ "tuple")
    (hQ : ∀ (h' : Heap) (tk : Nat) (acc : Array Value), (∀ b o, s.heap.get? b = some o → h'.get? b = some o) → ItemsOf P acc n →
      Q (.ref h'.objs.size) { s with heap := h'.push { cls := .type "tuple", data := .seq acc }, toks := tk }) :
    wpAny (model prog w) A (call (.type "tuple") [.ref r]) Q E s := by
  refine callType_codes (Q₁ := fun obj s₁ => s₁.TypeIs obj "tuple" ∧ Q obj s₁) PySem.F.called_tuple (PySem.F.typeCall_tuple_1 _) PySem.F.entry_object_init
    (code_tuple_new_kdl (A := A.in1) K hh hok hn nt fun h' tk acc hk hacc => ⟨⟨_, Heap.get?_push_size _ rfl, rfl⟩, hQ h' tk acc hk hacc⟩) fun obj s₁ h₁ => ?_
  exact ⟨h₁.1, PySem.F.args_object_init_2 obj _, object_init_meets PySem.F.called_tuple.init.lookup PySem.F.called_tuple.made (by decide) prog w A.in1 _ s₁ ⟨h₁.1, rfl, h₁.2⟩⟩
end
def rTupleD : List V → Hp → VK → Prop := fun xs H Q => ∃ p kvs, xs = [.ref p] ∧ H p = some (.dK kvs) ∧ ∀ q, H q = none → Q (.ref q) (upd H q (.tup (kvs.map fun kv => kV kv.1)))
theorem call_tupleD {X : Cx} (hc : X.calm = true := by rfl) : CallR X (.type "tuple") rTupleD := by
  intro pins s σ H xs us Q I r h
  obtain ⟨p, kvs, e, hk, q⟩ := h
  subst e
  obtain ⟨u, eu, rx⟩ := vals1 r
  subst eu
  obtain rfl : u = Value.ref p := rx
  obtain ⟨z, lo, vs, rk, hd⟩ := (show ObjOk X.prog X.w H s.heap p (.dK kvs) from I.hok p _ hk)
  obtain ⟨ep, hat⟩ := hd.dictAt
  have hl : kvs.length = vs.length := Paired.length rk
  refine call_tuple_kdl (PySem.W.kdl_dict (knd := mixKind X.prog X.w) (kvs := vs) (ep := ep) lo) (I.ok.hd hc) hat (by rw [← hl]; exact z) (by decide) fun h' tk acc' hkeep hacc => ?_
  have I2 : Inv X pins σ H { s with heap := h', toks := tk } := I.kept hkeep
  refine ⟨.ref h'.objs.size, upd H h'.objs.size (.tup (kvs.map fun kv => kV kv.1)), I2.laid (t' := tk) (fun c o e => Heap.get?_push_of_some _ e) (Nat.le_refl _) (show ObjOk X.prog X.w _ _ _ (.tup (kvs.map fun kv => kV kv.1)) from ⟨?_, acc'.toList, ?_, ?_⟩), rfl, q _ (I2.hok.fresh (Nat.le_refl _))⟩
  · rw [List.length_map]; exact z
  · have el : acc'.toList.length = acc'.size := by simp
    refine vals_of_at (by rw [List.length_map, el, hacc.1, hl]) fun j x w h1 h2 => ?_
    obtain ⟨k, y, hky, hi⟩ := hacc.2 j w (by rw [← Array.getElem?_toList]; exact h2)
    have e1 : (kvs.map (·.1))[j]? = some k := by
      rw [KV.keys rk, List.getElem?_map, hky] <;> rfl
    have e2 : (kvs.map fun kv => kV kv.1)[j]? = some (kV k) := by
      have e3 : (kvs.map fun kv => kV kv.1) = (kvs.map (·.1)).map kV := by rw [List.map_map] <;> rfl
      rw [e3, List.getElem?_map, e1] <;> rfl
    rw [e2] at h1
    cases h1
    exact keyIs_rel hi
  · rw [Array.toArray_toList]; exact IsTup.new _ _
/-- d.update(e) -/
def rDUpd : V → List V → Hp → VK → Prop := fun x vs H Q => ∃ (a b : Addr) (kvs more : List (Key × V)), x = .ref a ∧ vs = [.ref b] ∧ a ≠ b ∧ H a = some (.dK kvs) ∧ H b = some (.dK more) ∧ kvs.length + more.length ≤ sizeLine ∧ Q .non (upd H a (.dK (mergeK kvs more)))
theorem mt_dupdate {X : Cx} : MtR X "dict.update" rDUpd := by
  intro pins s σ H x vs v us Q I rx rv h
  obtain ⟨a, b, kvs, more, rfl, rfl, hne, ha, hb, hz, q⟩ := h
  cases rx
  obtain ⟨u, rfl, ru⟩ := rv.one
  cases ru
  obtain ⟨z, hd, vs, rel, dd⟩ := dk_of I.hok ha
  obtain ⟨z2, hd2, ws, rel2, dd2⟩ := dk_of I.hok hb
  have hlen := length_mergeK more kvs
  refine call_meetsIn PySem.F.slot_dict_update dd.typeIs PySem.F.entry_dict_update (PySem.F.args_dict_update_2 _ _) (meets_dict_update (mixKind X.prog X.w) a b hne hd2) ⟨vs, ws, dd, dd2, by rw [← rel.length, ← rel2.length]; exact hz, fun h' hm _ hs => ?_⟩
  have he : ∃ q, h'.get? a = some q := let ⟨q, _, _, hq, _⟩ := hm; ⟨q, hq⟩
  exact ⟨.non, upd H a (.dK (mergeK kvs more)), d_write I (by rw [ha]; exact True.intro) hs he (dk_new (by omega) hd (rel2.merge rel) hm), rfl, q⟩
/-- dict(pairs) -/
def rDictP (K : PySem.W.Frag) : List V → Hp → VK → Prop := fun xs H Q => ∃ (a : Addr) (ps : List Addr) (kvs : List (Key × V)), xs = [.ref a] ∧ SqL K H a (ps.map V.ref) ∧ Paired (fun p kv => SqT K H p [kV kv.1, kv.2]) ps kvs ∧
    ∀ p, H p = none → Q (.ref p) (upd H p (.dK (mergeK [] kvs)))
theorem call_dictPK {X : Cx} {K : PySem.W.Frag} (hc : X.calm = true := by rfl) (hK : X.K = K := by rfl) : CallR X (.type "dict") (rDictP K) := by
  subst hK
  exact call_dictP hc
section
variable {r : Rs} {s : L2.St} {S H : Hp} {te ta tb : TE} {K : PySem.W.Frag} {D : Ends}
theorem paired_ex {S S' : Hp} (e : Ex S S') : ∀ {ps : List Addr} {kvs : List (Key × V)}, Paired (fun p kv => SqT K S p [kV kv.1, kv.2]) ps kvs → Paired (fun p kv => SqT K S' p [kV kv.1, kv.2]) ps kvs
  | _, _, .nil => .nil
  | _, _, .cons h t => .cons (ex_t e h) (paired_ex e t)
theorem All2.of_keys {S : Hp} : ∀ {ks : List Int} {kvs : List (Key × V)}, kvs.map (·.1) = ks.map (Sum.inl : Int → Key) → All2 IntR S ks (kvs.map fun kv => kV kv.1)
  | [], [], _ => .nil
  | [], _ :: _, h => by simp at h
  | _ :: _, [], h => by simp at h
  | k :: ks, kv :: kvs, h => by
    rw [List.map_cons, List.map_cons, List.cons.injEq] at h
    refine .cons ?_ (All2.of_keys h.2)
    show kV kv.1 = V.int k
    rw [h.1]
    rfl
/-- tuple(d) of whole keys -/
theorem ev_tupD {d : Addr} {kvs : List (Key × V)} {ks : List Int} (h : EvV r te s S (.ref d)) (hd : S d = some (.dK kvs)) (hk : kvs.map (·.1) = ks.map (Sum.inl : Int → Key)) : EvS r (tCB rTupleD (tCons te tNil)) s S fun v S1 => TupR K IntR ks v S1 :=
  EvN.tup (X := IntR) (en_cb (ea_one h) fun us S1 e ⟨v, e1, ev⟩ H eH Q q => by
    rw [e1, ev]
    exact ⟨d, kvs, rfl, eH _ _ (e _ _ hd), fun p hp => q p _ hp ⟨_, rfl, All2.of_keys hk⟩⟩)
/-- len(dict([(k, c) for ..])) -/
theorem pairs_keys {R' : Rl V} {S : Hp} : ∀ {ks : List (Int × V)} {vs : List V}, All2 (PairR K IntR ValR) S ks vs → ∃ (ps : List Addr) (kvs : List (Key × V)), vs = ps.map V.ref ∧ kvs = ks.map (fun k => ((Sum.inl k.1 : Key), k.2)) ∧ Paired (fun p kv => SqT K S p [kV kv.1, kv.2]) ps kvs
  | _, _, .nil => ⟨[], [], rfl, rfl, .nil⟩
  | _, _, .cons h t => by
    obtain ⟨ps, kvs, e1, e2, h2⟩ := pairs_keys (R' := R') t
    obtain ⟨a, x, y, e3, hq, hx, hy⟩ := h
    refine ⟨a :: ps, _ :: kvs, by rw [e1, e3]; rfl, by rw [e2]; rfl, .cons ?_ h2⟩
    rw [show x = _ from hx, show y = _ from hy] at hq
    exact hq
theorem merge_keys : ∀ (ks : List (Int × V)) (kvs : List (Key × V)) (us : List Int), kvs.map (·.1) = us.map (Sum.inl : Int → Key) → (mergeK kvs (ks.map fun k => ((Sum.inl k.1 : Key), k.2))).map (·.1) = ((ks.map (·.1)).foldl (fun us k => if k ∈ us then us else us ++ [k]) us).map (Sum.inl : Int → Key)
  | [], kvs, us, h => h
  | k :: r, kvs, us, h => merge_keys r (putK kvs (.inl k.1) k.2) (if k.1 ∈ us then us else us ++ [k.1]) (keys_put h)
theorem vv_lenDict {ks : List (Int × V)} {us : List Int} (h : EvS r te s S fun v S1 => LstR (PairR K IntR ValR) ks v S1) (e : (ks.map (·.1)).foldl (fun us k => if k ∈ us then us else us ++ [k]) [] = us) : EvV r (tCB (rLenU K) (tCons (tCB (rDictP K) (tCons te tNil)) tNil)) s S (.int (us.length : Int)) := fun S1 H1 e1 w1 Q q => by
  refine h S1 H1 e1 w1 _ fun v S2 H2 w2 s2 ⟨a, vs, ev, ha, hvs⟩ => ?_
  subst ev
  obtain ⟨ps, kvs, e2, e3, hp⟩ := pairs_keys (R' := ValR) hvs
  subst e2
  subst e3
  refine ⟨a, ps, _, rfl, SqL.of (w2.ex _ _ ha), paired_ex w2.ex hp, fun p hp0 => .inr ⟨p, _, rfl, upd_same, ?_⟩⟩
  have hl := congrArg List.length (merge_keys ks [] [] rfl)
  rw [List.length_map, List.length_map, e] at hl
  rw [hl]
  exact q _ S2 _ (w2.new hp0) (s2.trans (Stp.new hp0)) rfl
end
section
variable {r : Rs} {s : L2.St} {S S' H : Hp} {ta tb te ti t1 t2 t3 : TE} {tt : TT} {v : V} {K : PySem.W.Frag} {D : Ends} {l : Addr} {c : HO} {tu tz : TS}
/-- the last pair, both parts read -/
theorem st_lastP {i : Nat} {zs : List (Int × Int)} (cc : Int × Int → Bool) (g2 : Int × Int → Int) {y1 y2 : Int} (n : l ∉ r.M) (hs : s[i]? = some (some (.ref l))) (w : Wd r S H) (a : AccS l (PairR K IntR IntR) zs S H) (hz : zs.length < 100000)
    (ht : ∀ p S1, EvV r (tOp (rIx K) (tOp (rIx K) (tVar i) (tUn (rU fun i => .int (-i)) (tC (.int 1)))) (tC (.int 0))) s S1 (.int p.1) → EvV r (tOp (rIx K) (tOp (rIx K) (tVar i) (tUn (rU fun i => .int (-i)) (tC (.int 1)))) (tC (.int 1))) s S1 (.int p.2) → EvB r tt s S1 (cc p))
    (h1 : ∀ S1, EvV r t1 s S1 (.int y1)) (h2 : ∀ S1, EvV r t2 s S1 (.int y2)) (h3 : ∀ p S1, EvV r (tOp (rIx K) (tOp (rIx K) (tVar i) (tUn (rU fun i => .int (-i)) (tC (.int 1)))) (tC (.int 1))) s S1 (.int p.2) → EvV r t3 s S1 (.int (g2 p)))
    (k : ∀ S1 H1, Wd r S1 H1 → Stp (r.more [l]) S H S1 H1 → AccS l (PairR K IntR IntR) (lastG cc (fun p => (p.1, g2 p)) (y1, y2) zs) S1 H1 → D.nx s H1) :
    tIfS (tAnd (tTest (tOp (rNeU K) (tVar i) (tLst tNil))) tt) (tAsg (tTup (tCons (tOp (rIx K) (tOp (rIx K) (tVar i) (tUn (rU fun i => .int (-i)) (tC (.int 1)))) (tC (.int 0))) (tCons t3 tNil))) (gSub (tVar i) (tUn (rU fun i => .int (-i)) (tC (.int 1))) rSetL)) (tDrop (tBM K "list" rAppend (tVar i) (tCons (tTup (tCons t1 (tCons t2 tNil))) tNil))) D s H := by
  have hn : ∀ {S1 : Hp} {vs : List V}, S1 l = some (.lst vs) → All2 (PairR K IntR IntR) S1 zs vs → EvB r (tTest (tOp (rNeU K) (tVar i) (tLst tNil))) s S1 (!decide (zs = [])) := fun h a => tb_test (vv_neD (R := LstR (PairR K IntR IntR)) ((vv_var hs).imp fun v S e ev => ⟨l, _, ev, e _ _ h, a.up e⟩) fun S1 _ => ev_nilL)
  have app : ∀ S1 H1, Wd r S1 H1 → Stp r S H S1 H1 → lastG cc (fun p => (p.1, g2 p)) (y1, y2) zs = zs ++ [(y1, y2)] → AccS l (PairR K IntR IntR) zs S1 H1 → tDrop (tBM K "list" rAppend (tVar i) (tCons (tTup (tCons t1 (tCons t2 tNil))) tNil)) D s H1 := fun S1 H1 w1 s1 e a1 =>
    st_appendA (Y := PairR K IntR IntR) (y := (y1, y2)) n (vv_var hs) (ev_pair (K := K) (R := IntR) (R' := IntR) (h1 _) fun S2 e => h2 _) w1 a1 hz fun S2 H2 w2 s2 a2 => k S2 H2 w2 (s1.more.trans s2) (by
      rw [e]
      exact a2)
  obtain ⟨vs, hl, sl, av⟩ := a
  have av' := av.up (Ex.new (o := .lst vs) sl)
  rcases List.eq_nil_or_concat zs with rfl | ⟨ys, p, rfl⟩
  · refine st_ifB (b := false) (EvB.is (tb_and (a := false) (b := false) ((hn upd_same av').is (by rfl)) fun z => nomatch z) rfl) w hl n sl (fun z => nomatch z) fun _ S1 H1 w1 s1 n1 => ?_
    exact app S1 H1 w1 s1 rfl ⟨vs, s1.kp l _ n hl, n1, av.up s1.ex⟩
  · rw [List.concat_eq_append] at *
    have hlen : vs.length = ys.length + 1 := by
      rw [av.len, List.length_append]
      rfl
    obtain ⟨x, hx1, q, x1, x2, rfl, hq, hx2, hx3⟩ := av.at (i := ys.length) (x := p) (by rw [List.getElem?_append_right (Nat.le_refl _), Nat.sub_self]; rfl)
    obtain rfl : x1 = .int p.1 := hx2
    obtain rfl : x2 = .int p.2 := hx3
    have ix : ∀ {S1 : Hp} (j : Nat) {u : V}, Ex (upd S l (.lst vs)) S1 → ([V.int p.1, V.int p.2])[j]? = some u → EvV r (tOp (rIx K) (tOp (rIx K) (tVar i) (tUn (rU fun i => .int (-i)) (tC (.int 1)))) (tC (.int (j : Int)))) s S1 u := fun j u e hj =>
      vv_op (vv_op (vv_var hs) (vv_un vv_c ru_neg') (rs_ixL' (SqL.of (e _ _ upd_same)) (atI_neg1J hlen hx1))) vv_c (rs_ixT' (ex_t ((Ex.new sl).trans e) hq) (atI_nat hj))
    refine st_ifB (b := cc p) (EvB.is (tb_and (a := true) (b := cc p) ((hn upd_same av').is (by simp)) fun _ => ht p _ (ix 0 (Ex.refl _) rfl) (ix 1 (Ex.refl _) rfl)) (by simp)) w hl n sl (fun hc S1 H1 w1 s1 n1 => ?_) (fun hc S1 H1 w1 s1 n1 => ?_)
    · have e1 : Ex (upd S l (.lst vs)) (upd S1 l (.lst vs)) := ex_both s1.ex
      refine st_setN (c := .tup [.int p.1, .int (g2 p)]) (j := ys.length) n ((en_tup (va_cons (ix 0 e1 rfl) (va_cons (h3 p _ (ix 1 e1 rfl)) va_nil)) (fun vs _ e => by rw [e]; simp)).imp fun o S6 _ ⟨us, e6, e7⟩ => by rw [e6, e7]) (fun _ => vv_var hs) (fun _ => vv_un vv_c ru_neg') w1 (s1.kp l _ n hl) n1 (by rw [hlen]; exact ixN_neg1) fun q2 S2 H2 w2 s2 n2 h2' hq2 => ?_
      refine k S2 H2 w2 (s1.more.trans s2) ⟨_, h2', n2, ?_⟩
      have := All2.set (R := PairR K IntR IntR) (S := S2) (x := (p.1, g2 p)) (v := .ref q2) ⟨q2, _, _, rfl, SqT.of hq2, rfl, rfl⟩ ys.length (av.up (s1.ex.trans s2.ex))
      rw [lastG_snoc, if_pos hc]
      rw [List.set_append_right _ _ (Nat.le_refl _), Nat.sub_self] at this
      exact this
    · refine app S1 H1 w1 s1 ?_ ⟨vs, s1.kp l _ n hl, n1, av.up s1.ex⟩
      rw [lastG_snoc, if_neg (by rw [hc]; decide), List.append_assoc]
      rfl
end
section
variable {r : Rs} {s : L2.St} {S H : Hp} {te td : TE} {K : PySem.W.Frag} {D : Ends}
/-- a display of pairs, keys perhaps alike -/
theorem en_dispM {trs : List (TE × TE)} {R : HO → Hp → Prop} (h : EvP r trs s S fun ps S1 => ∃ kvs : List (Key × V), ps = kvs.map (fun kv => (kV kv.1, kv.2)) ∧ kvs.length ≤ 15 ∧ R (.dK (mergeK [] kvs)) S1) : EvN r (tDisp trs) s S R := fun S1 H e w Q q p hp =>
  h S1 (upd H p (.dK [])) e (w.new hp) _ fun ps S2 H2 w2 s2 ⟨kvs, e1, e2, e4⟩ => by
    have np : p ∉ r.M := w.notM hp
    have h2 : H2 p = some (.dK []) := s2.kp p _ np upd_same
    have n2 : S2 p = none := s2.fr p (ne_none upd_same) (w.fresh hp)
    exact ⟨h2, kvs, e1, e2, q p _ S2 _ hp upd_same n2 (w2.mut n2 np) (((Stp.new hp).trans s2).mut hp) e4⟩
theorem st_dupd {d : Addr} {kvs more : List (Key × V)} (n : d ∉ r.M) (ho : ∀ S1, EvV r td s S1 (.ref d)) (he : EvN r te s S fun o _ => o = .dK more) (w : Wd r S H) (hd : H d = some (.dK kvs)) (hs : S d = none) (hz : kvs.length + more.length ≤ 100000)
    (k : ∀ S1 H1, Wd r S1 H1 → Stp (r.more [d]) S H S1 H1 → S1 d = none → H1 d = some (.dK (mergeK kvs more)) → D.nx s H1) : tDrop (tBM K "dict" rDUpd td (tCons te tNil)) D s H :=
  ho S S H (Ex.refl _) w _ fun u S1 H1 w1 s1 eu => by
    subst eu
    have h1 := s1.kp d _ n hd
    refine ⟨.inr (.inr (.inl ⟨rfl, .inl ⟨_, h1⟩⟩)), he S1 H1 s1.ex w1 _ fun p o S2 H2 p0 p1 p2 w2 s2 eo => ?_⟩
    subst eo
    have h2 := s2.kp d _ n h1
    have n2 := s2.fr d (ne_none h1) (s1.fr d (ne_none hd) hs)
    refine ⟨d, p, kvs, more, rfl, rfl, (fun z => by
      rw [z, p0] at h1
      cases h1), h2, p1, (by rw [sizeLine_eq]; omega), k S2 _ (w2.upd n2 n (nco_dK h2)) ((s1.trans s2).more.trans (Stp.upd1 (ne_none h2))) n2 upd_same⟩
variable {α β : Type}
theorem EvI.map {wi : TI} {ys : List α} {X : Rl α} {X' : Rl β} (f : α → β) (h : EvI r wi s S ys X) (k : ∀ y v S1, X y v S1 → X' (f y) v S1) : EvI r wi s S (ys.map f) X' := fun S1 H e w R q => h S1 H e w R fun J S2 H2 G Y w2 s2 wk hG hY =>
  q J S2 H2 G Y w2 s2 (by rw [List.length_map]; exact wk) hG fun i S' H' v H'' hi e' w' hy => by
    rw [List.length_map] at hi
    obtain ⟨S'', y, h1, h2, h3, h4⟩ := hY i S' H' v H'' hi e' w' hy
    exact ⟨S'', f y, by rw [List.getElem?_map, h1]; rfl, h2, h3, k _ _ _ h4⟩
theorem two_all {γ : Type} (ys : List α) (zs : α → List γ) : twoL ys zs (fun _ => true) (fun _ _ => true) (fun _ z => z) = ys.flatMap zs := by
  unfold twoL
  rw [List.filter_eq_self.mpr (fun _ _ => rfl)]
  congr 1
  funext y
  rw [List.filter_eq_self.mpr (fun _ _ => rfl), List.map_id']
end
end J

set_option pp.maxSteps 3000
/-! J56: *e in a display. -/
namespace J
open PySem PySem.Spec PyProof.Rows L2 Evl RZ StX
theorem pa_starK {X : Cx} {K : PySem.W.Frag} {e : Expr} {es : List Expr} {te : TE} {t : TA} {p : Pos} (he : PE X e te) (hr : PA X es t) (hK : X.K = K := by rfl) (hs : starEach (.Starred e p :: es) X.env = (true, eval e X.env) :: starEach es X.env := by rfl) : PA X (.Starred e p :: es) (tStar K te t) := by
  subst hK
  exact pa_star he hr hs
theorem ar_star {α : Type} {R : Rl α} [Mono R] {K : PySem.W.Frag} {r : Rs} {s : L2.St} {S : Hp} {te : TE} {t : TA} {xs ys : List α} (h : EvS r te s S fun v S1 => SeqR K R xs v S1) (hr : ∀ S1, Ex S S1 → EvAS r t s S1 fun us S2 => All2 R S2 ys us) : EvAS r (tStar K te t) s S fun us S1 => All2 R S1 (xs ++ ys) us := fun S1 H e w Q q =>
  h S1 H e w _ fun v S2 H2 w2 s2 hv => by
    rcases hv with ⟨a, vs, ev, h1, h2⟩ | ⟨a, vs, ev, h1, h2⟩
    · exact ⟨a, vs, ev, .inr (ex_l w2.ex (SqL.of h1)), hr S2 (e.trans s2.ex) S2 H2 (Ex.refl _) w2 _ fun us S3 H3 w3 s3 hu => q _ S3 H3 w3 (s2.trans s3) ((h2.up s3.ex).append hu)⟩
    · exact ⟨a, vs, ev, .inl (ex_t w2.ex h1), hr S2 (e.trans s2.ex) S2 H2 (Ex.refl _) w2 _ fun us S3 H3 w3 s3 hu => q _ S3 H3 w3 (s2.trans s3) ((h2.up s3.ex).append hu)⟩
end J

set_option pp.maxSteps 3000
/-! J57: sorted(xs, key=lambda x: str(x)), xs lists or tuples of data. -/
namespace J
open PySem PySem.Spec PyProof.Rows L2 Evl RZ LamX
/-- the names of lambda y: str(y) -/
structure StrS (sc : Scope) (y : Str) : Prop where
  kind : sc.kind = .function
  co : sc.isCoroutine = false
  gen : sc.isGenerator = false
  nocell : ∀ z ∈ sc.names, z.2 ≠ .cell
  nofree : ∀ z ∈ sc.names, z.2 ≠ .free
  loc : sc.names.lookup y = some .local
  glob : sc.names.lookup ("str" : Str) = some .globalImplicit
def strSB (sc : Scope) (y : Str) : Bool :=
  decide (sc.kind = .function) && !sc.isCoroutine && !sc.isGenerator && (sc.names.all fun z => !decide (z.2 = .cell) && !decide (z.2 = .free)) && decide (sc.names.lookup y = some .local) && decide (sc.names.lookup ("str" : Str) = some .globalImplicit)
theorem strS_by {sc : Scope} {y : Str} (h : strSB sc y = true) : StrS sc y := by
  unfold strSB at h
  simp only [Bool.and_eq_true, Bool.not_eq_true', decide_eq_true_eq, decide_eq_false_iff_not, List.all_eq_true] at h
  obtain ⟨⟨⟨⟨⟨h1, h2⟩, h3⟩, h4⟩, h5⟩, h6⟩ := h
  exact ⟨h1, h2, h3, fun z hz => (h4 z hz).1, fun z hz => (h4 z hz).2, h5, h6⟩
/-- a list or a tuple -/
def isBox : PyData → Bool
  | .list _ => true
  | .tuple _ => true
  | _ => false
section
variable {prog : Program} {w : World} {A : Around} {s1 h0 : Shared} {f c : Addr} {q y : Str} {params : Arguments} {sc : Scope} {clos : List (Str × Addr)} {pm ctv : Value} {mg mb : Str → Option Value} {d : PyData} {as : List Addr} {v : Value} {p1 p2 p3 : Pos}
/-- the lambda, called -/
theorem strkey_call (L : StrS sc y) (hdep : A.depth < recursionLimit) (g : A.guards = some []) (hu : A.units + 60 < cLine) (hf : s1.heap.get? f = some (PySem.W.kla_obj "<lambda>" q params (.Call (.Name "str" p1) [.Name y p2] [] p3) sc clos pm c ctv))
    (hc : s1.heap.CodeRec (.ref c) q) (gl : s1.heap.Ns mainGlobals mg) (hm : mg "str" = none) (bl : s1.heap.Ns builtinsNs mb) (hb : mb "str" = some (.type "str")) (lim : s1.heap.NoLimit)
    (hbind : bindArgs (PySem.W.kla_fn "<lambda>" q params (.Call (.Name "str" p1) [.Name y p2] [] p3) sc clos pm (.ref c) ctv) ⟨[v], []⟩ = pure [(y, v)]) (hy : (y == ("__debug__" : Str)) = false)
    (rd : Reads s1.heap v d as) (bx : isBox d = true) (hs : d.showable = true) (nd : d.hasDict = false) (dp : d.depth ≤ 40) (sz : d.shown.length ≤ sizeLine) :
    wpAny (model prog w) A (call (.ref f) [v]) (PySem.W.KeyPure (.str d.shown) s1) (fun _ _ => False) s1 := by
  refine wpAny_call (PySem.W.kla_callFunE hdep hf rfl L.co L.gen rfl hc ?_)
  rw [hbind]
  refine wpAny_pure (wpAny_newFunctionEnv L.nocell (fun z hz => ?_) (fun h1 hns hsb => ⟨lim.fresh _ hsb, ?_⟩) L.kind)
  · rw [List.mem_singleton.mp hz]
    exact L.loc
  have kp : ∀ b o, s1.heap.get? b = some o → h1.get? b = some o := fun b o e => hsb.extBut b o (Nat.ne_of_lt (Heap.lt_size e)) (Heap.get?_push_of_some _ e)
  refine PySem.W.kla_codeExpr ?_
  refine wpAny_Call_Name_kw (Calls.Name_function_global L.kind L.glob (Calls.loadGlobal_builtin (gl.keeps kp) hm (bl.keeps kp) hb ?_))
  refine PyProof.Rows.callWith_type1 ?_
  refine Calls.spliced_cons (wpAny_Name (wpAny_loadName_local L.kind L.loc hns (v := v) (by simp) ?_) hy)
  refine Calls.spliced_nil ?_
  have fin : ∀ {a : Addr}, v = .ref a → wpAny (model prog w) (A.deeper (newEnv sc s1.heap.objs.size mainGlobals clos (q ++ ".<locals>.") (some f) (.ref c) none builtinsNs)) (call (.type "str") [v]) (fun v s' => PySem.W.KeyPure (.str d.shown) s1 v s') (fun e' s' => wpAny (model prog w) (A.deeper (newEnv sc s1.heap.objs.size mainGlobals clos (q ++ ".<locals>.") (some f) (.ref c) none builtinsNs)) (leaving (newEnv sc s1.heap.objs.size mainGlobals clos (q ++ ".<locals>.") (some f) (.ref c) none builtinsNs) e') (fun _ s'' => False) (fun e'' s'' => False) s') { s1 with heap := h1, toks := s1.toks + 1 } := fun {a} ev => by
    subst ev
    refine str_of_reads (h₀ := s1.heap) rd hs (PyData.noDict_hsm nd) g (by
      show A.units + 3 + (d.depth + 3) < cLine
      omega) kp (fun h' u tk hk => ⟨h', tk, rfl, fun b o e => hk b o (kp b o e), .str d.shown u⟩) sz
  cases rd with
  | none => cases bx
  | bool b => cases bx
  | int i t => cases bx
  | str x t => cases bx
  | list h1 h2 h3 h4 => exact fin rfl
  | tuple h1 h2 h3 h4 => exact fin rfl
  | dict h1 h2 h3 h4 h5 => cases bx
end
/-- by the texts -/
def leS (a b : V × PyData) : Bool := PySem.W.dataLe false (fun z : V × PyData => PyData.str z.2.shown) a b
def sortS (xs : List V) (ds : List PyData) : List V := ((xs.zip ds).mergeSort leS).map (·.1)
/-- what can be sorted so -/
structure KeyD (d : PyData) : Prop where
  bx : isBox d = true
  sh : d.showable = true
  dp : d.depth ≤ 40
  sz : d.shown.length ≤ sizeLine
def tSortS (K : PySem.W.Frag) (P : Addr) (T : List (Addr × Str)) (te : TE) : TE := fun σ H Q => te σ H fun x H1 => Tabs T H1 ∧ ∀ H2, (∀ b o, b ≠ P → H1 b = some o → H2 b = some o) → Tabs T H2 →
  ∃ (a : Addr) (xs : List V) (ds : List PyData), x = .ref a ∧ SqL K H2 a xs ∧ DpAll K H2 xs ds ∧ (∀ d ∈ ds, KeyD d) ∧ ∀ p, H2 p = none → Q (.ref p) (upd H2 p (.lst (sortS xs ds)))
theorem dpa_zip {K : PySem.W.Frag} {H : Hp} : ∀ {vs : List V} {ds : List PyData}, DpAll K H vs ds → ∀ {its : List Value}, Vals vs its → PySem.W.EachIs (fun (u : Value) (b : V × PyData) => L2.RelV b.1 u ∧ Dp K H b.1 b.2) its (vs.zip ds)
  | _, _, .nil, _, .nil => .nil
  | _, _, .cons h t, _, .cons r rs => .cons ⟨r, h⟩ (dpa_zip t rs)
theorem each_vals {K : PySem.W.Frag} {H : Hp} : ∀ {its : List Value} {bs : List (V × PyData)}, PySem.W.EachIs (fun (u : Value) (b : V × PyData) => L2.RelV b.1 u ∧ Dp K H b.1 b.2) its bs → Vals (bs.map (·.1)) its
  | _, _, .nil => .nil
  | _, _, .cons h t => .cons h.1 (each_vals t)
theorem dpa_len {K : PySem.W.Frag} {H : Hp} : ∀ {vs : List V} {ds : List PyData}, DpAll K H vs ds → vs.length = ds.length
  | _, _, .nil => rfl
  | _, _, .cons _ t => by rw [List.length_cons, List.length_cons, dpa_len t]
section
variable {X : Cx} {k : Nat} {P c : Addr} {T : List (Addr × Str)} {y : Str} {e : Expr} {te : TE} {params : Arguments} {sc : Scope} {p p1 p2 p3 lpos kp pos : Pos}
/-- sorted(e, key=lambda y: str(y)) -/
theorem pe_sortS (g : Gd X.A) (hr : Room k X.A) (hg : Gl X "sorted") (hm : X.mg "sorted" = none) (hms : X.mg "str" = none) (he : PE X e te) (TB : TabB X.base X.mg c P) (hcode : X.env.code = .ref c) (hT : (P, X.env.qual ++ "<lambda>") ∈ T) (hu : ∀ z ∈ T, z.1 = P → z.2 = X.env.qual ++ "<lambda>") (L : StrS sc y)
    (hbind : ∀ (q : Str) (cl : List (Str × Addr)) (pm cv ctv v : Value), bindArgs (PySem.W.kla_fn "<lambda>" q params (.Call (.Name "str" p1) [.Name y p2] [] p3) sc cl pm cv ctv) ⟨[v], []⟩ = pure [(y, v)] := by exact fun _ _ _ _ _ _ => rfl) (hdef : defaultsOf params X.env = ([], []) := by rfl) (hy : (y == ("__debug__" : Str)) = false := by decide)
    (e1 : backTo pos (starEach [e] X.env) = (false, eval e X.env) :: backTo pos (starEach [] X.env) := by rfl) (e2 : (backTo pos (starEach [e] X.env)).any (·.1) = false := by rfl) :
    PE X (.Call (.Name "sorted" p) [e] [⟨some "key", .Lambda params (.Call (.Name "str" p1) [.Name y p2] [] p3) sc lpos, kp⟩] pos) (tSortS X.K P T te) := by
  refine ⟨fun pins s σ H Q I h => ?_⟩
  refine wpAny_Call_Name_kw (ld_blt I hg hm (u := .builtin "sorted") (by kernel_rfl) ?_)
  refine PyProof.Rows.callWith_kw ?_ e1 e2 (by rfl) (by rfl)
  have ev : wpAny (model X.prog X.w) X.A (spliced (backTo pos (starEach [e] X.env))) (AP X pins σ fun vs H1 => ∃ x, vs = [x] ∧ (Tabs T H1 ∧ ∀ H2, (∀ b o, b ≠ P → H1 b = some o → H2 b = some o) → Tabs T H2 →
      ∃ (a : Addr) (xs : List V) (ds : List PyData), x = .ref a ∧ SqL X.K H2 a xs ∧ DpAll X.K H2 xs ds ∧ (∀ d ∈ ds, KeyD d) ∧ ∀ p, H2 p = none → Q (.ref p) (upd H2 p (.lst (sortS xs ds))))) X.xe s := by
    rw [e1]
    refine Calls.spliced_cons (thn (he.run pins s σ H _ I h) fun u s1 ⟨x, H1, I1, r1, q1⟩ => ?_)
    exact Calls.spliced_nil ⟨[x], H1, I1, .cons r1 .nil, x, rfl, q1⟩
  refine thn ev fun us s1 ⟨vs, H1, I1, r1, x, exx, tabs1, q1⟩ => ?_
  subst exx
  obtain ⟨u, eu, ru⟩ := vals1 r1
  subst eu
  refine PyProof.Rows.kws_cons ?_
  refine lam_mk I1 TB hcode hT hu tabs1 hdef (fun z hz ez => absurd ez (L.nofree z hz)) fun f c1 pm ctv H2 s2 I2 kp2 T2 hf nf ns hc1 => ?_
  refine PyProof.Rows.kws_nil ?_
  obtain ⟨a, xs, ds, ex, hs, hds, hk, q⟩ := q1 H2 kp2 T2
  subst ex
  obtain rfl : u = Value.ref a := ru
  obtain ⟨its, rv, hl, hz⟩ := I2.list hs
  obtain ⟨⟨oc, vs, tk, co, cd, cn⟩, _⟩ := I2.hok c1 _ hc1
  obtain ⟨mb, hb1, hb2⟩ := I2.mod.blt
  have hlen := rv.length
  have zl : (xs.zip ds).length = its.length := by
    rw [List.length_zip, ← dpa_len hds, Nat.min_self, hlen]
  show wpAny (model X.prog X.w) X.A (call (.builtin "sorted") [.ref a] [(Str.ofString "key", .ref f)]) _ _ s2
  refine PySem.W.sorted_key_data (b := false) (fun z : V × PyData => PyData.str z.2.shown) hl.isList (dpa_zip hds rv) (PySem.W.AllAlike.of fun _ _ => by simp [PySem.W.alike]) (PySem.W.Sortable.others fun _ => ⟨by simp, by simp⟩) (by rw [zl, ← hlen]; exact hz) (fun z _ => ?_) (PyProof.Rows.ksk_s1 _ _) (fun _ => PyProof.Rows.ksk_l1 _ _) (fun _ => PyProof.Rows.ksk_t1 _ _) (fun v z ⟨rz, dz⟩ mz h tk keep => ?_) fun out c2 h' tk keep fr hD hlo eo => ?_
  · have := hr.un
    show X.A.units + 2 + 0 < cLine
    omega
  · have hzd : z.2 ∈ ds := (List.of_mem_zip mz).2
    have kz := hk _ hzd
    obtain ⟨as, rd⟩ := Dp.reads I2 z.2 z.1 v dz rz
    have hr2 := hr.un
    exact strkey_call (s1 := { s2 with heap := h, toks := tk }) (mg := X.mg) (mb := mb) L (show X.A.depth < recursionLimit from hr.depth) (show X.A.guards = some [] from g) (by show X.A.units + 1 + 1 + 60 < cLine; omega) (keep _ _ hf) ⟨c1, oc, _, _, rfl, keep _ _ co, cd, cn⟩ ((I2.mod.glob.keeps I2.bk).keeps keep) hms ((hb1.keeps I2.bk).keeps keep) ((hb2 "str" (by decide)).trans (by kernel_rfl)) (I2.nolimit.keeps keep) (hbind _ _ _ _ _ _) hy (PyProof.Rows.Reads.keeps keep rd) kz.bx kz.sh (dp_nodict _ _ dz) kz.dp kz.sz
  · have vo := each_vals eo
    have hlz : (sortS xs ds).length ≤ sizeLine := by
      unfold sortS
      rw [List.length_map, List.length_mergeSort, zl, ← hlen]
      exact hz
    exact ⟨.ref _, upd H2 (s2.heap.objs.size + 1) (.lst (sortS xs ds)), I2.laid (t' := tk) keep (Nat.le_succ _) ⟨hlz, out, c2, vo, hD⟩, rfl, q _ (I2.hok.fresh (Nat.le_succ _))⟩
end
section
variable {X : Cx} {K : PySem.W.Frag} {k : Nat} {P c : Addr} {T : List (Addr × Str)} {y : Str} {e : Expr} {te : TE} {params : Arguments} {sc : Scope} {p p1 p2 p3 lpos kp pos : Pos}
theorem pe_sortSK (g : Gd X.A) (hr : Room k X.A) (hg : Gl X "sorted") (hm : X.mg "sorted" = none) (hms : X.mg "str" = none) (he : PE X e te) (TB : TabB X.base X.mg c P) (hcode : X.env.code = .ref c) (hT : (P, X.env.qual ++ "<lambda>") ∈ T) (hu : ∀ z ∈ T, z.1 = P → z.2 = X.env.qual ++ "<lambda>") (L : StrS sc y)
    (hbind : ∀ (q : Str) (cl : List (Str × Addr)) (pm cv ctv v : Value), bindArgs (PySem.W.kla_fn "<lambda>" q params (.Call (.Name "str" p1) [.Name y p2] [] p3) sc cl pm cv ctv) ⟨[v], []⟩ = pure [(y, v)] := by exact fun _ _ _ _ _ _ => rfl) (hdef : defaultsOf params X.env = ([], []) := by rfl) (hy : (y == ("__debug__" : Str)) = false := by decide)
    (e1 : backTo pos (starEach [e] X.env) = (false, eval e X.env) :: backTo pos (starEach [] X.env) := by rfl) (e2 : (backTo pos (starEach [e] X.env)).any (·.1) = false := by rfl) (hK : X.K = K := by rfl) :
    PE X (.Call (.Name "sorted" p) [e] [⟨some "key", .Lambda params (.Call (.Name "str" p1) [.Name y p2] [] p3) sc lpos, kp⟩] pos) (tSortS K P T te) := by
  subst hK
  exact pe_sortS g hr hg hm hms he TB hcode hT hu L hbind hdef hy e1 e2
end
/-! ### over the layer -/
def leA {α : Type} (dd : α → PyData) (a b : α) : Bool := decide ((dd a).shown.cps.toList ≤ (dd b).shown.cps.toList)
def sortA {α : Type} (dd : α → PyData) (xs : List α) : List α := xs.mergeSort (leA dd)
theorem leS_eq (a b : V × PyData) : leS a b = decide (a.2.shown.cps.toList ≤ b.2.shown.cps.toList) := by
  unfold leS
  rw [PySem.W.dataLe_str]
theorem all2_pick {α : Type} {R : Rl α} {S : Hp} : ∀ {L : List (α × V)}, (∀ z ∈ L, R z.1 z.2 S) → All2 R S (L.map (·.1)) (L.map (·.2))
  | [], _ => .nil
  | z :: L, h => .cons (h z List.mem_cons_self) (all2_pick fun y hy => h y (List.mem_cons_of_mem _ hy))
theorem all2_zip {α : Type} {R : Rl α} {S : Hp} : ∀ {xs : List α} {vs : List V}, All2 R S xs vs → ∀ z ∈ xs.zip vs, R z.1 z.2 S
  | _, _, .cons h t, z, hz => by
    rcases List.mem_cons.mp hz with rfl | hz
    · exact h
    · exact all2_zip t z hz
theorem all2_zmap {α : Type} {R : Rl α} {S : Hp} (dd : α → PyData) : ∀ {xs : List α} {vs : List V}, All2 R S xs vs → vs.zip (xs.map dd) = (xs.zip vs).map fun z => (z.2, dd z.1)
  | _, _, .nil => rfl
  | _, _, .cons h t => by
    rw [List.map_cons, List.zip_cons_cons, List.zip_cons_cons, List.map_cons, all2_zmap dd t]
theorem all2_zfst {α : Type} {R : Rl α} {S : Hp} : ∀ {xs : List α} {vs : List V}, All2 R S xs vs → (xs.zip vs).map (·.1) = xs
  | _, _, .nil => rfl
  | _, _, .cons h t => by rw [List.zip_cons_cons, List.map_cons, all2_zfst t]
theorem all2_sort {α : Type} {R : Rl α} {S : Hp} (dd : α → PyData) {xs : List α} {vs : List V} (h : All2 R S xs vs) : All2 R S (sortA dd xs) (sortS vs (xs.map dd)) := by
  unfold sortA sortS
  have e1 : ((xs.zip vs).mergeSort fun a b => leA dd a.1 b.1).map (·.1) = xs.mergeSort (leA dd) := by
    rw [List.map_mergeSort (s := leA dd) (f := fun z : α × V => z.1) (fun _ _ _ _ => rfl), all2_zfst h]
  have e2 : ((vs.zip (xs.map dd)).mergeSort leS).map (·.1) = ((xs.zip vs).mergeSort fun a b => leA dd a.1 b.1).map (·.2) := by
    rw [all2_zmap dd h, ← List.map_mergeSort (r := fun a b : α × V => leA dd a.1 b.1) (s := leS) (f := fun z : α × V => (z.2, dd z.1)) (fun a _ b _ => (leS_eq (a.2, dd a.1) (b.2, dd b.1)).symm), List.map_map]
    rfl
  rw [← e1, e2]
  exact all2_pick fun z hz => all2_zip h z ((List.mergeSort_perm _ _).mem_iff.mp hz)
theorem sort_uniq {α : Type} {dd : α → PyData} : ∀ {ys zs : List α}, ys.Perm zs → (ys.Pairwise fun a b => leA dd b a = false) → (zs.Pairwise fun a b => leA dd a b = true) → ys = zs
  | [], zs, hp, _, _ => hp.nil_eq
  | a :: ys, zs, hp, h1, h2 => by
    cases zs with
    | nil => exact absurd hp.length_eq (by simp)
    | cons b zs =>
      obtain ⟨ha, h1'⟩ := List.pairwise_cons.mp h1
      obtain ⟨hb, h2'⟩ := List.pairwise_cons.mp h2
      have e : b = a := by
        have hm : b ∈ a :: ys := hp.mem_iff.mpr List.mem_cons_self
        rcases List.mem_cons.mp hm with e | hm
        · exact e
        · have ma : a ∈ b :: zs := hp.mem_iff.mp List.mem_cons_self
          rcases List.mem_cons.mp ma with e | ma
          · exact e.symm
          · have := ha b hm
            rw [hb a ma] at this
            cases this
      subst e
      rw [sort_uniq (List.Perm.cons_inv hp) h1' h2']
theorem leA_total {α : Type} (dd : α → PyData) (a b : α) : (leA dd a b || leA dd b a) = true := by
  unfold leA
  rw [Bool.or_eq_true, decide_eq_true_eq, decide_eq_true_eq]
  exact List.le_total _ _
theorem leA_trans {α : Type} (dd : α → PyData) (a b c : α) (h1 : leA dd a b = true) (h2 : leA dd b c = true) : leA dd a c = true := by
  unfold leA at *
  rw [decide_eq_true_eq] at *
  exact List.le_trans h1 h2
/-- the only way to sort it -/
theorem sortA_is {α : Type} {dd : α → PyData} {xs ys : List α} (hp : ys.Perm xs) (h : ys.Pairwise fun a b => leA dd b a = false) : sortA dd xs = ys :=
  (sort_uniq (hp.trans (List.mergeSort_perm xs (leA dd)).symm) h (List.pairwise_mergeSort (fun a b c => leA_trans dd a b c) (fun a b => leA_total dd a b) xs)).symm
theorem sortA_mem {α : Type} {dd : α → PyData} {xs : List α} {x : α} : x ∈ sortA dd xs ↔ x ∈ xs := (List.mergeSort_perm xs (leA dd)).mem_iff
theorem sortA_perm {α : Type} {dd : α → PyData} {xs : List α} : (sortA dd xs).Perm xs := List.mergeSort_perm xs (leA dd)
section
variable {K : PySem.W.Frag} {r : Rs} {T : List (Addr × Str)} {S : Hp} {s : L2.St} {P : Addr} {q : Str} {te : TE} {α : Type} {R : Rl α}
theorem dpa_all {dd : α → PyData} (hd : ∀ a v S, R a v S → Dp K S v (dd a)) : ∀ {xs : List α} {vs : List V} {S : Hp}, All2 R S xs vs → DpAll K S vs (xs.map dd)
  | _, _, _, .nil => .nil
  | _, _, _, .cons h t => .cons (hd _ _ _ h) (dpa_all hd t)
theorem en_sortS [Rs.Plain r] [Mono R] (dd : α → PyData) (hd : ∀ a v S, R a v S → Dp K S v (dd a)) {xs : List α} (hk : ∀ x ∈ xs, KeyD (dd x)) (hP : (P, q) ∈ T) (h : EvS (r.tabs T) te s S fun v S1 => LstR R xs v S1) :
    EvN (r.tabs T) (tSortS K P T te) s S fun o S1 => ∃ ws, o = .lst ws ∧ All2 R S1 (sortA dd xs) ws := fun S1 H e w Q q' =>
  h S1 H e w _ fun v S2 H2 w2 s2 ⟨a, vs, ev, hl, hv⟩ => ⟨w2.inv.2, fun H3 k t3 => by
    obtain ⟨w3, s3⟩ := w2.grown hP k t3
    have hv3 := hv
    refine ⟨a, vs, xs.map dd, ev, SqL.of (w3.ex _ _ hl), dpa_up w3.ex _ _ (dpa_all hd hv), fun d hd' => ?_, fun p hp => ?_⟩
    · obtain ⟨x, hx, rfl⟩ := List.mem_map.mp hd'
      exact hk x hx
    · exact q' p _ S2 _ (pre_none (s2.trans s3) hp) upd_same (w3.fresh hp) (w3.new hp) ((s2.trans s3).trans (Stp.new hp)) ⟨_, rfl, all2_sort dd hv⟩⟩
end
end J

set_option pp.maxSteps 3000
/-! J58: o.m( *e), e a tuple. -/
namespace J
open PySem PySem.Spec PyProof.Rows L2 Evl RZ
def tMethS1 (K : PySem.W.Frag) (C : Addr) (m : Str) (g : Addr) (sp : Sp) (E : XK) (ta te : TE) : TE := tMethS K C m g (fun vs H Q E => sp (vs ++ []) H Q E) E ta te
theorem pe_methS1K {X : Cx} {K : PySem.W.Frag} {CX : CXT} {k : Nat} {C g : Addr} {m : Str} {fd : FuncData} {ps : List Str} {sp : Sp} {E : XK} {o e : Expr} {ta te : TE} {p apos pos : Pos} (he : PE X o ta) (c : Cls X.K C) (b : BMeth X.K C m g) (F : FnOk X.prog X.w X.K X.mg X.base CX k g fd ps sp) (hr : Room k X.A) (hb : Binds X.K fd ps [])
    (hx : Passes CX X E) (ha : PE X e te) (hbase : attributeBase o m X.env (eval o X.env) = eval o X.env := by rfl) (hK : X.K = K := by rfl) : PE X (.Call (.Attribute o m apos) [.Starred e p] [] pos) (tMethS1 K C m g sp E ta te) := by
  subst hK
  exact pe_methS he c b (F.raw hb .nil) hr hx ha hbase
section
variable {K : PySem.W.Frag} {r : Rs} {s : L2.St} {S : Hp} {ta te : TE}
theorem ev_methS1 {A : Type} {C g : Addr} {mn : Str} {pre : A → List V → Hp → Prop} {post : A → V → Hp → Prop} {E : XK} {Q1 : V → Hp → Prop} {P : List V → Hp → Prop} {R : V → Hp → Prop} (h : EvS r ta s S Q1) (h2 : ∀ S1, Ex S S1 → EvS r te s S1 fun y S2 => ∃ b vs, y = .ref b ∧ SqT K S2 b vs ∧ P vs S2)
    (hp : ∀ x vs S1 S2, Ex S S1 → Q1 x S1 → Ex S1 S2 → P vs S2 → ∃ a dx fs, x = .ref a ∧ S1 a = some (.ins C dx fs) ∧ fs.lookup mn = none ∧ ∃ b, pre b (x :: vs) S2 ∧ ∀ v S3, Ex S2 S3 → post b v S3 → R v S3)
    (hi : ∀ x S1, Ex S S1 → Q1 x S1 → ∃ a dx fs, x = .ref a ∧ S1 a = some (.ins C dx fs) ∧ fs.lookup mn = none) : EvS r (tMethS1 K C mn g (SpP pre post) E ta te) s S R := fun S1 H e w Q q =>
  h S1 H e w _ fun x S2 H2 w2 s2 hx => by
    obtain ⟨a, dx, fs, ex, ea, el⟩ := hi x S2 (e.trans s2.ex) hx
    subst ex
    refine ⟨a, dx, fs, rfl, w2.ex _ _ ea, el, fun p hp0 => ?_⟩
    have en : Ex S2 (upd S2 p (.met g a)) := Ex.new (w2.fresh hp0)
    refine h2 _ (e.trans (s2.ex.trans en)) _ _ (Ex.refl _) (w2.newS hp0) _ fun y S3 H3 w3 s3 ⟨b, vs, ey, hb, hv⟩ => ?_
    obtain ⟨a', dx', fs', e1', e2', e3', b', p1, p2⟩ := hp (.ref a) vs S2 S3 (e.trans s2.ex) hx (en.trans s3.ex) hv
    refine ⟨b, vs, ey, ex_t w3.ex hb, w3.ex _ _ (s3.ex _ _ upd_same), ?_⟩
    exact ⟨b', S3, by rw [List.append_nil]; exact p1, w3.ex, fun v S4 H4 w4 s4 p4 => q v S4 H4 (w3.lift w4 s4) ((s2.trans ((Stp.newS w2 hp0).trans s3)).trans s4.lift) (p2 v S4 s4.ex p4)⟩
end
end J

set_option pp.maxSteps 3000
/-! J59: not in a tuple of data; a comprehension whose tests are not known. -/
namespace J
open PySem PySem.Spec PyProof.Rows L2 Evl RZ
def rNotInDT (K : PySem.W.Frag) : R2 := fun x y H Q => ∃ d ds, Dp K H x d ∧ Dp K H y (.tuple ds) ∧ SeqAt.shaped d = true ∧ SeqAt.shaped (.tuple ds) = true ∧ Q (.bl (!ds.any fun z => PyData.eqv z d)) H
theorem op_notInDTK {X : Cx} {K : PySem.W.Frag} (hu : X.A.units + 65 < cLine) (hK : X.K = K := by rfl) : OpR X (compareOp .NotIn) (rNotInDT K) := by
  subst hK
  intro pins s σ H x y v u Q I rx ry h
  obtain ⟨d, ds, hd, he, sd, se, q⟩ := h
  obtain ⟨as, r1⟩ := Dp.reads I d x v hd rx
  obtain ⟨bs, r2⟩ := Dp.reads I (.tuple ds) y u he ry
  exact SeqAt.notIn_tuple_reads r2 r1 (by simpa [PyData.canLay0] using SeqAt.canLay_of_shaped se) (SeqAt.canLay_of_shaped sd) (PyProof.Rows.room_in_shaped sd hu) ⟨.bl _, H, I, rfl, q⟩
section
variable {K : PySem.W.Frag} {r : Rs} {s : L2.St} {S : Hp} {x y : V} {tt : TT} {α : Type}
theorem rs_notInDT {d : PyData} {ds : List PyData} (h1 : Dp K S x d) (h2 : Dp K S y (.tuple ds)) (s1 : SeqAt.shaped d = true) (s2 : SeqAt.shaped (.tuple ds) = true) : RVS (rNotInDT K) x y S (.bl (!ds.any fun z => PyData.eqv z d)) := fun H ex Q q => ⟨d, ds, dp_up ex _ _ h1, dp_up ex _ _ h2, s1, s2, q⟩
theorem rs_notInD {d : PyData} {ds : List PyData} (h1 : Dp K S x d) (h2 : Dp K S y (.list ds)) (s1 : SeqAt.shaped d = true) (s2 : SeqAt.shaped (.list ds) = true) : RVS (rNotInD K) x y S (.bl (!ds.any fun z => PyData.eqv z d)) := fun H ex Q q => ⟨d, ds, dp_up ex _ _ h1, dp_up ex _ _ h2, s1, s2, q⟩
/-- [x for x in ys if ..], the tests only told to be truth values: some of ys -/
theorem en_lcU {wi : TI} {j : Nat} {vs : List Nat} {ys : List α} {X : Rl α} [Mono X] (hi : EvI r wi s S ys X) (hz : ys.length ≤ 100000) (hw : ∀ v, wipe ((wipe s vs).set j (some v)) vs = wipe s vs) (hj : ∀ v, ((wipe s vs).set j (some v))[j]? = some (some v))
    (ht : ∀ y v S1, Ex S S1 → y ∈ ys → X y v S1 → EvTS r tt ((wipe s vs).set j (some v)) S1 fun _ _ => True) :
    EvN r (tLc wi (gName j) tt (tVar j) vs) s S fun o S1 => ∃ ws zs, o = .lst ws ∧ List.Sublist zs ys ∧ All2 X S1 zs ws := fun S1 H a w Q q =>
  hi S1 H a w _ fun J S2 H2 G Y w2 s2 wk hG hY D hD => by
    have hM : D ∉ r.M := w2.notM hD
    refine lc_it wk (fun i H' => ∃ S' ws zs, Wd r S' H' ∧ Stp r S2 H2 S' H' ∧ S' D = none ∧ H' D = some (.lst ws) ∧ List.Sublist zs (ys.take i) ∧ All2 X S' zs ws)
      ⟨S2, [], [], w2.new hD, Stp.new hD, w2.fresh hD, upd_same, List.nil_sublist _, .nil⟩ (fun i H' _ ⟨S', ws, zs, w', s', _⟩ => hG S' H' s'.ex w') ?_ ?_
    · rintro i v H' H'' hlt ⟨S', ws, zs, w', s', n', l', sb, a'⟩ y'
      obtain ⟨S3, y, g1, w3, s3, x3⟩ := hY i S' H' v H'' hlt s'.ex w' y'
      have ey : ys.take (i + 1) = ys.take i ++ [y] := by rw [List.take_add_one, g1]; rfl
      have e3 : Ex S S3 := a.trans (s2.ex.trans (s'.ex.trans s3.ex))
      have l3 : H'' D = some (.lst ws) := s3.kp D _ hM l'
      have n3 : S3 D = none := s3.fr D (ne_none l') n'
      refine ⟨hw v, ht y v S3 e3 (List.mem_of_getElem? g1) x3 S3 H'' (Ex.refl _) w3 _ fun b S4 H4 w4 s4 _ => ?_⟩
      have l4 : H4 D = some (.lst ws) := s4.kp D _ hM l3
      have n4 : S4 D = none := s4.fr D (ne_none l3) n3
      have s24 : Stp r S2 H2 S4 H4 := s'.trans (s3.trans s4)
      have a4 : All2 X S4 zs ws := a'.up (s3.ex.trans s4.ex)
      cases b with
      | true =>
        refine iteT ?_
        refine ⟨_, hj v, ws, l4, ?_, S4, ws ++ [v], zs ++ [y], w4.mut n4 hM (nco_lst l4), s24.mut hD, n4, upd_same, ?_, a4.append (.cons (Mono.up s4.ex x3) .nil)⟩
        · have h1 := a4.len
          have h2 := sb.length_le
          rw [List.length_take] at h2
          exact sz_lt (by omega)
        · rw [ey]
          exact sb.append (List.Sublist.refl _)
      | false =>
        refine iteF ?_
        exact ⟨S4, ws, zs, w4, s24, n4, l4, by rw [ey]; exact sb.trans (List.sublist_append_left _ _), a4⟩
    · rintro H' ⟨S', ws, zs, w', s', n', l', sb, a'⟩
      rw [List.take_length] at sb
      have h1 : H D = none := by
        cases e : H D with
        | none => rfl
        | some ob => exact absurd hD (s2.dm D (ne_none e))
      exact q D _ S' H' h1 l' n' w' (s2.trans s') ⟨ws, zs, rfl, sb, a'⟩
end
end J

/-! J60: a tuple of anything == (). -/
namespace J
open PySem PySem.Spec PyProof.Rows L2 Evl RZ
def rEqTE (K : PySem.W.Frag) : R2 := fun x y H Q => ∃ p q xs, x = .ref p ∧ y = .ref q ∧ SqT K H p xs ∧ SqT K H q [] ∧ Q (.bl xs.isEmpty) H
theorem op_eqTE {X : Cx} (hu : X.A.units < cLine) : OpR X (compareOp .Eq) (rEqTE X.K) := by
  intro pins s σ H x y v u Q I rx ry h
  obtain ⟨p, q, xs, rfl, rfl, hp, hq, wants⟩ := h
  cases rx
  cases ry
  obtain ⟨its, r1, t1, _⟩ := I.tuple hp
  obtain ⟨its2, r2, t2, _⟩ := I.tuple hq
  cases r2
  have e : ((List.range (min its.toArray.size ([] : List Value).toArray.size)).all (fun _ => true) && its.toArray.size == ([] : List Value).toArray.size) = xs.isEmpty := by
    have hl := r1.length
    cases xs with
    | nil =>
      cases its with
      | nil => rfl
      | cons a b => cases hl
    | cons a b =>
      cases its with
      | nil => cases hl
      | cons a b => simp
  have h := PySem.SeqAt.RcAt.tuples (A := X.A) (s := s) (e := fun _ => true) t1 t2 hu (fun j h1 h2 => absurd h2 (by simp))
  rw [e] at h
  exact h X.prog X.w X.xe _ ⟨.bl xs.isEmpty, H, I, rfl, wants⟩
theorem op_eqTEK {X : Cx} {K : PySem.W.Frag} (hu : X.A.units + 64 < cLine) (hK : X.K = K := by rfl) : OpR X (compareOp .Eq) (rEqTE K) := by
  subst hK
  exact op_eqTE (by omega)
section
variable {r : Rs} {s : L2.St} {S : Hp} {ta tb : TE} {K : PySem.W.Frag}
theorem vv_eqTE {p : Addr} {xs : List V} (h : EvV r ta s S (.ref p)) (hp : SqT K S p xs) : EvV r (tOp (rEqTE K) ta (tTup tNil)) s S (.bl xs.isEmpty) :=
  ev_op2 (B := fun v S1 => ∃ q, v = .ref q ∧ SqT K S1 q []) h (fun _ S1 e _ => (en_tup (P := fun us _ => us = []) (EvAS.imp' va_nil fun us S2 _ h => h) fun us S2 eu => by
    rw [eu]
    decide).stable fun q o S2 _ n ⟨us, eo, eu⟩ => ⟨q, rfl, SqT.of (by rw [eo, eu]; exact upd_same)⟩) fun x y S1 S2 e1 ex e2 ⟨q, ey, hq⟩ => by
    subst ex
    subst ey
    exact ⟨_, fun H e Q k => ⟨p, q, xs, rfl, rfl, ex_t (e1.trans (e2.trans e)) hp, ex_t e hq, k⟩, rfl⟩
end
end J

/-! J61: a method called with keywords; a call of an own instance. -/
namespace J
open PySem PySem.Spec L2 Evl RZ
/-- o.m(e, .., k = e, ..) -/
def tMethN (C : Addr) (m : Str) (n j : Nat) (sp : Sp) (gV : List V → List V → List V) (E : XK) (ta : TE) (t tk : TA) : TE := fun σ H Q =>
  ta σ H fun x H1 => ∃ a dx fs, x = .ref a ∧ H1 a = some (.ins C dx fs) ∧ fs.lookup m = none ∧ t σ H1 fun vs H2 => tk σ H2 fun zs H3 => vs.length = n ∧ zs.length = j ∧ sp (gV (x :: vs) zs) H3 Q E
section
variable {X : Cx} {CX : CXT} {k n : Nat} {C f : Addr} {fd : FuncData} {ps ks : List Str} {sp : Sp} {E : XK} {m : Str} {apos pos : Pos} {o e : Expr} {es : List Expr} {kws : List Keyword} {ta : TE} {t tk : TA} {g : List Value → List Value → List Value} {gV : List V → List V → List V}
theorem pe_methN {pl : Sem Bool} (he : PE X o ta) (c : Cls X.K C) (hm : Meth X.K C m f) (F : FnOk X.prog X.w X.K X.mg X.base CX k f fd ps sp) (hr : Room k X.A) (hb : KBn X.K fd ps (n + 1) ks g gV) (hx : Passes CX X E) (ha : PA X (e :: es) t) (hkw : PK X kws tk)
    (hall : (backToKw pos (keywordEach kws X.env)).all (·.1.isSome) = true := by rfl) (hks : (backToKw pos (keywordEach kws X.env)).filterMap (·.1) = ks := by rfl) (hst : starEach (e :: es) X.env = (false, eval e X.env) :: starEach es X.env := by rfl)
    (hpl : ((backTo pos (starEach (e :: es) X.env)).any (·.1) || (backToKw pos (keywordEach kws X.env)).any (·.1.isNone)) = false := by rfl)
    (ht : eval (.Call (.Attribute o m apos) (e :: es) kws pos) X.env = (do
      let ov ← eval o X.env
      standAt apos.atName
      let (f, first) ← holding [ov] (getMethod ov m pl)
      callWith pos f first (backTo pos (starEach (e :: es) X.env)) (backToKw pos (keywordEach kws X.env))) := by rfl) :
    PE X (.Call (.Attribute o m apos) (e :: es) kws pos) (tMethN C m n ks.length sp gV E ta t tk) := by
  refine ⟨fun pins s σ H Q I h => ?_⟩
  refine PySem.W.methodCall_KW (pl := pl) (thn (he.run pins s σ H _ I h) fun u s1 ⟨x, H1, I1, rx, a, dx, fs, ex, ea, l, q⟩ => ?_) ht
  subst ex
  obtain rfl : u = Value.ref a := rx
  refine getmeth_ok I1 ea c hm l ?_
  refine PySem.W.callWith_KW (first := [.ref a]) (h₀ := X.base) I.ok.mod.kin hm.kp hall (thn (ha.run pos pins s1 σ H1 _ I1 q) fun us s2 ⟨vs, H2, I2, r, q2⟩ => ?_) hpl hst
  refine thn (hkw.run pos pins s2 σ H2 _ I2 q2) fun ws s3 ⟨zs, H3, I3, rz, l1, l2, q3⟩ => ⟨I3.kIn, ?_⟩
  rw [hks]
  exact run_fnN (us := .ref a :: us) (vs := .ref a :: vs) F hr hb hx I3 (.cons rfl r) rz (by rw [List.length_cons, l1]) l2 q3
end
section
variable {r : Rs} {s : L2.St} {S : Hp} {ta : TE} {ts tk : TA} {A : Type} {C : Addr} {mn : Str} {pre : A → List V → Hp → Prop} {post : A → V → Hp → Prop} {E : XK} {n j : Nat} {gV : List V → List V → List V}
theorem ev_methN {Q1 R : V → Hp → Prop} {vs zs : List V} (h : EvS r ta s S Q1) (h2 : EvAV r ts s S vs) (h3 : EvAV r tk s S zs) (l1 : vs.length = n) (l2 : zs.length = j) (hp : ∀ x S1 S2, Ex S S1 → Q1 x S1 → Ex S1 S2 → ∃ a dx fs, x = .ref a ∧ S1 a = some (.ins C dx fs) ∧ fs.lookup mn = none ∧ ∃ b, pre b (gV (x :: vs) zs) S2 ∧ ∀ v S3, Ex S2 S3 → post b v S3 → R v S3) : EvS r (tMethN C mn n j (SpP pre post) gV E ta ts tk) s S R := fun S1 H e w Q q =>
  h S1 H e w _ fun x S2 H2 w2 s2 ex => by
    obtain ⟨a, dx, fs, e1, e2, e3, _⟩ := hp x S2 S2 (e.trans s2.ex) ex (Ex.refl _)
    refine ⟨a, dx, fs, e1, w2.ex _ _ e2, e3, h2 S2 H2 (e.trans s2.ex) w2 _ fun us S3 H3 w3 s3 eu => h3 S3 H3 (e.trans (s2.ex.trans s3.ex)) w3 _ fun us' S4 H4 w4 s4 eu' => ?_⟩
    subst eu
    subst eu'
    obtain ⟨_, _, _, _, _, _, b, p1, p2⟩ := hp x S2 S4 (e.trans s2.ex) ex (s3.ex.trans s4.ex)
    exact ⟨l1, l2, b, S4, p1, w4.ex, fun u S5 H5 w5 s5 p5 => q u S5 H5 (w4.lift w5 s5) ((s2.trans s3).trans (s4.trans s5.lift)) (p2 u S5 s5.ex p5)⟩
end
end J
namespace J
open PySem PySem.Spec PyProof.Rows L2 Evl RZ
/-! x is not False, x of any kind -/
def rNotA : R2 := fun x y H Q => rNotU x y H Q ∨ ∃ b, y = .bl b ∧ Q (.bl (!decide (x = .bl b))) H
theorem op_notA {X : Cx} : OpR X (compareOp .IsNot) rNotA := OpR.or op_notU (by
  intro pins s σ H x y v u Q I rx ry h
  obtain ⟨b, rfl, q⟩ := h
  cases (show u = Value.bool b from ry)
  cases x with
  | bl a =>
    cases (show v = Value.bool a from rx)
    by_cases e : a = b
    · subst e
      exact wpAny_isNot_self rfl ⟨.bl false, H, I, rfl, by simpa using q⟩
    · exact wpAny_isNot_other rfl (fun z => e (Value.bool.inj z)) ⟨.bl true, H, I, rfl, by simpa [e] using q⟩
  | non =>
    cases rx
    exact wpAny_isNot_other rfl (fun z => nomatch z) ⟨.bl true, H, I, rfl, by simpa using q⟩
  | int i =>
    obtain ⟨t, rfl⟩ := rx
    exact wpAny_isNot_other rfl (fun z => nomatch z) ⟨.bl true, H, I, rfl, by simpa using q⟩
  | str z =>
    obtain ⟨t, rfl⟩ := rx
    exact wpAny_isNot_other rfl (fun z => nomatch z) ⟨.bl true, H, I, rfl, by simpa using q⟩
  | byt z =>
    obtain ⟨t, rfl⟩ := rx
    exact wpAny_isNot_other rfl (fun z => nomatch z) ⟨.bl true, H, I, rfl, by simpa using q⟩
  | flt z =>
    obtain ⟨t, rfl⟩ := rx
    exact wpAny_isNot_other rfl (fun z => nomatch z) ⟨.bl true, H, I, rfl, by simpa using q⟩
  | ref a =>
    cases rx
    exact wpAny_isNot_other rfl (fun z => nomatch z) ⟨.bl true, H, I, rfl, by simpa using q⟩
  | ty n =>
    cases rx
    exact wpAny_isNot_other rfl (fun z => nomatch z) ⟨.bl true, H, I, rfl, by simpa using q⟩)
theorem rs_notA {x : V} {b : Bool} {S : Hp} : RVS rNotA x (.bl b) S (.bl (!decide (x = .bl b))) := fun H _ Q q => .inr ⟨b, rfl, q⟩
theorem rs_notAN {x : V} {S : Hp} : RVS rNotA x .non S (.bl (!decide (x = .non))) := fun H _ Q q => .inl (.inl ⟨rfl, q⟩)
/-! a call of an own instance -/
section
variable {r : Rs} {s : L2.St} {S : Hp} {tf : TE} {ts : TA} {A B : Type} {X : Cx} {C : Addr} {pre : A → List V → Hp → Prop} {post : A → V → Hp → Prop} {E : XK}
theorem ev_callO {Q1 R : V → Hp → Prop} {vs : List V} (h : EvS r tf s S Q1) (h2 : EvAV r ts s S vs) (hp : ∀ x S1 S2, Ex S S1 → Q1 x S1 → Ex S1 S2 → ∃ a dx fs, x = .ref a ∧ S1 a = some (.ins C dx fs) ∧ ∃ b, pre b (x :: vs ++ []) S2 ∧ ∀ v S3, Ex S2 S3 → post b v S3 → R v S3) : EvS r (StX.tCallO X C (fun vs H Q E => SpP pre post (vs ++ []) H Q E) E tf ts) s S R := fun S1 H e w Q q =>
  h S1 H e w _ fun x S2 H2 w2 s2 ex => by
    obtain ⟨a, dx, fs, e1, e2, _⟩ := hp x S2 S2 (e.trans s2.ex) ex (Ex.refl _)
    refine ⟨a, e1, h2 S2 H2 (e.trans s2.ex) w2 _ fun us S3 H3 w3 s3 eu => ?_⟩
    subst eu
    subst e1
    obtain ⟨a', dx', fs', e1', e2', b, p1, p2⟩ := hp (.ref a) S2 S3 (e.trans s2.ex) ex s3.ex
    exact ⟨.inr ⟨dx, fs, w3.ex _ _ (s3.ex _ _ e2)⟩, b, S3, p1, w3.ex, fun u S4 H4 w4 s4 p4 => q u S4 H4 (w3.lift w4 s4) ((s2.trans s3).trans s4.lift) (p2 u S4 s4.ex p4)⟩
theorem ex_callO {CE : Addr} {fld : Str} {Bx : Type} {prex : Bx → List V → Hp → Prop} {val : Bx → V → Hp → Prop} {sp : Sp} (hsp : ∀ vs H Q E, SpX CE fld prex val vs H Q E → sp vs H Q E) {Q1 R : V → Hp → Prop} {vs : List V} (h : EvS r tf s S Q1) (h2 : EvAV r ts s S vs) (hp : ∀ x S1 S2, Ex S S1 → Q1 x S1 → Ex S1 S2 → ∃ a dx fs, x = .ref a ∧ S1 a = some (.ins C dx fs) ∧ ∃ b, prex b (x :: vs ++ []) S2 ∧ ∀ v S3, Ex S2 S3 → val b v S3 → R v S3) : EvX E CE fld r (StX.tCallO X C (fun vs H Q E => sp (vs ++ []) H Q E) E tf ts) s S R := fun S1 H e w k Q =>
  h S1 H e w _ fun x S2 H2 w2 s2 ex => by
    obtain ⟨a, dx, fs, e1, e2, _⟩ := hp x S2 S2 (e.trans s2.ex) ex (Ex.refl _)
    refine ⟨a, e1, h2 S2 H2 (e.trans s2.ex) w2 _ fun us S3 H3 w3 s3 eu => ?_⟩
    subst eu
    subst e1
    obtain ⟨a', dx', fs', e1', e2', b, p1, p2⟩ := hp (.ref a) S2 S3 (e.trans s2.ex) ex s3.ex
    exact ⟨.inr ⟨dx, fs, w3.ex _ _ (s3.ex _ _ e2)⟩, hsp _ _ _ _ ⟨b, S3, p1, w3.bare, fun v d4 S4 H4 w4 s4 hv hd => k v d4 S4 H4 (w3.lift w4 s4) ((s2.trans s3).trans s4.lift) (p2 d4 S4 s4.ex hv) hd⟩⟩
theorem ex_methN {CE : Addr} {fld mn : Str} {n j : Nat} {gV : List V → List V → List V} {ta : TE} {tk : TA} {Bx : Type} {prex : Bx → List V → Hp → Prop} {val : Bx → V → Hp → Prop} {sp : Sp} (hsp : ∀ vs H Q E, SpX CE fld prex val vs H Q E → sp vs H Q E) {Q1 R : V → Hp → Prop} {vs zs : List V} (h : EvS r ta s S Q1) (h2 : EvAV r ts s S vs) (h3 : EvAV r tk s S zs) (l1 : vs.length = n) (l2 : zs.length = j) (hp : ∀ x S1 S2, Ex S S1 → Q1 x S1 → Ex S1 S2 → ∃ a dx fs, x = .ref a ∧ S1 a = some (.ins C dx fs) ∧ fs.lookup mn = none ∧ ∃ b, prex b (gV (x :: vs) zs) S2 ∧ ∀ v S3, Ex S2 S3 → val b v S3 → R v S3) : EvX E CE fld r (tMethN C mn n j sp gV E ta ts tk) s S R := fun S1 H e w k Q =>
  h S1 H e w _ fun x S2 H2 w2 s2 ex => by
    obtain ⟨a, dx, fs, e1, e2, e3, _⟩ := hp x S2 S2 (e.trans s2.ex) ex (Ex.refl _)
    refine ⟨a, dx, fs, e1, w2.ex _ _ e2, e3, h2 S2 H2 (e.trans s2.ex) w2 _ fun us S3 H3 w3 s3 eu => h3 S3 H3 (e.trans (s2.ex.trans s3.ex)) w3 _ fun us' S4 H4 w4 s4 eu' => ?_⟩
    subst eu
    subst eu'
    obtain ⟨_, _, _, _, _, _, b, p1, p2⟩ := hp x S2 S4 (e.trans s2.ex) ex (s3.ex.trans s4.ex)
    exact ⟨l1, l2, hsp _ _ _ _ ⟨b, S4, p1, w4.bare, fun v d5 S5 H5 w5 s5 hv hd => k v d5 S5 H5 (w4.lift w5 s5) ((s2.trans s3).trans (s4.trans s5.lift)) (p2 d5 S5 s5.ex hv) hd⟩⟩
end
end J

/-! J62: words over the signs a, b, c; methods with defaults. -/
namespace J
open PySem PySem.Spec PyProof.Rows L2 Evl RZ
/-- the word whose signs are 97 + i -/
def wS (l : List Nat) : Str := ⟨(l.map (97 + ·)).toArray⟩
def lettersS (w : Nat) : Str := cutS ("abc" : Str) none (some (w : Int))
theorem wS_len (l : List Nat) : (wS l).length = l.length := by
  show (l.map (97 + ·)).toArray.size = _
  rw [List.size_toArray, List.length_map]
theorem wS_cps (l : List Nat) : (wS l).cps.toList = l.map (97 + ·) := rfl
theorem abc_at : ∀ i, i < 3 → Builtin.Str.occurrences ("abc" : Str) ⟨#[97 + i]⟩ 0 ("abc" : Str).length 1 = [i] := by decide +kernel
theorem letters_in : ∀ w, w < 4 → ∀ c, c < 128 → (!(Builtin.Str.occurrences (lettersS w) ⟨#[c]⟩ 0 (lettersS w).length 1).isEmpty) = (decide (97 ≤ c) && decide (c < 97 + w)) := by decide +kernel
theorem letters_cps : ∀ w, w < 4 → (lettersS w).cps.toList = (List.range w).map (97 + ·) := by decide +kernel
theorem letters_len : ∀ w, w < 4 → (lettersS w).length = w := by decide +kernel
theorem glue_cps (gl : Str) (hg : gl.cps = #[]) : ∀ (l : List Nat) (acc : Array Nat), ((l.map fun i => (⟨#[97 + i]⟩ : Str)).foldl (fun acc p => acc ++ gl.cps ++ p.cps) acc) = acc ++ (l.map (97 + ·)).toArray
  | [], acc => by simp
  | i :: l, acc => by
    rw [List.map_cons, List.foldl_cons, glue_cps gl hg l, hg]
    simp
theorem join_signs (l : List Nat) : PySem.Txt.join ("" : Str) (l.map fun i => (⟨#[97 + i]⟩ : Str)) = wS l := by
  show Builtin.Str.glued _ _ = _
  unfold Builtin.Str.glued wS
  cases l with
  | nil => rfl
  | cons i l =>
    congr 1
    rw [List.map_cons, List.drop_succ_cons, List.drop_zero, List.headD_cons, glue_cps _ (by decide +kernel), List.map_cons]
    simp
/-- a call of an own instance: the reading names no scope, so that a lambda's body may hold it -/
def tCallW (C : Addr) (sp : Sp) (E : XK) (tf : TE) (t : TA) : TE := fun σ H Q => tf σ H fun y H1 => ∃ a, y = V.ref a ∧ t σ H1 fun vs H2 => ((∃ dx vs, SlX.Slt H2 a C dx vs) ∨ ∃ dx fs, H2 a = some (.ins C dx fs)) ∧ sp (V.ref a :: vs) H2 Q E
section
variable {X : Cx} {CX : CXT} {k : Nat} {C g : Addr} {sp : Sp} {E : XK} {e fe : Expr} {es : List Expr} {tf : TE} {t : TA} {pos : Pos}
theorem pe_callW (hf : PE X fe tf) (c : StX.CallO X.K C g) (F : FnR X.prog X.w X.K X.mg X.base CX k g sp) (hr : Room k X.A) (hx : Passes CX X E) (ha : PA X (e :: es) t)
    (ht : eval (.Call fe (e :: es) [] pos) X.env = (do callWith pos (← eval fe X.env) [] (backTo pos (starEach (e :: es) X.env)) (backToKw pos (keywordEach [] X.env))) := by rfl)
    (he : starEach (e :: es) X.env = (false, eval e X.env) :: starEach es X.env := by rfl) (hpl : (backTo pos (starEach es X.env)).any (·.1) = false := by rfl) : PE X (.Call fe (e :: es) [] pos) (tCallW C sp E tf t) := StX.pe_callO hf c F hr hx ha ht he hpl
end
section
variable {r : Rs} {s : L2.St} {S : Hp} {tf : TE} {ts : TA} {A B : Type} {C : Addr} {pre : A → List V → Hp → Prop} {post : A → V → Hp → Prop} {E : XK}
theorem ev_callW {Q1 R : V → Hp → Prop} {vs : List V} (h : EvS r tf s S Q1) (h2 : EvAV r ts s S vs) (hp : ∀ x S1 S2, Ex S S1 → Q1 x S1 → Ex S1 S2 → ∃ a dx fs, x = .ref a ∧ S1 a = some (.ins C dx fs) ∧ ∃ b, pre b (x :: vs ++ []) S2 ∧ ∀ v S3, Ex S2 S3 → post b v S3 → R v S3) : EvS r (tCallW C (fun vs H Q E => SpP pre post (vs ++ []) H Q E) E tf ts) s S R := fun S1 H e w Q q =>
  h S1 H e w _ fun x S2 H2 w2 s2 ex => by
    obtain ⟨a, dx, fs, e1, e2, _⟩ := hp x S2 S2 (e.trans s2.ex) ex (Ex.refl _)
    refine ⟨a, e1, h2 S2 H2 (e.trans s2.ex) w2 _ fun us S3 H3 w3 s3 eu => ?_⟩
    subst eu
    subst e1
    obtain ⟨_, _, _, _, _, b, p1, p2⟩ := hp (.ref a) S2 S3 (e.trans s2.ex) ex s3.ex
    exact ⟨.inr ⟨dx, fs, w3.ex _ _ (s3.ex _ _ e2)⟩, b, S3, p1, w3.ex, fun u S4 H4 w4 s4 p4 => q u S4 H4 (w3.lift w4 s4) ((s2.trans s3).trans s4.lift) (p2 u S4 s4.ex p4)⟩
theorem ex_callW {CE : Addr} {fld : Str} {Bx : Type} {prex : Bx → List V → Hp → Prop} {val : Bx → V → Hp → Prop} {sp : Sp} (hsp : ∀ vs H Q E, SpX CE fld prex val vs H Q E → sp vs H Q E) {Q1 R : V → Hp → Prop} {vs : List V} (h : EvS r tf s S Q1) (h2 : EvAV r ts s S vs) (hp : ∀ x S1 S2, Ex S S1 → Q1 x S1 → Ex S1 S2 → ∃ a dx fs, x = .ref a ∧ S1 a = some (.ins C dx fs) ∧ ∃ b, prex b (x :: vs ++ []) S2 ∧ ∀ v S3, Ex S2 S3 → val b v S3 → R v S3) : EvX E CE fld r (tCallW C (fun vs H Q E => sp (vs ++ []) H Q E) E tf ts) s S R := fun S1 H e w k Q =>
  h S1 H e w _ fun x S2 H2 w2 s2 ex => by
    obtain ⟨a, dx, fs, e1, e2, _⟩ := hp x S2 S2 (e.trans s2.ex) ex (Ex.refl _)
    refine ⟨a, e1, h2 S2 H2 (e.trans s2.ex) w2 _ fun us S3 H3 w3 s3 eu => ?_⟩
    subst eu
    subst e1
    obtain ⟨_, _, _, _, _, b, p1, p2⟩ := hp (.ref a) S2 S3 (e.trans s2.ex) ex s3.ex
    exact ⟨.inr ⟨dx, fs, w3.ex _ _ (s3.ex _ _ e2)⟩, hsp _ _ _ _ ⟨b, S3, p1, w3.bare, fun v d4 S4 H4 w4 s4 hv hd => k v d4 S4 H4 (w3.lift w4 s4) ((s2.trans s3).trans s4.lift) (p2 d4 S4 s4.ex hv) hd⟩⟩
end
/-- a text times a number -/
def rMulS : R2 := fun x y H Q => ∃ a n, x = .str a ∧ y = .int n ∧ MulOk a n ∧ Q (.str (PySem.Txt.mul a n)) H
theorem op_mulS {X : Cx} : OpR X (binaryOp .Mult) rMulS := by
  intro pins s σ H x y v u Q I rx ry h
  obtain ⟨a, n, rfl, rfl, ok, q⟩ := h
  obtain ⟨t, rfl⟩ := rx
  obtain ⟨t', rfl⟩ := ry
  exact PySem.SB.mul ok fun t' k => ⟨.str (PySem.Txt.mul a n), H, I.tok _, ⟨_, rfl⟩, q⟩
/-- a sign, told by its number -/
def SgR : Rl Nat := fun i v _ => v = .str ⟨#[97 + i]⟩
instance : Mono SgR := ⟨fun _ h => h⟩
section
variable {r : Rs} {s : L2.St} {S S' H : Hp} {ta tb te : TE} {ts : TA} {K : PySem.W.Frag} {v : V}
/-- c in letters -/
theorem vv_inLet {w c : Nat} (hw : w < 4) (hc : c < 128) (h : EvV r ta s S (.str ⟨#[c]⟩)) (h2 : EvV r tb s S (.str (lettersS w))) : EvV r (tOp (rInU K) ta tb) s S (.bl (decide (97 ≤ c) && decide (c < 97 + w))) :=
  vv_op h h2 fun H _ Q q => .inr ⟨_, _, rfl, rfl, by
    rw [letters_in w hw c hc]
    exact q⟩
theorem vv_cutAbc {w : Nat} {tl th : TO} (h : EvV r te s S (.str ("abc" : Str))) (hl : ∀ H Q, Q none H → tl s H Q) (hh : ∀ S1 H, Ex S S1 → Wd r S1 H → ∀ Q : Option Int → Hp → Prop, (∀ S2 H2, Wd r S2 H2 → Stp r S1 H S2 H2 → Q (some (w : Int)) H2) → th s H Q) : EvV r (tSl (rSlU K) te tl th) s S (.str (lettersS w)) := fun S1 H e w1 Q q =>
  h S1 H e w1 _ fun x S2 H2 w2 s2 ex => hl _ _ (hh S2 H2 (e.trans s2.ex) w2 _ fun S3 H3 w3 s3 => by
    subst ex
    exact .inr ⟨_, rfl, by decide +kernel, q _ S3 H3 w3 (s2.trans s3) rfl⟩)
/-- 'abc'.index(c) -/
theorem vv_idxAbc {i : Nat} (hi : i < 3) (h : EvV r ta s S (.str ("abc" : Str))) (h2 : EvV r tb s S (.str ⟨#[97 + i]⟩)) : EvV r (tBM K "str" (fun x xs H Q => ∃ a b i rest, x = .str a ∧ xs = [.str b] ∧ Builtin.Str.occurrences a b 0 a.length 1 = i :: rest ∧ Q (.int (i : Nat)) H) ta (tCons tb tNil)) s S (.int (i : Int)) := fun S1 H e w Q q =>
  h S1 H e w _ fun x S2 H2 w2 s2 ex => by
    subst ex
    refine ⟨rfl, (va_cons h2 va_nil : EvAV r (tCons tb tNil) s S _) S2 H2 (e.trans s2.ex) w2 _ fun us S3 H3 w3 s3 eu => ?_⟩
    subst eu
    exact ⟨_, _, i, [], rfl, rfl, abc_at i hi, q _ S3 H3 w3 (s2.trans s3) rfl⟩
/-- ''.join(a list of signs) -/
theorem ev_joinW {P : List Nat → Prop} (h : EvS r te s S fun v S1 => ∃ l, LstR SgR l v S1 ∧ l.length ≤ 1000 ∧ P l) (h0 : EvV r ta s S (.str ("" : Str))) : EvS r (tBM K "str" (fun x xs H Q => ∃ a p, ∃ ys : List Str, x = .str a ∧ xs = [.ref p] ∧ (SqL K H p (ys.map V.str) ∨ SqT K H p (ys.map V.str)) ∧ (ys.map (·.length)).sum + ys.length * a.length ≤ 16777216 ∧ Q (.str (PySem.Txt.join a ys)) H) ta (tCons te tNil)) s S fun v _ => ∃ l, v = .str (wS l) ∧ P l := fun S1 H e w Q q =>
  h0 S1 H e w _ fun x S2 H2 w2 s2 ex => by
    subst ex
    refine ⟨rfl, h S2 H2 (e.trans s2.ex) w2 _ fun u S3 H3 w3 s3 ⟨l, ⟨a, vs, eu, ha, hv⟩, hl, hp⟩ => ?_⟩
    subst eu
    have ev : vs = (l.map fun i => (⟨#[97 + i]⟩ : Str)).map V.str := by
      have : ∀ (l : List Nat) (vs : List V), All2 SgR S3 l vs → vs = (l.map fun i => (⟨#[97 + i]⟩ : Str)).map V.str := by
        intro l
        induction l with
        | nil => intro vs h; cases h; rfl
        | cons i l ih =>
          intro vs h
          cases h with
          | cons h1 h2 =>
            rw [List.map_cons, List.map_cons, ← ih _ h2]
            exact congrArg (· :: _) h1
      exact this l vs hv
    subst ev
    refine ⟨_, a, l.map fun i => (⟨#[97 + i]⟩ : Str), rfl, rfl, .inl (SqL.of (w3.ex _ _ ha)), ?_, q _ S3 H3 w3 (s2.trans s3) ⟨l, by rw [join_signs], hp⟩⟩
    have e1 : ((l.map fun i => (⟨#[97 + i]⟩ : Str)).map (·.length)).sum = l.length := by
      clear hv hl hp ha
      induction l with
      | nil => rfl
      | cons i l ih =>
        rw [List.map_cons, List.map_cons, List.sum_cons, ih, List.length_cons]
        show 1 + _ = _
        omega
    rw [e1, List.length_map, show (("" : Str)).length = 0 from by decide +kernel]
    omega
/-- one sign of a text, by its place -/
theorem vv_ixStr {z : Str} {i : Int} {j c : Nat} (h : EvV r ta s S (.str z)) (h2 : EvV r tb s S (.int i)) (hz : z.length ≤ 1000) (e : i = (j : Int)) (hc : z.cps.toList[j]? = some c) : EvV r (tOp (rIx K) ta tb) s S (.str ⟨#[c]⟩) :=
  vv_op h h2 fun H _ Q q => .inr (.inr ⟨z, i, c, rfl, rfl, sz_of (by omega), by rw [e]; exact atI_nat hc, q⟩)
theorem vv_mulS {a z : Str} {n : Int} (h : EvV r ta s S (.str a)) (h2 : EvV r tb s S (.int n)) (ok : MulOk a n) (e : PySem.Txt.mul a n = z) : EvV r (tOp rMulS ta tb) s S (.str z) :=
  vv_op h h2 fun H _ Q q => ⟨a, n, rfl, rfl, ok, by rw [e]; exact q⟩
theorem vv_addS {a b z : Str} (h : EvV r ta s S (.str a)) (h2 : EvV r tb s S (.str b)) (hz : a.length + b.length ≤ 100000) (e : a ++ b = z) : EvV r (tOp (rAddU K) ta tb) s S (.str z) :=
  vv_op h h2 fun H _ Q q => .inl (.inr ⟨a, b, rfl, rfl, sz_of hz, by rw [e]; exact q⟩)
theorem vv_cutS {z : Str} {lo : Int} {tl th : TO} (h : EvV r te s S (.str z)) (hz : z.length ≤ 100000) (hl : ∀ S1 H, Ex S S1 → Wd r S1 H → ∀ Q : Option Int → Hp → Prop, (∀ S2 H2, Wd r S2 H2 → Stp r S1 H S2 H2 → Q (some lo) H2) → tl s H Q) (hh : ∀ H Q, Q none H → th s H Q) : EvV r (tSl (rSlU K) te tl th) s S (.str (cutS z (some lo) none)) := fun S1 H e w1 Q q =>
  h S1 H e w1 _ fun x S2 H2 w2 s2 ex => hl S2 H2 (e.trans s2.ex) w2 _ fun S3 H3 w3 s3 => hh _ _ (by
    subst ex
    exact .inr ⟨_, rfl, sz_of hz, q _ S3 H3 w3 (s2.trans s3) rfl⟩)
theorem ex_makeW {C CE : Addr} {fld : Str} {B : Type} {pre : B → List V → Hp → Prop} {val : B → V → Hp → Prop} {R : V → Hp → Prop} {E : XK} {us dvs : List V} {sp : Sp} (hsp : ∀ vs H Q E, SpXi CE fld pre val vs H Q E → sp vs H Q E) (b : B) (h : EvAV r ts s S us) (hp : ∀ S1, Ex S S1 → pre b (us ++ dvs) S1) (hq : ∀ v S1, Ex S S1 → val b v S1 → R v S1) : EvX E CE fld r (tMake C sp dvs E ts) s S R := fun S1 H e w k Q =>
  h S1 H e w _ fun us' S2 H2 w2 s2 p x dx hx hdx ne => by
    subst p
    have hx1 : (upd H2 dx (.own x)) x = none := by
      rw [upd_ne ne.symm]
      exact hx
    have w3 : Wd r S2 (upd (upd H2 dx (.own x)) x (.ins C dx [])) := (w2.new hdx).new hx1
    have s3 : Stp r S2 H2 S2 (upd (upd H2 dx (.own x)) x (.ins C dx [])) := (Stp.new hdx).trans (Stp.new hx1)
    exact hsp _ _ _ _ ⟨b, S2, ⟨x, _, rfl, hp S2 (e.trans s2.ex)⟩, w3.bare, fun d v S4 H4 w4 s4 hv hd => k d v S4 H4 (w3.lift w4 s4) ((s2.trans s3).trans s4.lift) (hq v S4 (e.trans (s2.ex.trans s4.ex)) hv) hd⟩
/-- a method with defaults -/
theorem ev_methD {A : Type} {C : Addr} {mn : Str} {pre : A → List V → Hp → Prop} {post : A → V → Hp → Prop} {E : XK} {Q1 : V → Hp → Prop} {R : V → Hp → Prop} {vs dvs : List V} (h : EvS r ta s S Q1) (h2 : EvAV r ts s S vs)
    (hp : ∀ x S1 S2, Ex S S1 → Q1 x S1 → Ex S1 S2 → ∃ a dx fs, x = .ref a ∧ S1 a = some (.ins C dx fs) ∧ fs.lookup mn = none ∧ ∃ b, pre b (x :: (vs ++ dvs)) S2 ∧ ∀ v S3, Ex S2 S3 → post b v S3 → R v S3) : EvS r (tMeth C mn (SpP pre post) dvs E ta ts) s S R := fun S1 H e w Q q =>
  h S1 H e w _ fun x S2 H2 w2 s2 hx => by
    obtain ⟨a, dx, fs, e1, e2, e3, _⟩ := hp x S2 S2 (e.trans s2.ex) hx (Ex.refl _)
    subst e1
    refine ⟨a, dx, fs, rfl, w2.ex _ _ e2, e3, h2 S2 H2 (e.trans s2.ex) w2 _ fun us S3 H3 w3 s3 eu => ?_⟩
    subst eu
    obtain ⟨_, _, _, _, _, _, b, p1, p2⟩ := hp (.ref a) S2 S3 (e.trans s2.ex) hx s3.ex
    exact ⟨b, S3, p1, w3.ex, fun v S4 H4 w4 s4 p4 => q v S4 H4 (w3.lift w4 s4) ((s2.trans s3).trans s4.lift) (p2 v S4 s4.ex p4)⟩
theorem ex_methD {C CE : Addr} {fld mn : Str} {B : Type} {pre : B → List V → Hp → Prop} {val : B → V → Hp → Prop} {sp : Sp} (hsp : ∀ vs H Q E, SpX CE fld pre val vs H Q E → sp vs H Q E) {E : XK} {Q1 : V → Hp → Prop} {R : V → Hp → Prop} {vs dvs : List V} (h : EvS r ta s S Q1) (h2 : EvAV r ts s S vs)
    (hp : ∀ x S1 S2, Ex S S1 → Q1 x S1 → Ex S1 S2 → ∃ a dx fs, x = .ref a ∧ S1 a = some (.ins C dx fs) ∧ fs.lookup mn = none ∧ ∃ b, pre b (x :: (vs ++ dvs)) S2 ∧ ∀ v S3, Ex S2 S3 → val b v S3 → R v S3) : EvX E CE fld r (tMeth C mn sp dvs E ta ts) s S R := fun S1 H e w k Q =>
  h S1 H e w _ fun x S2 H2 w2 s2 hx => by
    obtain ⟨a, dx, fs, e1, e2, e3, _⟩ := hp x S2 S2 (e.trans s2.ex) hx (Ex.refl _)
    subst e1
    refine ⟨a, dx, fs, rfl, w2.ex _ _ e2, e3, h2 S2 H2 (e.trans s2.ex) w2 _ fun us S3 H3 w3 s3 eu => ?_⟩
    subst eu
    obtain ⟨_, _, _, _, _, _, b, p1, p2⟩ := hp (.ref a) S2 S3 (e.trans s2.ex) hx s3.ex
    exact hsp _ _ _ _ ⟨b, S3, p1, w3.bare, fun v d4 S4 H4 w4 s4 hv hd => k v d4 S4 H4 (w3.lift w4 s4) ((s2.trans s3).trans s4.lift) (p2 d4 S4 s4.ex hv) hd⟩
end
end J

/-! J63: dicts whose keys are tuples: one pair displayed; sorted(d, key=lambda x: str(x)). -/
namespace PySem.W
open PySem PyProof.Rows
section
variable {β : Type} {R : Value → β → Prop} {bs : List β} {vs : List Value} {prog : Program} {w : World} {A : Around} {E : Value → Shared → Prop} {s : Shared}
theorem sorted_key_src {T : String} {r d : Addr} {n : Nat} {P : Nat → Value → Prop} {OK : Heap → Prop} {f : Value} {kw : List (Str × Value)} {b : Bool} {Q : Value → Shared → Prop} (k : β → PyData) (S : KdlSrc prog w T r d n P OK) (hh : A.handled = none) (hok : OK s.heap) (hn : n ≤ sizeLine) (hvs : ∀ acc, ItemsOf P acc n → acc.toList = vs) (e : EachIs R vs bs) (hal : AllAlike (bs.map k)) (hk : Sortable (bs.map k)) (hL : bs.length ≤ sizeLine)
    (hu : ∀ x, x ∈ bs → A.units + 2 + (k x).depth < cLine) (ha1 : argsOk "sorted" ⟨[.ref r], kw⟩) (ha2 : ∀ x, argsOk "list.sort" ⟨[.ref x], kw⟩) (ht : ∀ x, Builtin.«list.sort» ⟨[.ref x], kw⟩ = ksk_tree x f b)
    (turn : ∀ (v : Value) (x : β), R v x → x ∈ bs → ∀ (h : Heap) (tk : Nat), (∀ b o, s.heap.get? b = some o → h.get? b = some o) →
      wpAny (model prog w) A.in1.in1 (call f [v]) (KeyPure (k x) { s with heap := h, toks := tk }) (fun _ _ => False) { s with heap := h, toks := tk })
    (h : ∀ D out c h' tk, (∀ b o, s.heap.get? b = some o → h'.get? b = some o) → s.heap.get? D = none → h'.get? D = some (seqObj "list" (List.toArray out) c) → out.length = bs.length → EachIs R out (bs.mergeSort (dataLe b k)) →
      Q (.ref D) { s with heap := h', toks := tk }) :
    wpAny (model prog w) A (call (.builtin "sorted") [.ref r] kw) Q E s := by
  refine call_function_entry_kw kind_sorted plain_sorted entry_sorted ha1 ?_
  unfold Builtin.«sorted»
  refine wpAny_bind (m := checkCount "sorted" 1 1 _) (wpAny_pure ?_)
  refine wpAny_bind (kdu_collect (A := A.in1) S hh hok hn fun h1 tk1 acc hkp hacc => ?_)
  rw [hvs acc hacc]
  have hz : vs.length ≤ sizeLine := by rw [e.length]; exact hL
  have fresh : s.heap.get? h1.objs.size = none := by
    cases q : s.heap.get? h1.objs.size with
    | none => rfl
    | some u => exact absurd (Heap.lt_size (hkp _ _ q)) (Nat.lt_irrefl _)
  have up : ∀ {g : Heap}, KeepsBut h1.objs.size (h1.push { cls := .type "list", data := .seq vs.toArray }) g → ∀ b o, s.heap.get? b = some o → g.get? b = some o := fun {g} kp b o q =>
    kp b o (Nat.ne_of_lt (Heap.lt_size (hkp _ _ q))) (Heap.get?_push_of_some _ (hkp _ _ q))
  refine wpAny_bind (wpAny_newList ?_ hz)
  refine wpAny_bind (wpAny_holding (wpAny_call_entry_kw slot_list_sort ⟨_, Heap.get?_push_size _ rfl, rfl⟩ entry_list_sort ?body (ha2 _)))
  case body =>
    show wpAny (model prog w) A.in1.in1 (Builtin.«list.sort» ⟨[.ref h1.objs.size], kw⟩) _ _ _
    rw [ht]
    refine keyH_tree (kz := bs.map k) (s := { s with heap := h1.push { cls := .type "list", data := .seq vs.toArray }, toks := tk1 }) (Heap.get?_push_size _ rfl) (by rw [List.length_map]; exact e.length.symm) hz hal hk (bound_map (A := A.in1.in1) hu)
      (keyH_turns (s := { s with heap := h1.push { cls := .type "list", data := .seq vs.toArray }, toks := tk1 }) e fun v x hR hx h tk kp => turn v x hR hx h tk (up kp)) fun h' tk out c kp hD ko => ⟨_, rfl, wpAny_pure ⟨_, rfl, ?_⟩⟩
    exact h _ out c h' tk (up kp) fresh hD ((ko.length (by rw [List.length_map]; exact e.length.symm)).trans e.length) (keyedOut_each k ko e)
end
end PySem.W
namespace J
open PySem PySem.Spec PyProof.Rows L2 Evl RZ LamX
theorem objOk_get {P : Program} {w : World} {H : Hp} {h : Heap} {a : Addr} {o : HO} (x : ObjOk P w H h a o) : ∃ u, h.get? a = some u := by
  cases o with
  | lst xs => obtain ⟨z, its, n, r, e⟩ := x; exact ⟨_, e⟩
  | tup xs => obtain ⟨z, its, r, ob, e, c⟩ := x; exact ⟨_, e⟩
  | dK kvs => obtain ⟨z, y, vs, r, ob, es, ep, e, c⟩ := x; exact ⟨_, e⟩
  | dT kvs => obtain ⟨z, y, xs, r, ob, es, ep, e, c⟩ := x; exact ⟨_, e⟩
  | set S n => obtain ⟨ob, es, ep, t, e, c⟩ := x; exact ⟨_, e⟩
  | ins C dx fs => obtain ⟨d, z, ne, e, c⟩ := x; exact ⟨_, e⟩
  | own y => obtain ⟨ob, e⟩ := x; exact ⟨_, e⟩
  | xd fs => obtain ⟨mA, ⟨od, es, ep, e, c⟩, r⟩ := x; exact ⟨_, e⟩
  | rng lo hi => obtain ⟨t, u, v, e⟩ := x; exact ⟨_, e⟩
  | frz ob u => obtain ⟨e, q⟩ := x; exact ⟨_, e⟩
  | tbl ps => exact ⟨_, (show h.get? a = some _ from x)⟩
  | met f y => exact ⟨_, (show h.get? a = some _ from x)⟩
  | ext φ => obtain ⟨_, ⟨o, e⟩, _⟩ := x; exact ⟨_, e⟩
/-- sorted(d, key=lambda y: str(y)), d a dict by tuples -/
def keyD (k : List Key) : PyData := .tuple (k.map fun | .inl i => .int i | .inr z => .str z)
def tSortD (P : Addr) (T : List (Addr × Str)) (te : TE) : TE := fun σ H Q => te σ H fun x H1 => Tabs T H1 ∧ ∀ H2, (∀ b o, b ≠ P → H1 b = some o → H2 b = some o) → Tabs T H2 →
  ∃ (a : Addr) (kvs : List (List Key × V)), x = .ref a ∧ H2 a = some (.dT kvs) ∧ (∀ p ∈ kvs, KeyD (keyD p.1)) ∧ ∀ p bs, H2 p = none → IsKeys H2 kvs bs → Q (.ref p) (upd H2 p (.lst (sortS (bs.map V.ref) (kvs.map fun z => keyD z.1))))
theorem dpa_keys {K : PySem.W.Frag} {H : Hp} : ∀ k : List Key, DpAll K H (k.map kV) (k.map fun | .inl i => PyData.int i | .inr z => PyData.str z)
  | [] => .nil
  | .inl i :: r => .cons (.int i) (dpa_keys r)
  | .inr z :: r => .cons (.str z) (dpa_keys r)
theorem dp_keys {K : PySem.W.Frag} {H : Hp} {kvs : List (List Key × V)} {bs : List Addr} (h : IsKeys H kvs bs) : DpAll K H (bs.map V.ref) (kvs.map fun z => keyD z.1) := by
  unfold IsKeys at h
  induction h with
  | nil => exact .nil
  | cons h t ih => exact .cons (.tup (SqT.of h) (dpa_keys _)) ih
/-- {k: v}, k a tuple -/
def tDisp1 (tk tv : TE) : TE := fun σ H Q => ∀ p, H p = none → tk σ (upd H p (.dT [])) fun x H1 => tv σ H1 fun y H2 => H2 p = some (.dT []) ∧ ∃ (b : Addr) (k : List Key), x = .ref b ∧ H2 b = some (.tup (k.map kV)) ∧ Q (.ref p) (upd H2 p (.dT [(k, y)]))
section
variable {X : Cx} {k : Nat} {P c : Addr} {T : List (Addr × Str)} {y : Str} {e : Expr} {te : TE} {params : Arguments} {sc : Scope} {p p1 p2 p3 lpos kp pos : Pos}
theorem pe_disp1 {X : Cx} {ek ev : Expr} {tk tv : TE} (hu : (tupleKind (mixKind X.prog X.w)).room X.A) (hk : PE X ek tk) (hv : PE X ev tv) : PE X (.Dict [some ek] [ev] pos) (tDisp1 tk tv) := by
  refine ⟨fun pins s σ H Q I q => ?_⟩
  have hn := I.hok.fresh (Nat.le_refl s.heap.objs.size)
  have I1 := I.laid (a := s.heap.objs.size) (o := .dT []) (h' := s.heap.push { cls := .type "dict", data := .dict #[] }) (t' := s.toks) (fun _ _ q => Heap.get?_push_of_some _ q) (Nat.le_refl _) (dt_empty s.heap I.big)
  rw [arm_eval_Dict, zip_pairTrees [some ek] [ev] X.env pos (by rfl) (by rfl), dictDisplay_pairs (pairTrees [some ek] [ev] X.env pos) (fun z => by have := pairTrees_length [some ek] [ev] X.env pos rfl rfl; rw [z] at this; cases this) (by rw [pairTrees_length [some ek] [ev] X.env pos rfl rfl]; exact Nat.le_of_ble_eq_true rfl)]
  refine wpAny_bind (wpAny_standAt (wpAny_bind (wpAny_subDictH (knd := tupleKind (mixKind X.prog X.w)) (Q := fun d s' => wpAny (model X.prog X.w) X.A (pure (Value.ref d)) _ _ s') hu (by rw [pairTrees_length [some ek] [ev] X.env pos rfl rfl]; exact Nat.le_of_ble_eq_true rfl) ?_)))
  refine pairTrees_cons_walk (thn (hk.run pins _ σ _ _ I1 (q _ hn)) fun u s1 ⟨x, H1, I2, rx, q1⟩ => thn (hv.run pins s1 σ H1 _ I2 q1) fun w2 s2 ⟨y, H2, I3, ry, hp, b, k, ex, hb, q2⟩ => pairTrees_nil_walk ?_)
  subst ex
  cases (show u = Value.ref b from rx)
  obtain ⟨z, hd, xs, r0, dd⟩ := dt_of I3.hok hp
  cases r0
  refine ⟨[(k, b, w2)], ⟨rfl, rfl, key_of I3.hok hb, trivial⟩, dd, fun h' tk dd' hs => wpAny_pure ⟨.ref s.heap.objs.size, _, ?_, rfl, q2⟩⟩
  obtain ⟨o, es, ep, hq, h2, h3, h4, _, h5⟩ := dd'
  have rel : KT H2 (putK [] k y) (storedH [] k b w2) := KT.put .nil k hb ry
  refine d_write I3 (by rw [hp]; exact True.intro) hs ⟨o, hq⟩ ⟨by rw [sizeLine_eq]; exact Nat.le_of_ble_eq_true rfl, hd, _, KT.keeps (kvs := putK [] k y) rel fun c ys ec => ?_, o, es, ep, hq, h2, h3, h4, h5⟩
  rw [upd_ne (ne_of ec hp (fun z => nomatch z))]
  exact ec
theorem pe_sortD (g : Gd X.A) (hr : Room k X.A) (hg : Gl X "sorted") (hm : X.mg "sorted" = none) (hms : X.mg "str" = none) (he : PE X e te) (TB : TabB X.base X.mg c P) (hcode : X.env.code = .ref c) (hT : (P, X.env.qual ++ "<lambda>") ∈ T) (hu : ∀ z ∈ T, z.1 = P → z.2 = X.env.qual ++ "<lambda>") (L : StrS sc y) (hcalm : X.calm = true)
    (hbind : ∀ (q : Str) (cl : List (Str × Addr)) (pm cv ctv v : Value), bindArgs (PySem.W.kla_fn "<lambda>" q params (.Call (.Name "str" p1) [.Name y p2] [] p3) sc cl pm cv ctv) ⟨[v], []⟩ = pure [(y, v)] := by exact fun _ _ _ _ _ _ => rfl) (hdef : defaultsOf params X.env = ([], []) := by rfl) (hy : (y == ("__debug__" : Str)) = false := by decide)
    (e1 : backTo pos (starEach [e] X.env) = (false, eval e X.env) :: backTo pos (starEach [] X.env) := by rfl) (e2 : (backTo pos (starEach [e] X.env)).any (·.1) = false := by rfl) :
    PE X (.Call (.Name "sorted" p) [e] [⟨some "key", .Lambda params (.Call (.Name "str" p1) [.Name y p2] [] p3) sc lpos, kp⟩] pos) (tSortD P T te) := by
  refine ⟨fun pins s σ H Q I h => ?_⟩
  refine wpAny_Call_Name_kw (ld_blt I hg hm (u := .builtin "sorted") (by kernel_rfl) ?_)
  refine PyProof.Rows.callWith_kw ?_ e1 e2 (by rfl) (by rfl)
  have ev : wpAny (model X.prog X.w) X.A (spliced (backTo pos (starEach [e] X.env))) (AP X pins σ fun vs H1 => ∃ x, vs = [x] ∧ (Tabs T H1 ∧ ∀ H2, (∀ b o, b ≠ P → H1 b = some o → H2 b = some o) → Tabs T H2 →
      ∃ (a : Addr) (kvs : List (List Key × V)), x = .ref a ∧ H2 a = some (.dT kvs) ∧ (∀ p ∈ kvs, KeyD (keyD p.1)) ∧ ∀ p bs, H2 p = none → IsKeys H2 kvs bs → Q (.ref p) (upd H2 p (.lst (sortS (bs.map V.ref) (kvs.map fun z => keyD z.1)))))) X.xe s := by
    rw [e1]
    refine Calls.spliced_cons (thn (he.run pins s σ H _ I h) fun u s1 ⟨x, H1, I1, r1, q1⟩ => ?_)
    exact Calls.spliced_nil ⟨[x], H1, I1, .cons r1 .nil, x, rfl, q1⟩
  refine thn ev fun us s1 ⟨vs, H1, I1, r1, x, exx, tabs1, q1⟩ => ?_
  subst exx
  obtain ⟨u, eu, ru⟩ := vals1 r1
  subst eu
  refine PyProof.Rows.kws_cons ?_
  refine lam_mk I1 TB hcode hT hu tabs1 hdef (fun z hz ez => absurd ez (L.nofree z hz)) fun f c1 pm ctv H2 s2 I2 kp2 T2 hf nf ns hc1 => ?_
  refine PyProof.Rows.kws_nil ?_
  obtain ⟨a, kvs, ex, ha, hk, q⟩ := q1 H2 kp2 T2
  subst ex
  obtain rfl : u = Value.ref a := ru
  obtain ⟨z, hs, ks, pr, o, es, ep, ho, hx, hdt, hent, hn⟩ := (show ObjOk X.prog X.w H2 s2.heap a (.dT kvs) from I2.hok a _ ha)
  have l1 : es.size = ks.length := size_of_entries hent
  have l2 : kvs.length = ks.length := Paired.length pr
  have hkeys : IsKeys H2 kvs (ks.map fun x => x.2.1) := isKeys_of pr
  have hds := dp_keys (K := X.K) hkeys
  have rv : Vals ((ks.map fun x => x.2.1).map V.ref) ((ks.map fun x => x.2.1).map Value.ref) := vals_refs _
  obtain ⟨⟨oc, vs, tk, co, cd, cn⟩, _⟩ := I2.hok c1 _ hc1
  obtain ⟨mb, hb1, hb2⟩ := I2.mod.blt
  have hlen := rv.length
  have zl : (((ks.map fun x => x.2.1).map V.ref).zip (kvs.map fun z => keyD z.1)).length = kvs.length := by
    rw [List.length_zip, List.length_map, List.length_map, List.length_map, l2, Nat.min_self]
  show wpAny (model X.prog X.w) X.A (call (.builtin "sorted") [.ref a] [(Str.ofString "key", .ref f)]) _ _ s2
  refine PySem.W.sorted_key_src (vs := (ks.map fun x => x.2.1).map Value.ref) (b := false) (fun z : V × PyData => PyData.str z.2.shown) (kdl_raw hs hx hdt) (I2.ok.hd hcalm) ho (by omega) (fun acc it => ?_) (dpa_zip hds rv) (PySem.W.AllAlike.of fun _ _ => by simp [PySem.W.alike]) (PySem.W.Sortable.others fun _ => ⟨by simp, by simp⟩) (by rw [zl]; exact z) (fun z _ => ?_) (PyProof.Rows.ksk_s1 _ _) (fun _ => PyProof.Rows.ksk_l1 _ _) (fun _ => PyProof.Rows.ksk_t1 _ _) (fun v z ⟨rz, dz⟩ mz h tk keep => ?_) fun D out c2 h' tk keep fr hD hlo eo => ?_
  · have ea : acc.toList = ks.map fun x => Value.ref x.2.1 := by
      have hl : acc.toList.length = ks.length := by rw [Array.length_toList, it.1]; exact l1
      apply List.ext_getElem?
      intro j
      rw [List.getElem?_map]
      cases hj : acc.toList[j]? with
      | none =>
        have h1 := List.getElem?_eq_none_iff.mp hj
        rw [List.getElem?_eq_none (by omega)]
        all_goals rfl
      | some v =>
        obtain ⟨en, hen, hv⟩ := it.2 j v (by rw [← Array.getElem?_toList]; exact hj)
        have qe := entry_at hent j
        rw [hen] at qe
        cases hb : ks[j]? with
        | none =>
          rw [hb] at qe
          exact nomatch (show some en = none from qe)
        | some b =>
          rw [hb] at qe
          have e2 : en = entryOfKey (tupleKind (mixKind X.prog X.w)) b := Option.some.inj qe
          rw [hv, e2]
          all_goals rfl
    rw [ea, List.map_map]
    rfl
  · have := hr.un
    show X.A.units + 2 + 0 < cLine
    omega
  · have hzd : z.2 ∈ kvs.map fun z => keyD z.1 := (List.of_mem_zip mz).2
    obtain ⟨pz, hpz, ez⟩ := List.mem_map.mp hzd
    have kz : KeyD z.2 := by rw [← ez]; exact hk _ hpz
    obtain ⟨as, rd⟩ := Dp.reads I2 z.2 z.1 v dz rz
    have hr2 := hr.un
    exact strkey_call (s1 := { s2 with heap := h, toks := tk }) (mg := X.mg) (mb := mb) L (show X.A.depth < recursionLimit from hr.depth) (show X.A.guards = some [] from g) (by show X.A.units + 1 + 1 + 60 < cLine; omega) (keep _ _ hf) ⟨c1, oc, _, _, rfl, keep _ _ co, cd, cn⟩ ((I2.mod.glob.keeps I2.bk).keeps keep) hms ((hb1.keeps I2.bk).keeps keep) ((hb2 "str" (by decide)).trans (by kernel_rfl)) (I2.nolimit.keeps keep) (hbind _ _ _ _ _ _) hy (PyProof.Rows.Reads.keeps keep rd) kz.bx kz.sh (dp_nodict _ _ dz) kz.dp kz.sz
  · have vo := each_vals eo
    have hlz : (sortS ((ks.map fun x => x.2.1).map V.ref) (kvs.map fun z => keyD z.1)).length ≤ sizeLine := by
      unfold sortS
      rw [List.length_map, List.length_mergeSort, zl]
      exact z
    have hDn : H2 D = none := by
      cases q : H2 D with
      | none => rfl
      | some u =>
        obtain ⟨u', hu'⟩ := objOk_get (I2.hok D u q)
        rw [fr] at hu'
        cases hu'
    exact ⟨.ref _, upd H2 D (.lst (sortS ((ks.map fun x : List Key × Addr × Value => x.2.1).map V.ref) (kvs.map fun z : List Key × V => keyD z.1))), Inv.laidN (t' := tk) I2 keep fr hDn ⟨hlz, out, c2, vo, hD⟩, rfl, q _ _ hDn hkeys⟩
end
end J

/-! J64: list(zip(a, b)), a and b tuples of one length. -/
namespace J
open PySem PySem.Spec PyProof.Rows RZ
open PySem.W (kdx_alive)
section
variable {prog : Program} {w : World} {A : Around} {E : Value → Shared → Prop} {s : Shared}
theorem zq_item {z TI TO T i1 i2 l1 l2 : Addr} {f : Bool} {oT : Obj} {k1 k2 : Nat} {xs ys : Array Value} {x y : Value} {Q : Value → Shared → Prop} (D : ZipApart z TI TO i1 i2 l1 l2)
    (hz : IsZipHeld s.heap z TI TO T f) (hT : s.heap.get? T = some oT) (hTI : IsPair s.heap TI (.ref i1) (.ref i2))
    (h1 : s.heap.IsTupleIter i1 l1 k1) (h2 : s.heap.IsTupleIter i2 l2 k2) (hl1 : s.heap.IsTuple l1 xs) (hl2 : s.heap.IsTuple l2 ys) (hx : xs[k1]? = some x) (hy : ys[k2]? = some y)
    (hQ : ∀ h', IsZipHeld h' z TI TO T true → h'.IsTupleIter i1 l1 (k1 + 1) → h'.IsTupleIter i2 l2 (k2 + 1) → IsPair h' s.heap.objs.size x y → h'.objs.size = s.heap.objs.size + 1 →
      (∀ c o, c ≠ z → c ≠ i1 → c ≠ i2 → s.heap.get? c = some o → h'.get? c = some o) → Q (.ref s.heap.objs.size) { s with heap := h' }) :
    wpAny (model prog w) A (Builtin.«zip.__next__» ⟨[.ref z], []⟩) (fun fin s' => ∃ v, fin = .done (.ret v) ∧ Q v s') E s := by
  show wpAny _ _ (field (.ref z) 2 >>= _) _ _ _
  refine wpAny_bind (wpAny_field hz rfl (x := .bool false) rfl ?_)
  show wpAny _ _ (field (.ref z) 3 >>= _) _ _ _
  refine wpAny_bind (wpAny_field hz rfl (x := .ref TI) rfl ?_)
  refine wpAny_bind (wpAny_seqItems hTI rfl ?_)
  show wpAny _ _ (Builtin.SmallTypes.ownedTupleIsFree (.ref z) >>= _) _ _ _
  refine wpAny_bind (wpAny_tupleHeld_zip hz hT fun h₁ hz₁ hs₁ => ?_)
  simp only [Bool.false_eq_true, if_false]
  refine wpAny_bind ?_
  rw [← Array.forIn_toList]
  simp only [List.forIn_cons, List.forIn_nil]
  refine wpAny_bind (wpAny_bind (wpAny_holding ?_))
  show wpAny _ _ (Builtin.SmallTypes.nextOf (.ref i1) >>= _) _ _ _
  refine wpAny_bind (nextOf_tuple_item (s := { s with heap := h₁ }) (h1.extBut hs₁.extBut D.i1z) (hl1.extBut hs₁.extBut D.l1z) hx fun h₂ h1₂ hs₂ => wpAny_pure ?_)
  refine wpAny_pure ?_
  refine wpAny_bind (wpAny_bind (wpAny_holding ?_))
  show wpAny _ _ (Builtin.SmallTypes.nextOf (.ref i2) >>= _) _ _ _
  refine wpAny_bind (nextOf_tuple_item (s := { s with heap := h₂ }) ((h2.extBut hs₁.extBut D.i2z).extBut hs₂.extBut D.i12.symm) ((hl2.extBut hs₁.extBut D.l2z).extBut hs₂.extBut D.l2i1) hy fun h₃ h2₃ hs₃ => wpAny_pure ?_)
  refine wpAny_pure (wpAny_pure ?_)
  show wpAny _ _ (newTuple [x, y] >>= _) _ _ _
  refine wpAny_bind (wpAny_newTuple ?_)
  have hsz : h₃.objs.size = s.heap.objs.size := by rw [hs₃.1, hs₂.1, hs₁.1]
  have hz₃ : IsZipHeld h₃ z TI TO T true := hs₃.extBut _ _ D.i2z.symm (hs₂.extBut _ _ D.i1z.symm hz₁)
  have hk : ∀ c o, c ≠ z → c ≠ i1 → c ≠ i2 → s.heap.get? c = some o → h₃.get? c = some o := fun c o c1 c2 c3 e => hs₃.extBut _ _ c3 (hs₂.extBut _ _ c2 (hs₁.extBut _ _ c1 e))
  have h1₃ : h₃.IsTupleIter i1 l1 (k1 + 1) := h1₂.extBut hs₃.extBut D.i12
  refine wpAny_pure ⟨_, rfl, ?_⟩
  show Q (.ref h₃.objs.size) _
  have hp : IsPair (h₃.push { cls := .type "tuple", data := .seq #[x, y] }) h₃.objs.size x y := Heap.get?_push_size _ rfl
  have hz4 : (h₃.push { cls := .type "tuple", data := .seq #[x, y] }).objs.size = h₃.objs.size + 1 := Heap.size_push ..
  rw [hsz] at hp hz4 ⊢
  exact hQ _ (Heap.get?_push_of_some _ hz₃) (h1₃.at fun o e => Heap.get?_push_of_some _ e) (h2₃.at fun o e => Heap.get?_push_of_some _ e) hp hz4 fun c o c1 c2 c3 e => Heap.get?_push_of_some _ (hk c o c1 c2 c3 e)
theorem zq_end {z TI TO T i1 i2 l1 l2 : Addr} {f : Bool} {oT : Obj} {k1 k2 : Nat} {xs ys : Array Value} {Q : Fin → Shared → Prop} (hh : A.handled = none) (D : ZipApart z TI TO i1 i2 l1 l2)
    (hz : IsZipHeld s.heap z TI TO T f) (hT : s.heap.get? T = some oT) (hTI : IsPair s.heap TI (.ref i1) (.ref i2))
    (h1 : s.heap.IsTupleIter i1 l1 k1) (hl1 : s.heap.IsTuple l1 xs) (hx : xs[k1]? = none)
    (hE : ∀ h' e, (∀ c o, c ≠ z → c ≠ i1 → c ≠ i2 → s.heap.get? c = some o → h'.get? c = some o) → (∃ o, h'.get? e = some o ∧ o.cls = .type "StopIteration") → E (.ref e) { s with heap := h' }) :
    wpAny (model prog w) A (Builtin.«zip.__next__» ⟨[.ref z], []⟩) Q E s := by
  show wpAny _ _ (field (.ref z) 2 >>= _) _ _ _
  refine wpAny_bind (wpAny_field hz rfl (x := .bool false) rfl ?_)
  show wpAny _ _ (field (.ref z) 3 >>= _) _ _ _
  refine wpAny_bind (wpAny_field hz rfl (x := .ref TI) rfl ?_)
  refine wpAny_bind (wpAny_seqItems hTI rfl ?_)
  show wpAny _ _ (Builtin.SmallTypes.ownedTupleIsFree (.ref z) >>= _) _ _ _
  refine wpAny_bind (wpAny_tupleHeld_zip hz hT fun h₁ hz₁ hs₁ => ?_)
  simp only [Bool.false_eq_true, if_false]
  refine wpAny_bind ?_
  rw [← Array.forIn_toList]
  simp only [List.forIn_cons, List.forIn_nil]
  refine wpAny_bind (wpAny_bind (wpAny_holding ?_))
  show wpAny _ _ (Builtin.SmallTypes.nextOf (.ref i1) >>= _) _ _ _
  refine wpAny_bind (nextOf_tuple_end (s := { s with heap := h₁ }) hh (h1.extBut hs₁.extBut D.i1z) (hl1.extBut hs₁.extBut D.l1z) hx fun h₂ e hs₂ he => ?_)
  exact hE h₂ e (fun c o c1 c2 _ x => hs₂ _ _ c2 (hs₁.extBut _ _ c1 x)) he
theorem zq_next {z TI TO T i1 i2 l1 l2 : Addr} {f : Bool} {oT : Obj} {k1 k2 : Nat} {xs ys : Array Value} {x y : Value} {Q : Option Value → Shared → Prop} (D : ZipApart z TI TO i1 i2 l1 l2)
    (hz : IsZipHeld s.heap z TI TO T f) (hT : s.heap.get? T = some oT) (hTI : IsPair s.heap TI (.ref i1) (.ref i2))
    (h1 : s.heap.IsTupleIter i1 l1 k1) (h2 : s.heap.IsTupleIter i2 l2 k2) (hl1 : s.heap.IsTuple l1 xs) (hl2 : s.heap.IsTuple l2 ys) (hx : xs[k1]? = some x) (hy : ys[k2]? = some y)
    (hQ : ∀ h', IsZipHeld h' z TI TO T true → h'.IsTupleIter i1 l1 (k1 + 1) → h'.IsTupleIter i2 l2 (k2 + 1) → IsPair h' s.heap.objs.size x y → h'.objs.size = s.heap.objs.size + 1 →
      (∀ c o, c ≠ z → c ≠ i1 → c ≠ i2 → s.heap.get? c = some o → h'.get? c = some o) → Q (some (.ref s.heap.objs.size)) { s with heap := h' }) :
    wpAny (model prog w) A (pyNext (.ref z)) Q E s := by
  have hTy : s.TypeIs (.ref z) "zip" := ⟨_, hz, rfl⟩
  unfold pyNext
  exact wpAny_bind (wpAny_attempt (wpAny_callSpecial?_slot (name := Str.ofString "__next__") hTy F.slot_zip_next
    (wpAny_call_entry F.slot_zip_next hTy F.entry_zip_next
      (zq_item D hz hT hTI h1 h2 hl1 hl2 hx hy fun h' a1 a3 a4 a5 a6 a7 => wpAny_pure (hQ h' a1 a3 a4 a5 a6 a7)) (F.args_zip_next_1 _))))
theorem zq_stop {z TI TO T i1 i2 l1 l2 : Addr} {f : Bool} {oT : Obj} {k1 k2 : Nat} {xs ys : Array Value} {Q : Option Value → Shared → Prop} (hh : A.handled = none) (D : ZipApart z TI TO i1 i2 l1 l2)
    (hz : IsZipHeld s.heap z TI TO T f) (hT : s.heap.get? T = some oT) (hTI : IsPair s.heap TI (.ref i1) (.ref i2))
    (h1 : s.heap.IsTupleIter i1 l1 k1) (hl1 : s.heap.IsTuple l1 xs) (hx : xs[k1]? = none)
    (hQ : ∀ h', (∀ c o, c ≠ z → c ≠ i1 → c ≠ i2 → s.heap.get? c = some o → h'.get? c = some o) → Q none { s with heap := h' }) : wpAny (model prog w) A (pyNext (.ref z)) Q E s := by
  have hTy : s.TypeIs (.ref z) "zip" := ⟨_, hz, rfl⟩
  unfold pyNext
  refine wpAny_bind (wpAny_attempt (wpAny_callSpecial?_slot (name := Str.ofString "__next__") hTy F.slot_zip_next
    (wpAny_call_entry F.slot_zip_next hTy F.entry_zip_next (zq_end (k2 := 0) (l2 := l2) (ys := #[]) hh D hz hT hTI h1 hl1 hx fun h' e hk he => ?_) (F.args_zip_next_1 _))))
  obtain ⟨o, ho, hc⟩ := he
  refine wpAny_bind (wpAny_isInstance (T := "StopIteration") (b := true) ⟨o, ho, hc⟩ isSubtype_stop ?_)
  exact wpAny_pure (hQ _ hk)
/-- the length of a zip is not told ahead -/
theorem zip_no_len : typeLookup (.type "zip") "__len__" = pure none := am_miss_of_fast (by decide +kernel)
theorem zip_no_hint : typeLookup (.type "zip") "__length_hint__" = pure none := am_miss_of_fast (by decide +kernel)
theorem zip_hint {z : Addr} {Q : Bool → Shared → Prop} (hT : s.TypeIs (.ref z) "zip") (h : Q true s) : wpAny (model prog w) A (Builtin.List.listLengthHint (.ref z)) Q E s := by
  unfold Builtin.List.listLengthHint
  refine wpAny_bind (wpAny_specialOf hT zip_no_len ?_)
  refine wpAny_bind (wpAny_specialOf hT zip_no_hint ?_)
  exact wpAny_pure h
end
/-- where a walk of zip stands: i pairs are out; what it stands on lies off S -/
structure ZSt (h : Heap) (z TI TO i1 i2 l1 l2 S : Addr) (xs ys : Array Value) (i : Nat) : Prop where
  ti : IsPair h TI (.ref i1) (.ref i2)
  a1 : h.IsTupleIter i1 l1 i
  a2 : h.IsTupleIter i2 l2 i
  t1 : h.IsTuple l1 xs
  t2 : h.IsTuple l2 ys
  zz : (i = 0 ∧ IsZip h z TI TO .none ∧ IsPair h TO .none .none) ∨ ∃ T f oT, IsZipHeld h z TI TO T f ∧ h.get? T = some oT ∧ T ≠ S ∧ T ≠ z ∧ T ≠ i1 ∧ T ≠ i2
structure ZLow (S z TI TO i1 i2 l1 l2 : Addr) : Prop where
  z : z < S
  TI : TI < S
  TO : TO < S
  i1 : i1 < S
  i2 : i2 < S
  l1 : l1 < S
  l2 : l2 < S
section
variable {z TI TO i1 i2 l1 l2 S : Addr} {xs ys : Array Value} {i : Nat} {h h' : Heap}
theorem ZSt.keep (st : ZSt h z TI TO i1 i2 l1 l2 S xs ys i) (L : ZLow S z TI TO i1 i2 l1 l2) (k : ∀ b o, b ≠ S → h.get? b = some o → h'.get? b = some o) : ZSt h' z TI TO i1 i2 l1 l2 S xs ys i where
  ti := k _ _ (Nat.ne_of_lt L.TI) st.ti
  a1 := st.a1.at fun o e => k _ _ (Nat.ne_of_lt L.i1) e
  a2 := st.a2.at fun o e => k _ _ (Nat.ne_of_lt L.i2) e
  t1 := let ⟨o, ho, r⟩ := st.t1; ⟨o, k _ _ (Nat.ne_of_lt L.l1) ho, r⟩
  t2 := let ⟨o, ho, r⟩ := st.t2; ⟨o, k _ _ (Nat.ne_of_lt L.l2) ho, r⟩
  zz := by
    rcases st.zz with ⟨e, h1, h2⟩ | ⟨T, f, oT, h1, h2, h3, h4⟩
    · exact .inl ⟨e, k _ _ (Nat.ne_of_lt L.z) h1, k _ _ (Nat.ne_of_lt L.TO) h2⟩
    · exact .inr ⟨T, f, oT, k _ _ (Nat.ne_of_lt L.z) h1, k _ _ h3 h2, h3, h4⟩
end
section
variable {prog : Program} {w : World} {A : Around} {E : Value → Shared → Prop} {s : Shared} {z TI TO i1 i2 l1 l2 S : Addr} {xs ys : Array Value} {i : Nat}
theorem zs_next {Q : Option Value → Shared → Prop} (D : ZipApart z TI TO i1 i2 l1 l2) (L : ZLow S z TI TO i1 i2 l1 l2) (hS : S < s.heap.objs.size) (st : ZSt s.heap z TI TO i1 i2 l1 l2 S xs ys i) (hx : i < xs.size) (hy : i < ys.size)
    (hQ : ∀ h', ZSt h' z TI TO i1 i2 l1 l2 S xs ys (i + 1) → IsPair h' s.heap.objs.size xs[i] ys[i] → h'.objs.size = s.heap.objs.size + 1 →
      (∀ b o, b ≠ z → b ≠ TO → b ≠ i1 → b ≠ i2 → s.heap.get? b = some o → h'.get? b = some o) → Q (some (.ref s.heap.objs.size)) { s with heap := h' }) :
    wpAny (model prog w) A (pyNext (.ref z)) Q E s := by
  have lt : ∀ {b : Addr}, b < S → s.heap.objs.size ≠ b := fun hb => Nat.ne_of_gt (Nat.lt_trans hb hS)
  rcases st.zz with ⟨e, h1, h2⟩ | ⟨T, f, oT, h1, h2, h3, h4, h5, h6⟩
  · subst e
    refine pyNext_zipT_item D h1 st.ti h2 st.a1 st.a2 st.t1 st.t2 (Array.getElem?_eq_getElem hx) (Array.getElem?_eq_getElem hy) fun h' b1 b2 b3 b4 b5 b6 b7 => ?_
    refine hQ h' ⟨b7 _ _ D.TIz D.TITO D.TIi1 D.TIi2 st.ti, b3, b4, ?_, ?_, .inr ⟨_, false, _, b1, b5, Nat.ne_of_gt hS, lt L.z, lt L.i1, lt L.i2⟩⟩ b5 b6 b7
    · obtain ⟨o, ho, r⟩ := st.t1
      exact ⟨o, b7 _ _ D.l1z D.l1TO D.l1i1 D.l1i2 ho, r⟩
    · obtain ⟨o, ho, r⟩ := st.t2
      exact ⟨o, b7 _ _ D.l2z D.l2TO D.l2i1 D.l2i2 ho, r⟩
  · refine zq_next D h1 h2 st.ti st.a1 st.a2 st.t1 st.t2 (Array.getElem?_eq_getElem hx) (Array.getElem?_eq_getElem hy) fun h' b1 b3 b4 b5 b6 b7 => ?_
    refine hQ h' ⟨b7 _ _ D.TIz D.TIi1 D.TIi2 st.ti, b3, b4, ?_, ?_, .inr ⟨T, true, oT, b1, b7 _ _ h4 h5 h6 h2, h3, h4, h5, h6⟩⟩ b5 b6 fun b o c1 _ c3 c4 e => b7 b o c1 c3 c4 e
    · obtain ⟨o, ho, r⟩ := st.t1
      exact ⟨o, b7 _ _ D.l1z D.l1i1 D.l1i2 ho, r⟩
    · obtain ⟨o, ho, r⟩ := st.t2
      exact ⟨o, b7 _ _ D.l2z D.l2i1 D.l2i2 ho, r⟩
theorem zs_stop {Q : Option Value → Shared → Prop} (hh : A.handled = none) (D : ZipApart z TI TO i1 i2 l1 l2) (st : ZSt s.heap z TI TO i1 i2 l1 l2 S xs ys i) (hx : xs.size ≤ i)
    (hQ : ∀ h', (∀ b o, b ≠ z → b ≠ TO → b ≠ i1 → b ≠ i2 → s.heap.get? b = some o → h'.get? b = some o) → Q none { s with heap := h' }) : wpAny (model prog w) A (pyNext (.ref z)) Q E s := by
  rcases st.zz with ⟨e, h1, h2⟩ | ⟨T, f, oT, h1, h2, h3, h4, h5, h6⟩
  · exact pyNext_zipT_end hh D h1 st.ti h2 st.a1 st.a2 st.t1 st.t2 (.inl (Array.getElem?_eq_none hx)) hQ
  · exact zq_stop (k2 := 0) (ys := #[]) hh D h1 h2 st.ti st.a1 st.t1 (Array.getElem?_eq_none hx) fun h' k => hQ h' fun b o c1 _ c3 c4 e => k b o c1 c3 c4 e
end
/-- the pairs that are out -/
structure ZOut (xs ys : Array Value) (S : Addr) (h : Heap) (as : List Addr) : Prop where
  rise : as.Pairwise (· < ·)
  above : ∀ a ∈ as, S < a
  pairs : ∀ (j : Nat) (a : Addr), as[j]? = some a → ∃ x y, xs[j]? = some x ∧ ys[j]? = some y ∧ IsPair h a x y
section
variable {prog : Program} {w : World} {A : Around} {s : Shared} {R : Result → Shared → Prop} {z TI TO i1 i2 l1 l2 S : Addr} {xs ys : Array Value}
theorem zs_loop (hh : A.handled = none) (D : ZipApart z TI TO i1 i2 l1 l2) (L : ZLow S z TI TO i1 i2 l1 l2) (hxy : ys.size = xs.size) (hn : xs.size ≤ sizeLine) (res : Value) {h₁ : Heap}
    (hR : ∀ h' tk acc c as, (∀ b o, b ≠ S → b ≠ z → b ≠ TO → b ≠ i1 → b ≠ i2 → h₁.get? b = some o → h'.get? b = some o) → h'.get? S = some { cls := .type "list", dict := none, data := .seq acc c, slots := #[] } → as.length = xs.size → ZOut xs ys S h' as →
      acc.toList = as.map Value.ref → R (.ok (.ret res)) { s with heap := h', toks := tk }) :
    ∀ (k i : Nat) (h : Heap) (tk c : Nat) (acc : Array Value) (as : List Addr), xs.size - i = k → i ≤ xs.size → ZSt h z TI TO i1 i2 l1 l2 S xs ys i → (∀ b o, b ≠ S → b ≠ z → b ≠ TO → b ≠ i1 → b ≠ i2 → h₁.get? b = some o → h.get? b = some o) →
      h.get? S = some { cls := .type "list", dict := none, data := .seq acc c, slots := #[] } → acc.toList = as.map Value.ref → as.length = i → ZOut xs ys S h as →
      codeAny (model prog w) A (.builtin "list.extend.loop" ⟨[.ref S, .ref z, res], []⟩) R { s with heap := h, toks := tk } := by
  intro k
  have off : ∀ {a : Addr}, S < a → a ≠ z ∧ a ≠ TO ∧ a ≠ i1 ∧ a ≠ i2 := fun ha => ⟨Nat.ne_of_gt (Nat.lt_trans L.z ha), Nat.ne_of_gt (Nat.lt_trans L.TO ha), Nat.ne_of_gt (Nat.lt_trans L.i1 ha), Nat.ne_of_gt (Nat.lt_trans L.i2 ha)⟩
  have sne : S ≠ z ∧ S ≠ TO ∧ S ≠ i1 ∧ S ≠ i2 := ⟨Nat.ne_of_gt L.z, Nat.ne_of_gt L.TO, Nat.ne_of_gt L.i1, Nat.ne_of_gt L.i2⟩
  induction k with
  | zero =>
    intro i h tk c acc as hk hi hst hkeep hS hacc hal hG
    refine codeAny_builtin PySem.F.entry_extend_loop ?_
    rw [Around.under_plainId PySem.F.plain_extend_loop _]
    show wpAny _ A.in1 (pyNext (.ref z) >>= _) _ _ _
    refine wpAny_bind (zs_stop (s := { s with heap := h, toks := tk }) (A := A.in1) hh D hst (by omega) fun h' he => ?_)
    refine wpAny_pure (hR h' tk acc c as (fun b o h1 h2 h3 h4 h5 e => he b o h2 h3 h4 h5 (hkeep b o h1 h2 h3 h4 h5 e)) (he S _ sne.1 sne.2.1 sne.2.2.1 sne.2.2.2 hS) (by omega) ⟨hG.rise, hG.above, fun j a hj => ?_⟩ hacc)
    obtain ⟨x, y, e1, e2, e3⟩ := hG.pairs j a hj
    obtain ⟨o1, o2, o3, o4⟩ := off (hG.above a (List.mem_of_getElem? hj))
    exact ⟨x, y, e1, e2, he a _ o1 o2 o3 o4 e3⟩
  | succ k ih =>
    intro i h tk c acc as hk hi hst hkeep hS hacc hal hG
    have hlt : i < xs.size := by omega
    have hlt2 : i < ys.size := by omega
    have hsz : acc.size = i := by rw [← Array.length_toList, hacc, List.length_map, hal]
    have hSl : S < h.objs.size := Heap.lt_size hS
    refine codeAny_builtin PySem.F.entry_extend_loop ?_
    rw [Around.under_plainId PySem.F.plain_extend_loop _]
    show wpAny _ A.in1 (pyNext (.ref z) >>= _) _ _ _
    refine wpAny_bind (zs_next (s := { s with heap := h, toks := tk }) (S := S) D L hSl hst hlt hlt2 fun h' hst' ht hz hkp => ?_)
    dsimp only at ht hz hkp ⊢
    have hS' := hkp S _ sne.1 sne.2.1 sne.2.2.1 sne.2.2.2 hS
    have up : ∀ b o, b ≠ S → h'.get? b = some o → (h'.update S (Obj.mapSeq (·.push (Value.ref h.objs.size)))).get? b = some o := fun b o hb e => (Heap.get?_update_other _ _ (Ne.symm hb)).trans e
    show wpAny _ A.in1 (updateSeq S (·.push (Value.ref h.objs.size)) >>= _) _ _ _
    refine wpAny_bind ?_
    refine wpAny_updateSeq hS' rfl (wpAny_pure ⟨plainId_quiet PySem.F.plain_extend_loop _, ih (i + 1) _ tk _ (acc.push (Value.ref h.objs.size)) (as ++ [h.objs.size]) (by omega) hlt (hst'.keep L up)
      (fun b o h1 h2 h3 h4 h5 e => up b o h1 (hkp b o h2 h3 h4 h5 (hkeep b o h1 h2 h3 h4 h5 e))) (Heap.get?_update_self _ hS' rfl) (by rw [Array.toList_push, hacc, List.map_append]; rfl) (by rw [List.length_append, hal]; rfl) ⟨?_, ?_, ?_⟩⟩) (by rw [hsz]; omega) (by show (acc.push (Value.ref h.objs.size)).size ≤ sizeLine + 1; rw [Array.size_push, hsz]; omega)
    · refine List.pairwise_append.mpr ⟨hG.rise, List.pairwise_singleton _ _, fun a ha b hb => ?_⟩
      rw [List.mem_singleton.mp hb]
      obtain ⟨j, hj⟩ := List.mem_iff_getElem?.mp ha
      obtain ⟨_, _, _, _, e⟩ := hG.pairs j a hj
      exact Heap.lt_size e
    · intro a ha
      rcases List.mem_append.mp ha with ha | ha
      · exact hG.above a ha
      · rw [List.mem_singleton.mp ha]; exact hSl
    · intro j b hj
      rcases Nat.lt_trichotomy j as.length with h1 | h1 | h1
      · rw [List.getElem?_append_left h1] at hj
        obtain ⟨x, y, e1, e2, e3⟩ := hG.pairs j b hj
        have hb := hG.above b (List.mem_of_getElem? hj)
        obtain ⟨o1, o2, o3, o4⟩ := off hb
        exact ⟨x, y, e1, e2, up b _ (Nat.ne_of_gt hb) (hkp b _ o1 o2 o3 o4 e3)⟩
      · subst h1
        have hb : h.objs.size = b := by simpa using hj
        subst hb
        subst hal
        exact ⟨_, _, Array.getElem?_eq_getElem hlt, Array.getElem?_eq_getElem hlt2, up _ _ (Nat.ne_of_gt hSl) ht⟩
      · have hnone : (as ++ [h.objs.size])[j]? = none := List.getElem?_eq_none (by rw [List.length_append, List.length_singleton]; omega)
        rw [hnone] at hj; cases hj
end
section
variable {prog : Program} {w : World} {A : Around} {E : Value → Shared → Prop} {s : Shared} {z TI TO i1 i2 l1 l2 S : Addr} {xs ys : Array Value}
theorem zs_ext {R : Result → Shared → Prop} (hh : A.handled = none) (D : ZipApart z TI TO i1 i2 l1 l2) (L : ZLow S z TI TO i1 i2 l1 l2) (hxy : ys.size = xs.size) (hn : xs.size ≤ sizeLine) (st : ZSt s.heap z TI TO i1 i2 l1 l2 S xs ys 0) (hz : IsZip s.heap z TI TO .none) (res : Value) (c₀ : Nat) (hS : s.heap.get? S = some { cls := .type "list", data := .seq #[] c₀ })
    (hR : ∀ h' tk acc c as, (∀ b o, b ≠ S → b ≠ z → b ≠ TO → b ≠ i1 → b ≠ i2 → s.heap.get? b = some o → h'.get? b = some o) → h'.get? S = some { cls := .type "list", dict := none, data := .seq acc c, slots := #[] } → as.length = xs.size → ZOut xs ys S h' as →
      acc.toList = as.map Value.ref → R (.ok (.ret res)) { s with heap := h', toks := tk }) :
    wpAny (model prog w) A.in1 (Builtin.List.listExtendWith (.ref S) (.ref z) res)
      (fun fin s' => match fin with | .done f => R (.ok f) s' | .again c' => c'.quiet = true ∧ codeAny (model prog w) A c' R s') (fun e s' => R (.error e) s') s := by
  have key : ∀ (h : Heap) (c₁ tk : Nat), (∀ b o, b ≠ S → s.heap.get? b = some o → h.get? b = some o) →
      h.get? S = some { cls := .type "list", data := .seq #[] c₁ } → codeAny (model prog w) A (.builtin "list.extend.loop" ⟨[.ref S, .ref z, res], []⟩) R { s with heap := h, toks := tk } := by
    intro h c₁ tk hk hS₁
    exact zs_loop (xs := xs) (ys := ys) (s := s) (h₁ := s.heap) hh D L hxy hn res hR
      xs.size 0 h tk c₁ #[] [] (Nat.sub_zero _) (Nat.zero_le _) (st.keep L hk) (fun b o hb _ _ _ _ e => hk b o hb e) hS₁ rfl rfl
      ⟨List.Pairwise.nil, (fun _ ha => nomatch ha), (fun j a hj => by simp at hj)⟩
  have hT : s.TypeIs (.ref z) "zip" := ⟨_, hz, rfl⟩
  unfold Builtin.List.listExtendWith
  refine wpAny_bind (wpAny_typeOf (T := "zip") hT ?_)
  have h1 : Builtin.List.listSameRef (.ref S) (.ref z) = false := by simp [Builtin.List.listSameRef, Nat.ne_of_gt L.z]
  have h2 : (Value.type "zip" == Value.type "list") = false := by decide
  have h3 : (Value.type "zip" == Value.type "tuple") = false := by decide
  simp only [h1, h2, h3, Bool.or_false, Bool.false_eq_true, if_false]
  refine wpAny_bind (wpAny_pyIter_zip hz ?_)
  refine wpAny_bind (wpAny_holding (zip_hint hT ?_))
  refine wpAny_ite_split (fun _ => ?_) (fun _ => wpAny_pure ⟨plainId_quiet PySem.F.plain_extend_loop _, key _ c₀ _ (fun b o _ e => e) hS⟩)
  refine wpAny_bind (wpAny_rule ?_)
  refine wpAny_bind ?_
  show wpAny _ _ (updateSeq S (·.push .none) >>= fun _ => updateSeq S (·.pop)) _ _ _
  refine wpAny_bind (wpAny_updateSeq hS rfl ?_)
  have hS₂ := Heap.get?_update_self (Obj.mapSeq (·.push Value.none)) hS rfl
  refine wpAny_updateSeq (hz := by seq_fits) hS₂ rfl ?_
  have hS₃ := Heap.get?_update_self (Obj.mapSeq (·.pop)) hS₂ rfl
  refine wpAny_pure ⟨plainId_quiet PySem.F.plain_extend_loop _, key _ _ _ (fun b o hb e => ?_) hS₃⟩
  exact (Heap.get?_update_other _ _ (Ne.symm hb)).trans ((Heap.get?_update_other _ _ (Ne.symm hb)).trans e)
theorem zs_init {R : Result → Shared → Prop} (hh : A.handled = none) (D : ZipApart z TI TO i1 i2 l1 l2) (L : ZLow S z TI TO i1 i2 l1 l2) (hxy : ys.size = xs.size) (hn : xs.size ≤ sizeLine) (st : ZSt s.heap z TI TO i1 i2 l1 l2 S xs ys 0) (hz : IsZip s.heap z TI TO .none) (hS : s.heap.get? S = some { cls := .type "list", data := .seq #[] })
    (hR : ∀ h' tk acc c as, (∀ b o, b ≠ S → b ≠ z → b ≠ TO → b ≠ i1 → b ≠ i2 → s.heap.get? b = some o → h'.get? b = some o) → h'.get? S = some { cls := .type "list", dict := none, data := .seq acc c, slots := #[] } → as.length = xs.size → ZOut xs ys S h' as →
      acc.toList = as.map Value.ref → R (.ok (.ret .none)) { s with heap := h', toks := tk }) :
    wpAny (model prog w) A.in1 (Builtin.«list.__init__» ⟨[.ref S, .ref z], []⟩)
      (fun fin s' => match fin with | .done f => R (.ok f) s' | .again c' => c'.quiet = true ∧ codeAny (model prog w) A c' R s') (fun e s' => R (.error e) s') s := by
  show wpAny _ _ (do let old ← Builtin.List.listItems (.ref S); Builtin.List.listUpdate (.ref S) (fun _ => #[]); letGo old.toList.reverse; Builtin.List.listExtendWith (.ref S) (.ref z) .none) _ _ s
  refine wpAny_bind ?_
  unfold Builtin.List.listItems
  refine wpAny_bind (wpAny_seqItems hS rfl (wpAny_pure ?_))
  show wpAny _ _ (updateSeq S (fun _ => #[]) >>= fun _ => letGo (#[] : Array Value).toList.reverse >>= fun _ => Builtin.List.listExtendWith (.ref S) (.ref z) .none) _ _ s
  refine wpAny_bind (wpAny_updateSeq hS rfl ?_)
  have hS₂ := Heap.get?_update_self (Obj.mapSeq (fun _ => (#[] : Array Value))) hS rfl
  have oth : ∀ b o, b ≠ S → s.heap.get? b = some o → (s.heap.update S (Obj.mapSeq (fun _ => (#[] : Array Value)))).get? b = some o :=
    fun b o hb e => (Heap.get?_update_other _ _ (Ne.symm hb)).trans e
  refine wpAny_bind (wpAny_letGo ?_)
  exact zs_ext (s := { s with heap := s.heap.update S (Obj.mapSeq (fun _ => (#[] : Array Value))) }) hh D L hxy hn (st.keep L oth) (oth _ _ (Nat.ne_of_lt L.z) hz) .none _ hS₂ fun h' tk acc c as hk hS' hl hG hacc => hR h' tk acc c as (fun b o c1 c2 c3 c4 c5 e => hk b o c1 c2 c3 c4 c5 (oth b o c1 e)) hS' hl hG hacc
/-- list(zip(a, b)), the zip new -/
theorem zs_list {Q : Value → Shared → Prop} (hh : A.handled = none) (D : ZipApart z TI TO i1 i2 l1 l2) (L : ZLow s.heap.objs.size z TI TO i1 i2 l1 l2) (hxy : ys.size = xs.size) (hn : xs.size ≤ sizeLine) (hz : IsZip s.heap z TI TO .none) (hTI : IsPair s.heap TI (.ref i1) (.ref i2)) (hTO : IsPair s.heap TO .none .none)
    (h1 : s.heap.IsTupleIter i1 l1 0) (h2 : s.heap.IsTupleIter i2 l2 0) (hl1 : s.heap.IsTuple l1 xs) (hl2 : s.heap.IsTuple l2 ys)
    (hQ : ∀ h' tk acc c as, (∀ b o, b ≠ z → b ≠ TO → b ≠ i1 → b ≠ i2 → s.heap.get? b = some o → h'.get? b = some o) → h'.get? s.heap.objs.size = some { cls := .type "list", dict := none, data := .seq acc c, slots := #[] } → as.length = xs.size → ZOut xs ys s.heap.objs.size h' as →
      acc.toList = as.map Value.ref → Q (.ref s.heap.objs.size) { s with heap := h', toks := tk }) :
    wpAny (model prog w) A (call (.type "list") [.ref z]) Q E s := by
  refine callType_codes (Q₁ := fun obj s₁ => obj = .ref s.heap.objs.size ∧ s₁ = { s with heap := s.heap.push { cls := .type "list", data := .seq #[] } }) PySem.F.called_list (PySem.F.typeCall_list_1 _) PySem.F.entry_list_init
    (code_list_new _ ⟨rfl, rfl⟩) fun obj s₁ h₁ => ?_
  obtain ⟨rfl, rfl⟩ := h₁
  have hS : (s.heap.push { cls := .type "list", data := .seq #[] }).get? s.heap.objs.size = some { cls := .type "list", data := .seq #[] } := Heap.get?_push_size _ rfl
  have up : ∀ b o, s.heap.get? b = some o → (s.heap.push { cls := .type "list", data := .seq #[] }).get? b = some o := fun b o e => Heap.get?_push_of_some _ e
  have st : ZSt (s.heap.push { cls := .type "list", data := .seq #[] }) z TI TO i1 i2 l1 l2 s.heap.objs.size xs ys 0 := ⟨up _ _ hTI, h1.at fun o e => up _ _ e, h2.at fun o e => up _ _ e, (let ⟨o, ho, r⟩ := hl1; ⟨o, up _ _ ho, r⟩), (let ⟨o, ho, r⟩ := hl2; ⟨o, up _ _ ho, r⟩), .inl ⟨rfl, up _ _ hz, up _ _ hTO⟩⟩
  refine ⟨⟨_, hS, rfl⟩, PySem.F.args_list_init_2 _ _, zs_init (A := A.in1) (s := { s with heap := s.heap.push { cls := .type "list", data := .seq #[] } }) hh D L hxy hn st (up _ _ hz) hS (fun h' tk acc' c' as hk hS' hl hG hacc => ?_)⟩
  exact ⟨rfl, hQ h' tk acc' c' as (fun b o c2 c3 c4 c5 e => hk b o (Nat.ne_of_lt (Heap.lt_size e)) c2 c3 c4 c5 (up b o e)) hS' hl hG hacc⟩
end
end J
namespace J
open PySem PySem.Spec PyProof.Rows L2 Evl RZ
theorem vals_getZ : ∀ {xs : List V} {us : List Value}, Vals xs us → ∀ {j : Nat} {u : Value}, us[j]? = some u → ∃ x, xs[j]? = some x ∧ RelV x u
  | _, _, .nil, j, u, h => by simp at h
  | x :: xs, u' :: us, .cons r t, 0, u, h => ⟨x, rfl, by
    obtain rfl : u' = u := by simpa using h
    exact r⟩
  | x :: xs, u' :: us, .cons r t, j + 1, u, h => by
    obtain ⟨y, h1, h2⟩ := vals_getZ t (j := j) (u := u) (by simpa using h)
    exact ⟨y, by simpa using h1, h2⟩
/-- list(zip(a, b)), tuples of one length: new pairs in a new list -/
def tLZip (K : PySem.W.Frag) (ta : TA) : TE := fun σ H Q => ta σ H fun vs H1 => ∃ a b xs ys, vs = [.ref a, .ref b] ∧ SqT K H1 a xs ∧ SqT K H1 b ys ∧ ys.length = xs.length ∧
  ∀ (l : Addr) (as : List Addr) (H2 : Hp), (∀ b o, H1 b = some o → H2 b = some o) → H1 l = none → (∀ a ∈ as, H1 a = none) → as.length = xs.length → (∀ (j : Nat) (a : Addr), as[j]? = some a → ∃ x y, xs[j]? = some x ∧ ys[j]? = some y ∧ H2 a = some (.tup [x, y])) → H2 l = some (.lst (as.map V.ref)) → Q (.ref l) H2
theorem pe_lzip {X : Cx} {e e2 : Expr} {ta : TA} {p p2 q pos : Pos} (hg : Gl X "list") (hm : X.mg "list" = none) (hg2 : Gl X "zip") (hm2 : X.mg "zip" = none) (ha : PA X [e, e2] ta) (hc : X.calm = true := by rfl)
    (na : starEach [.Call (.Name "zip" p2) [e, e2] [] q] X.env = (false, eval (.Call (.Name "zip" p2) [e, e2] [] q) X.env) :: starEach [] X.env := by rfl)
    (hs : starEach [e, e2] X.env = (false, eval e X.env) :: starEach [e2] X.env := by rfl) (hpl : (backTo q (starEach [e2] X.env)).any (·.1) = false := by rfl) :
    PE X (.Call (.Name "list" p) [.Call (.Name "zip" p2) [e, e2] [] q] [] pos) (tLZip X.K ta) := by
  refine ⟨fun pins s σ H Q I h => ?_⟩
  refine Call_ (ld_blt I hg hm PyProof.Rows.boot_list ?_)
  refine PyProof.Rows.callWith_type1 (PyProof.Rows.args_cons ?_ na) na rfl
  refine Call_ (ld_blt I hg2 hm2 PyProof.Rows.boot_zip (PyProof.Rows.callWith_type1 (thn (ha.run q pins s σ H _ I h) fun us s1 ⟨vs, H1, I1, r1, q1⟩ => ?_) hs hpl))
  obtain ⟨a, b, xs, ys, ex, hqx, hqy, hxy, q1⟩ := q1
  subst ex
  cases r1 with
  | cons r rr =>
    cases rr with
    | cons r' rr =>
      cases rr
      cases r
      cases r'
      obtain ⟨its, rv, p1, z1⟩ := I1.tuple hqx
      obtain ⟨its2, rv2, p2, z2⟩ := I1.tuple hqy
      obtain ⟨o1, ho1, _⟩ := id p1
      obtain ⟨o2, ho2, _⟩ := id p2
      have la := Heap.lt_size ho1
      have lb := Heap.lt_size ho2
      refine call_zipT (show s1.heap.IsTuple a its.toArray from p1) (show s1.heap.IsTuple b its2.toArray from p2) fun h' hz hTI hTO h1 h2 hsz hk => ?_
      refine PyProof.Rows.args_nil ?_
      have e1 : its.toArray.size = xs.length := by rw [List.size_toArray, ← rv.length]
      have e2 : its2.toArray.size = ys.length := by rw [List.size_toArray, ← rv2.length]
      have L : ZLow h'.objs.size (s1.heap.objs.size + 4) (s1.heap.objs.size + 2) (s1.heap.objs.size + 3) s1.heap.objs.size (s1.heap.objs.size + 1) a b := by
        rw [hsz]
        constructor
        · exact Nat.lt_succ_self _
        · exact Nat.add_lt_add_left (by decide) _
        · exact Nat.add_lt_add_left (by decide) _
        · exact Nat.lt_add_of_pos_right (by decide)
        · exact Nat.add_lt_add_left (by decide) _
        · exact Nat.lt_of_lt_of_le la (Nat.le_add_right _ _)
        · exact Nat.lt_of_lt_of_le lb (Nat.le_add_right _ _)
      refine zs_list (s := { s1 with heap := h' }) (xs := its.toArray) (ys := its2.toArray) (I1.ok.hd hc) (PySem.W.ktu_apart s1.heap.objs.size a b la lb) L (by rw [e1, e2, hxy]) (by rw [e1]; exact z1) hz hTI hTO h1 h2 (let ⟨o, ho, r⟩ := p1; ⟨o, hk _ _ ho, r⟩) (let ⟨o, ho, r⟩ := p2; ⟨o, hk _ _ ho, r⟩) fun h3 tk acc c as hk3 hS hl hG hacc => ?_
      have kp : ∀ b o, s1.heap.get? b = some o → h3.get? b = some o := fun b o e => by
        have hb := Heap.lt_size e
        exact hk3 b o (Nat.ne_of_lt (Nat.lt_of_lt_of_le hb (Nat.le_add_right _ _))) (Nat.ne_of_lt (Nat.lt_of_lt_of_le hb (Nat.le_add_right _ _))) (Nat.ne_of_lt hb) (Nat.ne_of_lt (Nat.lt_of_lt_of_le hb (Nat.le_add_right _ _))) (hk b o e)
      have lo : s1.heap.objs.size ≤ h'.objs.size := by rw [hsz]; exact Nat.le_add_right _ _
      have hal : as.length = xs.length := by rw [hl, e1]
      have eacc : acc = (as.map Value.ref).toArray := by rw [← hacc, Array.toArray_toList]
      have I3 : Inv X pins σ (upd H1 h'.objs.size (.lst (as.map V.ref))) { s1 with heap := h3, toks := tk } := I1.laid kp lo ⟨by rw [List.length_map, hal]; exact z1, as.map Value.ref, c, vals_refs as, by rw [← eacc]; exact hS⟩
      have nd : as.Nodup := List.Pairwise.imp (fun h => Nat.ne_of_lt h) hG.rise
      obtain ⟨H2, I4, g, q⟩ := L2.DX.takeT (P := fun a vs => ∃ j x y, as[j]? = some a ∧ xs[j]? = some x ∧ ys[j]? = some y ∧ vs = [x, y]) I1 as _ I3 nd fun c hc => by
        obtain ⟨j, hj⟩ := List.mem_iff_getElem?.mp hc
        obtain ⟨u, v, hu, hv, hp⟩ := hG.pairs j c hj
        obtain ⟨x, gx, rx⟩ := vals_getZ rv (by simpa using hu)
        obtain ⟨y, gy, ry⟩ := vals_getZ rv2 (by simpa using hv)
        have ab := hG.above c hc
        have hfr := I1.hok.fresh (Nat.le_of_lt (Nat.lt_of_le_of_lt lo ab))
        exact ⟨Nat.le_of_lt (Nat.lt_of_le_of_lt lo ab), by rw [upd_ne (Nat.ne_of_gt ab)]; exact hfr, [x, y], ⟨j, x, y, hj, gx, gy, rfl⟩, fun H2 => ⟨by rw [sizeLine_eq]; exact Nat.le_of_ble_eq_true rfl, [u, v], .cons rx (.cons ry .nil), _, hp, rfl, 0, rfl⟩⟩
      refine ⟨.ref h'.objs.size, H2, I4, rfl, q1 h'.objs.size as H2 (fun b o e => g b o (by rw [upd_ne (ne_of_none e (I1.hok.fresh lo))]; exact e)) (I1.hok.fresh lo) (fun c hc => I1.hok.fresh (Nat.le_of_lt (Nat.lt_of_le_of_lt lo (hG.above c hc)))) hal (fun j c hj => ?_) (g _ _ upd_same)⟩
      obtain ⟨vs, ⟨j', x, y, hj', gx, gy, rfl⟩, hv⟩ := q c (List.mem_of_getElem? hj)
      have : j' = j := by
        obtain ⟨h1, e1⟩ := List.getElem?_eq_some_iff.mp hj
        obtain ⟨h2, e2⟩ := List.getElem?_eq_some_iff.mp hj'
        exact (List.getElem_inj nd).mp (e2.trans e1.symm)
      subst this
      exact ⟨x, y, gx, gy, hv⟩
end J

/-! J65: over the layer: list(zip(a, b)), dicts by pairs of ints. -/
namespace J
open PySem PySem.Spec PyProof.Rows L2 Evl RZ
theorem all2_pt {α : Type} {R : Rl α} {S : Hp} : ∀ {xs : List α} {vs : List V}, xs.length = vs.length → (∀ (j : Nat) (x : α) (v : V), xs[j]? = some x → vs[j]? = some v → R x v S) → All2 R S xs vs
  | [], [], _, _ => .nil
  | [], _ :: _, h, _ => by cases h
  | _ :: _, [], h, _ => by cases h
  | x :: xs, v :: vs, h, k => .cons (k 0 x v rfl rfl) (all2_pt (by simpa using h) fun j y u h1 h2 => k (j + 1) y u (by simpa using h1) (by simpa using h2))
/-- a pair whose own tuple is in sight -/
def PairS {α β : Type} (R : Rl α) (R' : Rl β) : Rl (α × β) := fun p v S => ∃ a x y, v = .ref a ∧ S a = some (.tup [x, y]) ∧ R p.1 x S ∧ R' p.2 y S
instance {α β : Type} {R : Rl α} {R' : Rl β} [Mono R] [Mono R'] : Mono (PairS R R') := ⟨fun e ⟨a, x, y, h1, h2, h3, h4⟩ => ⟨a, x, y, h1, e _ _ h2, Mono.up e h3, Mono.up e h4⟩⟩
theorem PairS.r {α β : Type} {R : Rl α} {R' : Rl β} {K : PySem.W.Frag} {p : α × β} {v : V} {S : Hp} (h : PairS R R' p v S) : PairR K R R' p v S := by
  obtain ⟨a, x, y, h1, h2, h3, h4⟩ := h
  exact ⟨a, x, y, h1, SqT.of h2, h3, h4⟩
section
variable {r : Rs} {s : L2.St} {S : Hp} {ta tb : TE} {K : PySem.W.Frag} {α β : Type} {R : Rl α} {R' : Rl β}
theorem ev_pairS [Mono R] [Mono R'] {a : α} {b : β} (h : EvS r ta s S fun v S1 => R a v S1) (h2 : ∀ S1, Ex S S1 → EvS r tb s S1 fun v S2 => R' b v S2) : EvS r (tTup (tCons ta (tCons tb tNil))) s S fun v S1 => PairS R R' (a, b) v S1 := fun S1 H e w Q q =>
  h S1 H e w _ fun v S2 H2 w2 s2 hv => h2 S2 (e.trans s2.ex) S2 H2 (Ex.refl _) w2 _ fun v' S3 H3 w3 s3 hv' => ⟨sz_of (show [v, v'].length ≤ 100000 by simp), fun p hp => q (.ref p) (L2.upd S3 p (.tup [v, v'])) _ (w3.newS hp) ((s2.trans s3).trans (Stp.newS w3 hp)) ⟨p, v, v', rfl, upd_same, Mono.up (Ex.new (w3.fresh hp)) (Mono.up s3.ex hv), Mono.up (Ex.new (w3.fresh hp)) hv'⟩⟩
theorem ev_lzip [Mono R] [Mono R'] {xs : List α} {ys : List β} (h1 : EvS r ta s S fun v S1 => TupR K R xs v S1) (h2 : ∀ S1, Ex S S1 → EvS r tb s S1 fun v S2 => TupR K R' ys v S2) (hl : ys.length = xs.length) : EvS r (tLZip K (tCons ta (tCons tb tNil))) s S fun v S1 => LstR (PairS R R') (xs.zip ys) v S1 := fun S1 H e w Q q =>
  h1 S1 H e w _ fun v S2 H2 w2 s2 hv => h2 S2 (e.trans s2.ex) S2 H2 (Ex.refl _) w2 _ fun v' S3 H3 w3 s3 ⟨b, ws, ev', hb, hws⟩ => by
    obtain ⟨a, vs, ev, ha, hvs⟩ := Mono.up s3.ex hv
    subst ev
    subst ev'
    have l1 := hvs.len
    have l2 := hws.len
    refine ⟨a, b, vs, ws, rfl, ex_t w3.ex ha, ex_t w3.ex hb, by omega, fun l as H4 keep nl nas hlen pairs hL => ?_⟩
    have fresh : ∀ c, c ∈ l :: as → H3 c = none := fun c hc => by
      rcases List.mem_cons.mp hc with rfl | hc
      · exact nl
      · exact nas c hc
    have w4 : Wd r S3 H4 := ⟨w3.ex.trans keep, r.mono H3 H4 (fun a o _ e => keep a o e) (fun a q e => keep a _ e) w3.inv, w3.dj⟩
    have s4 : Stp r S3 H3 S3 H4 := ⟨Ex.refl _, fun a o _ e => keep a o e, fun _ _ h => h, fun a q => by
      cases z : H3 a with
      | none => exact absurd z q
      | some o => exact ne_none (keep _ _ z)⟩
    have w5 : Wd r (sup (l :: as) H4 S3) H4 := w4.settleL fun c hc => w3.notM (fresh c hc)
    have hs : ∀ c, c ∈ l :: as → S3 c = none := fun c hc => w3.fresh (fresh c hc)
    have s5 : Stp r S3 H3 (sup (l :: as) H4 S3) H4 := s4.settleL fresh hs
    refine q (.ref l) _ H4 w5 (s2.trans (s3.trans s5)) ⟨l, as.map V.ref, rfl, by rw [sup_in (List.mem_cons_self ..)]; exact hL, all2_pt (by rw [List.length_zip, List.length_map]; omega) fun j z u hz hu => ?_⟩
    rw [List.getElem?_map] at hu
    obtain ⟨c, hc, rfl⟩ := Option.map_eq_some_iff.mp hu
    obtain ⟨x, y, gx, gy, hp⟩ := pairs j c hc
    obtain ⟨zx, zy⟩ := List.getElem?_zip_eq_some.mp hz
    obtain ⟨x', gx', rx⟩ := hvs.at zx
    obtain ⟨y', gy', ry⟩ := hws.at zy
    rw [gx] at gx'
    rw [gy] at gy'
    cases gx'
    cases gy'
    exact ⟨c, x, y, rfl, (by rw [sup_in (List.mem_cons_of_mem _ (List.mem_of_getElem? hc))]; exact hp), Mono.up s5.ex rx, Mono.up s5.ex ry⟩
end
/-! dicts by tuples -/
def rInDD : R2 := fun y x H Q => ∃ a o, x = .ref a ∧ DGet H a y o ∧ Q (.bl o.isSome) H
def rNotInDD : R2 := fun y x H Q => ∃ a o, x = .ref a ∧ DGet H a y o ∧ Q (.bl (!o.isSome)) H
theorem op_inDD {X : Cx} (hu : X.A.units + 1 < cLine) : OpR X (compareOp .In) rInDD := by
  intro pins s σ H y x iv u Q I ry rx h
  obtain ⟨a, o, rfl, g, q⟩ := h
  obtain rfl : u = Value.ref a := rx
  exact d_in hu I g ry fun s3 I3 => ⟨.bl o.isSome, H, I3, rfl, q⟩
theorem op_notInDD {X : Cx} (hu : X.A.units + 1 < cLine) : OpR X (compareOp .NotIn) rNotInDD := by
  intro pins s σ H y x iv u Q I ry rx h
  obtain ⟨a, o, rfl, g, q⟩ := h
  obtain rfl : u = Value.ref a := rx
  exact d_notIn hu I g ry fun s3 I3 => ⟨.bl (!o.isSome), H, I3, rfl, q⟩
/-- a pair of ints as a key -/
def keyP (p : Int × Int) : List Key := [.inl p.1, .inl p.2]
def kvP (ps : List (Int × Int)) : List (List Key × V) := ps.map fun p => (keyP p, V.bl true)
theorem keyP_inj {p q : Int × Int} (h : keyP p = keyP q) : p = q := by
  obtain ⟨a, b⟩ := p
  obtain ⟨c, d⟩ := q
  unfold keyP at h
  simp only [List.cons.injEq, Sum.inl.injEq, and_true] at h
  rw [h.1, h.2]
theorem valV_kvP (q : Int × Int) : ∀ ps : List (Int × Int), (valV (kvP ps) (keyP q)).isSome = decide (q ∈ ps)
  | [] => rfl
  | p :: ps => by
    by_cases h : p = q
    · subst h
      rw [show kvP (p :: ps) = (keyP p, V.bl true) :: kvP ps from rfl, valV_pos rfl]
      simp
    · rw [show kvP (p :: ps) = (keyP p, V.bl true) :: kvP ps from rfl, valV_neg (fun z => h (keyP_inj z)), valV_kvP q ps]
      exact decide_eq_decide.mpr ⟨fun z => .tail _ z, fun z => (List.mem_cons.mp z).resolve_left (fun e => h e.symm)⟩
theorem putK_kvP {q : Int × Int} {ps : List (Int × Int)} (h : q ∉ ps) : putK (kvP ps) (keyP q) (.bl true) = kvP (ps ++ [q]) := by
  have e := valV_kvP q ps
  rw [decide_eq_false h] at e
  unfold putK
  rw [valV_any, e, if_neg (by decide)]
  unfold kvP
  rw [List.map_append]
  rfl
section
variable {r : Rs} {s : L2.St} {S : Hp} {K : PySem.W.Frag}
/-- {x: c}, x a tuple -/
theorem en_disp1 {i : Nat} {b : Addr} {k : List Key} {c : V} (h : s[i]? = some (some (.ref b))) (hb : S b = some (.tup (k.map kV))) : EvN r (tDisp1 (tVar i) (tC c)) s S fun o _ => o = .dT [(k, c)] := fun S1 H e w Q q p hp => by
  have hb1 := w.ex _ _ (e _ _ hb)
  have nb : b ≠ p := fun z => by
    rw [z, hp] at hb1
    cases hb1
  refine (vv_var h : EvV r (tVar i) s S (.ref b)) S1 _ e (w.new hp) _ fun v S2 H2 w2 s2 ev => ?_
  subst ev
  have hp2 : H2 p = some (.dT []) := s2.kp p _ (w.notM hp) upd_same
  have n2 : S2 p = none := s2.fr p (by rw [upd_same]; exact fun z => nomatch z) (w.fresh hp)
  refine ⟨hp2, b, k, rfl, w2.ex _ _ (s2.ex _ _ (e _ _ hb)), ?_⟩
  have w3 : Wd r S2 (L2.upd H2 p (.dT [(k, c)])) := w2.upd n2 (w.notM hp) (fun q z => by rw [hp2] at z; cases z)
  refine q p _ S2 _ hp upd_same n2 w3 ⟨s2.ex, fun a o na ea => ?_, fun a ea na => s2.fr a (by rw [upd_ne (fun z => by rw [z] at ea; exact ea hp)]; exact ea) na, fun a ea => ?_⟩ rfl
  · have ne : a ≠ p := fun z => by
      rw [z, hp] at ea
      cases ea
    rw [upd_ne ne]
    exact s2.kp a o na (by rw [upd_ne ne]; exact ea)
  · have ne : a ≠ p := fun z => by
      rw [z] at ea
      exact ea hp
    rw [upd_ne ne]
    exact s2.dm a (by rw [upd_ne ne]; exact ea)
theorem rs_notInDD {b d : Addr} {k : List Key} {kvs : List (List Key × V)} (hd : S d = some (.dT kvs)) (hb : S b = some (.tup (k.map kV))) : RVS rNotInDD (.ref b) (.ref d) S (.bl (!(valV kvs k).isSome)) := fun H e Q q => ⟨d, _, rfl, DGet.t (e _ _ hd) (e _ _ hb), q⟩
end
end J

/-! J66: a dict by tuples whose keys' own tuples are told; all its values are True. -/
namespace J
open PySem PySem.Spec PyProof.Rows L2 Evl RZ LamX
def rawOf (ks : List (List Key × Addr)) : List (List Key × Addr × Value) := ks.map fun z => (z.1, z.2, Value.bool true)
def dkO (P : Program) (w : World) (d : Addr) (ks : List (List Key × Addr)) : HO := .ext fun h => (d == sysModules) = false ∧ ks.length ≤ sizeLine ∧ ∃ o es ep, h.get? d = some o ∧ o.ExactDict ∧ o.data = .dict es ep ∧ es.toList = (rawOf ks).map (entryOfKey (tupleKind (mixKind P w))) ∧ ((rawOf ks).map (·.1)).Nodup
theorem dkO_new {P : Program} {w : World} {H : Hp} {h : Heap} {d : Addr} {ks : List (List Key × Addr)} (hd : (d == sysModules) = false) (hl : ks.length ≤ sizeLine) (x : h.DictOfH (tupleKind (mixKind P w)) d (rawOf ks)) : ObjOk P w H h d (dkO P w d ks) := by
  obtain ⟨o, es, ep, ho, h2, h3, h4, _, h5⟩ := x
  exact ⟨⟨hd, hl, o, es, ep, ho, h2, h3, h4, h5⟩, ⟨o, ho⟩, fun h1 h2' ⟨a1, a2, o, es, ep, b1, b2, b3, b4, b5⟩ k => ⟨a1, a2, o, es, ep, k _ b1, b2, b3, b4, b5⟩⟩
theorem atKey_raw (k : List Key) : ∀ ks : List (List Key × Addr), (atKey (rawOf ks) k).isSome = (ks.any fun z => decide (z.1 = k))
  | [] => rfl
  | z :: ks => by
    have ih := atKey_raw k ks
    by_cases e : z.1 = k
    · simp [atKey, rawOf, List.find?_cons, e]
    · have b : atKey (rawOf (z :: ks)) k = atKey (rawOf ks) k := by simp [atKey, rawOf, List.find?_cons, e]
      rw [b, ih, List.any_cons, decide_eq_false e, Bool.false_or]
section
variable {X : Cx} {pins : List (Addr × Obj)} {σ : L2.St} {H : Hp} {s : Shared} {d : Addr} {ks : List (List Key × Addr)}
theorem dkO_full (I : Inv X pins σ H s) (hd : H d = some (dkO X.prog X.w d ks)) (hk : ∀ z ∈ ks, H z.2 = some (.tup (z.1.map kV))) : (d == sysModules) = false ∧ ks.length ≤ sizeLine ∧ s.heap.DictOfH (tupleKind (mixKind X.prog X.w)) d (rawOf ks) := by
  obtain ⟨⟨a1, a2, o, es, ep, b1, b2, b3, b4, b5⟩, _⟩ := (show ObjOk X.prog X.w H s.heap d (dkO X.prog X.w d ks) from I.hok d _ hd)
  refine ⟨a1, a2, o, es, ep, b1, b2, b3, b4, fun x hx => ?_, b5⟩
  obtain ⟨z, hz, rfl⟩ := List.mem_map.mp hx
  exact key_of I.hok (hk z hz)
end
def rNotInE (P : Program) (w : World) : R2 := fun y x H Q => ∃ d ks b k, x = .ref d ∧ y = .ref b ∧ H d = some (dkO P w d ks) ∧ (∀ z ∈ ks, H z.2 = some (.tup (z.1.map kV))) ∧ H b = some (.tup (k.map kV)) ∧ Q (.bl (!(ks.any fun z => decide (z.1 = k)))) H
theorem op_notInE {X : Cx} (hu : X.A.units + 1 < cLine) : OpR X (compareOp .NotIn) (rNotInE X.prog X.w) := by
  intro pins s σ H y x iv u Q I ry rx h
  obtain ⟨d, ks, b, k, rfl, rfl, hd, hk, hb, q⟩ := h
  obtain rfl : u = Value.ref d := rx
  cases (show iv = Value.ref b from ry)
  obtain ⟨a1, a2, dd⟩ := dkO_full I hd hk
  refine wpAny_notIn_heap (tupleKind_room_in1 hu) (key_of I.hok hb) a1 dd ?_
  rw [atKey_raw]
  exact ⟨.bl _, H, I.tok _, rfl, q⟩
/-- d[k] = True, k new -/
def sPutE (P : Program) (w : World) (td ty tv : TE) : TS := fun D σ H => tv σ H fun v H1 => td σ H1 fun x H2 => ty σ H2 fun y H3 => ∃ d ks b k, v = .bl true ∧ x = .ref d ∧ y = .ref b ∧ H3 d = some (dkO P w d ks) ∧ (∀ z ∈ ks, H3 z.2 = some (.tup (z.1.map kV))) ∧ H3 b = some (.tup (k.map kV)) ∧ (ks.any fun z => decide (z.1 = k)) = false ∧ ks.length < 100000 ∧ D.nx σ (upd H3 d (dkO P w d (ks ++ [(k, b)])))
theorem ps_dputE {X : Cx} {o i value : Expr} {td ty tv : TE} {pos pos' : Pos} (hu : X.A.units + 1 < cLine) (ho : PE X o td) (hi : PE X i ty) (hv : PE X value tv) (hs : swapsWith value (some (.Subscript o i pos')) pos.line X.env = pure false) :
    PS X (.Assign [.Subscript o i pos'] value pos) (sPutE X.prog X.w td ty tv) := by
  refine ⟨fun pins s σ H D I h => ?_⟩
  refine wpAny_Assign_Subscript (thn (hv.run pins s σ H _ I h) fun r s1 ⟨v, H1, I1, rv, q1⟩ => thn (ho.run pins s1 σ H1 _ I1 q1) fun u s2 ⟨x, H2, I2, rx, q2⟩ => thn (hi.run pins s2 σ H2 _ I2 q2) fun iv s3 ⟨y, H3, I3, ry, d, ks, b, k, ev, ex, ey, hd, hk, hb, hn, hl, q3⟩ => ?_) hs
  subst ev
  subst ex
  subst ey
  obtain rfl : u = Value.ref d := rx
  cases (show iv = Value.ref b from ry)
  cases (show r = Value.bool true from rv)
  obtain ⟨a1, a2, dd⟩ := dkO_full I3 hd hk
  have hno : atKey (rawOf ks) k = none := by
    have := atKey_raw k ks
    rw [hn] at this
    exact Option.not_isSome_iff_eq_none.mp (by rw [this]; exact Bool.false_ne_true)
  refine wpAny_setItem_heap (hsz := by rw [rawOf, List.length_map]; exact a2) (tupleKind_room_in1 hu) (key_of I3.hok hb) dd fun h' dd' hsb => ?_
  rw [storedH_new hno] at dd'
  have e : rawOf ks ++ [(k, b, Value.bool true)] = rawOf (ks ++ [(k, b)]) := by
    unfold rawOf
    rw [List.map_append]
    rfl
  rw [e] at dd'
  obtain ⟨o, es, ep, hq, _⟩ := id dd'
  exact ⟨σ, _, d_write I3 (by rw [hd]; exact True.intro) hsb ⟨o, hq⟩ (dkO_new a1 (sz_of (by rw [List.length_append, List.length_singleton]; omega)) dd'), q3⟩
/-- {x: True} -/
def tDispE (P : Program) (w : World) (tk tv : TE) : TE := fun σ H Q => ∀ p, H p = none → tk σ (upd H p (.dT [])) fun x H1 => tv σ H1 fun y H2 => H2 p = some (.dT []) ∧ ∃ (b : Addr) (k : List Key), y = .bl true ∧ x = .ref b ∧ H2 b = some (.tup (k.map kV)) ∧ Q (.ref p) (upd H2 p (dkO P w p [(k, b)]))
theorem pe_dispE {X : Cx} {ek ev : Expr} {tk tv : TE} {pos : Pos} (hu : (tupleKind (mixKind X.prog X.w)).room X.A) (hk : PE X ek tk) (hv : PE X ev tv) : PE X (.Dict [some ek] [ev] pos) (tDispE X.prog X.w tk tv) := by
  refine ⟨fun pins s σ H Q I q => ?_⟩
  have hn := I.hok.fresh (Nat.le_refl s.heap.objs.size)
  have I1 := I.laid (a := s.heap.objs.size) (o := .dT []) (h' := s.heap.push { cls := .type "dict", data := .dict #[] }) (t' := s.toks) (fun _ _ q => Heap.get?_push_of_some _ q) (Nat.le_refl _) (dt_empty s.heap I.big)
  rw [arm_eval_Dict, zip_pairTrees [some ek] [ev] X.env pos (by rfl) (by rfl), dictDisplay_pairs (pairTrees [some ek] [ev] X.env pos) (fun z => by have := pairTrees_length [some ek] [ev] X.env pos rfl rfl; rw [z] at this; cases this) (by rw [pairTrees_length [some ek] [ev] X.env pos rfl rfl]; exact Nat.le_of_ble_eq_true rfl)]
  refine wpAny_bind (wpAny_standAt (wpAny_bind (wpAny_subDictH (knd := tupleKind (mixKind X.prog X.w)) (Q := fun d s' => wpAny (model X.prog X.w) X.A (pure (Value.ref d)) _ _ s') hu (by rw [pairTrees_length [some ek] [ev] X.env pos rfl rfl]; exact Nat.le_of_ble_eq_true rfl) ?_)))
  refine pairTrees_cons_walk (thn (hk.run pins _ σ _ _ I1 (q _ hn)) fun u s1 ⟨x, H1, I2, rx, q1⟩ => thn (hv.run pins s1 σ H1 _ I2 q1) fun w2 s2 ⟨y, H2, I3, ry, hp, b, k, ey, ex, hb, q2⟩ => pairTrees_nil_walk ?_)
  subst ex
  subst ey
  cases (show u = Value.ref b from rx)
  cases (show w2 = Value.bool true from ry)
  obtain ⟨z, hd, xs, r0, dd⟩ := dt_of I3.hok hp
  cases r0
  refine ⟨[(k, b, Value.bool true)], ⟨rfl, rfl, key_of I3.hok hb, trivial⟩, dd, fun h' tk dd' hs => wpAny_pure ⟨.ref s.heap.objs.size, _, ?_, rfl, q2⟩⟩
  have dd2 : h'.DictOfH (tupleKind (mixKind X.prog X.w)) s.heap.objs.size (rawOf [(k, b)]) := dd'
  obtain ⟨o, es, ep, hq, _⟩ := id dd'
  exact d_write I3 (by rw [hp]; exact True.intro) hs ⟨o, hq⟩ (dkO_new hd (by rw [sizeLine_eq]; exact Nat.le_of_ble_eq_true rfl) dd2)
theorem vals_rawOf : ∀ ks : List (List Key × Addr), Vals (ks.map fun z => V.ref z.2) (ks.map fun z => Value.ref z.2)
  | [] => .nil
  | _ :: r => .cons rfl (vals_rawOf r)
theorem dp_rawOf {K : PySem.W.Frag} {H : Hp} : ∀ {ks : List (List Key × Addr)}, (∀ z ∈ ks, H z.2 = some (.tup (z.1.map kV))) → DpAll K H (ks.map fun z => V.ref z.2) (ks.map fun z => keyD z.1)
  | [], _ => .nil
  | z :: r, h => .cons (.tup (SqT.of (h z (.head _))) (dpa_keys _)) (dp_rawOf fun y hy => h y (.tail _ hy))
def tSortE (P' : Program) (w' : World) (P : Addr) (T : List (Addr × Str)) (te : TE) : TE := fun σ H Q => te σ H fun x H1 => Tabs T H1 ∧ ∀ H2, (∀ b o, b ≠ P → H1 b = some o → H2 b = some o) → Tabs T H2 →
  ∃ (a : Addr) (kks : List (List Key × Addr)), x = .ref a ∧ H2 a = some (dkO P' w' a kks) ∧ (∀ z ∈ kks, H2 z.2 = some (.tup (z.1.map kV))) ∧ (∀ p ∈ kks, KeyD (keyD p.1)) ∧ ∀ p, H2 p = none → Q (.ref p) (upd H2 p (.lst (sortS (kks.map fun z => V.ref z.2) (kks.map fun z => keyD z.1))))
section
variable {X : Cx} {k : Nat} {P c : Addr} {T : List (Addr × Str)} {y : Str} {e : Expr} {te : TE} {params : Arguments} {sc : Scope} {p p1 p2 p3 lpos kp pos : Pos}
theorem pe_sortE (g : Gd X.A) (hr : Room k X.A) (hg : Gl X "sorted") (hm : X.mg "sorted" = none) (hms : X.mg "str" = none) (he : PE X e te) (TB : TabB X.base X.mg c P) (hcode : X.env.code = .ref c) (hT : (P, X.env.qual ++ "<lambda>") ∈ T) (hu : ∀ z ∈ T, z.1 = P → z.2 = X.env.qual ++ "<lambda>") (L : StrS sc y) (hcalm : X.calm = true)
    (hbind : ∀ (q : Str) (cl : List (Str × Addr)) (pm cv ctv v : Value), bindArgs (PySem.W.kla_fn "<lambda>" q params (.Call (.Name "str" p1) [.Name y p2] [] p3) sc cl pm cv ctv) ⟨[v], []⟩ = pure [(y, v)] := by exact fun _ _ _ _ _ _ => rfl) (hdef : defaultsOf params X.env = ([], []) := by rfl) (hy : (y == ("__debug__" : Str)) = false := by decide)
    (e1 : backTo pos (starEach [e] X.env) = (false, eval e X.env) :: backTo pos (starEach [] X.env) := by rfl) (e2 : (backTo pos (starEach [e] X.env)).any (·.1) = false := by rfl) :
    PE X (.Call (.Name "sorted" p) [e] [⟨some "key", .Lambda params (.Call (.Name "str" p1) [.Name y p2] [] p3) sc lpos, kp⟩] pos) (tSortE X.prog X.w P T te) := by
  refine ⟨fun pins s σ H Q I h => ?_⟩
  refine wpAny_Call_Name_kw (ld_blt I hg hm (u := .builtin "sorted") (by kernel_rfl) ?_)
  refine PyProof.Rows.callWith_kw ?_ e1 e2 (by rfl) (by rfl)
  have ev : wpAny (model X.prog X.w) X.A (spliced (backTo pos (starEach [e] X.env))) (AP X pins σ fun vs H1 => ∃ x, vs = [x] ∧ (Tabs T H1 ∧ ∀ H2, (∀ b o, b ≠ P → H1 b = some o → H2 b = some o) → Tabs T H2 →
      ∃ (a : Addr) (kks : List (List Key × Addr)), x = .ref a ∧ H2 a = some (dkO X.prog X.w a kks) ∧ (∀ z ∈ kks, H2 z.2 = some (.tup (z.1.map kV))) ∧ (∀ p ∈ kks, KeyD (keyD p.1)) ∧ ∀ p, H2 p = none → Q (.ref p) (upd H2 p (.lst (sortS (kks.map fun z => V.ref z.2) (kks.map fun z => keyD z.1)))))) X.xe s := by
    rw [e1]
    refine Calls.spliced_cons (thn (he.run pins s σ H _ I h) fun u s1 ⟨x, H1, I1, r1, q1⟩ => ?_)
    exact Calls.spliced_nil ⟨[x], H1, I1, .cons r1 .nil, x, rfl, q1⟩
  refine thn ev fun us s1 ⟨vs, H1, I1, r1, x, exx, tabs1, q1⟩ => ?_
  subst exx
  obtain ⟨u, eu, ru⟩ := vals1 r1
  subst eu
  refine PyProof.Rows.kws_cons ?_
  refine lam_mk I1 TB hcode hT hu tabs1 hdef (fun z hz ez => absurd ez (L.nofree z hz)) fun f c1 pm ctv H2 s2 I2 kp2 T2 hf nf ns hc1 => ?_
  refine PyProof.Rows.kws_nil ?_
  obtain ⟨a, kks, ex, ha, hkt, hk, q⟩ := q1 H2 kp2 T2
  subst ex
  obtain rfl : u = Value.ref a := ru
  obtain ⟨⟨hs, z, o, es, ep, ho, hx, hdt, hent, hn⟩, _⟩ := (show ObjOk X.prog X.w H2 s2.heap a (dkO X.prog X.w a kks) from I2.hok a _ ha)
  have l1 : es.size = kks.length := by
    have := size_of_entries hent
    rw [this, rawOf, List.length_map]
  have hds : DpAll X.K H2 (kks.map fun z => V.ref z.2) (kks.map fun z => keyD z.1) := dp_rawOf hkt
  have rv : Vals (kks.map fun z => V.ref z.2) (kks.map fun z => Value.ref z.2) := vals_rawOf kks
  obtain ⟨⟨oc, vs, tk, co, cd, cn⟩, _⟩ := I2.hok c1 _ hc1
  obtain ⟨mb, hb1, hb2⟩ := I2.mod.blt
  have hlen := rv.length
  have zl : ((kks.map fun z => V.ref z.2).zip (kks.map fun z => keyD z.1)).length = kks.length := by
    rw [List.length_zip, List.length_map, List.length_map, Nat.min_self]
  show wpAny (model X.prog X.w) X.A (call (.builtin "sorted") [.ref a] [(Str.ofString "key", .ref f)]) _ _ s2
  refine PySem.W.sorted_key_src (vs := kks.map fun z => Value.ref z.2) (b := false) (fun z : V × PyData => PyData.str z.2.shown) (kdl_raw hs hx hdt) (I2.ok.hd hcalm) ho (by omega) (fun acc it => ?_) (dpa_zip hds rv) (PySem.W.AllAlike.of fun _ _ => by simp [PySem.W.alike]) (PySem.W.Sortable.others fun _ => ⟨by simp, by simp⟩) (by rw [zl]; exact z) (fun z _ => ?_) (PyProof.Rows.ksk_s1 _ _) (fun _ => PyProof.Rows.ksk_l1 _ _) (fun _ => PyProof.Rows.ksk_t1 _ _) (fun v z ⟨rz, dz⟩ mz h tk keep => ?_) fun D out c2 h' tk keep fr hD hlo eo => ?_
  · apply List.ext_getElem?
    intro j
    have hl : acc.toList.length = kks.length := by rw [Array.length_toList, it.1]; exact l1
    rw [List.getElem?_map]
    cases hj : acc.toList[j]? with
    | none =>
      have h1 := List.getElem?_eq_none_iff.mp hj
      rw [List.getElem?_eq_none (by omega)]
      all_goals rfl
    | some v =>
      obtain ⟨en, hen, hv⟩ := it.2 j v (by rw [← Array.getElem?_toList]; exact hj)
      have qe := entry_at hent j
      rw [hen, rawOf, List.getElem?_map] at qe
      cases hb : kks[j]? with
      | none =>
        rw [hb] at qe
        exact nomatch (show some en = none from qe)
      | some b =>
        rw [hb] at qe
        have e2 : en = entryOfKey (tupleKind (mixKind X.prog X.w)) (b.1, b.2, Value.bool true) := Option.some.inj qe
        rw [hv, e2]
        all_goals rfl
  · have := hr.un
    show X.A.units + 2 + 0 < cLine
    omega
  · have hzd : z.2 ∈ kks.map fun z => keyD z.1 := (List.of_mem_zip mz).2
    obtain ⟨pz, hpz, ez⟩ := List.mem_map.mp hzd
    have kz : KeyD z.2 := by rw [← ez]; exact hk _ hpz
    obtain ⟨as, rd⟩ := Dp.reads I2 z.2 z.1 v dz rz
    have hr2 := hr.un
    exact strkey_call (s1 := { s2 with heap := h, toks := tk }) (mg := X.mg) (mb := mb) L (show X.A.depth < recursionLimit from hr.depth) (show X.A.guards = some [] from g) (by show X.A.units + 1 + 1 + 60 < cLine; omega) (keep _ _ hf) ⟨c1, oc, _, _, rfl, keep _ _ co, cd, cn⟩ ((I2.mod.glob.keeps I2.bk).keeps keep) hms ((hb1.keeps I2.bk).keeps keep) ((hb2 "str" (by decide)).trans (by kernel_rfl)) (I2.nolimit.keeps keep) (hbind _ _ _ _ _ _) hy (PyProof.Rows.Reads.keeps keep rd) kz.bx kz.sh (dp_nodict _ _ dz) kz.dp kz.sz
  · have vo := each_vals eo
    have hlz : (sortS (kks.map fun z => V.ref z.2) (kks.map fun z => keyD z.1)).length ≤ sizeLine := by
      unfold sortS
      rw [List.length_map, List.length_mergeSort, zl]
      exact z
    have hDn : H2 D = none := by
      cases q : H2 D with
      | none => rfl
      | some u =>
        obtain ⟨u', hu'⟩ := objOk_get (I2.hok D u q)
        rw [fr] at hu'
        cases hu'
    exact ⟨.ref _, upd H2 D (.lst (sortS (kks.map fun z : List Key × Addr => V.ref z.2) (kks.map fun z : List Key × Addr => keyD z.1))), Inv.laidN (t' := tk) I2 keep fr hDn ⟨hlz, out, c2, vo, hD⟩, rfl, q _ hDn⟩
end
end J

set_option pp.maxSteps 3000
/-! J75: dict comprehensions over whole numbers. -/
namespace J
open PySem PySem.Spec PyProof.Rows L2 Evl RZ
theorem putK_new {κ : Type} [DecidableEq κ] {kvs : List (κ × V)} {k : κ} {v : V} (h : k ∉ kvs.map (·.1)) : putK kvs k v = kvs ++ [(k, v)] := by
  unfold putK
  rw [if_neg]
  intro z
  obtain ⟨a, ha, e⟩ := List.any_eq_true.mp z
  exact h (List.mem_map.mpr ⟨a, ha, of_decide_eq_true e⟩)
section
variable {J : It} {n : Nat} {G : Hp → Prop} {Y : Nat → Hp → V → Hp → Prop}
/-- the turns of a dict's comprehension, told by Pv -/
theorem dc_walk (wk : Walk J n G Y) {g : TG} {tt : TT} {tk tv : TE} {vs : List Nat} {σ : L2.St} {H1 : Hp} {D : Addr} {fin : Hp → Prop} (Pv : Nat → Hp → Prop) (begin_ : Pv 0 (upd H1 D (.dK []))) (good : ∀ i H, i ≤ n → Pv i H → G H)
    (turn : ∀ i x H H', i < n → Pv i H → Y i H x H' → g x (wipe σ vs) H' fun σ2 H2 => wipe σ2 vs = wipe σ vs ∧ tt σ2 H2 fun b H3 =>
      if b = true then tk σ2 H3 fun y H4 => tv σ2 H4 fun z H5 => ∃ kvs k, y = kV k ∧ H5 D = some (.dK kvs) ∧ kvs.length < sizeLine ∧ Pv (i + 1) (upd H5 D (.dK (putK kvs k z))) else Pv (i + 1) H3) (done : ∀ H, Pv n H → fin H) :
    ∃ W : Nat → Nat → Hp → Prop, (∃ m, W 0 m (upd H1 D (.dK []))) ∧ ∀ i m H, W i m H →
      (J.stop i H ∧ fin H) ∨ (J.go i H ∧ ∃ Nx : Hp → Prop, (∀ H', Nx H' → ∃ m', m' < m ∧ W (i + 1) m' H') ∧ ∀ x H', J.yld i H x H' → g x (wipe σ vs) H' fun σ2 H2 => wipe σ2 vs = wipe σ vs ∧ tt σ2 H2 fun b H3 =>
        if b = true then tk σ2 H3 fun y H4 => tv σ2 H4 fun z H5 => ∃ kvs k, y = kV k ∧ H5 D = some (.dK kvs) ∧ kvs.length < sizeLine ∧ Nx (upd H5 D (.dK (putK kvs k z))) else Nx H3) := by
  refine ⟨fun i m H => (m = n - i ∧ i ≤ n) ∧ Pv i H, ⟨n, ⟨by omega, Nat.zero_le _⟩, begin_⟩, ?_⟩
  rintro i m H ⟨⟨rfl, hi⟩, p⟩
  rcases Nat.lt_or_ge i n with hlt | hge
  · exact .inr ⟨wk.goes i H hlt (good i H hi p), Pv (i + 1), fun H' p' => ⟨n - (i + 1), by omega, ⟨rfl, hlt⟩, p'⟩, fun x H' y => turn i x H H' hlt p (wk.yields i H x H' hlt (good i H hi p) y)⟩
  · obtain rfl : i = n := by omega
    exact .inl ⟨wk.stops H (good i H hi p), done H p⟩
end
section
variable {K : PySem.W.Frag} {r : Rs} {s : L2.St} {S : Hp} {tk tv : TE} {α : Type}
/-- {k: e for x in ..}: the keys told, no two alike; the values told -/
theorem en_dcI {wi : TI} {j : Nat} {vs : List Nat} {ys : List α} {X : Rl α} (kf : α → Int) (gf : α → V) (hi : EvI r wi s S ys X) (hz : ys.length ≤ 100000) (hw : ∀ v, wipe ((wipe s vs).set j (some v)) vs = wipe s vs) (nd : (ys.map kf).Nodup)
    (hk : ∀ y v S1, Ex S S1 → y ∈ ys → X y v S1 → EvV r tk ((wipe s vs).set j (some v)) S1 (.int (kf y))) (hv : ∀ y v S1, Ex S S1 → y ∈ ys → X y v S1 → EvV r tv ((wipe s vs).set j (some v)) S1 (gf y)) :
    EvN r (tDc wi (gName j) tYes tk tv vs) s S fun o _ => o = .dK (ys.map fun y => (.inl (kf y), gf y)) := fun S1 H a w Q q =>
  hi S1 H a w _ fun J S2 H2 G Y w2 s2 wk hG hY D hD => by
    have hM : D ∉ r.M := w2.notM hD
    refine dc_walk wk (fun i H' => ∃ S', Wd r S' H' ∧ Stp r S2 H2 S' H' ∧ S' D = none ∧ H' D = some (.dK ((ys.take i).map fun y => (.inl (kf y), gf y))))
      ⟨S2, w2.new hD, Stp.new hD, w2.fresh hD, by rw [List.take_zero]; exact upd_same⟩ (fun i H' _ ⟨S', w', s', _⟩ => hG S' H' s'.ex w') ?_ ?_
    · rintro i v H' H'' hlt ⟨S', w', s', n', l'⟩ y'
      obtain ⟨S3, y, g1, w3, s3, x3⟩ := hY i S' H' v H'' hlt s'.ex w' y'
      have ey : ys.take (i + 1) = ys.take i ++ [y] := by rw [List.take_add_one, g1]; rfl
      have e3 : Ex S S3 := a.trans (s2.ex.trans (s'.ex.trans s3.ex))
      have l3 := s3.kp D _ hM l'
      have n3 : S3 D = none := s3.fr D (ne_none l') n'
      refine ⟨hw v, ?_⟩
      unfold tYes
      dsimp only
      rw [if_pos rfl]
      refine hk y v S3 e3 (List.mem_of_getElem? g1) x3 S3 H'' (Ex.refl _) w3 _ fun x4 S4 H4 w4 s4 e4 => ?_
      refine hv y v S3 e3 (List.mem_of_getElem? g1) x3 S4 H4 s4.ex w4 _ fun x5 S5 H5 w5 s5 e5 => ?_
      rw [show x4 = V.int (kf y) from e4, show x5 = gf y from e5]
      have s35 := s4.trans s5
      have l5 := s35.kp D _ hM l3
      have n5 : S5 D = none := s35.fr D (ne_none l3) n3
      have out : (Sum.inl (kf y) : Key) ∉ ((ys.take i).map fun y => ((Sum.inl (kf y) : Key), gf y)).map (·.1) := by
        rw [List.map_map]
        intro z
        obtain ⟨b, hb, eb⟩ := List.mem_map.mp z
        have eb2 : kf b = kf y := Sum.inl.inj eb
        have n2 : ((ys.take (i + 1)).map kf).Nodup := (nd.sublist ((List.take_sublist _ _).map kf))
        rw [ey, List.map_append] at n2
        exact (List.nodup_append.mp n2).2.2 _ (List.mem_map.mpr ⟨b, hb, rfl⟩) _ (List.mem_singleton.mpr rfl) eb2
      refine ⟨_, .inl (kf y), rfl, l5, ?_, S5, w5.mut n5 hM (nco_dK l5), ((s'.trans s3).trans s35).mut hD, n5, ?_⟩
      · rw [List.length_map, List.length_take]
        exact sz_lt (by omega)
      · rw [putK_new out, ey, List.map_append, upd_same]
        rfl
    · rintro H' ⟨S', w', s', n', l'⟩
      rw [List.take_length] at l'
      exact q D _ S' H' (none_of fun z => s2.dm D z hD) l' n' w' (s2.trans s') rfl
end
theorem mt_indexDK {X : Cx} {K : PySem.W.Frag} (hu : X.A.units + 65 < cLine) (hK : X.K = K := by rfl) : MtR X "list.index" (rIndexD K) := by
  subst hK
  exact mt_indexD hu
/-- o.m(e) where the frame is known as K (inside a comprehension) -/
theorem pe_bmK {X : Cx} {K : PySem.W.Frag} {o e : Expr} {es : List Expr} {to : TE} {t : TA} {name : Str} {apos cpos : Pos} {T id : String} {f : V → List V → Hp → VK → Prop} (pa : PlainAttrs T) (slot : Slot T name id) (hty : typeOf (.builtin id) = pure (.type "method_descriptor")) (hm : MtR X id f) (ho : PE X o to) (ha : PA X (e :: es) t)
    (hK : X.K = K := by rfl) (b1 : attributeBase o name X.env (eval o X.env) = eval o X.env := by rfl) (b0 : ((backTo cpos (starEach (e :: es) X.env)).all (fun x => !x.1) && (backToKw cpos (keywordEach [] X.env)).all (fun x => x.1.isSome)
      && decide ((e :: es).length + ([] : List Keyword).length + (if ([] : List Keyword).isEmpty then 0 else 1) < 30)) = true := by rfl) (b2 : (apos.endLine == cpos.line) = true := by rfl) (b3 : starEach (e :: es) X.env = (false, eval e X.env) :: starEach es X.env := by rfl) (b4 : (backTo cpos (starEach es X.env)).any (·.1) = false := by rfl) :
    PE X (.Call (.Attribute o name apos) (e :: es) [] cpos) (tBM K T f to t) := by
  subst hK
  exact pe_bm pa slot hty hm ho ha b1 b0 b2 b3 b4
end J

set_option pp.maxSteps 3000
/-! J76: a dict's values walked, dict(pairs) with its values told, texts joined, d[k] = e where e reads d. -/
namespace J
open PySem PySem.Spec PyProof.Rows L2 Evl RZ
section
variable {r : Rs} {s : L2.St} {S H : Hp} {te ta tb td ty tv : TE} {d : Addr} {kvs : List (Key × V)} {K : PySem.W.Frag} {α β : Type}
/-- the values of a locked dict -/
theorem ei_vals {R : Rl α} [Mono R] {ys : List α} {od : Obj} (h : EvV r te s S (.ref d)) (hd : S d = some (.frz od (.dK kvs))) (hv : All2 R S ys (kvs.map (·.2))) : EvI r (iVals te) s S ys R := fun S1 H a w R' q =>
  h S1 H a w _ fun v S2 H2 w2 s2 ev => by
    have hlen : kvs.length = ys.length := by
      have := hv.len
      rw [List.length_map] at this
      exact this
    have f2 := s2.ex _ _ (a _ _ hd)
    refine ⟨d, od, kvs, ev, w2.ex _ _ f2, q (Itd d od kvs) S2 H2 (fun H => H d = some (.frz od (.dK kvs))) (fun i H x H' => H' = H ∧ ∃ k, kvs[i]? = some (k, x)) w2 s2 (by
      have wk := walk_values (d := d) (o := od) (kvs := kvs)
      rw [hlen] at wk
      exact wk) (fun S' H' e w' => w'.ex _ _ (e _ _ f2)) fun i S' H' v H'' hi e w' ⟨e4, k, e5⟩ => ?_⟩
    subst e4
    obtain ⟨y, h1, h2⟩ := (hv.up (a.trans (s2.ex.trans e))).get (i := i) (v := v) (by rw [List.getElem?_map, e5]; rfl)
    exact ⟨S', y, h1, w', Stp.refl, h2⟩
theorem pairs_of2 {R' : Rl β} {S : Hp} : ∀ {ks : List (Int × β)} {vs : List V}, All2 (PairR K IntR R') S ks vs → ∃ (ps : List Addr) (kvs : List (Key × V)), vs = ps.map V.ref ∧ kvs.map (·.1) = (ks.map (·.1)).map (Sum.inl : Int → Key) ∧ All2 R' S (ks.map (·.2)) (kvs.map (·.2)) ∧ Paired (fun p kv => SqT K S p [kV kv.1, kv.2]) ps kvs
  | _, _, .nil => ⟨[], [], rfl, rfl, .nil, .nil⟩
  | _, _, .cons (x := k) h t => by
    obtain ⟨ps, kvs, e1, e2, h2, h3⟩ := pairs_of2 t
    obtain ⟨a, x, y, e3, hq, hx, hy⟩ := h
    refine ⟨a :: ps, (.inl k.1, y) :: kvs, by rw [e1, e3]; rfl, by rw [List.map_cons, e2]; rfl, .cons hy h2, .cons ?_ h3⟩
    rw [show x = _ from hx] at hq
    exact hq
theorem merge_nodup : ∀ (more kvs : List (Key × V)), ((kvs ++ more).map (·.1)).Nodup → mergeK kvs more = kvs ++ more
  | [], kvs, _ => (List.append_nil kvs).symm
  | kv :: more, kvs, h => by
    show mergeK (putK kvs kv.1 kv.2) more = _
    have e : kvs ++ kv :: more = (kvs ++ [kv]) ++ more := by simp
    have out : kv.1 ∉ kvs.map (·.1) := fun z => by
      rw [List.map_append, List.map_cons] at h
      exact (List.nodup_append.mp h).2.2 _ z _ (.head _) rfl
    rw [putK_new out, e]
    rw [e] at h
    exact merge_nodup more _ h
/-- dict(pairs), no two keys alike -/
theorem en_dictP {R' : Rl β} [Mono R'] {ks : List (Int × β)} (h : EvS r te s S fun v S1 => LstR (PairR K IntR R') ks v S1) (nd : (ks.map (·.1)).Nodup) : EvN r (tCB (rDictP K) (tCons te tNil)) s S fun o S1 => ∃ kvs, o = .dK kvs ∧ kvs.map (·.1) = (ks.map (·.1)).map (Sum.inl : Int → Key) ∧ All2 R' S1 (ks.map (·.2)) (kvs.map (·.2)) :=
  en_cb (ea_one h) fun us S1 e ⟨v, e1, a, vs, ev, ha, hvs⟩ H eH Q q => by
    subst e1
    subst ev
    obtain ⟨ps, kvs, e2, e3, h4, hp⟩ := pairs_of2 hvs
    subst e2
    have nk : ((([] : List (Key × V)) ++ kvs).map (·.1)).Nodup := by
      rw [List.nil_append, e3]
      exact nd.map _ fun a b z e => z (Sum.inl.inj e)
    refine ⟨a, ps, kvs, rfl, SqL.of (eH _ _ ha), paired_ex eH hp, fun p hp => ?_⟩
    rw [merge_nodup _ _ nk, List.nil_append]
    exact q p _ hp ⟨kvs, rfl, e3, h4⟩
/-! texts -/
theorem glueC_cps (gl : Str) (hg : gl.cps = #[]) : ∀ (l : List Nat) (acc : Array Nat), ((l.map fun c => (⟨#[c]⟩ : Str)).foldl (fun acc p => acc ++ gl.cps ++ p.cps) acc) = acc ++ l.toArray
  | [], acc => by simp
  | i :: l, acc => by
    rw [List.map_cons, List.foldl_cons, glueC_cps gl hg l, hg]
    simp
theorem join_chars (l : List Nat) : PySem.Txt.join ("" : Str) (l.map fun c => (⟨#[c]⟩ : Str)) = (⟨l.toArray⟩ : Str) := by
  show Builtin.Str.glued _ _ = _
  unfold Builtin.Str.glued
  cases l with
  | nil => rfl
  | cons i l =>
    congr 1
    rw [List.map_cons, List.drop_succ_cons, List.drop_zero, List.headD_cons, glueC_cps _ (by decide +kernel)]
    simp
/-- ''.join(a list of signs, each told by its code) -/
def ChR : Rl Nat := fun c v _ => v = .str ⟨#[c]⟩
instance : Mono ChR := ⟨fun _ h => h⟩
theorem all2_chars {S : Hp} : ∀ {l : List Nat} {vs : List V}, All2 ChR S l vs → vs = (l.map fun c => (⟨#[c]⟩ : Str)).map V.str
  | _, _, .nil => rfl
  | _, _, .cons h t => by
    rw [all2_chars t, show _ = V.str _ from h]
    rfl
theorem chars_sum : ∀ l : List Nat, ((l.map fun c => (⟨#[c]⟩ : Str)).map (·.length)).sum = l.length
  | [] => rfl
  | c :: l => by
    rw [List.map_cons, List.map_cons, List.sum_cons, chars_sum l, List.length_cons]
    show 1 + _ = _
    omega
theorem vv_joinC {l : List Nat} (h0 : EvV r ta s S (.str ("" : Str))) (h : EvS r te s S fun v S1 => LstR ChR l v S1) (hl : l.length ≤ 100000) : EvV r (tBM K "str" (fun x xs H Q => ∃ a p, ∃ ys : List Str, x = .str a ∧ xs = [.ref p] ∧ (SqL K H p (ys.map V.str) ∨ SqT K H p (ys.map V.str)) ∧ (ys.map (·.length)).sum + ys.length * a.length ≤ 16777216 ∧ Q (.str (PySem.Txt.join a ys)) H) ta (tCons te tNil)) s S (.str ⟨l.toArray⟩) := fun S1 H e w Q q =>
  h0 S1 H e w _ fun x S2 H2 w2 s2 ex => by
    subst ex
    refine ⟨rfl, h S2 H2 (e.trans s2.ex) w2 _ fun u S3 H3 w3 s3 ⟨a, vs, eu, ha, hv⟩ => ?_⟩
    subst eu
    have ev := all2_chars hv
    subst ev
    refine ⟨_, a, l.map fun c => (⟨#[c]⟩ : Str), rfl, rfl, .inl (SqL.of (w3.ex _ _ ha)), ?_, q _ S3 H3 w3 (s2.trans s3) (by rw [join_chars])⟩
    rw [chars_sum, List.length_map, show (("" : Str)).length = 0 from by decide +kernel]
    omega
/-- te reckoned with l in sight -/
theorem lendE {l : Addr} {o : HO} {R : V → Hp → Prop} (h : EvS r te s (upd S l o) R) (w : Wd r S H) (hl : H l = some o) (n : l ∉ r.M) (sl : S l = none) {Q : VK} (q : ∀ v S1 H1, Wd r (J.del l S1) H1 → Stp r S H (J.del l S1) H1 → S1 l = some o → R v S1 → Q v H1) : te s H Q :=
  h _ H (Ex.refl _) (w.settle hl n) Q fun u S1 H1 w1 s1 e => q u S1 H1 w1.del (s1.del sl) (s1.ex _ _ upd_same) e
/-- d[k] = e, e reckoned with d in sight -/
theorem st_dputX {kk : Key} {D : Ends} {R : V → Hp → Prop} (n : d ∉ r.M) (hv : EvS r tv s (upd S d (.dK kvs)) R) (ho : EvV r td s S (.ref d)) (hk : EvV r ty s S (kV kk)) (w : Wd r S H) (hd : H d = some (.dK kvs)) (hs : S d = none) (hz : kvs.length < 100000)
    (k : ∀ v S1 S2 H2, S1 d = some (.dK kvs) → R v S1 → Ex (J.del d S1) S2 → Wd r S2 H2 → Stp (r.more [d]) S H S2 H2 → S2 d = none → H2 d = some (.dK (putK kvs kk v)) → D.nx s H2) : sDPut td ty tv D s H :=
  lendE hv w hd n hs fun v S1 H1 w1 s1 e1 p => st_dput (tv := tC v) (kk := kk) (R := fun u _ => u = v) n vv_c (EvS.mono s1.ex ho) (EvS.mono s1.ex hk) w1 (s1.kp d _ n hd) del_same hz fun u S2 H2 w2 s2 n2 h2 eu => by
    subst eu
    exact k u S1 S2 H2 e1 p s2.ex w2 (s1.more.trans s2) n2 h2
end
end J

set_option pp.maxSteps 3000
/-! J77: name = {k: v for ..} on one line, the name a local. -/
namespace L2
open PySem PySem.Spec PyProof.Rows
section
variable {X : Cx}
theorem ps_setDcX {i : Nat} {y : Str} {py : Pos} {kx vx tg iter : Expr} {ifs : List Expr} {scope : Scope} {own : List (Str × Nat)} {pos spos : Pos} {wi : TI} {g : TG} {tt : TT} {tk tv : TE} (hc : X.calm = true) (hN : X.N.Nodup) (hy : X.N[i]? = some y) (hyl : X.env.scope.names.lookup y = some .local)
    (hsw : swapsWith (.DictComp kx vx [⟨tg, iter, ifs, 0⟩] scope pos) (some (.Name y py)) spos.line X.env = pure true) (hi : PI X tg iter wi) (ok : BlkOk X.N X.env.scope scope own)
    (hg : ∀ (s : Shared) (H : Hp) (C : Addr) (cl : List (Str × Addr)) (fp : List Addr), PG (X.blk s H scope (compEnvC scope cl C X.env) fp) tg g) (ht : ∀ (s : Shared) (H : Hp) (C : Addr) (cl : List (Str × Addr)) (fp : List Addr), PTs (X.blk s H scope (compEnvC scope cl C X.env) fp) ifs tt)
    (hk : ∀ (s : Shared) (H : Hp) (C : Addr) (cl : List (Str × Addr)) (fp : List Addr), PE (X.blk s H scope (compEnvC scope cl C X.env) fp) kx tk)
    (he : ∀ (s : Shared) (H : Hp) (C : Addr) (cl : List (Str × Addr)) (fp : List Addr), PE (X.blk s H scope (compEnvC scope cl C X.env) fp) vx tv) (hs : ∀ x, foldedSetIterable iter X.env x = pure x := by intro _; rfl) :
    PS X (.Assign [.Name y py] (.DictComp kx vx [⟨tg, iter, ifs, 0⟩] scope pos) spos) (tAsg (tDc wi g tt tk tv (own.map (·.2))) (gName i)) := by
  refine ⟨fun pins s σ H D I h => ?_⟩
  rw [exec_Assign_Name_used _ _ _ _ hsw]
  refine wpAny_bind (wpAny_standAt (wpAny_bind ?_))
  show wpAny _ X.A (do let _ ← comprehension (.DictComp kx vx [⟨tg, iter, ifs, 0⟩] scope pos) scope X.env (firstIterPos [⟨tg, iter, ifs, 0⟩] pos) newDict false (eval iter X.env) (some (assign (.Name y py) X.env))) _ _ s
  have h : tDc wi g tt tk tv (own.map (·.2)) σ H (fun x H1 => gName i x σ H1 D.nx) := h
  refine wpAny_bind (thn (dc_core (Qf := fun _ s' => SP X pins D .next s') hc hN I hi ok hg ht hk he hs h fun L C s' m H' I' q hn f => ?_) fun _ s' hq => wpAny_pure (wpAny_pure hq))
  show wpAny _ _ (assign (.Name y py) X.env (.ref L)) _ _ _
  refine wpAny_assign_Name (store_ok2 (v := V.ref L) I' hN hy (.inl hyl) rfl (fun s2 I2 ⟨a, sb, ha⟩ => ?_) (.inr hyl))
  obtain ⟨f0, f1, f2, f3, f4, f5⟩ := f
  have haC : C ≠ a := by
    rcases ha with z | z
    · rw [z]; exact f1
    · exact fun e => f4 y a z e.symm
  refine ⟨m, hn.sameBut sb haC, fun h3 sb3 => ?_⟩
  exact ⟨_, H', I2.turned (t' := s2.toks) (fun b o hb e => (sb3.2 b hb).trans e) f0 f1 f3 f4 f5, q⟩
theorem swd_true {kx vx : Expr} {gs : List Comprehension} {scope : Scope} {pos py : Pos} {y : Str} {l : Nat} {env : Env} (hk : env.scope.kind = .function) (hy : env.scope.names.lookup y = some .local) (hl : (py.line == pos.line) = true)
    (ha : (scope.names.any fun (n, k) => n == y && (k == .local || k == .cell)) = false) : swapsWith (.DictComp kx vx gs scope pos) (some (.Name y py)) l env = pure true := by
  have ky : env.kindOf y = some .local := hy
  have hb : env.blockKind = .function := by unfold Env.blockKind; rw [hk]; rfl
  unfold swapsWith
  simp only [hb, ky, ha, Expr.pos, hl]
  rfl
end
end L2

set_option pp.maxSteps 3000
/-! J78: zip of two, each a text, a list or a tuple. -/
namespace RZ
open PySem PySem.Spec PyProof.Rows L2
inductive ZK
  | txt
  | lst
  | tup
def SrcK (K : PySem.W.Frag) (H : Hp) : ZK → V → List V → Prop
  | .txt, v, xs => ∃ z, v = .str z ∧ xs = z.cps.toList.map fun c => V.str ⟨#[c]⟩
  | .lst, v, xs => ∃ a, v = .ref a ∧ SqL K H a xs
  | .tup, v, xs => ∃ a, v = .ref a ∧ SqT K H a xs
def ItK : ZK → V → Addr → Nat → Heap → Prop
  | .txt, v, it, i, h => ∃ z t, v = .str z ∧ h.IsStrIter it (strIterType z) z t i
  | .lst, v, it, i, h => ∃ a, v = .ref a ∧ h.IsListIter it a i
  | .tup, v, it, i, h => ∃ a, v = .ref a ∧ h.IsTupleIter it a i
def adK : ZK → V → List Addr
  | .txt, _ => []
  | _, .ref a => [a]
  | _, _ => []
theorem ItK.obj : ∀ {k : ZK} {v : V} {it : Addr} {i : Nat} {h : Heap}, ItK k v it i h → ∃ o, h.get? it = some o ∧ ∀ c, o.data ≠ .cell c
  | .txt, _, _, _, _, ⟨_, _, _, o, e, _, d⟩ => ⟨o, e, fun c q => by rw [d] at q; cases q⟩
  | .lst, _, _, _, _, ⟨_, _, o, e, _, d⟩ => ⟨o, e, fun c q => by rw [d] at q; cases q⟩
  | .tup, _, _, _, _, ⟨_, _, o, e, _, d⟩ => ⟨o, e, fun c q => by rw [d] at q; cases q⟩
theorem ItK.keep {it : Addr} {h h' : Heap} (k' : ∀ o, h.get? it = some o → h'.get? it = some o) : ∀ {k : ZK} {v : V} {i : Nat}, ItK k v it i h → ItK k v it i h'
  | .txt, _, _, ⟨z, t, ev, o, e, r⟩ => ⟨z, t, ev, o, k' o e, r⟩
  | .lst, _, _, ⟨a, ev, x⟩ => ⟨a, ev, x.at k'⟩
  | .tup, _, _, ⟨a, ev, x⟩ => ⟨a, ev, x.at k'⟩
section
variable {X : Cx} {pins : List (Addr × Obj)} {σ : L2.St} {H : Hp} {s : Shared} {A : Around}
theorem SrcK.inj (I : Inv X pins σ H s) : ∀ {k : ZK} {v : V} {xs ys : List V}, SrcK X.K H k v xs → SrcK X.K H k v ys → xs = ys
  | .txt, _, _, _, ⟨z, e, ex⟩, ⟨z', e', ey⟩ => by
    rw [e] at e'
    cases e'
    rw [ex, ey]
  | .lst, _, _, _, ⟨a, e, ex⟩, ⟨a', e', ey⟩ => by
    rw [e] at e'
    cases e'
    exact I.list_inj ex ey
  | .tup, _, _, _, ⟨a, e, ex⟩, ⟨a', e', ey⟩ => by
    rw [e] at e'
    cases e'
    exact I.tuple_inj ex ey
theorem src_draws (I : Inv X pins σ H s) (hh : A.handled = none) : ∀ {k : ZK} {v : V} {xs : List V} {it : Addr} {i : Nat}, SrcK X.K H k v xs → ItK k v it i s.heap → ∃ (P : Nat → Value → Prop) (St : Nat → Heap → Prop), Draws X.prog X.w A it (it :: adK k v) xs.length P St ∧ St i s.heap ∧ (∀ j u, P j u → ∃ x, xs[j]? = some x ∧ RelV x u) ∧ ∀ j h, St j h → ItK k v it j h
  | .txt, _, _, it, i, ⟨z, e, ex⟩, ⟨z', t, e', hi⟩ => by
    subst e
    cases e'
    refine ⟨fun i v => ∃ c u, z.cps[i]? = some c ∧ v = .str ⟨#[c]⟩ u, fun i h => h.IsStrIter it (strIterType z) z t i, ?_, hi, fun j u hu => ?_, fun j h st => ⟨z, t, rfl, st⟩⟩
    · rw [ex, List.length_map, Array.length_toList]
      exact Draws.text hh it z t
    · obtain ⟨c, u', hc, rfl⟩ := hu
      refine ⟨V.str ⟨#[c]⟩, ?_, u', rfl⟩
      rw [ex, List.getElem?_map, Array.getElem?_toList, hc]
      rfl
  | .lst, _, xs, it, i, ⟨a, e, ex⟩, ⟨a', e', hi⟩ => by
    subst e
    cases e'
    obtain ⟨its, rv, p, _⟩ := I.list ex
    have pl := p.isList
    have hne : a ≠ it := fun q => by
      subst q
      obtain ⟨o1, e1, _, d1⟩ := hi
      obtain ⟨o2, e2, _, n2, d2⟩ := pl
      rw [e1] at e2
      cases e2
      rw [d1] at d2
      cases d2
    have hl := rv.length
    refine ⟨fun i v => its.toArray[i]? = some v, fun i h => h.IsListIter it a i ∧ h.IsList a its.toArray, ?_, ⟨hi, pl⟩, fun j u hu => ?_, fun j h st => ⟨a, rfl, st.1⟩⟩
    · have D := Draws.list (prog := X.prog) (w := X.w) hh it a hne its.toArray
      rw [List.size_toArray, ← hl] at D
      exact D
    · have hu : its[j]? = some u := by simpa using hu
      obtain ⟨hj, _⟩ := List.getElem?_eq_some_iff.mp hu
      obtain ⟨u', h1, h2⟩ := rv.get (i := j) (x := xs[j]'(by omega)) (List.getElem?_eq_getElem (by omega))
      rw [hu] at h1
      cases h1
      exact ⟨_, List.getElem?_eq_getElem (by omega), h2⟩
  | .tup, _, xs, it, i, ⟨a, e, ex⟩, ⟨a', e', hi⟩ => by
    subst e
    cases e'
    obtain ⟨its, rv, p, _⟩ := I.tuple ex
    have hne : a ≠ it := fun q => by
      subst q
      obtain ⟨o1, e1, _, d1⟩ := hi
      obtain ⟨o2, e2, _, n2, d2⟩ := id p
      rw [e1] at e2
      cases e2
      rw [d1] at d2
      cases d2
    have hl := rv.length
    refine ⟨fun i v => its.toArray[i]? = some v, fun i h => h.IsTupleIter it a i ∧ h.IsTuple a its.toArray, ?_, ⟨hi, p⟩, fun j u hu => ?_, fun j h st => ⟨a, rfl, st.1⟩⟩
    · have D := Draws.tuple (prog := X.prog) (w := X.w) hh it a hne its.toArray
      rw [List.size_toArray, ← hl] at D
      exact D
    · have hu : its[j]? = some u := by simpa using hu
      obtain ⟨hj, _⟩ := List.getElem?_eq_some_iff.mp hu
      obtain ⟨u', h1, h2⟩ := rv.get (i := j) (x := xs[j]'(by omega)) (List.getElem?_eq_getElem (by omega))
      rw [hu] at h1
      cases h1
      exact ⟨_, List.getElem?_eq_getElem (by omega), h2⟩
end
/-- the two as they stand at each turn, the items in new pairs -/
def Itx (K : PySem.W.Frag) (k1 k2 : ZK) (v1 v2 : V) : It :=
  ⟨fun i H => ∃ (xs ys : List V) (x y : V), SrcK K H k1 v1 xs ∧ SrcK K H k2 v2 ys ∧ xs[i]? = some x ∧ ys[i]? = some y,
    fun i H v H' => ∃ T x y, v = .ref T ∧ H T = none ∧ H' = upd H T (.tup [x, y]) ∧ (∀ xs, SrcK K H k1 v1 xs → xs[i]? = some x) ∧ ∀ ys, SrcK K H k2 v2 ys → ys[i]? = some y,
    fun i H => ∃ xs ys : List V, SrcK K H k1 v1 xs ∧ SrcK K H k2 v2 ys ∧ i = min xs.length ys.length⟩
theorem turn_zipX {P : Program} {w : World} {K : PySem.W.Frag} {elts : List Expr} {kk : Nat} {tpos : Pos} {k1 k2 : ZK} {v1 v2 : V} {z TI TO i1 i2 : Addr} (D : ZipSep2 z TI TO i1 i2 (i1 :: adK k1 v1) (i2 :: adK k2 v2)) :
    Turn P w K (.Tuple elts kk tpos) (Itx K k1 k2 v1 v2) [z, TI, TO, i1, i2] z (fun i h => IsZip h z TI TO .none ∧ IsTupOf2 h TI (.ref i1) (.ref i2) ∧ (∃ x y, IsTupOf2 h TO x y) ∧ ItK k1 v1 i1 i h ∧ ItK k2 v2 i2 i h) where
  mem := by simp
  obj := fun i h st c hc => by
    obtain ⟨hz, hTI, ⟨x, y, hTO⟩, h1, h2⟩ := st
    have e' : c = z ∨ c = TI ∨ c = TO ∨ c = i1 ∨ c = i2 := by simpa using hc
    rcases e' with q | q | q | q | q
    · rw [q]; exact ⟨_, hz, fun v q => nomatch q⟩
    · rw [q]; exact ⟨_, hTI, fun v q => nomatch q⟩
    · rw [q]; exact ⟨_, hTO, fun v q => nomatch q⟩
    · rw [q]; exact h1.obj
    · rw [q]; exact h2.obj
  keep := fun i h h' st k => by
    obtain ⟨hz, hTI, ⟨x, y, hTO⟩, h1, h2⟩ := st
    exact ⟨k z (by simp) _ hz, k TI (by simp) _ hTI, ⟨x, y, k TO (by simp) _ hTO⟩, h1.keep fun o q => k i1 (by simp) o q, h2.keep fun o q => k i2 (by simp) o q⟩
  item := by
    intro X hP hw hK hc i pins s σ H E I hf st hg
    subst hP hw hK
    obtain ⟨hz, hTI, ⟨x0, y0, hTO⟩, h1, h2⟩ := st
    obtain ⟨xs, ys, x, y, hqx, hqy, hx, hy⟩ := hg
    obtain ⟨P1, St1, D1, st1, hP1, hS1⟩ := src_draws (A := X.A.in1) I (I.ok.hd hc) hqx h1
    obtain ⟨P2, St2, D2, st2, hP2, hS2⟩ := src_draws (A := X.A.in1) I (I.ok.hd hc) hqy h2
    have hzl : z < s.heap.objs.size := Heap.lt_size hz
    refine wpAny_pyNext_zipD2_item D D1 D2 hz hTI hTO st1 st2 (List.getElem?_eq_some_iff.mp hx).1 (List.getElem?_eq_some_iff.mp hy).1 fun u u2 h' tk p1 p2 z' TO' h1' h2' hT hsz hk => ?_
    obtain ⟨x', hx', ru⟩ := hP1 i u p1
    obtain ⟨y', hy', ru2⟩ := hP2 i u2 p2
    obtain rfl : x = x' := Option.some.inj (hx.symm.trans hx')
    obtain rfl : y = y' := Option.some.inj (hy.symm.trans hy')
    refine ⟨_, rfl, wpAny_letOwnedTupleGo_zip (s := { s with heap := h', toks := tk }) z' fun h'' z'' sb => ?_⟩
    have hT2 : h''.get? s.heap.objs.size = some { cls := .type "tuple", data := .seq #[u, u2] } := (sb.2 _ (Nat.ne_of_gt hzl)).trans hT
    have new : ObjOk X.prog X.w (upd H s.heap.objs.size (.tup [x, y])) h'' s.heap.objs.size (.tup [x, y]) :=
      ⟨by show 2 ≤ sizeLine; decide, [u, u2], .cons ru (.cons ru2 .nil), ⟨_, hT2, rfl, _, rfl⟩⟩
    have I1 : Inv X pins σ (upd H s.heap.objs.size (.tup [x, y])) { s with heap := h'', toks := tk } :=
      I.turnedNew (t' := tk) (ch := [z, TI, TO, i1, i2]) (fun c o hb q => (sb.2 c (fun q' => hb (by simp [q']))).trans (hk c o (fun q' => hb (by simp [q'])) (fun q' => hb (by simp [q'])) (fun q' => hb (by simp [q'])) (fun q' => hb (by simp [q'])) q)) hf (Nat.le_refl _) new
    refine ⟨.ref s.heap.objs.size, _, I1, rfl, ⟨_, x, y, rfl, I.hok.fresh (Nat.le_refl _), rfl, fun l hl => by rw [SrcK.inj I hl hqx]; exact hx, fun l hl => by rw [SrcK.inj I hl hqy]; exact hy⟩, ⟨z'', ?_, ⟨u, u2, ?_⟩, ?_, ?_⟩, fun c hcm => ?_⟩
    · exact (sb.2 _ D.TIz).trans (hk _ _ D.TIz D.TITO D.TIi1 D.TIi2 hTI)
    · exact (sb.2 _ D.TOz).trans TO'
    · exact (hS1 _ _ h1').keep fun o q => (sb.2 _ D.zi1.symm).trans q
    · exact (hS2 _ _ h2').keep fun o q => (sb.2 _ D.zi2.symm).trans q
    · have hlt : c < s.heap.objs.size := by
        have e' : c = z ∨ c = TI ∨ c = TO ∨ c = i1 ∨ c = i2 := by simpa using hcm
        rcases e' with q | q | q | q | q
        · rw [q]; exact hzl
        · rw [q]; exact Heap.lt_size hTI
        · rw [q]; exact Heap.lt_size hTO
        · rw [q]; obtain ⟨_, e1, _⟩ := h1.obj; exact Heap.lt_size e1
        · rw [q]; obtain ⟨_, e2, _⟩ := h2.obj; exact Heap.lt_size e2
      rw [upd_ne (Nat.ne_of_lt hlt)]
      exact (hf c hcm).1
  done := by
    intro X hP hw hK hc i pins s σ H E I hf st hg
    subst hP hw hK
    obtain ⟨hz, hTI, ⟨x0, y0, hTO⟩, h1, h2⟩ := st
    obtain ⟨xs, ys, hqx, hqy, hend⟩ := hg
    obtain ⟨P1, St1, D1, st1, hP1, hS1⟩ := src_draws (A := X.A.in1) I (I.ok.hd hc) hqx h1
    obtain ⟨P2, St2, D2, st2, hP2, hS2⟩ := src_draws (A := X.A.in1) I (I.ok.hd hc) hqy h2
    exact wpAny_pyNext_zipD2_end D D1 D2 hz hTI hTO st1 st2 (by omega) (by omega) (by omega) fun h' tk hk => ⟨rfl, I.turnedL (t' := tk) (ch := [z, TI, TO, i1, i2]) (fun c o hb q =>
      hk c o (fun q' => hb (by simp [q'])) (fun q' => hb (by simp [q'])) (fun q' => hb (by simp [q'])) (fun q' => hb (by simp [q'])) q) hf⟩
  self := fun A i s Q E st h => wpAny_pyIter_zip st.1 h
/-- what iter of such a thing is -/
theorem src_begins {X : Cx} {pins : List (Addr × Obj)} {σ : L2.St} {H : Hp} {s : Shared} (I : Inv X pins σ H s) : ∀ {k : ZK} {v : V} {u : Value} {xs : List V}, SrcK X.K H k v xs → RelV v u → ∃ (o : Obj) (Hh : Heap → Prop), Begins u o Hh ∧ Hh s.heap ∧ (∀ it h', h'.get? it = some o → ItK k v it 0 h') ∧ ∀ b ∈ adK k v, b < s.heap.objs.size
  | .txt, _, u, _, ⟨z, e, ex⟩, r => by
    subst e
    obtain ⟨t, rfl⟩ := r
    exact ⟨_, _, begins_text z t, trivial, fun it h' e => ⟨z, t, rfl, _, e, rfl, rfl⟩, fun b hb => nomatch hb⟩
  | .lst, _, u, _, ⟨a, e, ex⟩, r => by
    subst e
    obtain rfl : u = Value.ref a := r
    obtain ⟨its, rv, p, _⟩ := I.list ex
    exact ⟨_, _, begins_list a its.toArray, p.isList, fun it h' e => ⟨a, rfl, _, e, rfl, rfl⟩, fun b hb => by rw [List.mem_singleton.mp hb]; exact p.lt⟩
  | .tup, _, u, _, ⟨a, e, ex⟩, r => by
    subst e
    obtain rfl : u = Value.ref a := r
    obtain ⟨its, rv, p, _⟩ := I.tuple ex
    obtain ⟨o1, ho1, _⟩ := id p
    exact ⟨_, _, begins_tuple a its.toArray, p, fun it h' e => ⟨a, rfl, _, e, rfl, rfl⟩, fun b hb => by rw [List.mem_singleton.mp hb]; exact Heap.lt_size ho1⟩
def iZipX (K : PySem.W.Frag) (ta : TA) : TI := fun σ H R => ta σ H fun vs H1 => ∃ k1 k2 v1 v2 xs ys, vs = [v1, v2] ∧ SrcK K H1 k1 v1 xs ∧ SrcK K H1 k2 v2 ys ∧ R (Itx K k1 k2 v1 v2) H1
theorem pi_zipX {X : Cx} {e e2 : Expr} {ta : TA} {p pos tpos : Pos} {elts : List Expr} {kk : Nat} {K : PySem.W.Frag} (hg : Gl X "zip") (hm : X.mg "zip" = none) (ha : PA X [e, e2] ta)
    (hs : starEach [e, e2] X.env = (false, eval e X.env) :: starEach [e2] X.env := by rfl) (hpl : (backTo pos (starEach [e2] X.env)).any (·.1) = false := by rfl) (hK : X.K = K := by rfl) :
    PI X (.Tuple elts kk tpos) (.Call (.Name "zip" p) [e, e2] [] pos) (iZipX K ta) := by
  subst hK
  refine ⟨fun pins s σ H R I h => ?_⟩
  refine Call_ (ld_blt I hg hm PyProof.Rows.boot_zip (PyProof.Rows.callWith_type1 (thn (ha.run pos pins s σ H _ I h) fun us s1 ⟨vs, H1, I1, r1, q1⟩ => ?_) hs hpl))
  obtain ⟨k1, k2, v1, v2, xs, ys, ex, hq1, hq2, q⟩ := q1
  subst ex
  cases r1 with
  | cons r rr =>
    cases rr with
    | cons r' rr =>
      cases rr
      obtain ⟨o1, Hh1, B1, hb1, hi1, ha1⟩ := src_begins I1 hq1 r
      obtain ⟨o2, Hh2, B2, hb2, hi2, ha2⟩ := src_begins I1 hq2 r'
      have fresh5 : ∀ c, c ∈ [s1.heap.objs.size + 4, s1.heap.objs.size + 2, s1.heap.objs.size + 3, s1.heap.objs.size, s1.heap.objs.size + 1] → FpOk X pins H1 c := fun c hcm => by
        have e' : c = s1.heap.objs.size + 4 ∨ c = s1.heap.objs.size + 2 ∨ c = s1.heap.objs.size + 3 ∨ c = s1.heap.objs.size ∨ c = s1.heap.objs.size + 1 := by simpa using hcm
        have hle : s1.heap.objs.size ≤ c := by
          rcases e' with z | z | z | z | z
          · rw [z]; exact Nat.le_add_right _ _
          · rw [z]; exact Nat.le_add_right _ _
          · rw [z]; exact Nat.le_add_right _ _
          · rw [z]; exact Nat.le_refl _
          · rw [z]; exact Nat.le_add_right _ _
        exact I1.fpOk hle (I1.hok.fresh hle)
      refine zip_begins2 B1 B2 hb1 hb2 fun h' hz hTI hTO h1 h2 hsz hk => wpAny_pyIter_zip hz ?_
      have I2 : Inv X pins σ H1 { s1 with heap := h' } := I1.kept (t' := s1.toks) hk
      exact ⟨s1.heap.objs.size + 4, [s1.heap.objs.size + 4, s1.heap.objs.size + 2, s1.heap.objs.size + 3, s1.heap.objs.size, s1.heap.objs.size + 1], _, _, H1, rfl, I2, turn_zipX (zip_sep2 ha1 ha2), ⟨hz, hTI, ⟨_, _, hTO⟩, hi1 _ _ h1, hi2 _ _ h2⟩, fresh5, q⟩
end RZ
namespace J
open PySem PySem.Spec PyProof.Rows L2 Evl RZ
section
variable {r : Rs} {s : L2.St} {S : Hp} {ta tb : TE} {K : PySem.W.Frag} {β : Type}
theorem sign_at {z : Str} {i : Nat} {x : V} (h : (z.cps.toList.map fun c => V.str ⟨#[c]⟩)[i]? = some x) : ∃ c, z.cps.toList[i]? = some c ∧ x = .str ⟨#[c]⟩ := by
  rw [List.getElem?_map] at h
  obtain ⟨c, h1, h2⟩ := Option.map_eq_some_iff.mp h
  exact ⟨c, h1, h2.symm⟩
/-- zip(text, list) -/
theorem ei_zipSL {z : Str} {ys : List β} {X' : Rl β} [Mono X'] (h : EvV r ta s S (.str z)) (h2 : ∀ S1, Ex S S1 → EvS r tb s S1 fun v S2 => LstR X' ys v S2) : EvI r (iZipX K (tCons ta (tCons tb tNil))) s S (z.cps.toList.zip ys) (PairR K SignR X') := fun S1 H a w R q =>
  h S1 H a w _ fun u S2 H2 w2 s2 eu => h2 S2 (a.trans s2.ex) S2 H2 (Ex.refl _) w2 _ fun v S3 H3 w3 s3 ⟨b, vs, ev, hb, hv⟩ => by
    subst eu
    subst ev
    have hl := hv.len
    have sq : ∀ {H : Hp}, Ex S3 H → SqL K H b vs := fun e => ex_l e (SqL.of hb)
    refine ⟨.txt, .lst, .str z, .ref b, _, vs, rfl, ⟨z, rfl, rfl⟩, ⟨b, rfl, sq w3.ex⟩, q (Itx K .txt .lst (.str z) (.ref b)) S3 H3 (fun H => SqL K H b vs) (fun i H v H' => ∃ T x y, v = .ref T ∧ H T = none ∧ H' = upd H T (.tup [x, y]) ∧ (z.cps.toList.map fun c => V.str ⟨#[c]⟩)[i]? = some x ∧ vs[i]? = some y) w3 (s2.trans s3) ⟨fun i H hi g => ?_, fun H g => ?_, fun i H v H' hi g y => ?_⟩ (fun S' H' e w' => sq (e.trans w'.ex)) fun i S' H' v H'' hi e w' ⟨T, x, y, e4, e5, e6, e7, e8⟩ => ?_⟩
    · rw [List.length_zip] at hi
      have h1 : i < (z.cps.toList.map fun c => V.str ⟨#[c]⟩).length := by rw [List.length_map]; omega
      exact ⟨_, vs, _, _, ⟨z, rfl, rfl⟩, ⟨b, rfl, g⟩, List.getElem?_eq_getElem h1, List.getElem?_eq_getElem (show i < vs.length by omega)⟩
    · exact ⟨_, vs, ⟨z, rfl, rfl⟩, ⟨b, rfl, g⟩, by rw [List.length_zip, List.length_map, hl]⟩
    · obtain ⟨T, x, y', h1, h2, h3, h4, h5⟩ := y
      exact ⟨T, x, y', h1, h2, h3, h4 _ ⟨z, rfl, rfl⟩, h5 _ ⟨b, rfl, g⟩⟩
    · obtain ⟨c, hc, ex⟩ := sign_at e7
      obtain ⟨y', h1', h2'⟩ := (hv.up e).get e8
      subst e6
      exact ⟨_, _, zip_get hc h1', w'.newS e5, Stp.newS w' e5, T, _, _, e4, SqT.of upd_same, ex, Mono.up (Ex.new (w'.fresh e5)) h2'⟩
/-- zip(text, tuple) -/
theorem ei_zipST {z : Str} {ys : List β} {X' : Rl β} [Mono X'] (h : EvV r ta s S (.str z)) (h2 : ∀ S1, Ex S S1 → EvS r tb s S1 fun v S2 => TupR K X' ys v S2) : EvI r (iZipX K (tCons ta (tCons tb tNil))) s S (z.cps.toList.zip ys) (PairR K SignR X') := fun S1 H a w R q =>
  h S1 H a w _ fun u S2 H2 w2 s2 eu => h2 S2 (a.trans s2.ex) S2 H2 (Ex.refl _) w2 _ fun v S3 H3 w3 s3 ⟨b, vs, ev, hb, hv⟩ => by
    subst eu
    subst ev
    have hl := hv.len
    have sq : ∀ {H : Hp}, Ex S3 H → SqT K H b vs := fun e => ex_t e hb
    refine ⟨.txt, .tup, .str z, .ref b, _, vs, rfl, ⟨z, rfl, rfl⟩, ⟨b, rfl, sq w3.ex⟩, q (Itx K .txt .tup (.str z) (.ref b)) S3 H3 (fun H => SqT K H b vs) (fun i H v H' => ∃ T x y, v = .ref T ∧ H T = none ∧ H' = upd H T (.tup [x, y]) ∧ (z.cps.toList.map fun c => V.str ⟨#[c]⟩)[i]? = some x ∧ vs[i]? = some y) w3 (s2.trans s3) ⟨fun i H hi g => ?_, fun H g => ?_, fun i H v H' hi g y => ?_⟩ (fun S' H' e w' => sq (e.trans w'.ex)) fun i S' H' v H'' hi e w' ⟨T, x, y, e4, e5, e6, e7, e8⟩ => ?_⟩
    · rw [List.length_zip] at hi
      have h1 : i < (z.cps.toList.map fun c => V.str ⟨#[c]⟩).length := by rw [List.length_map]; omega
      exact ⟨_, vs, _, _, ⟨z, rfl, rfl⟩, ⟨b, rfl, g⟩, List.getElem?_eq_getElem h1, List.getElem?_eq_getElem (show i < vs.length by omega)⟩
    · exact ⟨_, vs, ⟨z, rfl, rfl⟩, ⟨b, rfl, g⟩, by rw [List.length_zip, List.length_map, hl]⟩
    · obtain ⟨T, x, y', h1, h2, h3, h4, h5⟩ := y
      exact ⟨T, x, y', h1, h2, h3, h4 _ ⟨z, rfl, rfl⟩, h5 _ ⟨b, rfl, g⟩⟩
    · obtain ⟨c, hc, ex⟩ := sign_at e7
      obtain ⟨y', h1', h2'⟩ := (hv.up e).get e8
      subst e6
      exact ⟨_, _, zip_get hc h1', w'.newS e5, Stp.newS w' e5, T, _, _, e4, SqT.of upd_same, ex, Mono.up (Ex.new (w'.fresh e5)) h2'⟩
end
end J

set_option pp.maxSteps 3000
/-! J79: enumerate(text). -/
namespace RZ
open PySem PySem.Spec PyProof.Rows L2
/-- the text z, each sign in a new pair -/
def IteS (z : Str) : It :=
  ⟨fun i _ => i < z.cps.size, fun i H v H' => ∃ T c, v = .ref T ∧ H T = none ∧ H' = upd H T (.tup [.int (i : Nat), .str ⟨#[c]⟩]) ∧ z.cps[i]? = some c, fun i _ => i = z.cps.size⟩
theorem turn_enumS {P : Program} {w : World} {K : PySem.W.Frag} {elts : List Expr} {kk : Nat} {tpos : Pos} (z : Str) (t : Tok) (e it : Addr) :
    Turn P w K (.Tuple elts kk tpos) (IteS z) [e, it] e (fun i h => (∃ old, IsEnum h e it ((i : Nat) : Int) old) ∧ h.IsStrIter it (strIterType z) z t i ∧ e ≠ it) where
  mem := by simp
  obj := fun i h st b hb => by
    obtain ⟨⟨old, he⟩, ⟨o, ho, hc, hd⟩, _⟩ := st
    have e' : b = e ∨ b = it := by simpa using hb
    rcases e' with q | q
    · rw [q]; exact ⟨_, he, fun v q => nomatch q⟩
    · rw [q]; exact ⟨o, ho, fun v q => by rw [hd] at q; cases q⟩
  keep := fun i h h' st k => by
    obtain ⟨⟨old, he⟩, ⟨o, ho, r⟩, hne⟩ := st
    exact ⟨⟨old, k e (by simp) _ he⟩, ⟨o, k it (by simp) _ ho, r⟩, hne⟩
  item := by
    intro X hP hw hK hc i pins s σ H E I hf st hg
    subst hP hw hK
    obtain ⟨⟨old, he⟩, hit, hne⟩ := st
    have hel : e < s.heap.objs.size := Heap.lt_size he
    have hil : it < s.heap.objs.size := by obtain ⟨_, q, _⟩ := hit; exact Heap.lt_size q
    have D := Draws.text (prog := X.prog) (w := X.w) (show X.A.in1.handled = none from I.ok.hd hc) it z t
    refine wpAny_pyNext_enum_itemC D he hit hg hne (fun q => hne (List.mem_singleton.mp q)) fun y h' tk hy ho hst hT hsz hk => ?_
    obtain ⟨c, tc, hcz, rfl⟩ := hy
    refine ⟨_, rfl, wpAny_letOwnedTupleGo_enum (s := { s with heap := h', toks := tk + 1 }) ho fun h'' he' sb => ?_⟩
    have hT2 : h''.get? s.heap.objs.size = some { cls := .type "tuple", data := .seq #[.int i tk, .str ⟨#[c]⟩ tc] } := (sb.2 _ (Nat.ne_of_gt hel)).trans hT
    have new : ObjOk X.prog X.w (upd H s.heap.objs.size (.tup [.int (i : Nat), .str ⟨#[c]⟩])) h'' s.heap.objs.size (.tup [.int (i : Nat), .str ⟨#[c]⟩]) :=
      ⟨by show 2 ≤ sizeLine; decide, [.int i tk, .str ⟨#[c]⟩ tc], .cons ⟨_, rfl⟩ (.cons ⟨_, rfl⟩ .nil), ⟨_, hT2, rfl, _, rfl⟩⟩
    have I1 : Inv X pins σ (upd H s.heap.objs.size (.tup [.int (i : Nat), .str ⟨#[c]⟩])) { s with heap := h'', toks := tk + 1 } :=
      I.turnedNew (ch := [e, it]) (fun b ob hb q => (sb.2 b (fun z => hb (by simp [z]))).trans (hk b ob (fun z => hb (by simp [z])) (fun z => hb (by simp [z])) q)) hf (Nat.le_refl _) new
    refine ⟨.ref s.heap.objs.size, _, I1, rfl, ⟨_, c, rfl, I.hok.fresh (Nat.le_refl _), rfl, hcz⟩, ⟨⟨.str ⟨#[c]⟩ tc, ?_⟩, ?_, hne⟩, fun b hb => ?_⟩
    · have e1 : ((i + 1 : Nat) : Int) = (i : Int) + 1 := by omega
      rw [e1]; exact he'
    · obtain ⟨o, ho2, r⟩ := hst
      exact ⟨o, (sb.2 it (Ne.symm hne)).trans ho2, r⟩
    · have hb' : b < s.heap.objs.size := by
        have e' : b = e ∨ b = it := by simpa using hb
        rcases e' with q | q
        · rw [q]; exact hel
        · rw [q]; exact hil
      rw [upd_ne (Nat.ne_of_lt hb')]
      exact (hf b hb).1
  done := by
    intro X hP hw hK hc i pins s σ H E I hf st hg
    subst hP hw hK
    obtain ⟨⟨old, he⟩, hit, hne⟩ := st
    have D := Draws.text (prog := X.prog) (w := X.w) (show X.A.in1.handled = none from I.ok.hd hc) it z t
    have hi : i = z.cps.size := hg
    subst hi
    exact wpAny_pyNext_enum_endD D he hit fun h' hk => ⟨rfl, I.turnedL (t' := s.toks) (ch := [e, it]) (fun c o hb q => hk c o (fun q' => hb (by simp [q'])) q) hf⟩
  self := fun A i s Q E st h => let ⟨⟨_, he⟩, _⟩ := st; wpAny_pyIter_enum he h
def iEnumS (ta : TA) : TI := fun σ H R => ta σ H fun vs H1 => ∃ z, vs = [.str z] ∧ R (IteS z) H1
theorem pi_enumS {X : Cx} {e : Expr} {ta : TA} {p pos tpos : Pos} {elts : List Expr} {kk : Nat} (hg : Gl X "enumerate") (hm : X.mg "enumerate" = none) (ha : PA X [e] ta) (hs : starEach [e] X.env = [(false, eval e X.env)] := by rfl) :
    PI X (.Tuple elts kk tpos) (.Call (.Name "enumerate" p) [e] [] pos) (iEnumS ta) := by
  refine ⟨fun pins s σ H R I h => ?_⟩
  refine Call_ (ld_blt I hg hm boot_enumerate (PyProof.Rows.callWith_type1 (thn (ha.run pos pins s σ H _ I h) fun us s1 ⟨vs, H1, I1, r1, q1⟩ => ?_) hs rfl))
  obtain ⟨z, ex, q⟩ := q1
  subst ex
  cases r1 with
  | cons r rr =>
    cases rr
    obtain ⟨t, rfl⟩ := r
    refine enum_begins1 (begins_text z t) trivial fun h' he hit hsz hk => wpAny_pyIter_enum he ?_
    have I2 : Inv X pins σ H1 { s1 with heap := h' } := I1.kept (t' := s1.toks) hk
    refine ⟨s1.heap.objs.size + 1, [s1.heap.objs.size + 1, s1.heap.objs.size], _, _, H1, rfl, I2, turn_enumS z t (s1.heap.objs.size + 1) s1.heap.objs.size, ⟨⟨.none, he⟩, ⟨_, hit, rfl, rfl⟩, Nat.succ_ne_self _⟩, fun b hb => ?_, q⟩
    have e' : b = s1.heap.objs.size + 1 ∨ b = s1.heap.objs.size := by simpa using hb
    have hle : s1.heap.objs.size ≤ b := by
      rcases e' with z | z
      · rw [z]; exact Nat.le_add_right _ _
      · rw [z]; exact Nat.le_refl _
    exact I1.fpOk hle (I1.hok.fresh hle)
end RZ
namespace J
open PySem PySem.Spec PyProof.Rows L2 Evl RZ
section
variable {r : Rs} {s : L2.St} {S : Hp} {ta : TE} {K : PySem.W.Frag}
theorem ei_enumS {z : Str} (h : EvV r ta s S (.str z)) : EvI r (iEnumS (tCons ta tNil)) s S (enumL z.cps.toList) (PairR K IntR SignR) := fun S1 H a w R q =>
  h S1 H a w _ fun u S2 H2 w2 s2 eu => by
    subst eu
    refine ⟨z, rfl, q (IteS z) S2 H2 (fun _ => True) (fun i H v H' => ∃ T c, v = .ref T ∧ H T = none ∧ H' = upd H T (.tup [.int (i : Nat), .str ⟨#[c]⟩]) ∧ z.cps[i]? = some c) w2 s2 ?_ (fun _ _ _ _ => True.intro) fun i S' H' v H'' hi e w' ⟨T, c, e4, e5, e6, e7⟩ => ?_⟩
    · rw [enumL_len, Array.length_toList]
      exact ⟨fun i H hi g => hi, fun H g => rfl, fun i H v H' hi g y => y⟩
    · subst e6
      exact ⟨_, _, enumL_get (by rw [Array.getElem?_toList]; exact e7), w'.newS e5, Stp.newS w' e5, T, _, _, e4, SqT.of upd_same, rfl, rfl⟩
end
end J

set_option pp.maxSteps 3000
/-! J80: for p in zip(a, b) of two lists, p a name: the pairs stay. -/
namespace RZ
open PySem PySem.Spec PyProof.Rows L2
open PySem.W (kdx_alive)
/-- a zip, whatever tuple it handed out last -/
def IsZ (h : Heap) (z TI TO : Addr) (f0 : Value) (f : Bool) : Prop := h.get? z = some { cls := .type "zip", data := .fields #[f0, .bool f, .bool false, .ref TI, .ref TO] }
def OutF (f0 : Value) : Prop := f0 = .none ∨ ∃ T : Addr, f0 = rawInt (T : Int)
section
variable {prog : Program} {w : World} {A : Around} {E : Value → Shared → Prop} {s : Shared} {z TI TO i1 i2 : Addr} {fp1 fp2 : List Addr} {n1 n2 i : Nat} {P1 P2 : Nat → Value → Prop} {St1 St2 : Nat → Heap → Prop} {a1 a2 f0 : Value} {f : Bool}
theorem zn_dead {a : Addr} {Q : Option Obj → Shared → Prop} (ho : s.heap.get? a = none) (h : Q none s) : wpAny (model prog w) A (loadIfAlive a) Q E s := by
  have h' : Q (s.heap.get? a) s := by rw [ho]; exact h
  exact fun _ _ _ => h'
/-- is the tuple free: yes, or it is held from now on -/
theorem zn_free {Q : Bool → Shared → Prop} (hz : IsZ s.heap z TI TO f0 f) (ho : OutF f0) (h1 : Q true s) (h2 : ∀ h' T, IsZ h' z TI TO (rawInt ((T : Addr) : Int)) true → Heap.SameBut z s.heap h' → Q false { s with heap := h' }) : wpAny (model prog w) A (Builtin.SmallTypes.ownedTupleIsFree (.ref z)) Q E s := by
  unfold Builtin.SmallTypes.ownedTupleIsFree
  rcases ho with rfl | ⟨T, rfl⟩
  · exact wpAny_bind (wpAny_field hz rfl (x := .none) rfl (wpAny_pure h1))
  · refine wpAny_bind (wpAny_field hz rfl (x := rawInt T) rfl ?_)
    show wpAny _ _ (loadIfAlive ((T : Int).toNat) >>= _) _ _ _
    rw [Int.toNat_natCast]
    cases hT : s.heap.get? T with
    | some oT =>
      refine wpAny_bind (kdx_alive hT ?_)
      simp only [Option.isNone_some, Bool.false_eq_true, if_false]
      refine wpAny_bind (wpAny_field hz rfl (x := .bool f) rfl ?_)
      cases f with
      | true =>
        rw [if_neg (show ¬ ((Value.bool true != Value.bool true) = true) from Bool.false_ne_true)]
        exact wpAny_pure (h2 s.heap T hz (Heap.SameBut.refl _ _))
      | false =>
        rw [if_pos (show (Value.bool false != Value.bool true) = true from rfl)]
        exact wpAny_bind (wpAny_setField_rec hz (by simp) fun h₁ hz₁ hs₁ => wpAny_pure (h2 h₁ T hz₁ hs₁))
    | none =>
      refine wpAny_bind (zn_dead hT ?_)
      simp only [Option.isNone_none, if_true]
      exact wpAny_pure h1
theorem zn_item {Q : Value → Shared → Prop} (S : ZipSep2 z TI TO i1 i2 fp1 fp2) (D1 : Draws prog w A i1 fp1 n1 P1 St1) (D2 : Draws prog w A i2 fp2 n2 P2 St2)
    (hz : IsZ s.heap z TI TO f0 f) (ho : OutF f0) (hTI : IsTupOf2 s.heap TI (.ref i1) (.ref i2)) (hTO : IsTupOf2 s.heap TO a1 a2) (st1 : St1 i s.heap) (st2 : St2 i s.heap) (hlt1 : i < n1) (hlt2 : i < n2)
    (hQ : ∀ x1 x2 h' tk f0' f', P1 i x1 → P2 i x2 → IsZ h' z TI TO f0' f' → OutF f0' → (∃ b1 b2, IsTupOf2 h' TO b1 b2) → St1 (i + 1) h' → St2 (i + 1) h' → IsTupOf2 h' s.heap.objs.size x1 x2 → h'.objs.size = s.heap.objs.size + 1 →
      (∀ c o, c ≠ z → c ≠ TO → c ≠ i1 → c ≠ i2 → s.heap.get? c = some o → h'.get? c = some o) → Q (.ref s.heap.objs.size) { s with heap := h', toks := tk }) :
    wpAny (model prog w) A (Builtin.«zip.__next__» ⟨[.ref z], []⟩) (fun fin s' => ∃ v, fin = .done (.ret v) ∧ Q v s') E s := by
  obtain ⟨hp, g, d, tk0, os⟩ := s
  show wpAny _ _ (field (.ref z) 2 >>= _) _ _ _
  refine wpAny_bind (wpAny_field hz rfl (x := .bool false) rfl ?_)
  show wpAny _ _ (field (.ref z) 3 >>= _) _ _ _
  refine wpAny_bind (wpAny_field hz rfl (x := .ref TI) rfl ?_)
  refine wpAny_bind (wpAny_seqItems hTI rfl ?_)
  show wpAny _ _ (Builtin.SmallTypes.ownedTupleIsFree (.ref z) >>= _) _ _ _
  refine wpAny_bind (zn_free hz ho ?_ fun h₁ T hz₁ hs₁ => ?_)
  · simp only [if_true]
    refine wpAny_bind (wpAny_rule ?_)
    refine wpAny_bind (wpAny_field hz rfl (x := .ref TO) rfl ?_)
    refine wpAny_bind (wpAny_setField_rec hz (by simp) fun g0 hz0 hs0 => ?_)
    replace hz0 : IsZ g0 z TI TO .ellipsis f := hz0
    replace hs0 : Heap.SameBut z hp g0 := hs0
    refine wpAny_bind ?_
    simp only [List.zipIdx_cons, List.zipIdx_nil, List.forIn_cons, List.forIn_nil]
    refine wpAny_bind (wpAny_bind (wpAny_onRaise ?_))
    show wpAny _ _ (Builtin.SmallTypes.nextOf (.ref i1) >>= _) _ _ ⟨g0, g, d, tk0, os⟩
    refine wpAny_bind (D1.item i _ _ _ hlt1 (D1.over st1 hs0 S.zf1) fun x1 p1 tk1 hx1 sn1 hp1 => wpAny_pure ?_)
    replace hp1 : Heap.SameBut i1 g0 p1 := hp1
    have hU1 : IsTupOf2 p1 TO a1 a2 := hp1.extBut _ _ S.Ti1 (hs0.extBut _ _ S.TOz hTO)
    refine wpAny_bind (wpAny_seqItems (s := ⟨p1, g, d, tk1, os⟩) hU1 rfl ?_)
    refine wpAny_bind (updateSeq_IsTupOf2 (s := ⟨p1, g, d, tk1, os⟩) hU1 fun g1 hT1 hs1 => ?_)
    replace hT1 : IsTupOf2 g1 TO x1 a2 := hT1
    replace hs1 : Heap.SameBut TO p1 g1 := hs1
    refine wpAny_bind (wpAny_letGo (wpAny_pure ?_))
    refine wpAny_bind (wpAny_bind (wpAny_onRaise ?_))
    show wpAny _ _ (Builtin.SmallTypes.nextOf (.ref i2) >>= _) _ _ ⟨g1, g, d, tk1, os⟩
    refine wpAny_bind (D2.item i _ _ _ hlt2 (D2.over (D2.over (D2.over st2 hs0 S.zf2) hp1 S.sep1_2) hs1 S.Tf2) fun x2 p2 tk2 hx2 sn2 hp2 => wpAny_pure ?_)
    replace hp2 : Heap.SameBut i2 g1 p2 := hp2
    have hU2 : IsTupOf2 p2 TO x1 a2 := hp2.extBut _ _ S.Ti2 hT1
    refine wpAny_bind (wpAny_seqItems (s := ⟨p2, g, d, tk2, os⟩) hU2 rfl ?_)
    refine wpAny_bind (updateSeq_IsTupOf2 (s := ⟨p2, g, d, tk2, os⟩) hU2 fun g2 hT2 hs2 => ?_)
    replace hT2 : IsTupOf2 g2 TO x1 x2 := hT2
    replace hs2 : Heap.SameBut TO p2 g2 := hs2
    refine wpAny_bind (wpAny_letGo (wpAny_pure (wpAny_pure ?_)))
    refine wpAny_bind (wpAny_seqItems (s := ⟨g2, g, d, tk2, os⟩) hT2 rfl ?_)
    refine wpAny_bind (wpAny_newTuple ?_)
    have hsz : g2.objs.size = hp.objs.size := by rw [hs2.1, hp2.1, hs1.1, hp1.1, hs0.1]
    have hzz : IsZ g2 z TI TO .ellipsis f := (hs2.extBut _ _ S.TOz.symm (hp2.extBut _ _ S.zi2 (hs1.extBut _ _ S.TOz.symm (hp1.extBut _ _ S.zi1 hz0))))
    have hkk : ∀ c o, c ≠ z → c ≠ TO → c ≠ i1 → c ≠ i2 → hp.get? c = some o → g2.get? c = some o := fun c o cz cT c1 c2 e =>
      (hs2.extBut _ _ cT (hp2.extBut _ _ c2 (hs1.extBut _ _ cT (hp1.extBut _ _ c1 (hs0.extBut _ _ cz e)))))
    have hj1 : St1 (i + 1) g2 := (D1.over (D1.over (D1.over sn1 hs1 S.Tf1) hp2 S.sep2_1) hs2 S.Tf1)
    have hj2 : St2 (i + 1) g2 := (D2.over sn2 hs2 S.Tf2)
    have hzlt : z < g2.objs.size := Heap.lt_size hzz
    show wpAny _ _ (Builtin.SmallTypes.ownedTupleHandOut (.ref z) (.ref g2.objs.size) >>= _) _ _ ⟨g2.push { cls := .type "tuple", data := .seq #[x1, x2] }, g, d, tk2, os⟩
    refine wpAny_bind ?_
    unfold Builtin.SmallTypes.ownedTupleHandOut
    have hz₆ : IsZ (g2.push { cls := .type "tuple", data := .seq #[x1, x2] }) z TI TO .ellipsis f := Heap.get?_push_of_some _ hzz
    refine wpAny_bind (wpAny_setField_rec hz₆ (by simp) fun h₇ hz₇ hs₇ => ?_)
    replace hz₇ : IsZ h₇ z TI TO (rawInt g2.objs.size) f := hz₇
    refine wpAny_setField_rec hz₇ (by simp) fun h₈ hz₈ hs₈ => ?_
    replace hz₈ : IsZ h₈ z TI TO (rawInt g2.objs.size) false := hz₈
    replace hs₇ : Heap.SameBut z (g2.push { cls := .type "tuple", data := .seq #[x1, x2] }) h₇ := hs₇
    replace hs₈ : Heap.SameBut z h₇ h₈ := hs₈
    have up : ∀ c o, c ≠ z → g2.get? c = some o → h₈.get? c = some o := fun c o c1 e => hs₈.extBut _ _ c1 (hs₇.extBut _ _ c1 (Heap.get?_push_of_some _ e))
    have hT₈ : IsTupOf2 h₈ g2.objs.size x1 x2 := hs₈.extBut _ _ (Nat.ne_of_gt hzlt) (hs₇.extBut _ _ (Nat.ne_of_gt hzlt) (Heap.get?_push_size _ rfl))
    have hz8 : h₈.objs.size = g2.objs.size + 1 := by rw [hs₈.1, hs₇.1, Heap.size_push]
    rw [hsz] at hz₈ hT₈ hz8
    refine wpAny_pure ⟨_, rfl, ?_⟩
    show Q (.ref g2.objs.size) ⟨h₈, g, d, tk2, os⟩
    rw [hsz]
    exact hQ x1 x2 h₈ tk2 _ _ hx1 hx2 hz₈ (.inr ⟨_, rfl⟩) ⟨_, _, up _ _ S.TOz hT2⟩ (D1.frame _ _ _ hj1 fun b hb o e => up b o (fun q => S.zf1 (q ▸ hb)) e) (D2.frame _ _ _ hj2 fun b hb o e => up b o (fun q => S.zf2 (q ▸ hb)) e) hT₈ hz8 fun c o cz cT c1 c2 e => up c o cz (hkk c o cz cT c1 c2 e)
  · replace hz₁ : IsZ h₁ z TI TO (rawInt T) true := hz₁
    replace hs₁ : Heap.SameBut z hp h₁ := hs₁
    simp only [Bool.false_eq_true, if_false]
    refine wpAny_bind ?_
    rw [← Array.forIn_toList]
    simp only [List.forIn_cons, List.forIn_nil]
    refine wpAny_bind (wpAny_bind (wpAny_holding ?_))
    show wpAny _ _ (Builtin.SmallTypes.nextOf (.ref i1) >>= _) _ _ ⟨h₁, g, d, tk0, os⟩
    refine wpAny_bind (D1.item i _ _ _ hlt1 (D1.over st1 hs₁ S.zf1) fun x1 p1 tk1 hx1 sn1 hp1 => wpAny_pure ?_)
    replace hp1 : Heap.SameBut i1 h₁ p1 := hp1
    refine wpAny_pure ?_
    refine wpAny_bind (wpAny_bind (wpAny_holding ?_))
    show wpAny _ _ (Builtin.SmallTypes.nextOf (.ref i2) >>= _) _ _ ⟨p1, g, d, tk1, os⟩
    refine wpAny_bind (D2.item i _ _ _ hlt2 (D2.over (D2.over st2 hs₁ S.zf2) hp1 S.sep1_2) fun x2 p2 tk2 hx2 sn2 hp2 => wpAny_pure ?_)
    replace hp2 : Heap.SameBut i2 p1 p2 := hp2
    refine wpAny_pure (wpAny_pure ?_)
    show wpAny _ _ (newTuple [x1, x2] >>= _) _ _ _
    refine wpAny_bind (wpAny_newTuple ?_)
    have hsz : p2.objs.size = hp.objs.size := by rw [hp2.1, hp1.1, hs₁.1]
    have hz₃ : IsZ p2 z TI TO (rawInt T) true := hp2.extBut _ _ S.zi2 (hp1.extBut _ _ S.zi1 hz₁)
    have hk : ∀ c o, c ≠ z → c ≠ i1 → c ≠ i2 → hp.get? c = some o → p2.get? c = some o := fun c o c1 c2 c3 e => hp2.extBut _ _ c3 (hp1.extBut _ _ c2 (hs₁.extBut _ _ c1 e))
    have hj1 : St1 (i + 1) p2 := D1.over sn1 hp2 S.sep2_1
    refine wpAny_pure ⟨_, rfl, ?_⟩
    show Q (.ref p2.objs.size) _
    have hpp : IsTupOf2 (p2.push { cls := .type "tuple", data := .seq #[x1, x2] }) p2.objs.size x1 x2 := Heap.get?_push_size _ rfl
    have hz4 : (p2.push { cls := .type "tuple", data := .seq #[x1, x2] }).objs.size = p2.objs.size + 1 := Heap.size_push ..
    rw [hsz] at hpp hz4 ⊢
    exact hQ x1 x2 _ tk2 _ _ hx1 hx2 (Heap.get?_push_of_some _ hz₃) (.inr ⟨_, rfl⟩) ⟨_, _, Heap.get?_push_of_some _ (hk _ _ S.TOz S.Ti1 S.Ti2 hTO)⟩ (D1.frame _ _ _ hj1 fun b _ o e => Heap.get?_push_of_some _ e) (D2.frame _ _ _ sn2 fun b _ o e => Heap.get?_push_of_some _ e) hpp hz4 fun c o c1 _ c2 c3 e => Heap.get?_push_of_some _ (hk c o c1 c2 c3 e)
theorem zn_end {Q : Fin → Shared → Prop} (S : ZipSep2 z TI TO i1 i2 fp1 fp2) (D1 : Draws prog w A i1 fp1 n1 P1 St1) (D2 : Draws prog w A i2 fp2 n2 P2 St2)
    (hz : IsZ s.heap z TI TO f0 f) (ho : OutF f0) (hTI : IsTupOf2 s.heap TI (.ref i1) (.ref i2)) (hTO : IsTupOf2 s.heap TO a1 a2) (st1 : St1 i s.heap) (st2 : St2 i s.heap) (hle1 : i ≤ n1) (hle2 : i ≤ n2) (hend : i = n1 ∨ i = n2)
    (hE : ∀ h' tk e, (∀ c o, c ≠ z → c ≠ TO → c ≠ i1 → c ≠ i2 → s.heap.get? c = some o → h'.get? c = some o) → (∃ o, h'.get? e = some o ∧ o.cls = .type "StopIteration") → E (.ref e) { s with heap := h', toks := tk }) :
    wpAny (model prog w) A (Builtin.«zip.__next__» ⟨[.ref z], []⟩) Q E s := by
  obtain ⟨hp, g, d, tk0, os⟩ := s
  show wpAny _ _ (field (.ref z) 2 >>= _) _ _ _
  refine wpAny_bind (wpAny_field hz rfl (x := .bool false) rfl ?_)
  show wpAny _ _ (field (.ref z) 3 >>= _) _ _ _
  refine wpAny_bind (wpAny_field hz rfl (x := .ref TI) rfl ?_)
  refine wpAny_bind (wpAny_seqItems hTI rfl ?_)
  show wpAny _ _ (Builtin.SmallTypes.ownedTupleIsFree (.ref z) >>= _) _ _ _
  refine wpAny_bind (zn_free hz ho ?_ fun h₁ T hz₁ hs₁ => ?_)
  · simp only [if_true]
    refine wpAny_bind (wpAny_rule ?_)
    refine wpAny_bind (wpAny_field hz rfl (x := .ref TO) rfl ?_)
    refine wpAny_bind (wpAny_setField_rec hz (by simp) fun g0 hz0 hs0 => ?_)
    replace hz0 : IsZ g0 z TI TO .ellipsis f := hz0
    replace hs0 : Heap.SameBut z hp g0 := hs0
    refine wpAny_bind ?_
    simp only [List.zipIdx_cons, List.zipIdx_nil, List.forIn_cons, List.forIn_nil]
    refine wpAny_bind (wpAny_bind (wpAny_onRaise ?_))
    show wpAny _ _ (Builtin.SmallTypes.nextOf (.ref i1) >>= _) _ _ ⟨g0, g, d, tk0, os⟩
    by_cases hlt1 : i < n1
    · refine wpAny_bind (D1.item i _ _ _ hlt1 (D1.over st1 hs0 S.zf1) fun x1 p1 tk1 hx1 sn1 hp1 => wpAny_pure ?_)
      replace hp1 : Heap.SameBut i1 g0 p1 := hp1
      have hU1 : IsTupOf2 p1 TO a1 a2 := hp1.extBut _ _ S.Ti1 (hs0.extBut _ _ S.TOz hTO)
      refine wpAny_bind (wpAny_seqItems (s := ⟨p1, g, d, tk1, os⟩) hU1 rfl ?_)
      refine wpAny_bind (updateSeq_IsTupOf2 (s := ⟨p1, g, d, tk1, os⟩) hU1 fun g1 hT1 hs1 => ?_)
      replace hT1 : IsTupOf2 g1 TO x1 a2 := hT1
      replace hs1 : Heap.SameBut TO p1 g1 := hs1
      refine wpAny_bind (wpAny_letGo (wpAny_pure ?_))
      have hi2 : i = n2 := by omega
      refine wpAny_bind (wpAny_bind (wpAny_onRaise ?_))
      show wpAny _ _ (Builtin.SmallTypes.nextOf (.ref i2) >>= _) _ _ ⟨g1, g, d, tk1, os⟩
      refine wpAny_bind (D2.done ⟨g1, g, d, tk1, os⟩ _ _ (by rw [← hi2]; exact (D2.over (D2.over (D2.over st2 hs0 S.zf2) hp1 S.sep1_2) hs1 S.Tf2)) fun q e hq he => ?_)
      replace hq : Heap.ExtBut i2 g1 q := hq
      obtain ⟨oe, hoe, hce⟩ := he
      replace hoe : q.get? e = some oe := hoe
      have hzq : IsZ q z TI TO .ellipsis f := hq _ _ S.zi2 (hs1.extBut _ _ S.TOz.symm (hp1.extBut _ _ S.zi1 hz0))
      have hez : e ≠ z := fun x => by subst x; rw [hzq] at hoe; cases hoe; simp at hce
      refine wpAny_setField_rec (s := ⟨q, g, d, tk1, os⟩) hzq (by simp) fun q' _ hq' => ?_
      replace hq' : Heap.SameBut z q q' := hq'
      exact hE q' tk1 e (fun c o cz cT c1 c2 x => hq'.extBut _ _ cz (hq _ _ c2 (hs1.extBut _ _ cT (hp1.extBut _ _ c1 (hs0.extBut _ _ cz x))))) ⟨oe, hq'.extBut _ _ hez hoe, hce⟩
    · have hi1 : i = n1 := by omega
      refine wpAny_bind (D1.done ⟨g0, g, d, tk0, os⟩ _ _ (by rw [← hi1]; exact (D1.over st1 hs0 S.zf1)) fun q e hq he => ?_)
      replace hq : Heap.ExtBut i1 g0 q := hq
      obtain ⟨oe, hoe, hce⟩ := he
      replace hoe : q.get? e = some oe := hoe
      have hzq : IsZ q z TI TO .ellipsis f := hq _ _ S.zi1 hz0
      have hez : e ≠ z := fun x => by subst x; rw [hzq] at hoe; cases hoe; simp at hce
      refine wpAny_setField_rec (s := ⟨q, g, d, tk0, os⟩) hzq (by simp) fun q' _ hq' => ?_
      replace hq' : Heap.SameBut z q q' := hq'
      exact hE q' tk0 e (fun c o cz cT c1 c2 x => hq'.extBut _ _ cz (hq _ _ c1 (hs0.extBut _ _ cz x))) ⟨oe, hq'.extBut _ _ hez hoe, hce⟩
  · replace hz₁ : IsZ h₁ z TI TO (rawInt T) true := hz₁
    replace hs₁ : Heap.SameBut z hp h₁ := hs₁
    simp only [Bool.false_eq_true, if_false]
    refine wpAny_bind ?_
    rw [← Array.forIn_toList]
    simp only [List.forIn_cons, List.forIn_nil]
    refine wpAny_bind (wpAny_bind (wpAny_holding ?_))
    show wpAny _ _ (Builtin.SmallTypes.nextOf (.ref i1) >>= _) _ _ ⟨h₁, g, d, tk0, os⟩
    by_cases hlt1 : i < n1
    · refine wpAny_bind (D1.item i _ _ _ hlt1 (D1.over st1 hs₁ S.zf1) fun x1 p1 tk1 hx1 sn1 hp1 => wpAny_pure ?_)
      replace hp1 : Heap.SameBut i1 h₁ p1 := hp1
      refine wpAny_pure ?_
      have hi2 : i = n2 := by omega
      refine wpAny_bind (wpAny_bind (wpAny_holding ?_))
      show wpAny _ _ (Builtin.SmallTypes.nextOf (.ref i2) >>= _) _ _ ⟨p1, g, d, tk1, os⟩
      refine wpAny_bind (D2.done ⟨p1, g, d, tk1, os⟩ _ _ (by rw [← hi2]; exact (D2.over (D2.over st2 hs₁ S.zf2) hp1 S.sep1_2)) fun q e hq he => ?_)
      replace hq : Heap.ExtBut i2 p1 q := hq
      exact hE q tk1 e (fun c o cz cT c1 c2 x => hq _ _ c2 (hp1.extBut _ _ c1 (hs₁.extBut _ _ cz x))) he
    · have hi1 : i = n1 := by omega
      refine wpAny_bind (D1.done ⟨h₁, g, d, tk0, os⟩ _ _ (by rw [← hi1]; exact (D1.over st1 hs₁ S.zf1)) fun q e hq he => ?_)
      replace hq : Heap.ExtBut i1 h₁ q := hq
      exact hE q tk0 e (fun c o cz cT c1 c2 x => hq _ _ c1 (hs₁.extBut _ _ cz x)) he
theorem zn_next {Q : Option Value → Shared → Prop} (S : ZipSep2 z TI TO i1 i2 fp1 fp2) (D1 : Draws prog w A.in1 i1 fp1 n1 P1 St1) (D2 : Draws prog w A.in1 i2 fp2 n2 P2 St2)
    (hz : IsZ s.heap z TI TO f0 f) (ho : OutF f0) (hTI : IsTupOf2 s.heap TI (.ref i1) (.ref i2)) (hTO : IsTupOf2 s.heap TO a1 a2) (st1 : St1 i s.heap) (st2 : St2 i s.heap) (hlt1 : i < n1) (hlt2 : i < n2)
    (hQ : ∀ x1 x2 h' tk f0' f', P1 i x1 → P2 i x2 → IsZ h' z TI TO f0' f' → OutF f0' → (∃ b1 b2, IsTupOf2 h' TO b1 b2) → St1 (i + 1) h' → St2 (i + 1) h' → IsTupOf2 h' s.heap.objs.size x1 x2 → h'.objs.size = s.heap.objs.size + 1 →
      (∀ c o, c ≠ z → c ≠ TO → c ≠ i1 → c ≠ i2 → s.heap.get? c = some o → h'.get? c = some o) → Q (some (.ref s.heap.objs.size)) { s with heap := h', toks := tk }) :
    wpAny (model prog w) A (pyNext (.ref z)) Q E s := by
  have hT : s.TypeIs (.ref z) "zip" := ⟨_, hz, rfl⟩
  unfold pyNext
  exact wpAny_bind (wpAny_attempt (wpAny_callSpecial?_slot (name := Str.ofString "__next__") hT F.slot_zip_next
    (wpAny_call_entry F.slot_zip_next hT F.entry_zip_next
      (zn_item S D1 D2 hz ho hTI hTO st1 st2 hlt1 hlt2 fun x1 x2 h' tk f0' f' y1 y2 b1 b2 d1 d2 b5 b6 b7 b8 => wpAny_pure (hQ x1 x2 h' tk f0' f' y1 y2 b1 b2 d1 d2 b5 b6 b7 b8)) (F.args_zip_next_1 _))))
theorem zn_stop {Q : Option Value → Shared → Prop} (S : ZipSep2 z TI TO i1 i2 fp1 fp2) (D1 : Draws prog w A.in1 i1 fp1 n1 P1 St1) (D2 : Draws prog w A.in1 i2 fp2 n2 P2 St2)
    (hz : IsZ s.heap z TI TO f0 f) (ho : OutF f0) (hTI : IsTupOf2 s.heap TI (.ref i1) (.ref i2)) (hTO : IsTupOf2 s.heap TO a1 a2) (st1 : St1 i s.heap) (st2 : St2 i s.heap) (hle1 : i ≤ n1) (hle2 : i ≤ n2) (hend : i = n1 ∨ i = n2)
    (hQ : ∀ h' tk, (∀ c o, c ≠ z → c ≠ TO → c ≠ i1 → c ≠ i2 → s.heap.get? c = some o → h'.get? c = some o) → Q none { s with heap := h', toks := tk }) : wpAny (model prog w) A (pyNext (.ref z)) Q E s := by
  have hT : s.TypeIs (.ref z) "zip" := ⟨_, hz, rfl⟩
  unfold pyNext
  refine wpAny_bind (wpAny_attempt (wpAny_callSpecial?_slot (name := Str.ofString "__next__") hT F.slot_zip_next
    (wpAny_call_entry F.slot_zip_next hT F.entry_zip_next (zn_end S D1 D2 hz ho hTI hTO st1 st2 hle1 hle2 hend fun h' tk e hk he => ?_) (F.args_zip_next_1 _))))
  obtain ⟨o, ho', hc⟩ := he
  refine wpAny_bind (wpAny_isInstance (T := "StopIteration") (b := true) ⟨o, ho', hc⟩ isSubtype_stop ?_)
  exact wpAny_pure (hQ _ _ hk)
theorem zn_iter {Q : Value → Shared → Prop} (hz : IsZ s.heap z TI TO f0 f) (h : Q (.ref z) s) : wpAny (model prog w) A (pyIter (.ref z)) Q E s := by
  have hT : s.TypeIs (.ref z) "zip" := ⟨_, hz, rfl⟩
  refine wpAny_pyIter_slot hT F.slot_zip_iter (wpAny_call_entry F.slot_zip_iter hT F.entry_zip_iter ?_ (F.args_zip_iter_1 _))
  show wpAny _ _ (ret (.ref z)) _ _ s
  exact wpAny_pure ⟨_, rfl, "zip", _, hT, F.slot_zip_next.lookup, h⟩
end
theorem turn_zipN {P : Program} {w : World} {K : PySem.W.Frag} {y : Str} {tpos : Pos} {k1 k2 : ZK} {v1 v2 : V} {z TI TO i1 i2 : Addr} (D : ZipSep2 z TI TO i1 i2 (i1 :: adK k1 v1) (i2 :: adK k2 v2)) :
    Turn P w K (.Name y tpos) (Itx K k1 k2 v1 v2) [z, TI, TO, i1, i2] z (fun i h => (∃ f0 f, OutF f0 ∧ IsZ h z TI TO f0 f) ∧ IsTupOf2 h TI (.ref i1) (.ref i2) ∧ (∃ x y, IsTupOf2 h TO x y) ∧ ItK k1 v1 i1 i h ∧ ItK k2 v2 i2 i h) where
  mem := by simp
  obj := fun i h st c hc => by
    obtain ⟨⟨f0, f, ho, hz⟩, hTI, ⟨x, y, hTO⟩, h1, h2⟩ := st
    have e' : c = z ∨ c = TI ∨ c = TO ∨ c = i1 ∨ c = i2 := by simpa using hc
    rcases e' with q | q | q | q | q
    · rw [q]; exact ⟨_, hz, fun v q => nomatch q⟩
    · rw [q]; exact ⟨_, hTI, fun v q => nomatch q⟩
    · rw [q]; exact ⟨_, hTO, fun v q => nomatch q⟩
    · rw [q]; exact h1.obj
    · rw [q]; exact h2.obj
  keep := fun i h h' st k => by
    obtain ⟨⟨f0, f, ho, hz⟩, hTI, ⟨x, y, hTO⟩, h1, h2⟩ := st
    exact ⟨⟨f0, f, ho, k z (by simp) _ hz⟩, k TI (by simp) _ hTI, ⟨x, y, k TO (by simp) _ hTO⟩, h1.keep fun o q => k i1 (by simp) o q, h2.keep fun o q => k i2 (by simp) o q⟩
  item := by
    intro X hP hw hK hc i pins s σ H E I hf st hg
    subst hP hw hK
    obtain ⟨⟨f0, f, ho, hz⟩, hTI, ⟨x0, y0, hTO⟩, h1, h2⟩ := st
    obtain ⟨xs, ys, x, y, hqx, hqy, hx, hy⟩ := hg
    obtain ⟨P1, St1, D1, st1, hP1, hS1⟩ := src_draws (A := X.A.in1) I (I.ok.hd hc) hqx h1
    obtain ⟨P2, St2, D2, st2, hP2, hS2⟩ := src_draws (A := X.A.in1) I (I.ok.hd hc) hqy h2
    have hzl : z < s.heap.objs.size := Heap.lt_size hz
    refine zn_next D D1 D2 hz ho hTI hTO st1 st2 (List.getElem?_eq_some_iff.mp hx).1 (List.getElem?_eq_some_iff.mp hy).1 fun u u2 h' tk f0' f' p1 p2 z' ho' TO' h1' h2' hT hsz hk => ?_
    obtain ⟨x', hx', ru⟩ := hP1 i u p1
    obtain ⟨y', hy', ru2⟩ := hP2 i u2 p2
    obtain rfl : x = x' := Option.some.inj (hx.symm.trans hx')
    obtain rfl : y = y' := Option.some.inj (hy.symm.trans hy')
    refine ⟨_, rfl, ?_⟩
    show wpAny _ _ (pure ()) _ _ _
    refine wpAny_pure ?_
    have new : ObjOk X.prog X.w (upd H s.heap.objs.size (.tup [x, y])) h' s.heap.objs.size (.tup [x, y]) :=
      ⟨by show 2 ≤ sizeLine; decide, [u, u2], .cons ru (.cons ru2 .nil), ⟨_, hT, rfl, _, rfl⟩⟩
    have I1 : Inv X pins σ (upd H s.heap.objs.size (.tup [x, y])) { s with heap := h', toks := tk } :=
      I.turnedNew (t' := tk) (ch := [z, TI, TO, i1, i2]) (fun c o hb q => hk c o (fun q' => hb (by simp [q'])) (fun q' => hb (by simp [q'])) (fun q' => hb (by simp [q'])) (fun q' => hb (by simp [q'])) q) hf (Nat.le_refl _) new
    refine ⟨.ref s.heap.objs.size, _, I1, rfl, ⟨_, x, y, rfl, I.hok.fresh (Nat.le_refl _), rfl, fun l hl => by rw [SrcK.inj I hl hqx]; exact hx, fun l hl => by rw [SrcK.inj I hl hqy]; exact hy⟩, ⟨⟨f0', f', ho', z'⟩, hk _ _ D.TIz D.TITO D.TIi1 D.TIi2 hTI, TO', hS1 _ _ h1', hS2 _ _ h2'⟩, fun c hcm => ?_⟩
    have hlt : c < s.heap.objs.size := by
      have e' : c = z ∨ c = TI ∨ c = TO ∨ c = i1 ∨ c = i2 := by simpa using hcm
      rcases e' with q | q | q | q | q
      · rw [q]; exact hzl
      · rw [q]; exact Heap.lt_size hTI
      · rw [q]; exact Heap.lt_size hTO
      · rw [q]; obtain ⟨_, e1, _⟩ := h1.obj; exact Heap.lt_size e1
      · rw [q]; obtain ⟨_, e2, _⟩ := h2.obj; exact Heap.lt_size e2
    rw [upd_ne (Nat.ne_of_lt hlt)]
    exact (hf c hcm).1
  done := by
    intro X hP hw hK hc i pins s σ H E I hf st hg
    subst hP hw hK
    obtain ⟨⟨f0, f, ho, hz⟩, hTI, ⟨x0, y0, hTO⟩, h1, h2⟩ := st
    obtain ⟨xs, ys, hqx, hqy, hend⟩ := hg
    obtain ⟨P1, St1, D1, st1, hP1, hS1⟩ := src_draws (A := X.A.in1) I (I.ok.hd hc) hqx h1
    obtain ⟨P2, St2, D2, st2, hP2, hS2⟩ := src_draws (A := X.A.in1) I (I.ok.hd hc) hqy h2
    exact zn_stop D D1 D2 hz ho hTI hTO st1 st2 (by omega) (by omega) (by omega) fun h' tk hk => ⟨rfl, I.turnedL (t' := tk) (ch := [z, TI, TO, i1, i2]) (fun c o hb q =>
      hk c o (fun q' => hb (by simp [q'])) (fun q' => hb (by simp [q'])) (fun q' => hb (by simp [q'])) (fun q' => hb (by simp [q'])) q) hf⟩
  self := fun A i s Q E st h => by
    obtain ⟨⟨f0, f, ho, hz⟩, _⟩ := st
    exact zn_iter hz h
theorem pi_zipN {X : Cx} {e e2 : Expr} {ta : TA} {y : Str} {p pos tpos : Pos} {K : PySem.W.Frag} (hg : Gl X "zip") (hm : X.mg "zip" = none) (ha : PA X [e, e2] ta)
    (hs : starEach [e, e2] X.env = (false, eval e X.env) :: starEach [e2] X.env := by rfl) (hpl : (backTo pos (starEach [e2] X.env)).any (·.1) = false := by rfl) (hK : X.K = K := by rfl) :
    PI X (.Name y tpos) (.Call (.Name "zip" p) [e, e2] [] pos) (iZipX K ta) := by
  subst hK
  refine ⟨fun pins s σ H R I h => ?_⟩
  refine Call_ (ld_blt I hg hm PyProof.Rows.boot_zip (PyProof.Rows.callWith_type1 (thn (ha.run pos pins s σ H _ I h) fun us s1 ⟨vs, H1, I1, r1, q1⟩ => ?_) hs hpl))
  obtain ⟨k1, k2, v1, v2, xs, ys, ex, hq1, hq2, q⟩ := q1
  subst ex
  cases r1 with
  | cons r rr =>
    cases rr with
    | cons r' rr =>
      cases rr
      obtain ⟨o1, Hh1, B1, hb1, hi1, ha1⟩ := src_begins I1 hq1 r
      obtain ⟨o2, Hh2, B2, hb2, hi2, ha2⟩ := src_begins I1 hq2 r'
      have fresh5 : ∀ c, c ∈ [s1.heap.objs.size + 4, s1.heap.objs.size + 2, s1.heap.objs.size + 3, s1.heap.objs.size, s1.heap.objs.size + 1] → FpOk X pins H1 c := fun c hcm => by
        have e' : c = s1.heap.objs.size + 4 ∨ c = s1.heap.objs.size + 2 ∨ c = s1.heap.objs.size + 3 ∨ c = s1.heap.objs.size ∨ c = s1.heap.objs.size + 1 := by simpa using hcm
        have hle : s1.heap.objs.size ≤ c := by
          rcases e' with z | z | z | z | z
          · rw [z]; exact Nat.le_add_right _ _
          · rw [z]; exact Nat.le_add_right _ _
          · rw [z]; exact Nat.le_add_right _ _
          · rw [z]; exact Nat.le_refl _
          · rw [z]; exact Nat.le_add_right _ _
        exact I1.fpOk hle (I1.hok.fresh hle)
      refine zip_begins2 B1 B2 hb1 hb2 fun h' hz hTI hTO h1 h2 hsz hk => wpAny_pyIter_zip hz ?_
      have I2 : Inv X pins σ H1 { s1 with heap := h' } := I1.kept (t' := s1.toks) hk
      exact ⟨s1.heap.objs.size + 4, [s1.heap.objs.size + 4, s1.heap.objs.size + 2, s1.heap.objs.size + 3, s1.heap.objs.size, s1.heap.objs.size + 1], _, _, H1, rfl, I2, turn_zipN (zip_sep2 ha1 ha2), ⟨⟨.none, false, .inl rfl, hz⟩, hTI, ⟨_, _, hTO⟩, hi1 _ _ h1, hi2 _ _ h2⟩, fresh5, q⟩
end RZ
namespace J
open PySem PySem.Spec PyProof.Rows L2 Evl RZ
section
variable {r : Rs} {s : L2.St} {S : Hp} {ta tb : TE} {K : PySem.W.Frag} {α β : Type}
/-- zip(list, list) over the wide rule -/
theorem ei_zipXL {ys : List α} {zs : List β} {X : Rl α} {X' : Rl β} [Mono X] [Mono X'] (h : EvS r ta s S fun v S1 => LstR X ys v S1) (h2 : ∀ S1, Ex S S1 → EvS r tb s S1 fun v S2 => LstR X' zs v S2) : EvI r (iZipX K (tCons ta (tCons tb tNil))) s S (ys.zip zs) (PairR K X X') := fun S1 H a w R q =>
  h S1 H a w _ fun u S2 H2 w2 s2 ⟨b1, us, eu, hu1, hu⟩ => h2 S2 (a.trans s2.ex) S2 H2 (Ex.refl _) w2 _ fun v S3 H3 w3 s3 ⟨b, vs, ev, hb, hv⟩ => by
    subst eu
    subst ev
    have hl := hv.len
    have hul := hu.len
    have hu3 := hu.up s3.ex
    have sq1 : ∀ {H : Hp}, Ex S3 H → SqL K H b1 us := fun e => ex_l e (SqL.of (s3.ex _ _ hu1))
    have sq : ∀ {H : Hp}, Ex S3 H → SqL K H b vs := fun e => ex_l e (SqL.of hb)
    refine ⟨.lst, .lst, .ref b1, .ref b, us, vs, rfl, ⟨b1, rfl, sq1 w3.ex⟩, ⟨b, rfl, sq w3.ex⟩, q (Itx K .lst .lst (.ref b1) (.ref b)) S3 H3 (fun H => SqL K H b1 us ∧ SqL K H b vs) (fun i H v H' => ∃ T x y, v = .ref T ∧ H T = none ∧ H' = upd H T (.tup [x, y]) ∧ us[i]? = some x ∧ vs[i]? = some y) w3 (s2.trans s3) ⟨fun i H hi g => ?_, fun H g => ?_, fun i H v H' hi g y => ?_⟩ (fun S' H' e w' => ⟨sq1 (e.trans w'.ex), sq (e.trans w'.ex)⟩) fun i S' H' v H'' hi e w' ⟨T, x, y, e4, e5, e6, e7, e8⟩ => ?_⟩
    · rw [List.length_zip] at hi
      exact ⟨us, vs, _, _, ⟨b1, rfl, g.1⟩, ⟨b, rfl, g.2⟩, List.getElem?_eq_getElem (show i < us.length by omega), List.getElem?_eq_getElem (show i < vs.length by omega)⟩
    · exact ⟨us, vs, ⟨b1, rfl, g.1⟩, ⟨b, rfl, g.2⟩, by rw [List.length_zip, hul, hl]⟩
    · obtain ⟨T, x, y', h1, h2, h3, h4, h5⟩ := y
      exact ⟨T, x, y', h1, h2, h3, h4 _ ⟨b1, rfl, g.1⟩, h5 _ ⟨b, rfl, g.2⟩⟩
    · obtain ⟨x', h1, h2⟩ := (hu3.up e).get e7
      obtain ⟨y', h1', h2'⟩ := (hv.up e).get e8
      subst e6
      exact ⟨_, _, zip_get h1 h1', w'.newS e5, Stp.newS w' e5, T, _, _, e4, SqT.of upd_same, Mono.up (Ex.new (w'.fresh e5)) h2, Mono.up (Ex.new (w'.fresh e5)) h2'⟩
end
end J

set_option pp.maxSteps 3000
/-! J81: how often a sign stands in a text; zip of a text and two tuples. -/
namespace RZ
open PySem PySem.Spec PyProof.Rows L2
open PySem.StrLaws in
theorem occ_size (x : Str) (c : Nat) : ∀ n i (st : Array Nat × Nat), st.fst.size ≤ i → st.snd ≤ i → i + n = x.length + 1 → (forIn (List.range' i n) st (occBody x ⟨#[c]⟩ x.length (x.length + 1))).run.fst.size = st.fst.size + (x.cps.toList.drop i).count c
  | 0, i, st, _, _, e => by
    rw [List.drop_eq_nil_of_le (by rw [Array.length_toList]; show x.length ≤ i; omega)]
    rfl
  | n + 1, i, st, h1, h2, e => by
    have hlen : x.cps.toList.length = x.length := Array.length_toList
    rw [List.range'_succ, List.forIn_cons]
    unfold occBody
    by_cases h : x.cps.toList[i]? = some c
    · have hs := (subAt_one x c i).mpr h
      have hd : x.cps.toList.drop i = c :: x.cps.toList.drop (i + 1) := by
        obtain ⟨h1, h2⟩ := List.getElem?_eq_some_iff.mp h
        rw [← h2, List.getElem_cons_drop]
      have hc : ((st.fst.size < x.length + 1 ∧ st.snd ≤ i) ∧ i + (⟨#[c]⟩ : Str).length ≤ x.length) ∧ Builtin.Str.subAt x ⟨#[c]⟩ i = true := ⟨⟨⟨by omega, h2⟩, hs.1⟩, hs.2⟩
      rw [if_pos hc, hd, List.count_cons_self]
      show (forIn (List.range' (i + 1) n) (st.fst.push i, i + (⟨#[c]⟩ : Str).length) (occBody x ⟨#[c]⟩ x.length (x.length + 1))).run.fst.size = _
      rw [occ_size x c n (i + 1) (st.fst.push i, i + (⟨#[c]⟩ : Str).length) (by rw [Array.size_push]; omega) (by show i + 1 ≤ i + 1; omega) (by omega), Array.size_push]
      omega
    · have hc : ¬ (((st.fst.size < x.length + 1 ∧ st.snd ≤ i) ∧ i + (⟨#[c]⟩ : Str).length ≤ x.length) ∧ Builtin.Str.subAt x ⟨#[c]⟩ i = true) := fun z => h ((subAt_one x c i).mp ⟨z.1.2, z.2⟩)
      rw [if_neg hc]
      show (forIn (List.range' (i + 1) n) (st.fst, st.snd) (occBody x ⟨#[c]⟩ x.length (x.length + 1))).run.fst.size = _
      rw [occ_size x c n (i + 1) (st.fst, st.snd) (show st.fst.size ≤ i + 1 by omega) (show st.snd ≤ i + 1 by omega) (by omega)]
      by_cases hi : i < x.cps.toList.length
      · rw [← List.getElem_cons_drop (h := hi), List.count_cons_of_ne fun z => h (by rw [List.getElem?_eq_getElem hi, z])]
      · rw [List.drop_eq_nil_of_le (by omega), List.drop_eq_nil_of_le (by omega)]
theorem count_one (x : Str) (c : Nat) : PySem.Txt.count x ⟨#[c]⟩ = ((x.cps.toList.count c : Nat) : Int) := by
  show (((Builtin.Str.occurrences x ⟨#[c]⟩ 0 x.length (x.length + 1)).length : Nat) : Int) = _
  rw [PySem.StrLaws.occ_eq, Array.length_toList]
  have := occ_size x c (x.length + 1) 0 (#[], 0) (Nat.le_refl _) (Nat.le_refl _) (by omega)
  rw [show x.length + 1 - 0 = x.length + 1 from rfl, this]
  show ((0 + (x.cps.toList.drop 0).count c : Nat) : Int) = _
  rw [Nat.zero_add, List.drop_zero]
/-! zip of three -/
def Itx3 (K : PySem.W.Frag) (k1 k2 k3 : ZK) (v1 v2 v3 : V) : It :=
  ⟨fun i H => ∃ (xs ys zs : List V) (x y z : V), SrcK K H k1 v1 xs ∧ SrcK K H k2 v2 ys ∧ SrcK K H k3 v3 zs ∧ xs[i]? = some x ∧ ys[i]? = some y ∧ zs[i]? = some z,
    fun i H v H' => ∃ T x y z, v = .ref T ∧ H T = none ∧ H' = upd H T (.tup [x, y, z]) ∧ (∀ xs, SrcK K H k1 v1 xs → xs[i]? = some x) ∧ (∀ ys, SrcK K H k2 v2 ys → ys[i]? = some y) ∧ ∀ zs, SrcK K H k3 v3 zs → zs[i]? = some z,
    fun i H => ∃ xs ys zs : List V, SrcK K H k1 v1 xs ∧ SrcK K H k2 v2 ys ∧ SrcK K H k3 v3 zs ∧ i = min (min xs.length ys.length) zs.length⟩
theorem turn_zip3 {P : Program} {w : World} {K : PySem.W.Frag} {elts : List Expr} {kk : Nat} {tpos : Pos} {k1 k2 k3 : ZK} {v1 v2 v3 : V} {z TI TO i1 i2 i3 : Addr} (D : ZipSep3 z TI TO i1 i2 i3 (i1 :: adK k1 v1) (i2 :: adK k2 v2) (i3 :: adK k3 v3)) :
    Turn P w K (.Tuple elts kk tpos) (Itx3 K k1 k2 k3 v1 v2 v3) [z, TI, TO, i1, i2, i3] z (fun i h => IsZip h z TI TO .none ∧ IsTupOf3 h TI (.ref i1) (.ref i2) (.ref i3) ∧ (∃ x y u, IsTupOf3 h TO x y u) ∧ ItK k1 v1 i1 i h ∧ ItK k2 v2 i2 i h ∧ ItK k3 v3 i3 i h) where
  mem := by simp
  obj := fun i h st c hc => by
    obtain ⟨hz, hTI, ⟨x, y, u, hTO⟩, h1, h2, h3⟩ := st
    have e' : c = z ∨ c = TI ∨ c = TO ∨ c = i1 ∨ c = i2 ∨ c = i3 := by simpa using hc
    rcases e' with q | q | q | q | q | q
    · rw [q]; exact ⟨_, hz, fun v q => nomatch q⟩
    · rw [q]; exact ⟨_, hTI, fun v q => nomatch q⟩
    · rw [q]; exact ⟨_, hTO, fun v q => nomatch q⟩
    · rw [q]; exact h1.obj
    · rw [q]; exact h2.obj
    · rw [q]; exact h3.obj
  keep := fun i h h' st k => by
    obtain ⟨hz, hTI, ⟨x, y, u, hTO⟩, h1, h2, h3⟩ := st
    exact ⟨k z (by simp) _ hz, k TI (by simp) _ hTI, ⟨x, y, u, k TO (by simp) _ hTO⟩, h1.keep fun o q => k i1 (by simp) o q, h2.keep fun o q => k i2 (by simp) o q, h3.keep fun o q => k i3 (by simp) o q⟩
  item := by
    intro X hP hw hK hc i pins s σ H E I hf st hg
    subst hP hw hK
    obtain ⟨hz, hTI, ⟨x0, y0, u0, hTO⟩, h1, h2, h3⟩ := st
    obtain ⟨xs, ys, zs, x, y, t, hqx, hqy, hqz, hx, hy, ht⟩ := hg
    obtain ⟨P1, St1, D1, st1, hP1, hS1⟩ := src_draws (A := X.A.in1) I (I.ok.hd hc) hqx h1
    obtain ⟨P2, St2, D2, st2, hP2, hS2⟩ := src_draws (A := X.A.in1) I (I.ok.hd hc) hqy h2
    obtain ⟨P3, St3, D3, st3, hP3, hS3⟩ := src_draws (A := X.A.in1) I (I.ok.hd hc) hqz h3
    have hzl : z < s.heap.objs.size := Heap.lt_size hz
    refine wpAny_pyNext_zipD3_item D D1 D2 D3 hz hTI hTO st1 st2 st3 (List.getElem?_eq_some_iff.mp hx).1 (List.getElem?_eq_some_iff.mp hy).1 (List.getElem?_eq_some_iff.mp ht).1 fun u u2 u3 h' tk p1 p2 p3 z' TO' h1' h2' h3' hT hsz hk => ?_
    obtain ⟨x', hx', ru⟩ := hP1 i u p1
    obtain ⟨y', hy', ru2⟩ := hP2 i u2 p2
    obtain ⟨t', ht', ru3⟩ := hP3 i u3 p3
    obtain rfl : x = x' := Option.some.inj (hx.symm.trans hx')
    obtain rfl : y = y' := Option.some.inj (hy.symm.trans hy')
    obtain rfl : t = t' := Option.some.inj (ht.symm.trans ht')
    refine ⟨_, rfl, wpAny_letOwnedTupleGo_zip (s := { s with heap := h', toks := tk }) z' fun h'' z'' sb => ?_⟩
    have hT2 : h''.get? s.heap.objs.size = some { cls := .type "tuple", data := .seq #[u, u2, u3] } := (sb.2 _ (Nat.ne_of_gt hzl)).trans hT
    have new : ObjOk X.prog X.w (upd H s.heap.objs.size (.tup [x, y, t])) h'' s.heap.objs.size (.tup [x, y, t]) :=
      ⟨by show 3 ≤ sizeLine; decide, [u, u2, u3], .cons ru (.cons ru2 (.cons ru3 .nil)), ⟨_, hT2, rfl, _, rfl⟩⟩
    have I1 : Inv X pins σ (upd H s.heap.objs.size (.tup [x, y, t])) { s with heap := h'', toks := tk } :=
      I.turnedNew (t' := tk) (ch := [z, TI, TO, i1, i2, i3]) (fun c o hb q => (sb.2 c (fun q' => hb (by simp [q']))).trans (hk c o (fun q' => hb (by simp [q'])) (fun q' => hb (by simp [q'])) (fun q' => hb (by simp [q'])) (fun q' => hb (by simp [q'])) (fun q' => hb (by simp [q'])) q)) hf (Nat.le_refl _) new
    refine ⟨.ref s.heap.objs.size, _, I1, rfl, ⟨_, x, y, t, rfl, I.hok.fresh (Nat.le_refl _), rfl, fun l hl => by rw [SrcK.inj I hl hqx]; exact hx, fun l hl => by rw [SrcK.inj I hl hqy]; exact hy, fun l hl => by rw [SrcK.inj I hl hqz]; exact ht⟩, ⟨z'', ?_, ⟨u, u2, u3, ?_⟩, ?_, ?_, ?_⟩, fun c hcm => ?_⟩
    · exact (sb.2 _ D.TIz).trans (hk _ _ D.TIz D.TITO D.TIi1 D.TIi2 D.TIi3 hTI)
    · exact (sb.2 _ D.TOz).trans TO'
    · exact (hS1 _ _ h1').keep fun o q => (sb.2 _ D.zi1.symm).trans q
    · exact (hS2 _ _ h2').keep fun o q => (sb.2 _ D.zi2.symm).trans q
    · exact (hS3 _ _ h3').keep fun o q => (sb.2 _ D.zi3.symm).trans q
    · have hlt : c < s.heap.objs.size := by
        have e' : c = z ∨ c = TI ∨ c = TO ∨ c = i1 ∨ c = i2 ∨ c = i3 := by simpa using hcm
        rcases e' with q | q | q | q | q | q
        · rw [q]; exact hzl
        · rw [q]; exact Heap.lt_size hTI
        · rw [q]; exact Heap.lt_size hTO
        · rw [q]; obtain ⟨_, e1, _⟩ := h1.obj; exact Heap.lt_size e1
        · rw [q]; obtain ⟨_, e2, _⟩ := h2.obj; exact Heap.lt_size e2
        · rw [q]; obtain ⟨_, e3, _⟩ := h3.obj; exact Heap.lt_size e3
      rw [upd_ne (Nat.ne_of_lt hlt)]
      exact (hf c hcm).1
  done := by
    intro X hP hw hK hc i pins s σ H E I hf st hg
    subst hP hw hK
    obtain ⟨hz, hTI, ⟨x0, y0, u0, hTO⟩, h1, h2, h3⟩ := st
    obtain ⟨xs, ys, zs, hqx, hqy, hqz, hend⟩ := hg
    obtain ⟨P1, St1, D1, st1, hP1, hS1⟩ := src_draws (A := X.A.in1) I (I.ok.hd hc) hqx h1
    obtain ⟨P2, St2, D2, st2, hP2, hS2⟩ := src_draws (A := X.A.in1) I (I.ok.hd hc) hqy h2
    obtain ⟨P3, St3, D3, st3, hP3, hS3⟩ := src_draws (A := X.A.in1) I (I.ok.hd hc) hqz h3
    exact wpAny_pyNext_zipD3_end D D1 D2 D3 hz hTI hTO st1 st2 st3 (by omega) (by omega) (by omega) (by omega) fun h' tk hk => ⟨rfl, I.turnedL (t' := tk) (ch := [z, TI, TO, i1, i2, i3]) (fun c o hb q =>
      hk c o (fun q' => hb (by simp [q'])) (fun q' => hb (by simp [q'])) (fun q' => hb (by simp [q'])) (fun q' => hb (by simp [q'])) (fun q' => hb (by simp [q'])) q) hf⟩
  self := fun A i s Q E st h => wpAny_pyIter_zip st.1 h
def iZip3 (K : PySem.W.Frag) (ta : TA) : TI := fun σ H R => ta σ H fun vs H1 => ∃ k1 k2 k3 v1 v2 v3 xs ys zs, vs = [v1, v2, v3] ∧ SrcK K H1 k1 v1 xs ∧ SrcK K H1 k2 v2 ys ∧ SrcK K H1 k3 v3 zs ∧ R (Itx3 K k1 k2 k3 v1 v2 v3) H1
theorem pi_zip3 {X : Cx} {e e2 e3 : Expr} {ta : TA} {p pos tpos : Pos} {elts : List Expr} {kk : Nat} {K : PySem.W.Frag} (hg : Gl X "zip") (hm : X.mg "zip" = none) (ha : PA X [e, e2, e3] ta)
    (hs : starEach [e, e2, e3] X.env = (false, eval e X.env) :: starEach [e2, e3] X.env := by rfl) (hpl : (backTo pos (starEach [e2, e3] X.env)).any (·.1) = false := by rfl) (hK : X.K = K := by rfl) :
    PI X (.Tuple elts kk tpos) (.Call (.Name "zip" p) [e, e2, e3] [] pos) (iZip3 K ta) := by
  subst hK
  refine ⟨fun pins s σ H R I h => ?_⟩
  refine Call_ (ld_blt I hg hm PyProof.Rows.boot_zip (PyProof.Rows.callWith_type1 (thn (ha.run pos pins s σ H _ I h) fun us s1 ⟨vs, H1, I1, r1, q1⟩ => ?_) hs hpl))
  obtain ⟨k1, k2, k3, v1, v2, v3, xs, ys, zs, ex, hq1, hq2, hq3, q⟩ := q1
  subst ex
  cases r1 with
  | cons r rr =>
    cases rr with
    | cons r' rr =>
      cases rr with
      | cons r'' rr =>
        cases rr
        obtain ⟨o1, Hh1, B1, hb1, hi1, ha1⟩ := src_begins I1 hq1 r
        obtain ⟨o2, Hh2, B2, hb2, hi2, ha2⟩ := src_begins I1 hq2 r'
        obtain ⟨o3, Hh3, B3, hb3, hi3, ha3⟩ := src_begins I1 hq3 r''
        have fresh6 : ∀ c, c ∈ [s1.heap.objs.size + 5, s1.heap.objs.size + 3, s1.heap.objs.size + 4, s1.heap.objs.size, s1.heap.objs.size + 1, s1.heap.objs.size + 2] → FpOk X pins H1 c := fun c hcm => by
          have e' : c = s1.heap.objs.size + 5 ∨ c = s1.heap.objs.size + 3 ∨ c = s1.heap.objs.size + 4 ∨ c = s1.heap.objs.size ∨ c = s1.heap.objs.size + 1 ∨ c = s1.heap.objs.size + 2 := by simpa using hcm
          have hle : s1.heap.objs.size ≤ c := by
            rcases e' with z | z | z | z | z | z
            · rw [z]; exact Nat.le_add_right _ _
            · rw [z]; exact Nat.le_add_right _ _
            · rw [z]; exact Nat.le_add_right _ _
            · rw [z]; exact Nat.le_refl _
            · rw [z]; exact Nat.le_add_right _ _
            · rw [z]; exact Nat.le_add_right _ _
          exact I1.fpOk hle (I1.hok.fresh hle)
        refine zip_begins3 B1 B2 B3 hb1 hb2 hb3 fun h' hz hTI hTO h1 h2 h3 hsz hk => wpAny_pyIter_zip hz ?_
        have I2 : Inv X pins σ H1 { s1 with heap := h' } := I1.kept (t' := s1.toks) hk
        exact ⟨s1.heap.objs.size + 5, [s1.heap.objs.size + 5, s1.heap.objs.size + 3, s1.heap.objs.size + 4, s1.heap.objs.size, s1.heap.objs.size + 1, s1.heap.objs.size + 2], _, _, H1, rfl, I2, turn_zip3 (zip_sep3 ha1 ha2 ha3), ⟨hz, hTI, ⟨_, _, _, hTO⟩, hi1 _ _ h1, hi2 _ _ h2, hi3 _ _ h3⟩, fresh6, q⟩
end RZ
namespace J
open PySem PySem.Spec PyProof.Rows L2 Evl RZ
def rSCount : V → List V → Hp → VK → Prop := fun x xs H Q => ∃ a b, x = .str a ∧ xs = [.str b] ∧ Q (.int (PySem.Txt.count a b)) H
section
variable {r : Rs} {s : L2.St} {S : Hp} {ta tb tc : TE} {K : PySem.W.Frag} {β γ : Type}
/-- text.count(sign) -/
theorem vv_countS {z : Str} {c : Nat} (h : EvV r ta s S (.str z)) (h2 : EvV r tb s S (.str ⟨#[c]⟩)) : EvV r (tBM K "str" rSCount ta (tCons tb tNil)) s S (.int ((z.cps.toList.count c : Nat) : Int)) := fun S1 H e w Q q =>
  h S1 H e w _ fun x S2 H2 w2 s2 ex => by
    subst ex
    refine ⟨rfl, (va_cons h2 va_nil : EvAV r (tCons tb tNil) s S _) S2 H2 (e.trans s2.ex) w2 _ fun us S3 H3 w3 s3 eu => ?_⟩
    subst eu
    exact ⟨_, _, rfl, rfl, by rw [count_one]; exact q _ S3 H3 w3 (s2.trans s3) rfl⟩
/-- zip(text, tuple, tuple) -/
theorem ei_zipSTT {z : Str} {ys : List β} {zs : List γ} {X' : Rl β} {X'' : Rl γ} [Mono X'] [Mono X''] (h : EvV r ta s S (.str z)) (h2 : ∀ S1, Ex S S1 → EvS r tb s S1 fun v S2 => TupR K X' ys v S2) (h3 : ∀ S1, Ex S S1 → EvS r tc s S1 fun v S2 => TupR K X'' zs v S2) :
    EvI r (iZip3 K (tCons ta (tCons tb (tCons tc tNil)))) s S (z.cps.toList.zip (ys.zip zs)) (TripR K SignR X' X'') := fun S1 H a w R q =>
  h S1 H a w _ fun u S2 H2 w2 s2 eu => h2 S2 (a.trans s2.ex) S2 H2 (Ex.refl _) w2 _ fun v S3 H3 w3 s3 ⟨b, vs, ev, hb, hv⟩ => h3 S3 (a.trans (s2.ex.trans s3.ex)) S3 H3 (Ex.refl _) w3 _ fun v' S4 H4 w4 s4 ⟨b', vs', ev', hb', hv'⟩ => by
    subst eu
    subst ev
    subst ev'
    have hl := hv.len
    have hl' := hv'.len
    have hv4 := hv.up s4.ex
    have sq : ∀ {H : Hp}, Ex S4 H → SqT K H b vs := fun e => ex_t (s4.ex.trans e) hb
    have sq' : ∀ {H : Hp}, Ex S4 H → SqT K H b' vs' := fun e => ex_t e hb'
    refine ⟨.txt, .tup, .tup, .str z, .ref b, .ref b', _, vs, vs', rfl, ⟨z, rfl, rfl⟩, ⟨b, rfl, sq w4.ex⟩, ⟨b', rfl, sq' w4.ex⟩, q (Itx3 K .txt .tup .tup (.str z) (.ref b) (.ref b')) S4 H4 (fun H => SqT K H b vs ∧ SqT K H b' vs') (fun i H v H' => ∃ T x y t, v = .ref T ∧ H T = none ∧ H' = upd H T (.tup [x, y, t]) ∧ (z.cps.toList.map fun c => V.str ⟨#[c]⟩)[i]? = some x ∧ vs[i]? = some y ∧ vs'[i]? = some t) w4 (s2.trans (s3.trans s4)) ⟨fun i H hi g => ?_, fun H g => ?_, fun i H v H' hi g y => ?_⟩ (fun S' H' e w' => ⟨sq (e.trans w'.ex), sq' (e.trans w'.ex)⟩) fun i S' H' v H'' hi e w' ⟨T, x, y, t, e4, e5, e6, e7, e8, e9⟩ => ?_⟩
    · rw [List.length_zip, List.length_zip] at hi
      have h1 : i < (z.cps.toList.map fun c => V.str ⟨#[c]⟩).length := by rw [List.length_map]; omega
      exact ⟨_, vs, vs', _, _, _, ⟨z, rfl, rfl⟩, ⟨b, rfl, g.1⟩, ⟨b', rfl, g.2⟩, List.getElem?_eq_getElem h1, List.getElem?_eq_getElem (show i < vs.length by omega), List.getElem?_eq_getElem (show i < vs'.length by omega)⟩
    · exact ⟨_, vs, vs', ⟨z, rfl, rfl⟩, ⟨b, rfl, g.1⟩, ⟨b', rfl, g.2⟩, by rw [List.length_zip, List.length_zip, List.length_map, hl, hl']; omega⟩
    · obtain ⟨T, x, y', t, h1, h2, h3, h4, h5, h6⟩ := y
      exact ⟨T, x, y', t, h1, h2, h3, h4 _ ⟨z, rfl, rfl⟩, h5 _ ⟨b, rfl, g.1⟩, h6 _ ⟨b', rfl, g.2⟩⟩
    · obtain ⟨c, hc, ex⟩ := sign_at e7
      obtain ⟨y', h1', h2'⟩ := (hv4.up e).get e8
      obtain ⟨t', g1', g2'⟩ := (hv'.up e).get e9
      subst e6
      exact ⟨_, _, zip_get hc (zip_get h1' g1'), w'.newS e5, Stp.newS w' e5, T, _, _, _, e4, SqT.of upd_same, ex, Mono.up (Ex.new (w'.fresh e5)) h2', Mono.up (Ex.new (w'.fresh e5)) g2'⟩
end
end J

set_option pp.maxSteps 3000
/-! J82: list(text). -/
namespace RZ
open PySem PySem.Spec PyProof.Rows L2 Evl J
def rListS : List V → Hp → VK → Prop := fun xs H Q => ∃ z : Str, xs = [.str z] ∧ z.cps.size ≤ 100000 ∧ ∀ l, H l = none → Q (.ref l) (upd H l (.lst (z.cps.toList.map fun c => V.str ⟨#[c]⟩)))
theorem call_listS {X : Cx} (hc : X.calm = true := by rfl) : CallR X (.type "list") rListS := by
  intro pins s σ H xs us Q I r h
  obtain ⟨z, rfl, hz, q⟩ := h
  obtain ⟨u, rfl, t, rfl⟩ := vals1 r
  refine call_list_str (I.ok.hd hc) z t (hn := sz_of hz) fun h' tk acc' c' kp e hacc => ?_
  have r' : Vals (z.cps.toList.map fun c => V.str ⟨#[c]⟩) acc'.toList := by
    refine vals_of_idx _ _ (by rw [List.length_map, Array.length_toList, Array.length_toList]; exact hacc.1) fun j v hv => ?_
    obtain ⟨c, u, hcz, rfl⟩ := hacc.2 j v (by simpa using hv)
    exact ⟨.str ⟨#[c]⟩, by rw [List.getElem?_map, Array.getElem?_toList, hcz]; rfl, u, rfl⟩
  exact ⟨.ref s.heap.objs.size, _, I.laid (t' := tk) kp (Nat.le_refl _) (show ObjOk X.prog X.w _ h' _ (.lst _) from ⟨by rw [List.length_map, Array.length_toList]; exact sz_of hz, acc'.toList, c', r', by simpa using e⟩), rfl, q _ (I.hok.fresh (Nat.le_refl _))⟩
section
variable {r : Rs} {s : L2.St} {S : Hp} {ta tb tc : TE} {K : PySem.W.Frag} {β γ : Type}
/-- list(text): its signs -/
theorem ev_listS {z : Str} (h : EvV r ta s S (.str z)) (hz : z.cps.size ≤ 100000) : EvS r (tCB rListS (tCons ta tNil)) s S fun v S1 => LstR SignR z.cps.toList v S1 :=
  EvN.stable (R := fun o _ => o = .lst (z.cps.toList.map fun c => V.str ⟨#[c]⟩)) (fun S1 H e w Q q =>
  (va_cons h va_nil : EvAV r (tCons ta tNil) s S _) S1 H e w _ fun us S3 H3 w3 s3 eu => by
    subst eu
    exact ⟨z, rfl, hz, fun l hl => q l _ S3 _ (pre_none s3 hl) upd_same (w3.fresh hl) (w3.new hl) (s3.trans (Stp.new hl)) rfl⟩) fun l o S5 _ n eo => by
    subst eo
    have all : ∀ (S : Hp) (cs : List Nat), All2 SignR S cs (cs.map fun c => V.str ⟨#[c]⟩) := fun S cs => by
      induction cs with
      | nil => exact .nil
      | cons c cs ih => exact .cons rfl ih
    exact ⟨l, _, rfl, upd_same, all _ _⟩
end
end RZ

set_option pp.maxSteps 3000
/-! J83: a dict whose keys' own tuples are told is walked by its keys; dict comprehensions of two clauses. -/
namespace RZ
open PySem PySem.Spec PyProof.Rows L2 Evl J LamX
/-! ### a dict by tuples, locked, walked -/
section
variable {X : Cx} {pins : List (Addr × Obj)} {σ : L2.St} {H : Hp} {s : Shared} {d : Addr} {o : Obj} {ks : List (List Key × Addr)}
theorem frzE (I : Inv X pins σ H s) (h : H d = some (.frz o (dkO X.prog X.w d ks))) : (d == sysModules) = false ∧ s.heap.get? d = some o ∧ o.ExactDict ∧ ∃ (es : Array DictEntry) (ep : Nat), o.data = .dict es ep ∧ es.size = ks.length ∧ ∀ (i : Nat) (z : List Key × Addr), ks[i]? = some z → ∃ en : DictEntry, es[i]? = some en ∧ en.key = .ref z.2 := by
  obtain ⟨hd, ⟨hs, hl, o', es, ep, h1, h2, h3, h4, _⟩, _⟩ := I.hok d _ h
  rw [hd] at h1
  cases h1
  have hz : es.size = (rawOf ks).length := size_of_entries h4
  refine ⟨hs, hd, h2, es, ep, h3, by rw [hz, rawOf, List.length_map], fun i z hi => ?_⟩
  have q := entry_at h4 i
  rw [rawOf, List.getElem?_map, hi] at q
  exact ⟨_, q, rfl⟩
end
/-- its keys in their order, each the key's own tuple -/
def ItkE (P : Program) (w : World) (d : Addr) (o : Obj) (ks : List (List Key × Addr)) : It :=
  ⟨fun i H => H d = some (.frz o (dkO P w d ks)) ∧ i < ks.length, fun i H x H' => H' = H ∧ ∃ z, ks[i]? = some z ∧ x = .ref z.2, fun i H => H d = some (.frz o (dkO P w d ks)) ∧ ks.length ≤ i⟩
section
variable {P : Program} {w : World} {K : PySem.W.Frag} {tg : Expr} {d : Addr} {o : Obj} {es : Array DictEntry} {ep : Nat}
theorem turn_keysE {ks : List (List Key × Addr)} (it : Addr) (hod : o.data = .dict es ep) : Turn P w K tg (ItkE P w d o ks) [it] it (fun i h => h.IsKeyIter it d i ks.length ep) where
  mem := List.mem_singleton.mpr rfl
  obj := fun i h st b hb => by
    obtain rfl := List.mem_singleton.mp hb
    obtain ⟨oi, g1, g2, g3⟩ := st
    refine ⟨oi, g1, fun v z => ?_⟩
    rw [g3] at z
    exact nomatch z
  keep := fun i h h' st k => st.at fun oi g => k it (List.mem_singleton.mpr rfl) oi g
  item := by
    intro X hP hw hK hc i pins s σ H E I hf st ⟨hd, hi⟩
    subst hP hw hK
    have fp := hf it (List.mem_singleton.mpr rfl)
    obtain ⟨hs, hgd, hx, es', ep', hdt, hsz, ent⟩ := frzE I hd
    obtain ⟨rfl, rfl⟩ := dict_ep hod hdt
    obtain ⟨z, hz⟩ : ∃ z, ks[i]? = some z := ⟨ks[i], List.getElem?_eq_getElem hi⟩
    obtain ⟨en, hen, hkey⟩ := ent i z hz
    refine next_key_item st hgd hdt hsz hen fun h2 st2 sb => ?_
    have I2 : Inv X pins σ H { s with heap := h2 } := I.turned (t' := s.toks) (fun b ob hb g => (sb.2 b hb).trans g) fp.1 fp.2.1 fp.2.2.2.1 fp.2.2.2.2.1 fp.2.2.2.2.2
    obtain ⟨oi, g1, g2, g3⟩ := id st2
    refine ⟨en.key, rfl, go_of (s := { s with heap := h2 }) g1 g2 g3 (by decide) ⟨.ref z.2, H, I2, hkey, ⟨rfl, z, hz, rfl⟩, st2, fun b hb => (hf b hb).1⟩⟩
  done := by
    intro X hP hw hK hc i pins s σ H E I hf st ⟨hd, hi⟩
    subst hP hw hK
    have fp := hf it (List.mem_singleton.mpr rfl)
    obtain ⟨hs, hgd, hx, es', ep', hdt, hsz, ent⟩ := frzE I hd
    obtain ⟨rfl, rfl⟩ := dict_ep hod hdt
    refine next_key_end (I.ok.hd hc) st hgd hdt hsz hi fun h2 eb => ⟨rfl, ?_⟩
    exact I.turned (t' := s.toks) (fun b ob hb g => eb b ob hb g) fp.1 fp.2.1 fp.2.2.2.1 fp.2.2.2.2.1 fp.2.2.2.2.2
  self := fun A i s Q E st h => by
    refine wpAny_pyIter_slot st.typeIs PySem.F.slot_dict_keyiterator_iter (wpAny_call_entry PySem.F.slot_dict_keyiterator_iter st.typeIs PySem.F.entry_dict_keyiterator_iter ?_ (PySem.F.args_dict_keyiterator_iter_1 _))
    show wpAny _ _ (ret (.ref it)) _ _ s
    exact wpAny_pure ⟨_, rfl, "dict_keyiterator", _, st.typeIs, PySem.F.slot_dict_keyiterator_next.lookup, h⟩
end
def iKeysE (P : Program) (w : World) (td : TE) : TI := fun σ H R => td σ H fun x H1 => ∃ d o ks, x = .ref d ∧ H1 d = some (.frz o (dkO P w d ks)) ∧ R (ItkE P w d o ks) H1
theorem pi_keysE {X : Cx} {tg e : Expr} {td : TE} (he : PE X e td) : PI X tg e (iKeysE X.prog X.w td) := by
  refine ⟨fun pins s σ H R I h => thn (he.run pins s σ H _ I h) fun u s1 ⟨x, H1, I1, rx, d, o, ks, ex, hd, q⟩ => ?_⟩
  subst ex
  obtain rfl : u = Value.ref d := rx
  obtain ⟨hs, hgd, hx, es, ep, hdt, hsz, ent⟩ := frzE I1 hd
  refine iter_keys hs hgd hx hdt (pi_one (tk := s1.toks) I1 _ (turn_keysE _ hdt) ⟨_, Heap.get?_push_size _ rfl, rfl, ?_⟩ q)
  rw [hsz] <;> rfl
/-! ### what a comprehension of two clauses does -/
section
variable (kx vx t0 i0 t1 i1 : Expr) (f0 f1 : List Expr) (sc : Scope) (pos : Pos)
abbrev dcc : Expr := .DictComp kx vx [⟨t0, i0, f0, 0⟩, ⟨t1, i1, f1, 0⟩] sc pos
abbrev passes (env : Env) (fs : List Expr) : Sem Bool := forIn fs true fun c r => if r = true then do let ok ← isTrue c env (eval c env); pure (ForInStep.yield ok) else pure (ForInStep.yield r)
theorem dcc_out (it acc : Value) (env : Env) : compTurn (dcc kx vx t0 i0 t1 i1 f0 f1 sc pos) 0 it acc env = (do
    standAt i0.pos
    match ← pyNext it with
    | none => pure (.done .next)
    | some v =>
      letOwnedTupleGo t0 it v
      assign t0 env v
      let mut ok := true
      for c in f0 do
        if ok then ok ← isTrue c env (eval c env)
      if ok then
        let x ← eval i1 env
        standAt i1.pos
        let x ← foldedSetIterable i1 env x
        let _ ← runOwn (.compStart (dcc kx vx t0 i0 t1 i1 f0 f1 sc pos) 1 (← holding [x] (pyIter x)) acc env) env
      again (.compLoop (dcc kx vx t0 i0 t1 i1 f0 f1 sc pos) 0 it acc env)) := by rfl
theorem dcc_in (it : Value) (D : Addr) (env : Env) : compTurn (dcc kx vx t0 i0 t1 i1 f0 f1 sc pos) 1 it (.ref D) env = (do
    standAt i1.pos
    match ← pyNext it with
    | none => pure (.done .next)
    | some v =>
      letOwnedTupleGo t1 it v
      assign t1 env v
      let mut ok := true
      for c in f1 do
        if ok then ok ← isTrue c env (eval c env)
      if ok then
        (do
          let kv ← eval kx env
          let vv ← holding [kv] (eval vx env)
          standAt { kx.pos with endLine := vx.pos.endLine, endCol := vx.pos.endCol }
          holding [kv, vv] (dictSet D kv vv))
      again (.compLoop (dcc kx vx t0 i0 t1 i1 f0 f1 sc pos) 1 it (.ref D) env)) := by rfl
end
section
variable {prog : Program} {w : World} {A : Around} {R : Result → Shared → Prop} {s : Shared} {kx vx t0 i0 t1 i1 : Expr} {f0 f1 : List Expr} {sc : Scope} {pos : Pos} {it acc : Value} {D : Addr} {env : Env}
/-- an error in it is told by R -/
abbrev nb (prog : Program) (w : World) (A : Around) (env : Env) (R : Result → Shared → Prop) : Value → Shared → Prop := notedBy (model prog w) A env fun e s' => R (.error e) s'
theorem dcc_loop0 (hs : ∀ x, foldedSetIterable i1 env x = pure x) (I : Nat → Shared → Prop)
    (turn : ∀ n s, I n s → wpAny (model prog w) A (pyNext it) (fun r s1 => match r with
      | none => R (.ok .next) s1
      | some v => wpAny (model prog w) A (letOwnedTupleGo t0 it v) (fun _ s2 => wpAny (model prog w) A (assign t0 env v) (fun _ s3 => wpAny (model prog w) A (passes env f0) (fun ok s4 =>
          if ok = true then wpAny (model prog w) A (eval i1 env) (fun x s5 => wpAny (model prog w) A (pyIter x) (fun j s6 => codeAny (model prog w) A (.compStart (dcc kx vx t0 i0 t1 i1 f0 f1 sc pos) 1 j acc env) (fun r s' => match r with
            | .ok _ => ∃ m, m < n ∧ I m s'
            | .error _ => False) s6) (nb prog w A env R) s5) (nb prog w A env R) s4
          else ∃ m, m < n ∧ I m s4) (nb prog w A env R) s3) (nb prog w A env R) s2) (nb prog w A env R) s1) (nb prog w A env R) s) (n : Nat) (h : I n s) :
    codeAny (model prog w) A (.compLoop (dcc kx vx t0 i0 t1 i1 f0 f1 sc pos) 0 it acc env) R s := by
  refine codeAny_loop rfl I (fun n s hI => ?_) n h
  refine (wpAny_noted ?_ : wpAny _ A ((compTurn (dcc kx vx t0 i0 t1 i1 f0 f1 sc pos) 0 it acc env).onRaise (fun x => do noteFrame x env; theTreesLotGoes x)) _ _ s)
  rw [dcc_out]
  refine wpAny_bind (wpAny_standAt (wpAny_bind (wpAny_mono (turn n s hI) (fun r s1 g1 => ?_) fun _ _ y => y)))
  match r, g1 with
  | none, g1 => exact wpAny_pure g1
  | some v, g1 =>
    refine wpAny_bind (wpAny_mono g1 (fun _ s2 g2 => wpAny_bind (wpAny_mono g2 (fun _ s3 g3 => wpAny_bind (wpAny_mono g3 (fun ok s4 g4 => ?_) fun _ _ y => y)) fun _ _ y => y)) fun _ _ y => y)
    match ok, g4 with
    | false, g4 => exact wpAny_pure ⟨rfl, g4⟩
    | true, g4 =>
      refine wpAny_bind (wpAny_mono g4 (fun x s5 g5 => wpAny_bind (wpAny_standAt (wpAny_bind (wpAny_of_eq (hs x) (wpAny_bind (wpAny_holding (wpAny_mono g5 (fun j s6 g6 => ?_) fun _ _ y => y))))))) fun _ _ y => y)
      refine wpAny_bind (wpAny_runOwn ?_)
      rw [Around.mark_none]
      refine codeAny_mono g6 fun r s' hr => ?_
      match r, hr with
      | .ok f, hr =>
        first
          | exact wpAny_pure ⟨rfl, hr⟩
          | exact wpAny_bind (wpAny_pure (wpAny_pure ⟨rfl, hr⟩))
theorem dcc_loop1 (I : Nat → Shared → Prop)
    (turn : ∀ n s, I n s → wpAny (model prog w) A (pyNext it) (fun r s1 => match r with
      | none => R (.ok .next) s1
      | some v => wpAny (model prog w) A (letOwnedTupleGo t1 it v) (fun _ s2 => wpAny (model prog w) A (assign t1 env v) (fun _ s3 => wpAny (model prog w) A (passes env f1) (fun ok s4 =>
          if ok = true then wpAny (model prog w) A (eval kx env) (fun kv s5 => wpAny (model prog w) A (eval vx env) (fun vv s6 => wpAny (model prog w) A (dictSet D kv vv) (fun _ s7 => ∃ m, m < n ∧ I m s7) (nb prog w A env R) s6) (nb prog w A env R) s5) (nb prog w A env R) s4
          else ∃ m, m < n ∧ I m s4) (nb prog w A env R) s3) (nb prog w A env R) s2) (nb prog w A env R) s1) (nb prog w A env R) s) (n : Nat) (h : I n s) :
    codeAny (model prog w) A (.compLoop (dcc kx vx t0 i0 t1 i1 f0 f1 sc pos) 1 it (.ref D) env) R s := by
  refine codeAny_loop rfl I (fun n s hI => ?_) n h
  refine (wpAny_noted ?_ : wpAny _ A ((compTurn (dcc kx vx t0 i0 t1 i1 f0 f1 sc pos) 1 it (.ref D) env).onRaise (fun x => do noteFrame x env; theTreesLotGoes x)) _ _ s)
  rw [dcc_in]
  refine wpAny_bind (wpAny_standAt (wpAny_bind (wpAny_mono (turn n s hI) (fun r s1 g1 => ?_) fun _ _ y => y)))
  match r, g1 with
  | none, g1 => exact wpAny_pure g1
  | some v, g1 =>
    refine wpAny_bind (wpAny_mono g1 (fun _ s2 g2 => wpAny_bind (wpAny_mono g2 (fun _ s3 g3 => wpAny_bind (wpAny_mono g3 (fun ok s4 g4 => ?_) fun _ _ y => y)) fun _ _ y => y)) fun _ _ y => y)
    match ok, g4 with
    | false, g4 => exact wpAny_pure ⟨rfl, g4⟩
    | true, g4 =>
      exact wpAny_bind (wpAny_bind (wpAny_mono g4 (fun kv s5 g5 => wpAny_bind (wpAny_holding (wpAny_mono g5 (fun vv s6 g6 => wpAny_bind (wpAny_standAt (wpAny_holding (wpAny_mono g6 (fun _ s7 g7 => wpAny_pure ⟨rfl, g7⟩) fun _ _ y => y)))) fun _ _ y => y))) fun _ _ y => y))
theorem dcc_start1 (h0 : codeAny (model prog w) A (.compLoop (dcc kx vx t0 i0 t1 i1 f0 f1 sc pos) 1 it acc env) R s)
    (h : wpAny (model prog w) A (pyIter it) (fun j s' => codeAny (model prog w) A (.compLoop (dcc kx vx t0 i0 t1 i1 f0 f1 sc pos) 1 j acc env) R s') (nb prog w A env R) s) :
    codeAny (model prog w) A (.compStart (dcc kx vx t0 i0 t1 i1 f0 f1 sc pos) 1 it acc env) R s := by
  refine codeAny_of_tree ?_
  refine (wpAny_notedAt ?_ : wpAny _ _ ((compStart (dcc kx vx t0 i0 t1 i1 f0 f1 sc pos) 1 it acc env).onRaise (fun x => do noteFrame x env; standAt theWindowsPlace)) _ _ s)
  unfold compStart
  show wpAny _ _ (ask >>= _) _ _ s
  refine wpAny_bind (wpAny_askSetting (wpAny_ite ?_))
  split
  · first
      | exact wpAny_bind (wpAny_pure (wpAny_pure ⟨rfl, h0⟩))
      | exact wpAny_pure ⟨rfl, h0⟩
  · first
      | exact wpAny_bind (wpAny_rule (wpAny_bind (wpAny_standAt (wpAny_bind (wpAny_mono h (fun j s' y => wpAny_pure ⟨rfl, y⟩) fun _ _ x => x)))))
      | (refine wpAny_bind (wpAny_rule ?_); show wpAny _ _ (standAt i1.pos >>= _) _ _ s; exact wpAny_bind (wpAny_standAt (wpAny_bind (wpAny_mono h (fun j s' y => wpAny_pure ⟨rfl, y⟩) fun _ _ x => x))))
end
/-- how the new dict is held, and what storing into it asks -/
structure PutOk (P : Program) (w : World) (newO : Addr → HO) (Put : Addr → V → V → Hp → (Hp → Prop) → Prop) : Prop where
  new : ∀ {X : Cx} {pins : List (Addr × Obj)} {σ : L2.St} {H : Hp} {s : Shared}, X.prog = P → X.w = w → Inv X pins σ H s → ObjOk P w (upd H s.heap.objs.size (newO s.heap.objs.size)) (s.heap.push { cls := .type "dict", data := .dict #[] }) s.heap.objs.size (newO s.heap.objs.size)
  put : ∀ {X : Cx} {pins : List (Addr × Obj)} {σ : L2.St} {H : Hp} {s : Shared} {E : Value → Shared → Prop} {D : Addr} {y z : V} {u v : Value} {N : Hp → Prop} {Q : Unit → Shared → Prop}, X.prog = P → X.w = w → (tupleKind (mixKind P w)).room X.A → Inv X pins σ H s → RelV y u → RelV z v → Put D y z H N → (∀ s' H', Inv X pins σ H' s' → N H' → Q () s') → wpAny (model X.prog X.w) X.A (dictSet D u v) Q E s
/-- {k: v for t0 in i0 if .. for t1 in i1 if ..} -/
def tDcc (newO : Addr → HO) (Put : Addr → V → V → Hp → (Hp → Prop) → Prop) (wi : TI) (g : TG) (tt : TT) (wi1 : TI) (g1 : TG) (tt1 : TT) (tk tv : TE) (vs vs1 : List Nat) : TE := fun σ H Q => wi σ H fun J H1 => ∀ D, H1 D = none → ∃ W : Nat → Nat → Hp → Prop, (∃ m, W 0 m (upd H1 D (newO D))) ∧ ∀ i m H, W i m H →
  (J.stop i H ∧ Q (.ref D) H) ∨ (J.go i H ∧ ∃ N : Hp → Prop, (∀ H', N H' → ∃ m', m' < m ∧ W (i + 1) m' H') ∧ ∀ x H', J.yld i H x H' → g x (wipe σ vs) H' fun σ2 H2 => wipe σ2 vs = wipe σ vs ∧ tt σ2 H2 fun b H3 =>
    if b = true then wi1 σ2 H3 fun J1 H4 => ∃ W1 : Nat → Nat → Hp → Prop, (∃ m, W1 0 m H4) ∧ ∀ j k H, W1 j k H →
      (J1.stop j H ∧ N H) ∨ (J1.go j H ∧ ∃ N1 : Hp → Prop, (∀ H', N1 H' → ∃ k', k' < k ∧ W1 (j + 1) k' H') ∧ ∀ x H', J1.yld j H x H' → g1 x (wipe σ2 vs1) H' fun σ3 H5 => wipe σ3 vs1 = wipe σ2 vs1 ∧ tt1 σ3 H5 fun b H6 =>
        if b = true then tk σ3 H6 fun y H7 => tv σ3 H7 fun z H8 => Put D y z H8 N1 else N1 H6)
    else N H3)
section
variable {X : Cx}
theorem dcc_core {newO : Addr → HO} {Put : Addr → V → V → Hp → (Hp → Prop) → Prop} (po : PutOk X.prog X.w newO Put) (hrm : (tupleKind (mixKind X.prog X.w)).room X.A) {pins : List (Addr × Obj)} {s : Shared} {σ : L2.St} {H : Hp} {Q : VK} {kx vx t0 i0 t1 i1 : Expr} {f0 f1 : List Expr} {sc : Scope} {own : List (Str × Nat)} {vs1 : List Nat} {pos pos' : Pos} {wi wi1 : TI} {g g1 : TG} {tt tt1 : TT} {tk tv : TE} {use : Option (Value → Sem Unit)} {Qf : Value → Shared → Prop}
    (hc : X.calm = true) (hN : X.N.Nodup) (I : Inv X pins σ H s) (hi : PI X t0 i0 wi) (ok : BlkOk X.N X.env.scope sc own) (hv : ∀ i ∈ vs1, i ∈ own.map (·.2))
    (B : Shared → Hp → Addr → List (Str × Addr) → List Addr → Cx) (eB : B = fun s H C cl fp => X.blk s H sc (compEnvC sc cl C X.env) fp)
    (hg : ∀ s H C cl fp, PG (B s H C cl fp) t0 g) (ht : ∀ s H C cl fp, PTs (B s H C cl fp) f0 tt) (hi1 : ∀ s H C cl fp, PI (B s H C cl fp) t1 i1 wi1) (hg1 : ∀ s H C cl fp, PG (B s H C cl fp) t1 g1) (ht1 : ∀ s H C cl fp, PTs (B s H C cl fp) f1 tt1) (hk : ∀ s H C cl fp, PE (B s H C cl fp) kx tk) (he : ∀ s H C cl fp, PE (B s H C cl fp) vx tv)
    (hs : ∀ x, foldedSetIterable i0 X.env x = pure x) (hs1 : ∀ env x, foldedSetIterable i1 env x = pure x)
    (h : tDcc newO Put wi g tt wi1 g1 tt1 tk tv (own.map (·.2)) vs1 σ H Q)
    (fin : ∀ D C s' m H', Inv X pins σ H' s' → Q (.ref D) H' → s'.heap.Ns C m → FpOk X pins H' C → compPost (model X.prog X.w) X.A X.xe use Qf (.ref D) C (.ok .next) s') :
    wpAny (model X.prog X.w) X.A (comprehension (dcc kx vx t0 i0 t1 i1 f0 f1 sc pos) sc X.env pos' newDict false (eval i0 X.env) use) Qf X.xe s := by
  subst eB
  have free : ∀ y ∈ sc.names, y.2 = .free → ∃ c, X.env.cells.lookup y.1 = some c := fun y hy e => (ok.free y hy e).elim (fun k => I.ok.has _ (.inl k)) fun k => I.ok.has _ (.inr k)
  refine wpAny_comprehension_free (use := use) rfl hs (closure_ok free) ok.kind (fun y hy e => by rw [ok.uniq y hy, e]) (thn (hi.run pins s σ H _ I h) fun xv s1 hx => thn hx fun itv s2 ⟨it, fp, tn, J, H2, e, I2, T, st2, f2, q⟩ => ?_)
  subst e
  refine wpAny_newObj_type (newEnv_comp ?_)
  generalize hD : s2.heap.objs.size = D
  generalize hs3 : ({ s2 with heap := s2.heap.push { cls := .type "dict", data := .dict #[] } } : Shared) = s3
  have new := po.new rfl rfl I2
  rw [hD] at new
  have hDn : H2 D = none := I2.hok.fresh (Nat.le_of_eq hD)
  obtain ⟨W, ⟨m0, w0⟩, turn⟩ := q _ hDn
  have old : ∀ b ∈ fp, b < D := fun b hb => by
    obtain ⟨o, eo, _⟩ := T.obj _ _ st2 b hb
    rw [← hD]
    exact Heap.lt_size eo
  have h3 : s3.heap = s2.heap.push { cls := .type "dict", data := .dict #[] } := by rw [← hs3]
  have I3 : Inv X pins σ (upd H2 D (newO D)) s3 := by
    rw [← hs3]
    exact I2.laid (t' := s2.toks) (fun b o eo => Heap.get?_push_of_some _ eo) (Nat.le_of_eq hD) new
  have st3 : tn 0 s3.heap := T.keep _ _ _ st2 fun b _ o eo => by rw [h3]; exact Heap.get?_push_of_some _ eo
  have f3 : ∀ b ∈ fp, FpOk X pins (upd H2 D (newO D)) b ∧ b < s3.heap.objs.size := fun b hb =>
    ⟨⟨by rw [upd_ne (Nat.ne_of_lt (old b hb))]; exact (f2 b hb).1, (f2 b hb).2⟩, by rw [h3, Heap.size_push, hD]; exact Nat.lt_succ_of_lt (old b hb)⟩
  show codeAny _ _ (.compStart (dcc kx vx t0 i0 t1 i1 f0 f1 sc pos) 0 (.ref it) (.ref D) (compEnvC sc (cellsFrom (s3.heap.objs.size + 1) sc.names (cloFrom X.env.cells sc.names [])) s3.heap.objs.size X.env)) (compPost (model X.prog X.w) X.A X.xe use Qf (.ref D) s3.heap.objs.size) { s3 with heap := pushCells (s3.heap.push { cls := .type "dict", data := .dict #[] }) sc.names }
  generalize upd H2 D (newO D) = H3 at w0 I3 f3
  have I4 := block_start I3 ok hN f3
  have nfp : ∀ b ∈ fp, H3 b = none := fun b hb => (f3 b hb).1.1
  have pg := hg s3 H3 s3.heap.objs.size (cellsFrom (s3.heap.objs.size + 1) sc.names (cloFrom X.env.cells sc.names [])) fp
  have pt := ht s3 H3 s3.heap.objs.size (cellsFrom (s3.heap.objs.size + 1) sc.names (cloFrom X.env.cells sc.names [])) fp
  have pi1 := hi1 s3 H3 s3.heap.objs.size (cellsFrom (s3.heap.objs.size + 1) sc.names (cloFrom X.env.cells sc.names [])) fp
  have pg1 := hg1 s3 H3 s3.heap.objs.size (cellsFrom (s3.heap.objs.size + 1) sc.names (cloFrom X.env.cells sc.names [])) fp
  have pt1 := ht1 s3 H3 s3.heap.objs.size (cellsFrom (s3.heap.objs.size + 1) sc.names (cloFrom X.env.cells sc.names [])) fp
  have pk := hk s3 H3 s3.heap.objs.size (cellsFrom (s3.heap.objs.size + 1) sc.names (cloFrom X.env.cells sc.names [])) fp
  have pe := he s3 H3 s3.heap.objs.size (cellsFrom (s3.heap.objs.size + 1) sc.names (cloFrom X.env.cells sc.names [])) fp
  dsimp only at pg pt pi1 pg1 pt1 pk pe
  generalize hce : compEnvC sc (cellsFrom (s3.heap.objs.size + 1) sc.names (cloFrom X.env.cells sc.names [])) s3.heap.objs.size X.env = ce at I4 pg pt pi1 pg1 pt1 pk pe ⊢
  have cL : ce.locals = s3.heap.objs.size := by rw [← hce]; rfl
  have st4 : tn 0 ({ s3 with heap := pushCells (s3.heap.push { cls := .type "dict", data := .dict #[] }) sc.names } : Shared).heap := T.keep _ _ _ st3 fun b _ o eo => pushCells_keeps _ _ _ _ (Heap.get?_push_of_some _ eo)
  generalize ({ s3 with heap := pushCells (s3.heap.push { cls := .type "dict", data := .dict #[] }) sc.names } : Shared) = s4 at I4 st4 ⊢
  have stat : ∀ {σ' : L2.St} {H' : Hp} {s' : Shared}, Inv (X.blk s3 H3 sc ce fp) [] σ' H' s' → (∀ b ∈ fp, H' b = none) → ∀ b ∈ fp, FpOk (X.blk s3 H3 sc ce fp) [] H' b := fun {σ' H' s'} I' hn b hb =>
    ⟨hn b hb, (I'.ok.exf b hb).1, I'.ok.exfs b hb, .inl hb, fun x c e => (I'.ok.exf b hb).2 x c e, fun p hp => absurd (show p ∈ ([] : List (Addr × Obj)) ++ [] from hp) List.not_mem_nil⟩
  let Btw : Nat → Shared → Prop := fun n s' => ∃ i H', Inv (X.blk s3 H3 sc ce fp) [] (wipe σ (own.map (·.2))) H' s' ∧ tn i s'.heap ∧ (∀ b ∈ fp, H' b = none) ∧ W i n H'
  have loop : codeAny (model X.prog X.w) X.A (.compLoop (dcc kx vx t0 i0 t1 i1 f0 f1 sc pos) 0 (.ref it) (.ref D) ce) (compPost (model X.prog X.w) X.A X.xe use Qf (.ref D) s3.heap.objs.size) s4 := by
    refine dcc_loop0 (hs1 ce) Btw ?_ m0 ⟨0, H3, I4, st4, nfp, w0⟩
    rintro n s5 ⟨i, H5, I5, st5, n5, w5⟩
    rcases turn i n H5 w5 with ⟨stop, qq⟩ | ⟨go, N, hN', step⟩
    · refine thnF (T.done (X.blk s3 H3 sc ce fp) rfl rfl rfl hc i [] s5 _ H5 (fun _ _ => False) I5 (stat I5 n5) st5 stop) fun r s6 ⟨hr, I6⟩ => ?_
      subst hr
      have I7 : Inv X pins σ H5 s6 := I3.call' (ch := fp) I6.os I6.base I6.hok I6.bare fun b hb => let z := (f3 b hb).1.2; ⟨z.2.2.1, z.1, z.2.2.2.1, z.2.2.2.2⟩
      have nC : H5 s3.heap.objs.size = none := by
        have z : H5 ce.locals = none := I6.free
        rwa [cL] at z
      obtain ⟨m, hn, _⟩ := I6.loc
      have hn : s6.heap.Ns ce.locals m := hn
      rw [cL] at hn
      exact fin D _ s6 m H5 I7 qq hn (I3.fpOk (Nat.le_refl _) nC)
    · refine thnF (T.item (X.blk s3 H3 sc ce fp) rfl rfl rfl hc i [] s5 _ H5 (fun _ _ => False) I5 (stat I5 n5) st5 go) fun r s6 ⟨u, hr, h6⟩ => ?_
      subst hr
      refine thnF h6 fun _ s7 ⟨x, H7, I7, r7, y7, st7, n7⟩ => ?_
      refine thnF (pg.run _ s7 _ H7 x u _ (I7.pinned (stat I7 n7) (T.obj _ _ st7)) r7 (step x H7 y7)) fun _ s8 ⟨σ8, H8, I8, hw8, q8⟩ => thnF (pt.run _ s8 σ8 H8 _ I8 q8) fun b s9 ⟨H9, I9, q9⟩ => ?_
      have len8 : (wipe σ (own.map (·.2))).length = σ8.length := by rw [← hw8, wipe_length]
      have keep8 : ∀ (j : Nat) v, (wipe σ (own.map (·.2)))[j]? = some (some v) → σ8[j]? = some (some v) ∧ j ∉ own.map (·.2) := fun j v e => by
        rw [← hw8] at e
        exact wipe_some e
      have back : ∀ {σ9 : L2.St} {s' : Shared} {H' : Hp}, Inv (X.blk s3 H3 sc ce fp) ([] ++ pinsAt fp s7.heap) σ9 H' s' → (wipe σ (own.map (·.2))).length = σ9.length → (∀ (j : Nat) v, (wipe σ (own.map (·.2)))[j]? = some (some v) → σ9[j]? = some (some v)) → N H' → ∃ m, m < n ∧ Btw m s' := fun {σ9 s' H'} I' hl hk nx => by
        obtain ⟨m', hm, w'⟩ := hN' H' nx
        have pin : ∀ b ∈ fp, ∀ o, s7.heap.get? b = some o → s'.heap.get? b = some o ∧ H' b = none := fun b hb o eo =>
          let z := I'.pin (b, o) (List.mem_append_right _ (List.mem_append_right _ (mem_pinsAt hb eo)))
          ⟨z.1, z.2.1⟩
        refine ⟨m', hm, i + 1, H', (I'.unpinned (pins := [])).weak hl hk, T.keep _ _ _ st7 fun b hb o eo => (pin b hb o eo).1, fun b hb => ?_, w'⟩
        obtain ⟨o, eo, _⟩ := T.obj _ _ st7 b hb
        exact (pin b hb o eo).2
      match b, q9 with
      | false, q9 => exact back I9 len8 (fun j v e => (keep8 j v e).1) q9
      | true, q9 =>
        refine thnF (pi1.run _ s9 σ8 H9 _ I9 q9) fun xv s10 hx => thnF hx fun itv s11 ⟨it1, fp1, tn1, J1, H11, e1, I11, T1, st11, f11, W1, ⟨m1, w1⟩, turn1⟩ => ?_
        subst e1
        have stat1 : ∀ {H' : Hp}, (∀ b ∈ fp1, H' b = none) → ∀ b ∈ fp1, FpOk (X.blk s3 H3 sc ce fp) ([] ++ pinsAt fp s7.heap) H' b := fun hn b hb => ⟨hn b hb, (f11 b hb).2⟩
        let Btw1 : Nat → Shared → Prop := fun k s' => ∃ j H', Inv (X.blk s3 H3 sc ce fp) ([] ++ pinsAt fp s7.heap) (wipe σ8 vs1) H' s' ∧ tn1 j s'.heap ∧ (∀ b ∈ fp1, H' b = none) ∧ W1 j k H'
        have loop1 : codeAny (model X.prog X.w) X.A (.compLoop (dcc kx vx t0 i0 t1 i1 f0 f1 sc pos) 1 (.ref it1) (.ref D) ce) (fun r s' => match r with
            | .ok _ => ∃ m, m < n ∧ Btw m s'
            | .error _ => False) s11 := by
          refine dcc_loop1 Btw1 ?_ m1 ⟨0, H11, I11.weak (wipe_length _ _) (fun j v e => (wipe_some e).1), st11, fun b hb => (f11 b hb).1, w1⟩
          rintro k s12 ⟨j, H12, I12, st12, n12, w12⟩
          rcases turn1 j k H12 w12 with ⟨stop1, nx1⟩ | ⟨go1, N1, hN1, step1⟩
          · refine thnF (T1.done (X.blk s3 H3 sc ce fp) rfl rfl rfl hc j _ s12 (wipe σ8 vs1) H12 (fun _ _ => False) I12 (stat1 n12) st12 stop1) fun r s13 ⟨hr, I13⟩ => ?_
            subst hr
            refine back I13 (len8.trans (wipe_length σ8 vs1).symm) (fun j v e => ?_) nx1
            obtain ⟨e1, e2⟩ := keep8 j v e
            rw [wipe_out fun z => e2 (hv j z)]
            exact e1
          · refine thnF (T1.item (X.blk s3 H3 sc ce fp) rfl rfl rfl hc j _ s12 (wipe σ8 vs1) H12 (fun _ _ => False) I12 (stat1 n12) st12 go1) fun r s13 ⟨u1, hr, h13⟩ => ?_
            subst hr
            refine thnF h13 fun _ s14 ⟨x1, H14, I14, r14, y14, st14, n14⟩ => ?_
            refine thnF (pg1.run _ s14 (wipe σ8 vs1) H14 x1 u1 _ (I14.pinned (stat1 n14) (T1.obj _ _ st14)) r14 (step1 x1 H14 y14)) fun _ s15 ⟨σ15, H15, I15, hw15, q15⟩ => thnF (pt1.run _ s15 σ15 H15 _ I15 q15) fun b1 s16 ⟨H16, I16, q16⟩ => ?_
            have back1 : ∀ {s' : Shared} {H' : Hp}, Inv (X.blk s3 H3 sc ce fp) (([] ++ pinsAt fp s7.heap) ++ pinsAt fp1 s14.heap) σ15 H' s' → N1 H' → ∃ m, m < k ∧ Btw1 m s' := fun {s' H'} I' nx => by
              obtain ⟨m', hm, w'⟩ := hN1 H' nx
              have pin : ∀ b ∈ fp1, ∀ o, s14.heap.get? b = some o → s'.heap.get? b = some o ∧ H' b = none := fun b hb o eo =>
                let z := I'.pin (b, o) (List.mem_append_right _ (List.mem_append_right _ (mem_pinsAt hb eo)))
                ⟨z.1, z.2.1⟩
              refine ⟨m', hm, j + 1, H', I'.unpinned.weak (by rw [← hw15, wipe_length]) (fun j v e => ?_), T1.keep _ _ _ st14 fun b hb o eo => (pin b hb o eo).1, fun b hb => ?_, w'⟩
              · rw [← hw15] at e
                exact (wipe_some e).1
              · obtain ⟨o, eo, _⟩ := T1.obj _ _ st14 b hb
                exact (pin b hb o eo).2
            match b1, q16 with
            | false, q16 => exact back1 I16 q16
            | true, q16 =>
              refine thnF (pk.run _ s16 σ15 H16 _ I16 q16) fun y s17 ⟨yv, H17, I17, r17, q17⟩ => thnF (pe.run _ s17 σ15 H17 _ I17 q17) fun z s18 ⟨zv, H18, I18, r18, q18⟩ => ?_
              exact po.put (X := X.blk s3 H3 sc ce fp) rfl rfl hrm I18 r17 r18 q18 fun s19 H19 I19 nx => back1 I19 nx
        exact dcc_start1 loop1 (T1.self X.A 0 _ _ _ st11 loop1)
  exact codeAny_compStart_dict loop (T.self X.A 0 _ _ _ st4 loop)
theorem pe_dcc {newO : Addr → HO} {Put : Addr → V → V → Hp → (Hp → Prop) → Prop} (po : PutOk X.prog X.w newO Put) (hrm : (tupleKind (mixKind X.prog X.w)).room X.A) {kx vx t0 i0 t1 i1 : Expr} {f0 f1 : List Expr} {sc : Scope} {own : List (Str × Nat)} {vs1 : List Nat} {pos : Pos} {wi wi1 : TI} {g g1 : TG} {tt tt1 : TT} {tk tv : TE}
    (hc : X.calm = true) (hN : X.N.Nodup) (hi : PI X t0 i0 wi) (ok : BlkOk X.N X.env.scope sc own) (hv : ∀ i ∈ vs1, i ∈ own.map (·.2))
    (hg : ∀ (s : Shared) (H : Hp) (C : Addr) (cl : List (Str × Addr)) (fp : List Addr), PG (X.blk s H sc (compEnvC sc cl C X.env) fp) t0 g) (ht : ∀ (s : Shared) (H : Hp) (C : Addr) (cl : List (Str × Addr)) (fp : List Addr), PTs (X.blk s H sc (compEnvC sc cl C X.env) fp) f0 tt)
    (hi1 : ∀ (s : Shared) (H : Hp) (C : Addr) (cl : List (Str × Addr)) (fp : List Addr), PI (X.blk s H sc (compEnvC sc cl C X.env) fp) t1 i1 wi1) (hg1 : ∀ (s : Shared) (H : Hp) (C : Addr) (cl : List (Str × Addr)) (fp : List Addr), PG (X.blk s H sc (compEnvC sc cl C X.env) fp) t1 g1)
    (ht1 : ∀ (s : Shared) (H : Hp) (C : Addr) (cl : List (Str × Addr)) (fp : List Addr), PTs (X.blk s H sc (compEnvC sc cl C X.env) fp) f1 tt1) (hk : ∀ (s : Shared) (H : Hp) (C : Addr) (cl : List (Str × Addr)) (fp : List Addr), PE (X.blk s H sc (compEnvC sc cl C X.env) fp) kx tk)
    (he : ∀ (s : Shared) (H : Hp) (C : Addr) (cl : List (Str × Addr)) (fp : List Addr), PE (X.blk s H sc (compEnvC sc cl C X.env) fp) vx tv) (hs : ∀ x, foldedSetIterable i0 X.env x = pure x := by intro _; rfl) (hs1 : ∀ env x, foldedSetIterable i1 env x = pure x := by intro _ _; rfl) :
    PE X (dcc kx vx t0 i0 t1 i1 f0 f1 sc pos) (tDcc newO Put wi g tt wi1 g1 tt1 tk tv (own.map (·.2)) vs1) := by
  refine ⟨fun pins s σ H Q I h => ?_⟩
  rw [arm_eval_DictComp]
  refine dcc_core po hrm hc hN I hi ok hv _ rfl hg ht hi1 hg1 ht1 hk he hs hs1 h fun D C s' m H' I' q hn ⟨f0, f1, f2, f3, f4, f5⟩ => ⟨m, hn, fun h'' sb => ?_⟩
  exact ⟨.ref D, H', I'.turned (t' := s'.toks) (fun b o hb e => (sb.2 b hb).trans e) f0 f1 f3 f4 f5, rfl, q⟩
end
/-! ### the two kinds of keys -/
def putI (D : Addr) (y z : V) (H : Hp) (N : Hp → Prop) : Prop := ∃ kvs k, y = kV k ∧ H D = some (.dK kvs) ∧ kvs.length < sizeLine ∧ N (upd H D (.dK (putK kvs k z)))
theorem putI_ok {P : Program} {w : World} : PutOk P w (fun _ => .dK []) putI where
  new := fun hp hw I => by
    subst hp hw
    exact dk_empty _ I.big
  put := fun hp hw _ I ry rz ⟨kvs, k, ey, hd, hl, n⟩ q => by
    subst ey
    exact d_dictSet I hd hl ry rz fun s' I' => q s' _ I' n
def putE (ks : List (List Key × Addr)) (k : List Key) (b : Addr) : List (List Key × Addr) := if (ks.any fun z => decide (z.1 = k)) = true then ks else ks ++ [(k, b)]
def putT (P : Program) (w : World) (D : Addr) (y z : V) (H : Hp) (N : Hp → Prop) : Prop := ∃ ks b k, z = .bl true ∧ y = .ref b ∧ H D = some (dkO P w D ks) ∧ (∀ t ∈ ks, H t.2 = some (.tup (t.1.map kV))) ∧ H b = some (.tup (k.map kV)) ∧ ks.length < 100000 ∧ N (upd H D (dkO P w D (putE ks k b)))
theorem putAt_raw (k : List Key) : ∀ ks : List (List Key × Addr), (rawOf ks).map (putAt k (Value.bool true)) = rawOf ks := fun ks => by
  unfold rawOf
  rw [List.map_map]
  refine List.map_congr_left fun z _ => ?_
  show putAt k (Value.bool true) (z.1, z.2, Value.bool true) = _
  unfold putAt
  split <;> rfl
theorem stored_raw {ks : List (List Key × Addr)} {k : List Key} {b : Addr} : storedH (rawOf ks) k b (Value.bool true) = rawOf (putE ks k b) := by
  unfold storedH putE
  rw [atKey_raw]
  split
  · exact putAt_raw k ks
  · unfold rawOf
    rw [List.map_append]
    rfl
theorem putE_len {ks : List (List Key × Addr)} {k : List Key} {b : Addr} : (putE ks k b).length ≤ ks.length + 1 := by
  unfold putE
  split
  · omega
  · rw [List.length_append, List.length_singleton]
    exact Nat.le_refl _
theorem putT_ok {P : Program} {w : World} : PutOk P w (fun D => dkO P w D []) (putT P w) where
  new := fun {X pins σ H s} hp hw I => by
    subst hp hw
    exact dkO_new (dk_empty (P := X.prog) (w := X.w) (H := H) s.heap I.big).2.1 (Nat.zero_le _) (Heap.DictOfH.new _)
  put := fun {X pins σ H s E D y z u v N Q} hp hw hu I ry rz ⟨ks, b, k, ez, ey, hd, hk, hb, hl, n⟩ q => by
    subst hp hw ez ey
    cases (show u = Value.ref b from ry)
    cases (show v = Value.bool true from rz)
    obtain ⟨a1, a2, dd⟩ := dkO_full I hd hk
    refine wpAny_dictSet_heap (hsz := by rw [rawOf, List.length_map]; exact a2) hu (key_of I.hok hb) dd fun h' dd' hsb => q _ _ ?_ n
    rw [stored_raw] at dd'
    obtain ⟨o, es, ep, hq, _⟩ := id dd'
    exact d_write I (by rw [hd]; exact True.intro) hsb ⟨o, hq⟩ (dkO_new a1 (sz_of (Nat.le_trans putE_len hl)) dd')
end RZ

set_option pp.maxSteps 3000
/-! J84: what dict comprehensions of two clauses give; dicts by pairs and by numbers whose values are all True. -/
namespace J
open PySem PySem.Spec PyProof.Rows L2 Evl RZ
/-! ### a list without repeats that grows -/
section
variable {β : Type} [DecidableEq β]
def addL (xs : List β) (x : β) : List β := if x ∈ xs then xs else xs ++ [x]
theorem mem_addL {xs : List β} {x y : β} : y ∈ addL xs x ↔ y ∈ xs ∨ y = x := by
  unfold addL
  split
  · rename_i h
    exact ⟨.inl, fun z => z.elim id fun e => by rw [e]; exact h⟩
  · rw [List.mem_append, List.mem_singleton]
theorem len_addL {xs : List β} {x : β} : (addL xs x).length ≤ xs.length + 1 := by
  unfold addL
  split
  · omega
  · rw [List.length_append, List.length_singleton]
    exact Nat.le_refl _
theorem mem_addAll {y : β} : ∀ (l us : List β), y ∈ l.foldl addL us ↔ y ∈ us ∨ y ∈ l
  | [], us => by simp
  | x :: l, us => by
    rw [List.foldl_cons, mem_addAll l, mem_addL, List.mem_cons, or_assoc]
theorem len_addAll : ∀ (l us : List β), (l.foldl addL us).length ≤ us.length + l.length
  | [], us => Nat.le_refl _
  | x :: l, us => by
    rw [List.foldl_cons, List.length_cons]
    have := len_addAll l (addL us x)
    have := len_addL (xs := us) (x := x)
    omega
theorem nodup_addL {xs : List β} {x : β} (h : xs.Nodup) : (addL xs x).Nodup := by
  unfold addL
  split
  · exact h
  · rename_i n
    exact List.nodup_append.mpr ⟨h, by simp, fun a ha b hb e => n (by rw [← List.mem_singleton.mp hb, ← e]; exact ha)⟩
theorem nodup_addAll : ∀ (l us : List β), us.Nodup → (l.foldl addL us).Nodup
  | [], _, h => h
  | x :: l, us, h => nodup_addAll l _ (nodup_addL h)
end
/-! ### the walks -/
theorem walk_in {J : It} {n : Nat} {G : Hp → Prop} {Y : Nat → Hp → V → Hp → Prop} (w : Walk J n G Y) (Step : V → Hp → (Hp → Prop) → Prop) {H0 : Hp} {Qd : Hp → Prop} (Pv : Nat → Hp → Prop) (h0 : Pv 0 H0) (hG : ∀ i H, i ≤ n → Pv i H → G H)
    (hs : ∀ i x H H', i < n → Pv i H → Y i H x H' → Step x H' (Pv (i + 1))) (hd : ∀ H, Pv n H → Qd H) :
    ∃ W : Nat → Nat → Hp → Prop, (∃ m, W 0 m H0) ∧ ∀ i m H, W i m H → (J.stop i H ∧ Qd H) ∨ (J.go i H ∧ ∃ N : Hp → Prop, (∀ H', N H' → ∃ m', m' < m ∧ W (i + 1) m' H') ∧ ∀ x H', J.yld i H x H' → Step x H' N) := by
  refine ⟨fun i m H => m = n - i ∧ i ≤ n ∧ Pv i H, ⟨n, rfl, Nat.zero_le _, h0⟩, ?_⟩
  rintro i m H ⟨rfl, hi, p⟩
  have q := hG i H hi p
  rcases Nat.lt_or_ge i n with hlt | hge
  · exact .inr ⟨w.goes i H hlt q, Pv (i + 1), fun H' p' => ⟨n - (i + 1), by omega, rfl, hlt, p'⟩, fun x H' y => hs i x H H' hlt p (w.yields i H x H' hlt q y)⟩
  · obtain rfl : i = n := by omega
    exact .inl ⟨w.stops H q, hd H p⟩
/-- how a dict whose values are all True holds a list of keys -/
structure AccOk {β : Type} [DecidableEq β] (newO : Addr → HO) (Put : Addr → V → V → Hp → (Hp → Prop) → Prop) (Kr : β → V → Hp → Prop) (Acc : List β → Addr → HO → Hp → Prop) (n : Nat) : Prop where
  nil : ∀ D S, Acc [] D (newO D) S
  up : ∀ {bs D o S S'}, Ex S S' → Acc bs D o S → Acc bs D o S'
  kup : ∀ {b y S S'}, Ex S S' → Kr b y S → Kr b y S'
  nco : ∀ {bs D o S}, Acc bs D o S → ∀ q, o ≠ LamX.CodeO D q
  put : ∀ {bs b y D o S H N}, Ex S H → H D = some o → Acc bs D o S → Kr b y S → bs.length < n → (∀ o', Acc (addL bs b) D o' S → N (upd H D o')) → Put D y (.bl true) H N
section
variable {α β γ : Type} [DecidableEq β] {newO : Addr → HO} {Put : Addr → V → V → Hp → (Hp → Prop) → Prop} {Kr : β → V → Hp → Prop} {Acc : List β → Addr → HO → Hp → Prop} {n m : Nat} {r : Rs} {s : L2.St} {S H : Hp} {tk tv : TE}
def twoF (zs : α → List γ) (kf : α → γ → β) (ys : List α) : List β := (ys.flatMap fun y => (zs y).map (kf y)).foldl addL []
theorem twoF_take {zs : α → List γ} {kf : α → γ → β} {ys : List α} {i : Nat} {y : α} (h : ys[i]? = some y) : twoF zs kf (ys.take (i + 1)) = ((zs y).map (kf y)).foldl addL (twoF zs kf (ys.take i)) := by
  unfold twoF
  rw [take_flat h, List.foldl_append]
theorem twoF_len {zs : α → List γ} {kf : α → γ → β} {ys : List α} (hm : ∀ y, y ∈ ys → (zs y).length ≤ m) (i : Nat) (hi : i ≤ ys.length) : (twoF zs kf (ys.take i)).length ≤ i * m := by
  have h1 := len_addAll ((ys.take i).flatMap fun y => (zs y).map (kf y)) []
  have h2 := flat_len (ys := ys.take i) (f := fun y => (zs y).map (kf y)) (m := m) fun y hy => by
    rw [List.length_map]
    exact hm y (List.mem_of_mem_take hy)
  rw [List.length_take, Nat.min_eq_left hi] at h2
  rw [List.length_nil] at h1
  unfold twoF
  omega
theorem ev_dcc (ok : AccOk newO Put Kr Acc n) {wi wi1 : TI} {g g1 : TG} {vs vs1 : List Nat} {ys : List α} (zs : α → List γ) {X : Rl α} {X1 : Rl γ} (kf : α → γ → β) (hm : ∀ y, y ∈ ys → (zs y).length ≤ m) (hn : ys.length * m ≤ n) (hi : EvI r wi s S ys X)
    (hb : ∀ y v S1, Ex S S1 → y ∈ ys → X y v S1 → ∃ s2, wipe s2 vs = wipe s vs ∧ (∀ H k, Ex S1 H → k s2 H → g v (wipe s vs) H k) ∧ EvI r wi1 s2 S1 (zs y) X1 ∧
      ∀ z v1 S2, Ex S1 S2 → z ∈ zs y → X1 z v1 S2 → ∃ s3, wipe s3 vs1 = wipe s2 vs1 ∧ (∀ H k, Ex S2 H → k s3 H → g1 v1 (wipe s2 vs1) H k) ∧ EvS r tk s3 S2 (fun u S3 => Kr (kf y z) u S3) ∧ ∀ S3, Ex S2 S3 → EvV r tv s3 S3 (.bl true)) :
    EvS r (tDcc newO Put wi g tYes wi1 g1 tYes tk tv vs vs1) s S fun v S1 => ∃ D o, v = .ref D ∧ S1 D = some o ∧ Acc (twoF zs kf ys) D o S1 := fun S1 H a w Q q =>
  hi S1 H a w _ fun J S2 H2 G Y w2 s2 wk hG hY D hD => by
    have hM : D ∉ r.M := w2.notM hD
    have nco : ∀ {bs : List β} {o : HO} {S' H' : Hp}, H' D = some o → Acc bs D o S' → ∀ q, H' D ≠ some (LamX.CodeO D q) := fun h acc q z => by
      rw [h] at z
      exact ok.nco acc q (Option.some.inj z)
    refine walk_in wk (fun x H' N => g x (wipe s vs) H' fun σ2 H2 => wipe σ2 vs = wipe s vs ∧ tYes σ2 H2 fun b H3 => if b = true then wi1 σ2 H3 fun J1 H4 => ∃ W1 : Nat → Nat → Hp → Prop, (∃ m, W1 0 m H4) ∧ ∀ j k H, W1 j k H →
        (J1.stop j H ∧ N H) ∨ (J1.go j H ∧ ∃ N1 : Hp → Prop, (∀ H', N1 H' → ∃ k', k' < k ∧ W1 (j + 1) k' H') ∧ ∀ x H', J1.yld j H x H' → g1 x (wipe σ2 vs1) H' fun σ3 H5 => wipe σ3 vs1 = wipe σ2 vs1 ∧ tYes σ3 H5 fun b H6 =>
          if b = true then tk σ3 H6 fun y H7 => tv σ3 H7 fun z H8 => Put D y z H8 N1 else N1 H6) else N H3)
      (fun i H' => ∃ S' o, Wd r S' H' ∧ Stp r S2 H2 S' H' ∧ S' D = none ∧ H' D = some o ∧ Acc (twoF zs kf (ys.take i)) D o S')
      ⟨S2, newO D, w2.new hD, Stp.new hD, w2.fresh hD, upd_same, by rw [List.take_zero]; exact ok.nil D S2⟩ (fun i H' _ ⟨S', o, w', s', _⟩ => hG S' H' s'.ex w') ?_ ?_
    · rintro i v H' H'' hlt ⟨S', o, w', s', n', l', acc⟩ y'
      obtain ⟨S3, y, gy, w3, s3, x3⟩ := hY i S' H' v H'' hlt s'.ex w' y'
      have my := List.mem_of_getElem? gy
      have e3 : Ex S S3 := a.trans (s2.ex.trans (s'.ex.trans s3.ex))
      obtain ⟨σ2, hw2, hg, hi1, hb1⟩ := hb y v S3 e3 my x3
      refine hg H'' _ w3.ex ⟨hw2, ?_⟩
      unfold tYes
      dsimp only
      rw [if_pos rfl]
      refine hi1 S3 H'' (Ex.refl _) w3 _ fun J1 S4 H4 G1 Y1 w4 s4 wk1 hG1 hY1 => ?_
      have s24 : Stp r S2 H2 S4 H4 := s'.trans (s3.trans s4)
      have l4 : H4 D = some o := s4.kp D _ hM (s3.kp D _ hM l')
      have n4 : S4 D = none := s4.fr D (ne_none (s3.kp D _ hM l')) (s3.fr D (ne_none l') n')
      have acc4 := ok.up (s3.ex.trans s4.ex) acc
      refine walk_in wk1 (fun x H' N1 => g1 x (wipe σ2 vs1) H' fun σ3 H5 => wipe σ3 vs1 = wipe σ2 vs1 ∧ tYes σ3 H5 fun b H6 => if b = true then tk σ3 H6 fun y H7 => tv σ3 H7 fun z H8 => Put D y z H8 N1 else N1 H6)
        (fun j Hj => ∃ Sj oj, Wd r Sj Hj ∧ Ex S4 Sj ∧ Stp r S2 H2 Sj Hj ∧ Sj D = none ∧ Hj D = some oj ∧ Acc ((((zs y).take j).map (kf y)).foldl addL (twoF zs kf (ys.take i))) D oj Sj)
        ⟨S4, o, w4, Ex.refl _, s24, n4, l4, by rw [List.take_zero]; exact acc4⟩ (fun j Hj _ ⟨Sj, oj, wj, ej, _⟩ => hG1 Sj Hj ej wj) ?_ ?_
      · rintro j v1 Hj Hj' hltj ⟨Sj, oj, wj, ej, sj, nj, lj, aj⟩ yj
        obtain ⟨S5, z, gz, w5, s5, x5⟩ := hY1 j Sj Hj v1 Hj' hltj ej wj yj
        obtain ⟨σ3, hw3, hg1, hk, hv⟩ := hb1 z v1 S5 (s4.ex.trans (ej.trans s5.ex)) (List.mem_of_getElem? gz) x5
        refine hg1 Hj' _ w5.ex ⟨hw3, ?_⟩
        unfold tYes
        dsimp only
        rw [if_pos rfl]
        refine hk S5 Hj' (Ex.refl _) w5 _ fun u S6 H6 w6 s6 hu => hv S6 s6.ex S6 H6 (Ex.refl _) w6 _ fun u2 S7 H7 w7 s7 eu => ?_
        subst eu
        have s57 := s5.trans (s6.trans s7)
        have l7 := s57.kp D _ hM lj
        have n7 := s57.fr D (ne_none lj) nj
        have a7 := ok.up s57.ex aj
        have bound : ((((zs y).take j).map (kf y)).foldl addL (twoF zs kf (ys.take i))).length < n := by
          have h1 := len_addAll (((zs y).take j).map (kf y)) (twoF zs kf (ys.take i))
          have h2 := twoF_len (kf := kf) hm i (Nat.le_of_lt hlt)
          have h3 := hm y my
          have h4 : (i + 1) * m ≤ ys.length * m := Nat.mul_le_mul_right _ hlt
          rw [Nat.succ_mul] at h4
          rw [List.length_map, List.length_take] at h1
          omega
        refine ok.put w7.ex l7 a7 (ok.kup s7.ex hu) bound fun o' acc' => ⟨S7, o', w7.mut n7 hM (nco l7 a7), ej.trans s57.ex, (sj.trans s57).mut hD, n7, upd_same, ?_⟩
        have ez : (zs y).take (j + 1) = (zs y).take j ++ [z] := by rw [List.take_add_one, gz]; rfl
        rw [ez, List.map_append, List.foldl_append]
        exact acc'
      · rintro Hj ⟨Sj, oj, wj, ej, sj, nj, lj, aj⟩
        rw [List.take_length, ← twoF_take gy] at aj
        exact ⟨Sj, oj, wj, sj, nj, lj, aj⟩
    · rintro H' ⟨S', o, w', s', n', l', acc⟩
      rw [List.take_length] at acc
      have h1 : H D = none := none_of fun z => s2.dm D z hD
      exact q (.ref D) (upd S' D o) H' (w'.settle l' hM) ((s2.trans s').settle h1 n') ⟨D, o, rfl, upd_same, ok.up (Ex.new n') acc⟩
end
/-! ### a thing locked while an expression is read -/
section
variable {r : Rs} {s : L2.St} {S H : Hp} {te : TE} {d : Addr}
theorem ev_lockU {u : HO} (mu : Mut (some u)) (nco : ∀ q, u ≠ LamX.CodeO d q) {R R' : V → Hp → Prop} (hd : S d = some u) (n : d ∉ r.M) (hR : ∀ v S2 od, S2 d = some (.frz od u) → R' v S2 → R v (upd S2 d u))
    (h : ∀ od S1, S1 d = some (.frz od u) → (∀ a o, a ≠ d → S a = some o → S1 a = some o) → EvS r te s S1 R') : EvS r (tLockE te) s S R := fun S1 H e w Q q => by
  have h1 := e _ _ hd
  have hH := w.ex _ _ h1
  refine ⟨d, u, hH, mu, fun od => ?_⟩
  have w' : Wd r (upd S1 d (.frz od u)) (upd H d (.frz od u)) := w.both n fun q z => by
    rw [hH] at z
    exact nco q (Option.some.inj z)
  refine h od (upd S1 d (.frz od u)) upd_same (fun a o na ha => by rw [upd_ne na]; exact e _ _ ha) _ _ (Ex.refl _) w' _ fun v S2 H2 w2 s2 hv => ?_
  have f2 := s2.ex _ _ upd_same
  have g2 := w2.ex _ _ f2
  refine ⟨g2, q v (upd S2 d u) (upd H2 d u) (w2.both n (nco_frz g2)) ⟨fun a o ha => ?_, fun a o na ha => ?_, fun a ha hs => ?_, fun a ha => ?_⟩ (hR v S2 od f2 hv)⟩
  · by_cases z : a = d
    · rw [z] at ha ⊢
      rw [h1] at ha
      rw [upd_same, ← ha]
    · rw [upd_ne z]
      exact s2.ex a o (by rw [upd_ne z]; exact ha)
  · by_cases z : a = d
    · rw [z] at ha ⊢
      rw [hH] at ha
      rw [upd_same, ← ha]
    · rw [upd_ne z]
      exact s2.kp a o na (by rw [upd_ne z]; exact ha)
  · have z : a ≠ d := fun z => by
      rw [z, h1] at hs
      exact nomatch hs
    rw [upd_ne z]
    exact s2.fr a (by rw [upd_ne z]; exact ha) (by rw [upd_ne z]; exact hs)
  · by_cases z : a = d
    · rw [z, upd_same]
      exact fun z => nomatch z
    · rw [upd_ne z]
      exact s2.dm a (by rw [upd_ne z]; exact ha)
/-- the keys of a locked dict by tuples, each the key's own tuple -/
def OwnR : Rl (List Key × Addr) := fun z v _ => v = .ref z.2
theorem ei_keysE {P : Program} {w : World} {ks : List (List Key × Addr)} {od : Obj} (h : EvV r te s S (.ref d)) (hd : S d = some (.frz od (dkO P w d ks))) : EvI r (iKeysE P w te) s S ks OwnR := fun S1 H a wd R q =>
  h S1 H a wd _ fun v S2 H2 w2 s2 ev => by
    have f2 := s2.ex _ _ (a _ _ hd)
    refine ⟨d, od, ks, ev, w2.ex _ _ f2, q (ItkE P w d od ks) S2 H2 (fun H => H d = some (.frz od (dkO P w d ks))) (fun i H x H' => H' = H ∧ ∃ z, ks[i]? = some z ∧ x = .ref z.2) w2 s2 ⟨fun i H hi g => ⟨g, hi⟩, fun H g => ⟨g, Nat.le_refl _⟩, fun i H v H' hi g y => y⟩ (fun S' H' e w' => w'.ex _ _ (e _ _ f2)) fun i S' H' v H'' hi e w' ⟨e4, z, e5, e6⟩ => ?_⟩
    subst e4
    exact ⟨S', z, e5, w', Stp.refl, e6⟩
end
/-! ### numbers, pairs -/
def AccI (F : List Int) (_ : Addr) (o : HO) (_ : Hp) : Prop := o = .dK (F.map fun p => ((Sum.inl p : Key), V.bl true))
theorem any_keysI (p : Int) : ∀ F : List Int, ((F.map fun p => ((Sum.inl p : Key), V.bl true)).any fun z => decide (z.1 = Sum.inl p)) = decide (p ∈ F)
  | [] => rfl
  | q :: F => by
    rw [List.map_cons, List.any_cons, any_keysI p F, ← Bool.decide_or]
    exact decide_eq_decide.mpr ⟨fun h => h.elim (fun e => by rw [Sum.inl.inj e]; exact .head _) (.tail _), fun h => (List.mem_cons.mp h).imp (fun e => by rw [e]) id⟩
theorem putK_I {F : List Int} {p : Int} : putK (F.map fun p => ((Sum.inl p : Key), V.bl true)) (.inl p) (.bl true) = (addL F p).map fun p => ((Sum.inl p : Key), V.bl true) := by
  unfold putK addL
  rw [any_keysI]
  by_cases h : p ∈ F
  · rw [if_pos (decide_eq_true h), if_pos h, List.map_map]
    refine List.map_congr_left fun q hq => ?_
    show (if _ then _ else _) = _
    split <;> rfl
  · have e : decide (p ∈ F) = false := decide_eq_false h
    rw [e, if_neg Bool.false_ne_true, if_neg h, List.map_append]
    rfl
theorem accI_ok : AccOk (fun _ => .dK []) putI (fun (p : Int) v _ => v = .int p) AccI 100000 where
  nil := fun D S => rfl
  up := fun e h => h
  kup := fun e h => h
  nco := fun {bs D o S} h q z => by
    have h : o = .dK _ := h
    rw [h] at z
    unfold LamX.CodeO at z
    exact nomatch z
  put := fun {bs b y D o S H N} e hd acc hk hl q => ⟨bs.map fun p => ((Sum.inl p : Key), V.bl true), .inl b, hk, hd.trans (congrArg some acc), by rw [List.length_map]; exact sz_lt hl, q _ (by rw [putK_I]; rfl)⟩
/-- the keys of the dict: the pairs F, their tuples in sight -/
def KsT (S : Hp) (F : List (Int × Int)) (ks : List (List Key × Addr)) : Prop := ks.map (·.1) = F.map keyP ∧ ∀ z ∈ ks, S z.2 = some (.tup (z.1.map kV))
theorem any_keysT {q : Int × Int} : ∀ {F : List (Int × Int)} {ks : List (List Key × Addr)}, ks.map (·.1) = F.map keyP → (ks.any fun z => decide (z.1 = keyP q)) = decide (q ∈ F)
  | [], [], _ => rfl
  | [], _ :: _, h => nomatch h
  | _ :: _, [], h => nomatch h
  | p :: F, z :: ks, h => by
    rw [List.map_cons, List.map_cons] at h
    obtain ⟨h1, h2⟩ := List.cons.inj h
    rw [List.any_cons, any_keysT h2, h1, ← Bool.decide_or]
    exact decide_eq_decide.mpr ⟨fun x => x.elim (fun e => by rw [keyP_inj e]; exact .head _) fun e => .tail _ e, fun x => (List.mem_cons.mp x).imp (fun e => by rw [e]) id⟩
theorem putE_T {S : Hp} {F : List (Int × Int)} {ks : List (List Key × Addr)} {q : Int × Int} {b : Addr} (h : KsT S F ks) (hb : S b = some (.tup ((keyP q).map kV))) : KsT S (addL F q) (putE ks (keyP q) b) := by
  unfold putE addL
  rw [any_keysT h.1]
  by_cases m : q ∈ F
  · rw [if_pos (decide_eq_true m), if_pos m]
    exact h
  · have e : decide (q ∈ F) = false := decide_eq_false m
    rw [e, if_neg Bool.false_ne_true, if_neg m]
    refine ⟨by rw [List.map_append, List.map_append, h.1]; rfl, fun z hz => ?_⟩
    rcases List.mem_append.mp hz with hz | hz
    · exact h.2 z hz
    · rw [List.mem_singleton.mp hz]
      exact hb
def AccT (P : Program) (w : World) (F : List (Int × Int)) (D : Addr) (o : HO) (S : Hp) : Prop := ∃ ks, o = dkO P w D ks ∧ KsT S F ks
def OwnP : Rl (Int × Int) := fun p v S => ∃ b, v = .ref b ∧ S b = some (.tup ((keyP p).map kV))
instance : Mono OwnP := ⟨fun e ⟨b, h1, h2⟩ => ⟨b, h1, e _ _ h2⟩⟩
theorem fields_of (q : Str) (n : Nat) : ∃ (h : Heap) (oc : Obj) (vs : Array Value), oc.data = .fields vs ∧ vs[1]? = some (.str q default) ∧ ∀ a, a < n → h.get? a = some oc := by
  refine ⟨⟨Array.replicate n ⟨.none, none, .fields #[.none, .str q default], #[]⟩, {}⟩, ⟨.none, none, .fields #[.none, .str q default], #[]⟩, #[.none, .str q default], rfl, rfl, fun a ha => ?_⟩
  unfold Heap.get?
  simp only [Array.getElem?_replicate, if_pos ha]
theorem dkO_nco {P : Program} {w : World} {d : Addr} {ks : List (List Key × Addr)} {c : Addr} {q : Str} : dkO P w d ks ≠ LamX.CodeO c q := fun e => by
  obtain ⟨h, oc, vs, h1, h2, h3⟩ := fields_of q (c + d + 1)
  have e1 := congrFun (HO.ext.inj e) h
  have y : ∃ (oc : Obj) (vs : Array Value) (t : Tok), h.get? c = some oc ∧ oc.data = .fields vs ∧ vs[1]? = some (.str q t) := ⟨oc, vs, default, h3 c (by omega), h1, h2⟩
  obtain ⟨_, _, o, es, ep, ho, _, hd, _⟩ := Eq.mpr e1 y
  rw [h3 d (by omega)] at ho
  cases ho
  rw [h1] at hd
  cases hd
theorem accT_ok {P : Program} {w : World} : AccOk (fun D => dkO P w D []) (putT P w) OwnP (AccT P w) 100000 where
  nil := fun D S => ⟨[], rfl, rfl, fun z hz => nomatch hz⟩
  up := fun e ⟨ks, h1, h2, h3⟩ => ⟨ks, h1, h2, fun z hz => e _ _ (h3 z hz)⟩
  kup := fun e h => Mono.up e h
  nco := fun {bs D o S} ⟨ks, h1, h2⟩ q z => by
    rw [h1] at z
    exact dkO_nco z
  put := fun {bs b y D o S H N} e hd ⟨ks, h1, h2⟩ ⟨c, h3, h4⟩ hl q => ⟨ks, c, keyP b, rfl, h3, by rw [hd, h1], fun t ht => e _ _ (h2.2 t ht), e _ _ h4, by
    have := congrArg List.length h2.1
    rw [List.length_map, List.length_map] at this
    omega, q _ ⟨_, rfl, putE_T h2 h4⟩⟩
end J

set_option pp.maxSteps 3000
/-! J85: list(d), dict(pairs), {k: True for ..} of dicts whose keys' own tuples are told. -/
namespace RZ
open PySem PySem.Spec PyProof.Rows L2 Evl J LamX
/-! ### list(d) -/
def rListE (P : Program) (w : World) : List V → Hp → VK → Prop := fun xs H Q => ∃ d ks, xs = [.ref d] ∧ H d = some (dkO P w d ks) ∧ ∀ l, H l = none → Q (.ref l) (upd H l (.lst (ks.map fun z => V.ref z.2)))
theorem call_listE {X : Cx} (hc : X.calm = true := by rfl) : CallR X (.type "list") (rListE X.prog X.w) := by
  intro pins s σ H xs us Q I r h
  obtain ⟨d, ks, rfl, hd, q⟩ := h
  obtain ⟨u, rfl, ru⟩ := vals1 r
  obtain rfl : u = Value.ref d := ru
  obtain ⟨⟨hs, hl, o, es, ep, ho, hx, hdt, hent, hn⟩, _⟩ := (show ObjOk X.prog X.w H s.heap d (dkO X.prog X.w d ks) from I.hok d _ hd)
  have l1 : es.size = ks.length := by
    have := size_of_entries hent
    rw [this, rawOf, List.length_map]
  refine PySem.W.kdl_call (kdl_raw hs hx hdt) (I.ok.hd hc) ho (by omega) fun h' tk acc c kp e it => ?_
  have ev : acc.toList = ks.map fun z => Value.ref z.2 := by
    apply List.ext_getElem?
    intro j
    have hl2 : acc.toList.length = ks.length := by rw [Array.length_toList, it.1]; exact l1
    rw [List.getElem?_map]
    cases hj : acc.toList[j]? with
    | none =>
      have h1 := List.getElem?_eq_none_iff.mp hj
      rw [List.getElem?_eq_none (by omega)]
      all_goals rfl
    | some v =>
      obtain ⟨en, hen, hv⟩ := it.2 j v (by rw [← Array.getElem?_toList]; exact hj)
      have qe := entry_at hent j
      rw [hen, rawOf, List.getElem?_map] at qe
      cases hb : ks[j]? with
      | none =>
        rw [hb] at qe
        exact nomatch (show some en = none from qe)
      | some b =>
        rw [hb] at qe
        have e2 : en = entryOfKey (tupleKind (mixKind X.prog X.w)) (b.1, b.2, Value.bool true) := Option.some.inj qe
        rw [hv, e2]
        all_goals rfl
  have r2 : Vals (ks.map fun z => V.ref z.2) acc.toList := by
    rw [ev]
    exact vals_rawOf ks
  exact ⟨.ref s.heap.objs.size, _, I.laid (t' := tk) kp (Nat.le_refl _) (show ObjOk X.prog X.w _ h' _ (.lst _) from ⟨by rw [List.length_map]; exact hl, acc.toList, c, r2, by simpa using e⟩), rfl, q _ (I.hok.fresh (Nat.le_refl _))⟩
/-! ### dict(pairs) -/
def putAll (zs : List (List Key × Addr)) (ks : List (List Key × Addr)) : List (List Key × Addr) := zs.foldl (fun ks z => putE ks z.1 z.2) ks
theorem storedAll_raw : ∀ (zs ks : List (List Key × Addr)), storedAllH (rawOf ks) (rawOf zs) = rawOf (putAll zs ks)
  | [], _ => rfl
  | z :: zs, ks => by
    show storedAllH (storedH (rawOf ks) z.1 z.2 (Value.bool true)) (rawOf zs) = _
    rw [stored_raw, storedAll_raw zs]
    rfl
theorem putAll_len : ∀ (zs ks : List (List Key × Addr)), (putAll zs ks).length ≤ ks.length + zs.length
  | [], _ => Nat.le_refl _
  | z :: zs, ks => by
    have h1 := putAll_len zs (putE ks z.1 z.2)
    have h2 := putE_len (ks := ks) (k := z.1) (b := z.2)
    rw [List.length_cons]
    show (putAll zs (putE ks z.1 z.2)).length ≤ _
    omega
def rDictE (P : Program) (w : World) (K : PySem.W.Frag) : List V → Hp → VK → Prop := fun xs H Q => ∃ (a : Addr) (ts : List Addr) (zs : List (List Key × Addr)), xs = [.ref a] ∧ SqL K H a (ts.map V.ref) ∧ Paired (fun t z => SqT K H t [V.ref z.2, .bl true]) ts zs ∧ (∀ z ∈ zs, H z.2 = some (.tup (z.1.map kV))) ∧ ∀ p, H p = none → Q (.ref p) (upd H p (dkO P w p (putAll zs [])))
theorem pairs_at {X : Cx} {pins : List (Addr × Obj)} {σ : L2.St} {H : Hp} {s : Shared} (I : Inv X pins σ H s) : ∀ {ts : List Addr} {zs : List (List Key × Addr)}, Paired (fun t z => SqT X.K H t [V.ref z.2, .bl true]) ts zs → ∀ (j : Nat) (z : List Key × Addr), zs[j]? = some z → ∃ t, ts[j]? = some t ∧ IsTup s.heap t #[Value.ref z.2, Value.bool true]
  | _, _, .nil, j, z, e => by simp at e
  | _, _, .cons (a := t) (b := z0) h r, 0, z, e => by
    obtain rfl : z0 = z := Option.some.inj e
    obtain ⟨its, rv, ht, _⟩ := I.tuple h
    obtain ⟨u, y, ei, ru, ry⟩ := vals2 rv
    subst ei
    obtain rfl : u = Value.ref z0.2 := ru
    cases (show y = Value.bool true from ry)
    exact ⟨t, rfl, ht⟩
  | _, _, .cons h r, j + 1, z, e => by
    obtain ⟨t, h1, h2⟩ := pairs_at I r j z (by simpa using e)
    exact ⟨t, by simpa using h1, h2⟩
theorem call_dictE {X : Cx} {K : PySem.W.Frag} (hu : X.A.units + 65 < cLine) (hc : X.calm = true := by rfl) (hK : X.K = K := by rfl) : CallR X (.type "dict") (rDictE X.prog X.w K) := by
  subst hK
  intro pins s σ H xs us Q I r h
  obtain ⟨a, ts, zs, rfl, hq, hp, hk, q⟩ := h
  obtain ⟨u, rfl, ru⟩ := vals1 r
  obtain rfl : u = Value.ref a := ru
  obtain ⟨its, rv, pl, hz⟩ := I.list hq
  have ei := refs_at rv
  subst ei
  rw [List.length_map] at hz
  have hl : ts.length = zs.length := Paired.length hp
  have at_ := pairs_at I hp
  obtain ⟨o, n, ho, hcl, hd, hdat⟩ := pl
  have raw : ∀ (i : Nat) (x : Value) (y : Value), (zs.map fun z => (Value.ref z.2, Value.bool true))[i]? = some (x, y) → ∃ z, zs[i]? = some z ∧ x = .ref z.2 ∧ y = .bool true := fun i x y e => by
    rw [List.getElem?_map] at e
    obtain ⟨z, h1, h2⟩ := Option.map_eq_some_iff.mp e
    cases h2
    exact ⟨z, h1, rfl, rfl⟩
  have lraw : (zs.map fun z => (Value.ref z.2, Value.bool true)).length = zs.length := List.length_map ..
  refine PySem.call_dict_pairsH (knd := tupleKind (mixKind X.prog X.w)) (ps := rawOf zs) (PySem.PairArg.list a _ (fun j => ts.getD j 0) (zs.map fun z => (Value.ref z.2, Value.bool true))) (I.ok.hd hc) (show X.A.units + 1 + 1 < cLine by omega) ⟨⟨o, n, ho, hcl, hd, hdat⟩, by simp [hl], fun j x y e => ?_⟩ ⟨by rw [rawOf, List.length_map, lraw], fun i x y e => ?_⟩ (fun h' kp x hx => ?_) (by rw [lraw, ← hl]; exact hz) fun h' tk hd' kp => ?_
  · obtain ⟨z, hz, rfl, rfl⟩ := raw j x y e
    obtain ⟨t, h1, h2⟩ := at_ j z hz
    refine ⟨by simp [List.getD_eq_getElem?_getD, h1], .inl ?_⟩
    have e1 : ts.getD j 0 = t := by rw [List.getD_eq_getElem?_getD, h1]; rfl
    show s.heap.IsTuple (ts.getD j 0) _
    rw [e1]
    exact h2
  · obtain ⟨z, hz, rfl, rfl⟩ := raw i x y e
    exact ⟨z.1, z.2, by rw [rawOf, List.getElem?_map, hz]; rfl, rfl⟩
  · obtain ⟨z, hz, rfl⟩ := List.mem_map.mp hx
    have I2 : Inv X pins σ H { s with heap := h' } := I.kept (t' := s.toks) fun b o e => kp b o (Nat.ne_of_lt (Heap.lt_size e)) List.not_mem_nil e
    exact key_of I2.hok (hk z hz)
  · rw [show ([] : List (List Key × Addr × Value)) = rawOf [] from rfl, storedAll_raw] at hd'
    have hm : (s.heap.objs.size == sysModules) = false := beq_eq_false_iff_ne.mpr (Nat.ne_of_gt I.big)
    have hlen : (putAll zs []).length ≤ sizeLine := by
      have := putAll_len zs []
      rw [List.length_nil] at this
      omega
    exact ⟨.ref s.heap.objs.size, _, I.laid (t' := tk) (fun b o e => kp b o List.not_mem_nil e) (Nat.le_refl _) (dkO_new hm hlen hd'), rfl, q _ (I.hok.fresh (Nat.le_refl _))⟩
/-! ### {k: v for ..} of one clause, however the dict is held -/
def tDcg (newO : Addr → HO) (Put : Addr → V → V → Hp → (Hp → Prop) → Prop) (wi : TI) (g : TG) (tt : TT) (tk tv : TE) (vs : List Nat) : TE := fun σ H Q => wi σ H fun J H1 => ∀ D, H1 D = none → ∃ W : Nat → Nat → Hp → Prop, (∃ m, W 0 m (upd H1 D (newO D))) ∧ ∀ i m H, W i m H →
  (J.stop i H ∧ Q (.ref D) H) ∨ (J.go i H ∧ ∃ N : Hp → Prop, (∀ H', N H' → ∃ m', m' < m ∧ W (i + 1) m' H') ∧ ∀ x H', J.yld i H x H' → g x (wipe σ vs) H' fun σ2 H2 => wipe σ2 vs = wipe σ vs ∧ tt σ2 H2 fun b H3 =>
    if b = true then tk σ2 H3 fun y H4 => tv σ2 H4 fun z H5 => Put D y z H5 N else N H3)
section
variable {X : Cx}
theorem dcg_core {newO : Addr → HO} {Put : Addr → V → V → Hp → (Hp → Prop) → Prop} (po : PutOk X.prog X.w newO Put) (hrm : (tupleKind (mixKind X.prog X.w)).room X.A) {pins : List (Addr × Obj)} {s : Shared} {σ : L2.St} {H : Hp} {Q : VK} {kx vx t0 i0 : Expr} {f0 : List Expr} {sc : Scope} {own : List (Str × Nat)} {pos pos' : Pos} {wi : TI} {g : TG} {tt : TT} {tk tv : TE} {use : Option (Value → Sem Unit)} {Qf : Value → Shared → Prop}
    (hc : X.calm = true) (hN : X.N.Nodup) (I : Inv X pins σ H s) (hi : PI X t0 i0 wi) (ok : BlkOk X.N X.env.scope sc own)
    (B : Shared → Hp → Addr → List (Str × Addr) → List Addr → Cx) (eB : B = fun s H C cl fp => X.blk s H sc (compEnvC sc cl C X.env) fp)
    (hg : ∀ s H C cl fp, PG (B s H C cl fp) t0 g) (ht : ∀ s H C cl fp, PTs (B s H C cl fp) f0 tt) (hk : ∀ s H C cl fp, PE (B s H C cl fp) kx tk) (he : ∀ s H C cl fp, PE (B s H C cl fp) vx tv) (hs : ∀ x, foldedSetIterable i0 X.env x = pure x)
    (h : tDcg newO Put wi g tt tk tv (own.map (·.2)) σ H Q)
    (fin : ∀ D C s' m H', Inv X pins σ H' s' → Q (.ref D) H' → s'.heap.Ns C m → FpOk X pins H' C → compPost (model X.prog X.w) X.A X.xe use Qf (.ref D) C (.ok .next) s') :
    wpAny (model X.prog X.w) X.A (comprehension (.DictComp kx vx [⟨t0, i0, f0, 0⟩] sc pos) sc X.env pos' newDict false (eval i0 X.env) use) Qf X.xe s := by
  subst eB
  have free : ∀ y ∈ sc.names, y.2 = .free → ∃ c, X.env.cells.lookup y.1 = some c := fun y hy e => (ok.free y hy e).elim (fun k => I.ok.has _ (.inl k)) fun k => I.ok.has _ (.inr k)
  refine wpAny_comprehension_free (use := use) rfl hs (closure_ok free) ok.kind (fun y hy e => by rw [ok.uniq y hy, e]) (thn (hi.run pins s σ H _ I h) fun xv s1 hx => thn hx fun itv s2 ⟨it, fp, tn, J, H2, e, I2, T, st2, f2, q⟩ => ?_)
  subst e
  refine wpAny_newObj_type (newEnv_comp ?_)
  generalize hD : s2.heap.objs.size = D
  generalize hs3 : ({ s2 with heap := s2.heap.push { cls := .type "dict", data := .dict #[] } } : Shared) = s3
  have new := po.new rfl rfl I2
  rw [hD] at new
  have hDn : H2 D = none := I2.hok.fresh (Nat.le_of_eq hD)
  obtain ⟨W, ⟨m0, w0⟩, turn⟩ := q _ hDn
  have old : ∀ b ∈ fp, b < D := fun b hb => by
    obtain ⟨o, eo, _⟩ := T.obj _ _ st2 b hb
    rw [← hD]
    exact Heap.lt_size eo
  have h3 : s3.heap = s2.heap.push { cls := .type "dict", data := .dict #[] } := by rw [← hs3]
  have I3 : Inv X pins σ (upd H2 D (newO D)) s3 := by
    rw [← hs3]
    exact I2.laid (t' := s2.toks) (fun b o eo => Heap.get?_push_of_some _ eo) (Nat.le_of_eq hD) new
  have st3 : tn 0 s3.heap := T.keep _ _ _ st2 fun b _ o eo => by rw [h3]; exact Heap.get?_push_of_some _ eo
  have f3 : ∀ b ∈ fp, FpOk X pins (upd H2 D (newO D)) b ∧ b < s3.heap.objs.size := fun b hb =>
    ⟨⟨by rw [upd_ne (Nat.ne_of_lt (old b hb))]; exact (f2 b hb).1, (f2 b hb).2⟩, by rw [h3, Heap.size_push, hD]; exact Nat.lt_succ_of_lt (old b hb)⟩
  show codeAny _ _ (.compStart (.DictComp kx vx [⟨t0, i0, f0, 0⟩] sc pos) 0 (.ref it) (.ref D) (compEnvC sc (cellsFrom (s3.heap.objs.size + 1) sc.names (cloFrom X.env.cells sc.names [])) s3.heap.objs.size X.env)) (compPost (model X.prog X.w) X.A X.xe use Qf (.ref D) s3.heap.objs.size) { s3 with heap := pushCells (s3.heap.push { cls := .type "dict", data := .dict #[] }) sc.names }
  generalize upd H2 D (newO D) = H3 at w0 I3 f3
  have I4 := block_start I3 ok hN f3
  have nfp : ∀ b ∈ fp, H3 b = none := fun b hb => (f3 b hb).1.1
  have pg := hg s3 H3 s3.heap.objs.size (cellsFrom (s3.heap.objs.size + 1) sc.names (cloFrom X.env.cells sc.names [])) fp
  have pt := ht s3 H3 s3.heap.objs.size (cellsFrom (s3.heap.objs.size + 1) sc.names (cloFrom X.env.cells sc.names [])) fp
  have pk := hk s3 H3 s3.heap.objs.size (cellsFrom (s3.heap.objs.size + 1) sc.names (cloFrom X.env.cells sc.names [])) fp
  have pe := he s3 H3 s3.heap.objs.size (cellsFrom (s3.heap.objs.size + 1) sc.names (cloFrom X.env.cells sc.names [])) fp
  dsimp only at pg pt pk pe
  generalize hce : compEnvC sc (cellsFrom (s3.heap.objs.size + 1) sc.names (cloFrom X.env.cells sc.names [])) s3.heap.objs.size X.env = ce at I4 pg pt pk pe ⊢
  have cL : ce.locals = s3.heap.objs.size := by rw [← hce]; rfl
  have st4 : tn 0 ({ s3 with heap := pushCells (s3.heap.push { cls := .type "dict", data := .dict #[] }) sc.names } : Shared).heap := T.keep _ _ _ st3 fun b _ o eo => pushCells_keeps _ _ _ _ (Heap.get?_push_of_some _ eo)
  generalize ({ s3 with heap := pushCells (s3.heap.push { cls := .type "dict", data := .dict #[] }) sc.names } : Shared) = s4 at I4 st4 ⊢
  have stat : ∀ {σ' : L2.St} {H' : Hp} {s' : Shared}, Inv (X.blk s3 H3 sc ce fp) [] σ' H' s' → (∀ b ∈ fp, H' b = none) → ∀ b ∈ fp, FpOk (X.blk s3 H3 sc ce fp) [] H' b := fun {σ' H' s'} I' hn b hb =>
    ⟨hn b hb, (I'.ok.exf b hb).1, I'.ok.exfs b hb, .inl hb, fun x c e => (I'.ok.exf b hb).2 x c e, fun p hp => absurd (show p ∈ ([] : List (Addr × Obj)) ++ [] from hp) List.not_mem_nil⟩
  let Btw : Nat → Shared → Prop := fun n s' => ∃ i H', Inv (X.blk s3 H3 sc ce fp) [] (wipe σ (own.map (·.2))) H' s' ∧ tn i s'.heap ∧ (∀ b ∈ fp, H' b = none) ∧ W i n H'
  have loop : codeAny (model X.prog X.w) X.A (.compLoop (.DictComp kx vx [⟨t0, i0, f0, 0⟩] sc pos) 0 (.ref it) (.ref D) ce) (compPost (model X.prog X.w) X.A X.xe use Qf (.ref D) s3.heap.objs.size) s4 := by
    refine compLoop_anyD Btw ?_ m0 ⟨0, H3, I4, st4, nfp, w0⟩
    rintro n s5 ⟨i, H5, I5, st5, n5, w5⟩
    rcases turn i n H5 w5 with ⟨stop, qq⟩ | ⟨go, N, hN', step⟩
    · refine thnF (T.done (X.blk s3 H3 sc ce fp) rfl rfl rfl hc i [] s5 _ H5 (fun _ _ => False) I5 (stat I5 n5) st5 stop) fun r s6 ⟨hr, I6⟩ => ?_
      subst hr
      have I7 : Inv X pins σ H5 s6 := I3.call' (ch := fp) I6.os I6.base I6.hok I6.bare fun b hb => let z := (f3 b hb).1.2; ⟨z.2.2.1, z.1, z.2.2.2.1, z.2.2.2.2⟩
      have nC : H5 s3.heap.objs.size = none := by
        have z : H5 ce.locals = none := I6.free
        rwa [cL] at z
      obtain ⟨m, hn, _⟩ := I6.loc
      have hn : s6.heap.Ns ce.locals m := hn
      rw [cL] at hn
      exact fin D _ s6 m H5 I7 qq hn (I3.fpOk (Nat.le_refl _) nC)
    · refine thnF (T.item (X.blk s3 H3 sc ce fp) rfl rfl rfl hc i [] s5 _ H5 (fun _ _ => False) I5 (stat I5 n5) st5 go) fun r s6 ⟨u, hr, h6⟩ => ?_
      subst hr
      refine thnF h6 fun _ s7 ⟨x, H7, I7, r7, y7, st7, n7⟩ => ?_
      refine thnF (pg.run _ s7 _ H7 x u _ (I7.pinned (stat I7 n7) (T.obj _ _ st7)) r7 (step x H7 y7)) fun _ s8 ⟨σ8, H8, I8, hw8, q8⟩ => thnF (pt.run _ s8 σ8 H8 _ I8 q8) fun b s9 ⟨H9, I9, q9⟩ => ?_
      have back : ∀ {s' : Shared} {H' : Hp}, Inv (X.blk s3 H3 sc ce fp) ([] ++ pinsAt fp s7.heap) σ8 H' s' → N H' → ∃ m, m < n ∧ Btw m s' := fun {s' H'} I' nx => by
        obtain ⟨m', hm, w'⟩ := hN' H' nx
        have pin : ∀ b ∈ fp, ∀ o, s7.heap.get? b = some o → s'.heap.get? b = some o ∧ H' b = none := fun b hb o eo =>
          let z := I'.pin (b, o) (List.mem_append_right _ (List.mem_append_right _ (mem_pinsAt hb eo)))
          ⟨z.1, z.2.1⟩
        refine ⟨m', hm, i + 1, H', (I'.unpinned (pins := [])).weak (by rw [← hw8, wipe_length]) (fun j v e => ?_), T.keep _ _ _ st7 fun b hb o eo => (pin b hb o eo).1, fun b hb => ?_, w'⟩
        · rw [← hw8] at e
          exact (wipe_some e).1
        · obtain ⟨o, eo, _⟩ := T.obj _ _ st7 b hb
          exact (pin b hb o eo).2
      match b, q9 with
      | false, q9 => exact back I9 q9
      | true, q9 =>
        refine thnF (pk.run _ s9 σ8 H9 _ I9 q9) fun y s10 ⟨yv, H10, I10, r10, q10⟩ => thnF (pe.run _ s10 σ8 H10 _ I10 q10) fun z s11 ⟨zv, H11, I11, r11, q11⟩ => ?_
        exact po.put (X := X.blk s3 H3 sc ce fp) rfl rfl hrm I11 r10 r11 q11 fun s12 H12 I12 nx => back I12 nx
  exact codeAny_compStart_dict loop (T.self X.A 0 _ _ _ st4 loop)
theorem pe_dcg {newO : Addr → HO} {Put : Addr → V → V → Hp → (Hp → Prop) → Prop} (po : PutOk X.prog X.w newO Put) (hrm : (tupleKind (mixKind X.prog X.w)).room X.A) {kx vx t0 i0 : Expr} {f0 : List Expr} {sc : Scope} {own : List (Str × Nat)} {pos : Pos} {wi : TI} {g : TG} {tt : TT} {tk tv : TE}
    (hc : X.calm = true) (hN : X.N.Nodup) (hi : PI X t0 i0 wi) (ok : BlkOk X.N X.env.scope sc own)
    (hg : ∀ (s : Shared) (H : Hp) (C : Addr) (cl : List (Str × Addr)) (fp : List Addr), PG (X.blk s H sc (compEnvC sc cl C X.env) fp) t0 g) (ht : ∀ (s : Shared) (H : Hp) (C : Addr) (cl : List (Str × Addr)) (fp : List Addr), PTs (X.blk s H sc (compEnvC sc cl C X.env) fp) f0 tt)
    (hk : ∀ (s : Shared) (H : Hp) (C : Addr) (cl : List (Str × Addr)) (fp : List Addr), PE (X.blk s H sc (compEnvC sc cl C X.env) fp) kx tk) (he : ∀ (s : Shared) (H : Hp) (C : Addr) (cl : List (Str × Addr)) (fp : List Addr), PE (X.blk s H sc (compEnvC sc cl C X.env) fp) vx tv) (hs : ∀ x, foldedSetIterable i0 X.env x = pure x := by intro _; rfl) :
    PE X (.DictComp kx vx [⟨t0, i0, f0, 0⟩] sc pos) (tDcg newO Put wi g tt tk tv (own.map (·.2))) := by
  refine ⟨fun pins s σ H Q I h => ?_⟩
  rw [arm_eval_DictComp]
  refine dcg_core po hrm hc hN I hi ok _ rfl hg ht hk he hs h fun D C s' m H' I' q hn ⟨f0, f1, f2, f3, f4, f5⟩ => ⟨m, hn, fun h'' sb => ?_⟩
  exact ⟨.ref D, H', I'.turned (t' := s'.toks) (fun b o hb e => (sb.2 b hb).trans e) f0 f1 f3 f4 f5, rfl, q⟩
theorem ps_setDcg {newO : Addr → HO} {Put : Addr → V → V → Hp → (Hp → Prop) → Prop} (po : PutOk X.prog X.w newO Put) (hrm : (tupleKind (mixKind X.prog X.w)).room X.A) {i : Nat} {y : Str} {py : Pos} {kx vx t0 i0 : Expr} {f0 : List Expr} {sc : Scope} {own : List (Str × Nat)} {pos spos : Pos} {wi : TI} {g : TG} {tt : TT} {tk tv : TE} (hc : X.calm = true) (hN : X.N.Nodup) (hy : X.N[i]? = some y) (hyl : X.env.scope.names.lookup y = some .local)
    (hsw : swapsWith (.DictComp kx vx [⟨t0, i0, f0, 0⟩] sc pos) (some (.Name y py)) spos.line X.env = pure true) (hi : PI X t0 i0 wi) (ok : BlkOk X.N X.env.scope sc own)
    (hg : ∀ (s : Shared) (H : Hp) (C : Addr) (cl : List (Str × Addr)) (fp : List Addr), PG (X.blk s H sc (compEnvC sc cl C X.env) fp) t0 g) (ht : ∀ (s : Shared) (H : Hp) (C : Addr) (cl : List (Str × Addr)) (fp : List Addr), PTs (X.blk s H sc (compEnvC sc cl C X.env) fp) f0 tt)
    (hk : ∀ (s : Shared) (H : Hp) (C : Addr) (cl : List (Str × Addr)) (fp : List Addr), PE (X.blk s H sc (compEnvC sc cl C X.env) fp) kx tk) (he : ∀ (s : Shared) (H : Hp) (C : Addr) (cl : List (Str × Addr)) (fp : List Addr), PE (X.blk s H sc (compEnvC sc cl C X.env) fp) vx tv) (hs : ∀ x, foldedSetIterable i0 X.env x = pure x := by intro _; rfl) :
    PS X (.Assign [.Name y py] (.DictComp kx vx [⟨t0, i0, f0, 0⟩] sc pos) spos) (tAsg (tDcg newO Put wi g tt tk tv (own.map (·.2))) (gName i)) := by
  refine ⟨fun pins s σ H D I h => ?_⟩
  rw [exec_Assign_Name_used _ _ _ _ hsw]
  refine wpAny_bind (wpAny_standAt (wpAny_bind ?_))
  show wpAny _ X.A (do let _ ← comprehension (.DictComp kx vx [⟨t0, i0, f0, 0⟩] sc pos) sc X.env (firstIterPos [⟨t0, i0, f0, 0⟩] pos) newDict false (eval i0 X.env) (some (assign (.Name y py) X.env))) _ _ s
  have h : tDcg newO Put wi g tt tk tv (own.map (·.2)) σ H (fun x H1 => gName i x σ H1 D.nx) := h
  refine wpAny_bind (thn (dcg_core (Qf := fun _ s' => SP X pins D .next s') po hrm hc hN I hi ok _ rfl hg ht hk he hs h fun L C s' m H' I' q hn f => ?_) fun _ s' hq => wpAny_pure (wpAny_pure hq))
  show wpAny _ _ (assign (.Name y py) X.env (.ref L)) _ _ _
  refine wpAny_assign_Name (store_ok2 (v := V.ref L) I' hN hy (.inl hyl) rfl (fun s2 I2 ⟨a, sb, ha⟩ => ?_) (.inr hyl))
  obtain ⟨f0, f1, f2, f3, f4, f5⟩ := f
  have haC : C ≠ a := by
    rcases ha with z | z
    · rw [z]; exact f1
    · exact fun e => f4 y a z e.symm
  exact ⟨m, hn.sameBut sb haC, fun h3 sb3 => ⟨_, H', I2.turned (t' := s2.toks) (fun b o hb e => (sb3.2 b hb).trans e) f0 f1 f3 f4 f5, q⟩⟩
end
end RZ

set_option pp.maxSteps 3000
/-! J86: dicts whose keys are told by a function, their own tuples in sight; what J85's readings give. -/
namespace J
open PySem PySem.Spec PyProof.Rows L2 Evl RZ
section
variable {β : Type} [DecidableEq β] (kf : β → List Key)
/-- a tuple of its own -/
def OwnG : Rl β := fun b v S => ∃ a, v = .ref a ∧ S a = some (.tup ((kf b).map kV))
instance : Mono (OwnG kf) := ⟨fun e ⟨a, h1, h2⟩ => ⟨a, h1, e _ _ h2⟩⟩
def KsG (S : Hp) (F : List β) (ks : List (List Key × Addr)) : Prop := ks.map (·.1) = F.map kf ∧ ∀ z ∈ ks, S z.2 = some (.tup (z.1.map kV))
variable {kf}
theorem KsG.up {S S' : Hp} {F : List β} {ks : List (List Key × Addr)} (e : Ex S S') (h : KsG kf S F ks) : KsG kf S' F ks := ⟨h.1, fun z hz => e _ _ (h.2 z hz)⟩
theorem KsG.len {S : Hp} {F : List β} {ks : List (List Key × Addr)} (h : KsG kf S F ks) : ks.length = F.length := by
  have := congrArg List.length h.1
  rw [List.length_map, List.length_map] at this
  exact this
theorem any_keysG (inj : ∀ a b, kf a = kf b → a = b) {q : β} : ∀ {F : List β} {ks : List (List Key × Addr)}, ks.map (·.1) = F.map kf → (ks.any fun z => decide (z.1 = kf q)) = decide (q ∈ F)
  | [], [], _ => rfl
  | [], _ :: _, h => nomatch h
  | _ :: _, [], h => nomatch h
  | p :: F, z :: ks, h => by
    rw [List.map_cons, List.map_cons] at h
    obtain ⟨h1, h2⟩ := List.cons.inj h
    rw [List.any_cons, any_keysG inj h2, h1, ← Bool.decide_or]
    exact decide_eq_decide.mpr ⟨fun x => x.elim (fun e => by rw [inj _ _ e]; exact .head _) fun e => .tail _ e, fun x => (List.mem_cons.mp x).imp (fun e => by rw [e]) id⟩
theorem putE_G (inj : ∀ a b, kf a = kf b → a = b) {S : Hp} {F : List β} {ks : List (List Key × Addr)} {q : β} {b : Addr} (h : KsG kf S F ks) (hb : S b = some (.tup ((kf q).map kV))) : KsG kf S (addL F q) (putE ks (kf q) b) := by
  unfold putE addL
  rw [any_keysG inj h.1]
  by_cases m : q ∈ F
  · rw [if_pos (decide_eq_true m), if_pos m]
    exact h
  · have e : decide (q ∈ F) = false := decide_eq_false m
    rw [e, if_neg Bool.false_ne_true, if_neg m]
    refine ⟨by rw [List.map_append, List.map_append, h.1]; rfl, fun z hz => ?_⟩
    rcases List.mem_append.mp hz with hz | hz
    · exact h.2 z hz
    · rw [List.mem_singleton.mp hz]
      exact hb
theorem KsG.snoc {S : Hp} {F : List β} {ks : List (List Key × Addr)} {q : β} {b : Addr} (h : KsG kf S F ks) (hb : S b = some (.tup ((kf q).map kV))) : KsG kf S (F ++ [q]) (ks ++ [(kf q, b)]) := by
  refine ⟨by rw [List.map_append, List.map_append, h.1]; rfl, fun z hz => ?_⟩
  rcases List.mem_append.mp hz with hz | hz
  · exact h.2 z hz
  · rw [List.mem_singleton.mp hz]
    exact hb
/-- the keys as values -/
theorem KsG.all {S : Hp} : ∀ {F : List β} {ks : List (List Key × Addr)}, KsG kf S F ks → All2 (OwnG kf) S F (ks.map fun z => V.ref z.2)
  | [], [], _ => .nil
  | [], _ :: _, h => nomatch h.1
  | _ :: _, [], h => nomatch h.1
  | p :: F, z :: ks, ⟨h, h2⟩ => by
    rw [List.map_cons, List.map_cons] at h
    obtain ⟨h1, h3⟩ := List.cons.inj h
    have hz := h2 z (.head _)
    rw [h1] at hz
    exact .cons ⟨z.2, rfl, hz⟩ (KsG.all ⟨h3, fun y hy => h2 y (.tail _ hy)⟩)
variable (kf) in
def AccG (P : Program) (w : World) (F : List β) (D : Addr) (o : HO) (S : Hp) : Prop := ∃ ks, o = dkO P w D ks ∧ KsG kf S F ks
theorem accG_ok {P : Program} {w : World} (inj : ∀ a b, kf a = kf b → a = b) : AccOk (fun D => dkO P w D []) (putT P w) (OwnG kf) (AccG kf P w) 100000 where
  nil := fun D S => ⟨[], rfl, rfl, fun z hz => nomatch hz⟩
  up := fun e ⟨ks, h1, h2⟩ => ⟨ks, h1, h2.up e⟩
  kup := fun e h => Mono.up e h
  nco := fun {bs D o S} ⟨ks, h1, h2⟩ q z => by
    rw [h1] at z
    exact dkO_nco z
  put := fun {bs b y D o S H N} e hd ⟨ks, h1, h2⟩ ⟨c, h3, h4⟩ hl q => ⟨ks, c, kf b, rfl, h3, by rw [hd, h1], fun t ht => e _ _ (h2.2 t ht), e _ _ h4, by rw [h2.len]; exact hl, q _ ⟨_, rfl, putE_G inj h2 h4⟩⟩
end
section
variable {α β : Type} [DecidableEq β] {newO : Addr → HO} {Put : Addr → V → V → Hp → (Hp → Prop) → Prop} {Kr : β → V → Hp → Prop} {Acc : List β → Addr → HO → Hp → Prop} {n : Nat} {r : Rs} {s : L2.St} {S H : Hp} {tk tv te : TE}
/-- {k: True for ..}: a new dict, not stable so far -/
theorem en_dcg (ok : AccOk newO Put Kr Acc n) {wi : TI} {j : Nat} {vs : List Nat} {ys : List α} {X : Rl α} (kf : α → β) (hn : ys.length ≤ n) (hi : EvI r wi s S ys X) (hw : ∀ v, wipe ((wipe s vs).set j (some v)) vs = wipe s vs)
    (hk : ∀ y v S1, Ex S S1 → y ∈ ys → X y v S1 → EvS r tk ((wipe s vs).set j (some v)) S1 fun u S2 => Kr (kf y) u S2) (hv : ∀ y v S1, Ex S S1 → y ∈ ys → X y v S1 → EvV r tv ((wipe s vs).set j (some v)) S1 (.bl true)) :
    ∀ S1 H, Ex S S1 → Wd r S1 H → ∀ Q : VK, (∀ D o S2 H2, H D = none → H2 D = some o → S2 D = none → Wd r S2 H2 → Stp r S1 H S2 H2 → Acc ((ys.map kf).foldl addL []) D o S2 → Q (.ref D) H2) → tDcg newO Put wi (gName j) tYes tk tv vs s H Q := fun S1 H a w Q q =>
  hi S1 H a w _ fun J S2 H2 G Y w2 s2 wk hG hY D hD => by
    have hM : D ∉ r.M := w2.notM hD
    refine walk_in wk (fun x H' N => gName j x (wipe s vs) H' fun σ2 H2 => wipe σ2 vs = wipe s vs ∧ tYes σ2 H2 fun b H3 => if b = true then tk σ2 H3 fun y H4 => tv σ2 H4 fun z H5 => Put D y z H5 N else N H3)
      (fun i H' => ∃ S' o, Wd r S' H' ∧ Stp r S2 H2 S' H' ∧ S' D = none ∧ H' D = some o ∧ Acc (((ys.take i).map kf).foldl addL []) D o S')
      ⟨S2, newO D, w2.new hD, Stp.new hD, w2.fresh hD, upd_same, by rw [List.take_zero]; exact ok.nil D S2⟩ (fun i H' _ ⟨S', o, w', s', _⟩ => hG S' H' s'.ex w') ?_ ?_
    · rintro i v H' H'' hlt ⟨S', o, w', s', n', l', acc⟩ y'
      obtain ⟨S3, y, gy, w3, s3, x3⟩ := hY i S' H' v H'' hlt s'.ex w' y'
      have my := List.mem_of_getElem? gy
      have e3 : Ex S S3 := a.trans (s2.ex.trans (s'.ex.trans s3.ex))
      refine ⟨hw v, ?_⟩
      unfold tYes
      dsimp only
      rw [if_pos rfl]
      refine hk y v S3 e3 my x3 S3 H'' (Ex.refl _) w3 _ fun u S4 H4 w4 s4 hu => hv y v S3 e3 my x3 S4 H4 s4.ex w4 _ fun u2 S5 H5 w5 s5 eu => ?_
      subst eu
      have s35 := s3.trans (s4.trans s5)
      have l5 := s35.kp D _ hM l'
      have n5 := s35.fr D (ne_none l') n'
      have a5 := ok.up s35.ex acc
      have bound : (((ys.take i).map kf).foldl addL []).length < n := by
        have h1 := len_addAll ((ys.take i).map kf) []
        rw [List.length_map, List.length_take, List.length_nil] at h1
        omega
      refine ok.put w5.ex l5 a5 (ok.kup s5.ex hu) bound fun o' acc' => ⟨S5, o', w5.mut n5 hM (fun q z => by
        rw [l5] at z
        exact ok.nco a5 q (Option.some.inj z)), (s'.trans s35).mut hD, n5, upd_same, ?_⟩
      have ez : ys.take (i + 1) = ys.take i ++ [y] := by rw [List.take_add_one, gy]; rfl
      rw [ez, List.map_append, List.foldl_append]
      exact acc'
    · rintro H' ⟨S', o, w', s', n', l', acc⟩
      rw [List.take_length] at acc
      have h1 : H D = none := none_of fun z => s2.dm D z hD
      exact q D o S' H' h1 l' n' w' (s2.trans s') acc
end
section
variable {β : Type} [DecidableEq β] {kf : β → List Key} {P : Program} {w : World} {r : Rs} {s : L2.St} {S H : Hp} {te : TE} {tz : TS} {D : Ends} {K : PySem.W.Frag}
/-- l = list(d) -/
theorem sq_listE {i j : Nat} {d : Addr} {ks : List (List Key × Addr)} (hs : s[j]? = some (some (.ref d))) (hd : H d = some (dkO P w d ks)) (wd : Wd r S H) (k : ∀ l, H l = none → tz D (s.set i (some (.ref l))) (upd H l (.lst (ks.map fun z => V.ref z.2)))) : tSeq (tAsg (tCB (rListE P w) (tCons (tVar j) tNil)) (gName i)) tz D s H :=
  ⟨_, hs, d, ks, rfl, hd, fun l hl => k l hl⟩
theorem pairs_own {S : Hp} : ∀ {F : List β} {vs : List V}, All2 (PairS (OwnG kf) BoolR) S (F.map fun b => (b, true)) vs → ∃ (ts : List Addr) (zs : List (List Key × Addr)), vs = ts.map V.ref ∧ Paired (fun t z => SqT K S t [V.ref z.2, .bl true]) ts zs ∧ zs.map (·.1) = F.map kf ∧ ∀ z ∈ zs, S z.2 = some (.tup (z.1.map kV))
  | [], _, .nil => ⟨[], [], rfl, .nil, rfl, fun z hz => nomatch hz⟩
  | b :: F, _, .cons h t => by
    obtain ⟨ts, zs, e1, e2, e3, e4⟩ := pairs_own t
    obtain ⟨a, x, y, rfl, ha, ⟨c, rfl, hc⟩, hy⟩ := h
    obtain rfl : y = .bl true := hy
    refine ⟨a :: ts, (kf b, c) :: zs, by rw [e1]; rfl, .cons (SqT.of ha) e2, by rw [List.map_cons, List.map_cons, e3], fun z hz => ?_⟩
    rcases List.mem_cons.mp hz with rfl | hz
    · exact hc
    · exact e4 z hz
theorem putAll_G (inj : ∀ a b, kf a = kf b → a = b) {S : Hp} : ∀ {F G : List β} {zs ks : List (List Key × Addr)}, zs.map (·.1) = F.map kf → (∀ z ∈ zs, S z.2 = some (.tup (z.1.map kV))) → KsG kf S G ks → KsG kf S (F.foldl addL G) (putAll zs ks)
  | [], _, [], _, _, _, h => h
  | [], _, _ :: _, _, e, _, _ => nomatch e
  | _ :: _, _, [], _, e, _, _ => nomatch e
  | b :: F, G, z :: zs, ks, e, hz, h => by
    rw [List.map_cons, List.map_cons] at e
    obtain ⟨e1, e2⟩ := List.cons.inj e
    have h1 := hz z (.head _)
    rw [e1] at h1
    have h2 := putAll_G inj (F := F) e2 (fun y hy => hz y (.tail _ hy)) (putE_G inj h h1)
    rw [← e1] at h2
    exact h2
/-- d = dict([(b, True) for ..]) -/
theorem sq_dictE (inj : ∀ a b, kf a = kf b → a = b) {i : Nat} {F : List β} (h : EvS r te s S fun v S1 => LstR (PairS (OwnG kf) BoolR) (F.map fun b => (b, true)) v S1) (wd : Wd r S H) (k : ∀ d ks S1 H1, H d = none → H1 d = some (dkO P w d ks) → S1 d = none → KsG kf S1 (F.foldl addL []) ks → Wd r S1 H1 → Stp r S H S1 H1 → tz D (s.set i (some (.ref d))) H1) : tSeq (tAsg (tCB (rDictE P w K) (tCons te tNil)) (gName i)) tz D s H :=
  h S H (Ex.refl _) wd _ fun v S1 H1 w1 s1 ⟨a, vs, ev, ha, hvs⟩ => by
    subst ev
    obtain ⟨ts, zs, e1, e2, e3, e4⟩ := pairs_own (K := K) hvs
    subst e1
    have paired : ∀ {ts : List Addr} {zs : List (List Key × Addr)}, Paired (fun t z => SqT K S1 t [V.ref z.2, .bl true]) ts zs → Paired (fun t z => SqT K H1 t [V.ref z.2, .bl true]) ts zs := fun h => by
      induction h with
      | nil => exact .nil
      | cons h _ ih => exact .cons (ex_t w1.ex h) ih
    refine ⟨a, ts, zs, rfl, SqL.of (w1.ex _ _ ha), paired e2, fun z hz => w1.ex _ _ (e4 z hz), fun d hd => ?_⟩
    exact k d _ S1 _ (pre_none s1 hd) upd_same (w1.fresh hd) (putAll_G inj e3 e4 ⟨rfl, fun z hz => nomatch hz⟩) (w1.new hd) (s1.trans (Stp.new hd))
end
end J

namespace K16
open PySem PySem.Spec PyProof.Rows L2 Evl J
/-! ### the text by places -/
def topS (i : Nat) : Stmt := PySem.Challenge.pw_joinedrounds_k16_whole_lots_of_states.main.body.getD i (.Pass ⟨0, 0, 0, 0⟩)
abbrev s_is_part_value : Stmt := (topS 9)
abbrev N_is_part_value : List Str := ["part", "value", "word"]
theorem sc_is_part_value : FnScope N_is_part_value ["part", "value"] (defScope s_is_part_value) := ⟨rfl, rfl, rfl, by decide +kernel, rfl, by decide +kernel, by decide +kernel⟩
abbrev s_Rule_init : Stmt := (inClass (topS 10) 0)
abbrev N_Rule_init : List Str := ["self", "moves", "start", "fresh", "sees", "part", "value"]
theorem sc_Rule_init : FnScope N_Rule_init ["self", "moves", "start", "fresh", "sees"] (defScope s_Rule_init) := ⟨rfl, rfl, rfl, by decide +kernel, rfl, by decide +kernel, by decide +kernel⟩
abbrev s_Rule_moves : Stmt := (inClass (topS 10) 1)
abbrev N_Rule_moves : List Str := ["self"]
theorem sc_Rule_moves : FnScope N_Rule_moves ["self"] (defScope s_Rule_moves) := ⟨rfl, rfl, rfl, by decide +kernel, rfl, by decide +kernel, by decide +kernel⟩
abbrev s_Rule_start : Stmt := (inClass (topS 10) 2)
abbrev N_Rule_start : List Str := ["self"]
theorem sc_Rule_start : FnScope N_Rule_start ["self"] (defScope s_Rule_start) := ⟨rfl, rfl, rfl, by decide +kernel, rfl, by decide +kernel, by decide +kernel⟩
abbrev s_Rule_fresh : Stmt := (inClass (topS 10) 3)
abbrev N_Rule_fresh : List Str := ["self"]
theorem sc_Rule_fresh : FnScope N_Rule_fresh ["self"] (defScope s_Rule_fresh) := ⟨rfl, rfl, rfl, by decide +kernel, rfl, by decide +kernel, by decide +kernel⟩
abbrev s_Rule_sees : Stmt := (inClass (topS 10) 4)
abbrev N_Rule_sees : List Str := ["self"]
theorem sc_Rule_sees : FnScope N_Rule_sees ["self"] (defScope s_Rule_sees) := ⟨rfl, rfl, rfl, by decide +kernel, rfl, by decide +kernel, by decide +kernel⟩
abbrev s_can_be_missed : Stmt := (topS 12)
abbrev N_can_be_missed : List Str := ["rule"]
theorem sc_can_be_missed : FnScope N_can_be_missed ["rule"] (defScope s_can_be_missed) := ⟨rfl, rfl, rfl, by decide +kernel, rfl, by decide +kernel, by decide +kernel⟩
abbrev s_can_be_doubled : Stmt := (topS 13)
abbrev N_can_be_doubled : List Str := ["rule"]
theorem sc_can_be_doubled : FnScope N_can_be_doubled ["rule"] (defScope s_can_be_doubled) := ⟨rfl, rfl, rfl, by decide +kernel, rfl, by decide +kernel, by decide +kernel⟩
abbrev s_starts_of : Stmt := (topS 18)
abbrev N_starts_of : List Str := ["rule"]
theorem sc_starts_of : FnScope N_starts_of ["rule"] (defScope s_starts_of) := ⟨rfl, rfl, rfl, by decide +kernel, rfl, by decide +kernel, by decide +kernel⟩
abbrev s_beginnings : Stmt := (topS 19)
abbrev N_beginnings : List Str := ["rule", "start", "at"]
theorem sc_beginnings : FnScope N_beginnings ["rule"] (defScope s_beginnings) := ⟨rfl, rfl, rfl, by decide +kernel, rfl, by decide +kernel, by decide +kernel⟩
abbrev s_is_end : Stmt := (topS 20)
abbrev N_is_end : List Str := ["rule", "state", "start", "done", "came", "at", "times"]
theorem sc_is_end : FnScope N_is_end ["rule", "state"] (defScope s_is_end) := ⟨rfl, rfl, rfl, by decide +kernel, rfl, by decide +kernel, by decide +kernel⟩
abbrev s_visited_next : Stmt := (topS 21)
abbrev N_visited_next : List Str := ["state", "start", "done", "came", "at", "times", "page"]
theorem sc_visited_next : FnScope N_visited_next ["state"] (defScope s_visited_next) := ⟨rfl, rfl, rfl, by decide +kernel, rfl, by decide +kernel, by decide +kernel⟩
abbrev s_moved : Stmt := (topS 22)
abbrev N_moved : List Str := ["rule", "state", "start", "done", "came", "at", "times", "found", "page"]
theorem sc_moved : FnScope N_moved ["rule", "state"] (defScope s_moved) := ⟨rfl, rfl, rfl, by decide +kernel, rfl, by decide +kernel, by decide +kernel⟩
abbrev s_behind : Stmt := (topS 23)
abbrev N_behind : List Str := ["rule", "state", "start", "done", "came", "at", "times", "found"]
theorem sc_behind : FnScope N_behind ["rule", "state"] (defScope s_behind) := ⟨rfl, rfl, rfl, by decide +kernel, rfl, by decide +kernel, by decide +kernel⟩
abbrev s_lot : Stmt := (topS 24)
abbrev N_lot : List Str := ["rule", "known", "waiting", "state"]
theorem sc_lot : FnScope N_lot ["rule"] (defScope s_lot) := ⟨rfl, rfl, rfl, by decide +kernel, rfl, by decide +kernel, by decide +kernel⟩
abbrev s_L_begin : Stmt := (topS 26)
abbrev N_L_begin : List Str := ["_law_script"]
theorem sc_L_begin : FnScope N_L_begin ["_law_script"] (defScope s_L_begin) := ⟨rfl, rfl, rfl, by decide +kernel, rfl, by decide +kernel, by decide +kernel⟩
abbrev s_L_draw : Stmt := (topS 27)
abbrev N_L_draw : List Str := ["_law_source", "_law_limit", "_law_cell", "_law_digit"]
theorem sc_L_draw : FnScope N_L_draw ["_law_source", "_law_limit"] (defScope s_L_draw) := ⟨rfl, rfl, rfl, by decide +kernel, rfl, by decide +kernel, by decide +kernel⟩
abbrev s_L_mixed : Stmt := (topS 28)
abbrev N_L_mixed : List Str := ["_law_source", "_law_items", "_law_left", "_law_found"]
theorem sc_L_mixed : FnScope N_L_mixed ["_law_source", "_law_items"] (defScope s_L_mixed) := ⟨rfl, rfl, rfl, by decide +kernel, rfl, by decide +kernel, by decide +kernel⟩
abbrev s_L_rule : Stmt := (topS 29)
abbrev N_L_rule : List Str := ["_law_case"]
theorem sc_L_rule : FnScope N_L_rule ["_law_case"] (defScope s_L_rule) := ⟨rfl, rfl, rfl, by decide +kernel, rfl, by decide +kernel, by decide +kernel⟩
abbrev s_L_every : Stmt := (topS 30)
abbrev N_L_every : List Str := ["_law_found", "_law_some", "_law_begins_here", "_law_new", "_law_look"]
theorem sc_L_every : FnScope N_L_every [] (defScope s_L_every) := ⟨rfl, rfl, rfl, by decide +kernel, rfl, by decide +kernel, by decide +kernel⟩
abbrev s_L_behind : Stmt := (topS 31)
abbrev N_L_behind : List Str := ["_law_case", "_law_state", "_law_start", "_law_gone", "_law_came", "_law_at", "_law_times", "_law_page", "_law_found", "_law_goal"]
theorem sc_L_behind : FnScope N_L_behind ["_law_case", "_law_state"] (defScope s_L_behind) := ⟨rfl, rfl, rfl, by decide +kernel, rfl, by decide +kernel, by decide +kernel⟩
abbrev s_L_begins : Stmt := (topS 32)
abbrev N_L_begins : List Str := ["_law_case", "_law_found", "_law_start", "_law_at"]
theorem sc_L_begins : FnScope N_L_begins ["_law_case"] (defScope s_L_begins) := ⟨rfl, rfl, rfl, by decide +kernel, rfl, by decide +kernel, by decide +kernel⟩
abbrev s_L_closed : Stmt := (topS 33)
abbrev N_L_closed : List Str := ["_law_case", "_law_some", "_law_found", "_law_at", "_law_known", "_law_state"]
theorem sc_L_closed : FnScope N_L_closed ["_law_case", "_law_some"] (defScope s_L_closed) := ⟨rfl, rfl, rfl, by decide +kernel, rfl, by decide +kernel, by decide +kernel⟩
abbrev s_L_shows : Stmt := (topS 34)
abbrev N_L_shows : List Str := ["_law_case", "_law_harm", "_law_states", "_law_start", "_law_gone", "_law_came", "_law_at", "_law_times", "_law_is_over"]
theorem sc_L_shows : FnScope N_L_shows ["_law_case", "_law_harm", "_law_states"] (defScope s_L_shows) := ⟨rfl, rfl, rfl, by decide +kernel, rfl, by decide +kernel, by decide +kernel⟩
abbrev s_law : Stmt := (topS 35)
abbrev N_law : List Str := ["_law_script", "_law_source", "_law_case", "_law_rule_here", "_law_due"]
theorem sc_law : FnScope N_law ["_law_script"] (defScope s_law) := ⟨rfl, rfl, rfl, by decide +kernel, rfl, by decide +kernel, by decide +kernel⟩
/-! ### what the top has written -/
structure TX (P : Program) (w : World) (K : PySem.W.Frag) (mg : Str → Option Value) where
  z_all : mg "all" = none
  z_dict : mg "dict" = none
  z_int : mg "int" = none
  z_isinstance : mg "isinstance" = none
  z_len : mg "len" = none
  z_list : mg "list" = none
  z_range : mg "range" = none
  z_sorted : mg "sorted" = none
  z_str : mg "str" = none
  z_tuple : mg "tuple" = none
  z_zip : mg "zip" = none
  c_MOST_CAME : MgC mg "MOST_CAME" (.int 2)
  c_MOST_SEEN : MgC mg "MOST_SEEN" (.int 2)
  A_MOVES : Addr
  c_MOVES : MgC mg "MOVES" (.ref A_MOVES)
  c_PAGES : MgC mg "PAGES" (.int 3)
  A_PARTS : Addr
  c_PARTS : MgC mg "PARTS" (.ref A_PARTS)
  A_WORDS : Addr
  c_WORDS : MgC mg "WORDS" (.ref A_WORDS)
  A_MOVES_0 : Addr
  tu_MOVES_0 : ∀ H : Hp, SqT K H A_MOVES_0 []
  A_MOVES_1 : Addr
  tu_MOVES_1 : ∀ H : Hp, SqT K H A_MOVES_1 [.str "ahead"]
  A_MOVES_2 : Addr
  tu_MOVES_2 : ∀ H : Hp, SqT K H A_MOVES_2 [.str "back"]
  A_MOVES_3 : Addr
  tu_MOVES_3 : ∀ H : Hp, SqT K H A_MOVES_3 [.str "ahead", .str "back"]
  tu_MOVES : ∀ H : Hp, SqT K H A_MOVES [.ref A_MOVES_0, .ref A_MOVES_1, .ref A_MOVES_2, .ref A_MOVES_3]
  tu_PARTS : ∀ H : Hp, SqT K H A_PARTS [.str "moves", .str "start", .str "fresh", .str "sees"]
  A_WORDS_0 : Addr
  tu_WORDS_0 : ∀ H : Hp, SqT K H A_WORDS_0 [.str "front", .str "any"]
  A_WORDS_1 : Addr
  tu_WORDS_1 : ∀ H : Hp, SqT K H A_WORDS_1 [.str "none", .str "unseen", .str "again"]
  A_WORDS_2 : Addr
  tu_WORDS_2 : ∀ H : Hp, SqT K H A_WORDS_2 [.str "now", .str "home"]
  kd_WORDS_start : KDct K w A_WORDS "start" (.ref A_WORDS_0)
  kd_WORDS_fresh : KDct K w A_WORDS "fresh" (.ref A_WORDS_1)
  kd_WORDS_sees : KDct K w A_WORDS "sees" (.ref A_WORDS_2)
  A_Rule_init_moves : Addr
  tu_Rule_init_moves : ∀ H : Hp, SqT K H A_Rule_init_moves []
  C_Rule : Addr
  g_Rule : mg "Rule" = some (.ref C_Rule)
  cl_Rule : Cls K C_Rule
  na_Rule_kept_parts : NoAttr K C_Rule "kept_parts"
  f_is_part_value : Addr
  fd_is_part_value : FuncData
  F_is_part_value : Fun K "is_part_value" "is_part_value" s_is_part_value f_is_part_value fd_is_part_value
  b_is_part_value : Binds K fd_is_part_value ["part", "value"] []
  g_is_part_value : mg "is_part_value" = some (.ref f_is_part_value)
  f_Rule_init : Addr
  fd_Rule_init : FuncData
  F_Rule_init : FunD K "__init__" "Rule.__init__" (defArgs s_Rule_init) (defBody s_Rule_init) (defScope s_Rule_init) [] [("moves", .ref A_Rule_init_moves), ("start", .str "front"), ("fresh", .str "none"), ("sees", .str "now")] f_Rule_init fd_Rule_init
  kb4_Rule_init : ∃ mv : List Value, KBn K fd_Rule_init ["self", "moves", "start", "fresh", "sees"] 1 ["moves", "start", "fresh", "sees"] (fun us ws => us ++ ws) (fun vs zs => vs ++ zs)
  mk_Rule : Mk K C_Rule f_Rule_init
  f_Rule_moves : Addr
  fd_Rule_moves : FuncData
  F_Rule_moves : Fun K "moves" "Rule.moves" s_Rule_moves f_Rule_moves fd_Rule_moves
  b_Rule_moves : Binds K fd_Rule_moves ["self"] []
  pa_Rule_moves : Addr
  p_Rule_moves : PropOf K C_Rule "moves" pa_Rule_moves f_Rule_moves
  f_Rule_start : Addr
  fd_Rule_start : FuncData
  F_Rule_start : Fun K "start" "Rule.start" s_Rule_start f_Rule_start fd_Rule_start
  b_Rule_start : Binds K fd_Rule_start ["self"] []
  pa_Rule_start : Addr
  p_Rule_start : PropOf K C_Rule "start" pa_Rule_start f_Rule_start
  f_Rule_fresh : Addr
  fd_Rule_fresh : FuncData
  F_Rule_fresh : Fun K "fresh" "Rule.fresh" s_Rule_fresh f_Rule_fresh fd_Rule_fresh
  b_Rule_fresh : Binds K fd_Rule_fresh ["self"] []
  pa_Rule_fresh : Addr
  p_Rule_fresh : PropOf K C_Rule "fresh" pa_Rule_fresh f_Rule_fresh
  f_Rule_sees : Addr
  fd_Rule_sees : FuncData
  F_Rule_sees : Fun K "sees" "Rule.sees" s_Rule_sees f_Rule_sees fd_Rule_sees
  b_Rule_sees : Binds K fd_Rule_sees ["self"] []
  pa_Rule_sees : Addr
  p_Rule_sees : PropOf K C_Rule "sees" pa_Rule_sees f_Rule_sees
  f_can_be_missed : Addr
  fd_can_be_missed : FuncData
  F_can_be_missed : Fun K "can_be_missed" "can_be_missed" s_can_be_missed f_can_be_missed fd_can_be_missed
  b_can_be_missed : Binds K fd_can_be_missed ["rule"] []
  g_can_be_missed : mg "can_be_missed" = some (.ref f_can_be_missed)
  f_can_be_doubled : Addr
  fd_can_be_doubled : FuncData
  F_can_be_doubled : Fun K "can_be_doubled" "can_be_doubled" s_can_be_doubled f_can_be_doubled fd_can_be_doubled
  b_can_be_doubled : Binds K fd_can_be_doubled ["rule"] []
  g_can_be_doubled : mg "can_be_doubled" = some (.ref f_can_be_doubled)
  f_starts_of : Addr
  fd_starts_of : FuncData
  F_starts_of : Fun K "starts_of" "starts_of" s_starts_of f_starts_of fd_starts_of
  b_starts_of : Binds K fd_starts_of ["rule"] []
  g_starts_of : mg "starts_of" = some (.ref f_starts_of)
  f_beginnings : Addr
  fd_beginnings : FuncData
  F_beginnings : Fun K "beginnings" "beginnings" s_beginnings f_beginnings fd_beginnings
  b_beginnings : Binds K fd_beginnings ["rule"] []
  g_beginnings : mg "beginnings" = some (.ref f_beginnings)
  f_is_end : Addr
  fd_is_end : FuncData
  F_is_end : Fun K "is_end" "is_end" s_is_end f_is_end fd_is_end
  b_is_end : Binds K fd_is_end ["rule", "state"] []
  g_is_end : mg "is_end" = some (.ref f_is_end)
  f_visited_next : Addr
  fd_visited_next : FuncData
  F_visited_next : Fun K "visited_next" "visited_next" s_visited_next f_visited_next fd_visited_next
  b_visited_next : Binds K fd_visited_next ["state"] []
  g_visited_next : mg "visited_next" = some (.ref f_visited_next)
  f_moved : Addr
  fd_moved : FuncData
  F_moved : Fun K "moved" "moved" s_moved f_moved fd_moved
  b_moved : Binds K fd_moved ["rule", "state"] []
  g_moved : mg "moved" = some (.ref f_moved)
  f_behind : Addr
  fd_behind : FuncData
  F_behind : Fun K "behind" "behind" s_behind f_behind fd_behind
  b_behind : Binds K fd_behind ["rule", "state"] []
  g_behind : mg "behind" = some (.ref f_behind)
  f_lot : Addr
  fd_lot : FuncData
  c_lot : Addr
  P_lot : Addr
  FC_lot : FunC K "lot" "lot" s_lot f_lot fd_lot c_lot
  F_lot : Fun K "lot" "lot" s_lot f_lot fd_lot
  b_lot : Binds K fd_lot ["rule"] []
  g_lot : mg "lot" = some (.ref f_lot)
  f_L_begin : Addr
  fd_L_begin : FuncData
  F_L_begin : Fun K "_law_begin" "_law_begin" s_L_begin f_L_begin fd_L_begin
  b_L_begin : Binds K fd_L_begin ["_law_script"] []
  g_L_begin : mg "_law_begin" = some (.ref f_L_begin)
  f_L_draw : Addr
  fd_L_draw : FuncData
  F_L_draw : Fun K "_law_draw" "_law_draw" s_L_draw f_L_draw fd_L_draw
  b_L_draw : Binds K fd_L_draw ["_law_source", "_law_limit"] []
  g_L_draw : mg "_law_draw" = some (.ref f_L_draw)
  f_L_mixed : Addr
  fd_L_mixed : FuncData
  F_L_mixed : Fun K "_law_mixed" "_law_mixed" s_L_mixed f_L_mixed fd_L_mixed
  b_L_mixed : Binds K fd_L_mixed ["_law_source", "_law_items"] []
  g_L_mixed : mg "_law_mixed" = some (.ref f_L_mixed)
  f_L_rule : Addr
  fd_L_rule : FuncData
  F_L_rule : Fun K "_law_rule" "_law_rule" s_L_rule f_L_rule fd_L_rule
  b_L_rule : Binds K fd_L_rule ["_law_case"] []
  g_L_rule : mg "_law_rule" = some (.ref f_L_rule)
  f_L_every : Addr
  fd_L_every : FuncData
  F_L_every : Fun K "_law_every" "_law_every" s_L_every f_L_every fd_L_every
  b_L_every : Binds K fd_L_every [] []
  g_L_every : mg "_law_every" = some (.ref f_L_every)
  f_L_behind : Addr
  fd_L_behind : FuncData
  F_L_behind : Fun K "_law_behind" "_law_behind" s_L_behind f_L_behind fd_L_behind
  b_L_behind : Binds K fd_L_behind ["_law_case", "_law_state"] []
  g_L_behind : mg "_law_behind" = some (.ref f_L_behind)
  f_L_begins : Addr
  fd_L_begins : FuncData
  F_L_begins : Fun K "_law_begins" "_law_begins" s_L_begins f_L_begins fd_L_begins
  b_L_begins : Binds K fd_L_begins ["_law_case"] []
  g_L_begins : mg "_law_begins" = some (.ref f_L_begins)
  f_L_closed : Addr
  fd_L_closed : FuncData
  c_L_closed : Addr
  P_L_closed : Addr
  FC_L_closed : FunC K "_law_closed" "_law_closed" s_L_closed f_L_closed fd_L_closed c_L_closed
  F_L_closed : Fun K "_law_closed" "_law_closed" s_L_closed f_L_closed fd_L_closed
  b_L_closed : Binds K fd_L_closed ["_law_case", "_law_some"] []
  g_L_closed : mg "_law_closed" = some (.ref f_L_closed)
  f_L_shows : Addr
  fd_L_shows : FuncData
  F_L_shows : Fun K "_law_shows" "_law_shows" s_L_shows f_L_shows fd_L_shows
  b_L_shows : Binds K fd_L_shows ["_law_case", "_law_harm", "_law_states"] []
  g_L_shows : mg "_law_shows" = some (.ref f_L_shows)
  f_law : Addr
  fd_law : FuncData
  F_law : Fun K "law" "law" s_law f_law fd_law
  b_law : Binds K fd_law ["_law_script"] []
  g_law : mg "law" = some (.ref f_law)
  pd_lot_L_closed : (P_lot == P_L_closed) = false
section
variable {P : Program} {w : World} {K : PySem.W.Frag} {mg : Str → Option Value}
def lamT (T : TX P w K mg) : List (Addr × Str) := [(T.P_lot, (envOfC "lot" (defScope s_lot) 0 0 .none).qual ++ "<lambda>"), (T.P_L_closed, (envOfC "_law_closed" (defScope s_L_closed) 0 0 .none).qual ++ "<lambda>")]
def lamC (T : TX P w K mg) : List (Addr × Addr) := [(T.c_lot, T.P_lot), (T.c_L_closed, T.P_L_closed)]
theorem lm_lot (T : TX P w K mg) : (T.P_lot, (envOfC "lot" (defScope s_lot) 0 0 .none).qual ++ "<lambda>") ∈ lamT T := .head _
theorem lc_lot (T : TX P w K mg) : (T.c_lot, T.P_lot) ∈ lamC T := .head _
theorem lu_lot (T : TX P w K mg) : ∀ y ∈ lamT T, y.1 = T.P_lot → y.2 = (envOfC "lot" (defScope s_lot) 0 0 .none).qual ++ "<lambda>" := fun y hy e => by
  simp only [lamT, List.mem_cons, List.not_mem_nil, or_false] at hy
  rcases hy with rfl | rfl
  · rfl
  · exact absurd e.symm (ne_beq T.pd_lot_L_closed)
theorem lm_L_closed (T : TX P w K mg) : (T.P_L_closed, (envOfC "_law_closed" (defScope s_L_closed) 0 0 .none).qual ++ "<lambda>") ∈ lamT T := .tail _ (.head _)
theorem lc_L_closed (T : TX P w K mg) : (T.c_L_closed, T.P_L_closed) ∈ lamC T := .tail _ (.head _)
theorem lu_L_closed (T : TX P w K mg) : ∀ y ∈ lamT T, y.1 = T.P_L_closed → y.2 = (envOfC "_law_closed" (defScope s_L_closed) 0 0 .none).qual ++ "<lambda>" := fun y hy e => by
  simp only [lamT, List.mem_cons, List.not_mem_nil, or_false] at hy
  rcases hy with rfl | rfl
  · exact absurd e (ne_beq T.pd_lot_L_closed)
  · rfl
end
end K16

namespace K16
open PySem PySem.Spec PyProof.Rows L2 Evl J RZ
section
variable {P : Program} {w : World} {K : PySem.W.Frag} {mg : Str → Option Value} {base : Heap}
/-! ### tactics -/
/-! ### numbers -/
def isInt : V → Bool
  | .int _ => true
  | _ => false
/-- is_integer of an int -/
def sp_is_integer : Sp := SpP (A := Int) (fun i vs _ => vs = [.int i]) (fun _ v _ => v = .bl true)
/-- is_between of ints -/
def sp_is_between : Sp := SpP (A := Int × Int × Int) (fun a vs _ => vs = [.int a.1, .int a.2.1, .int a.2.2]) (fun a v _ => v = .bl (decide (a.2.1 ≤ a.1) && decide (a.1 ≤ a.2.2)))
end
end K16

namespace K16
open PySem PySem.Spec PyProof.Rows L2 Evl J RZ
section
variable {P : Program} {w : World} {K : PySem.W.Frag} {mg : Str → Option Value} {base : Heap}
/-! ### rules -/
def movesL : List (List Str) := [[], [("ahead" : Str)], [("back" : Str)], [("ahead" : Str), ("back" : Str)]]
def startL : List Str := [("front" : Str), ("any" : Str)]
def freshL : List Str := [("none" : Str), ("unseen" : Str), ("again" : Str)]
def seesL : List Str := [("now" : Str), ("home" : Str)]
structure RuleD where
  moves : List Str
  start : Str
  fresh : Str
  sees : Str
structure RuleOk (a : RuleD) : Prop where
  m : a.moves ∈ movesL
  s : a.start ∈ startL
  f : a.fresh ∈ freshL
  h : a.sees ∈ seesL
/-- a value that a part may have -/
inductive PartOk (K : PySem.W.Frag) (S : Hp) : Str → V → Prop
  | moves {ms : List Str} {v : V} : ms ∈ movesL → SeqR K StrR ms v S → PartOk K S ("moves" : Str) v
  | start {z : Str} : z ∈ startL → PartOk K S ("start" : Str) (.str z)
  | fresh {z : Str} : z ∈ freshL → PartOk K S ("fresh" : Str) (.str z)
  | sees {z : Str} : z ∈ seesL → PartOk K S ("sees" : Str) (.str z)
theorem PartOk.up {K : PySem.W.Frag} {S S' : Hp} {p : Str} {v : V} (e : Ex S S') : PartOk K S p v → PartOk K S' p v
  | .moves h h2 => .moves h (Mono.up e h2)
  | .start h => .start h
  | .fresh h => .fresh h
  | .sees h => .sees h
theorem isStr_all {r : Rs} {s : L2.St} {S : Hp} {ys : List Str} {wi : TI} {j : Nat} {vs : List Nat} (hi : EvI r wi s S ys StrR) (hz : ys.length ≤ 100000) (hw : ∀ v, wipe ((wipe s vs).set j (some v)) vs = wipe s vs) (hj : ∀ v, ((wipe s vs).set j (some v))[j]? = some (some v)) : EvV r (tCB (rAll K) (tCons (tLc wi (gName j) tYes (tCB (rIsiU K) (tCons (tVar j) (tCons (tC (.ty "str")) tNil))) vs) tNil)) s S (.bl true) :=
  (vv_all (bs := ys.map fun _ => true) (EvN.lst (X := BoolR) (en_lcn (fun _ => true) hi hz hw fun y v S1 e m hy => by
    rw [show v = _ from hy]
    exact vv_isT (vv_var (hj _)) vv_c (.base (.str _)) (by decide +kernel)))).is (by simp)
def sp_is_part (K : PySem.W.Frag) : Sp := SpP (A := Str × V) (fun a vs S => vs = [.str a.1, a.2] ∧ PartOk K S a.1 a.2) (fun _ v _ => v = .bl true)
theorem lay_movesL {K : PySem.W.Frag} {S : Hp} {ms : List Str} {v : V} (hm : ms ∈ movesL) (h : TupR K StrR ms v S) : ∃ d, Dp K S v d ∧ SeqAt.shaped d = true ∧ ([PyData.tuple [], .tuple [.str ("ahead" : Str)], .tuple [.str ("back" : Str)], .tuple [.str ("ahead" : Str), .str ("back" : Str)]].any fun z => PyData.eqv z d) = true := by
  obtain ⟨a, vs, e, h1, h2⟩ := h
  subst e
  have e2 := h2.strs
  subst e2
  simp only [movesL, List.mem_cons, List.not_mem_nil, or_false] at hm
  rcases hm with rfl | rfl | rfl | rfl
  · exact ⟨.tuple [], .tup h1 .nil, by decide +kernel, by decide +kernel⟩
  · exact ⟨.tuple [.str ("ahead" : Str)], .tup h1 (.cons (.str _) .nil), by decide +kernel, by decide +kernel⟩
  · exact ⟨.tuple [.str ("back" : Str)], .tup h1 (.cons (.str _) .nil), by decide +kernel, by decide +kernel⟩
  · exact ⟨.tuple [.str ("ahead" : Str), .str ("back" : Str)], .tup h1 (.cons (.str _) (.cons (.str _) .nil)), by decide +kernel, by decide +kernel⟩
theorem inV_words {z : Str} {l : List Str} (h : z ∈ l) : inV (.str z) (l.map V.str) = true := by
  unfold inV
  rw [List.any_map, List.any_eq_true]
  exact ⟨z, h, by simp [eqV]⟩
theorem flat_words (l : List Str) : (l.map V.str).all flatV = true := by
  rw [List.all_map, List.all_eq_true]
  exact fun x _ => rfl
theorem G_is_part_value (T : TX P w K mg) : FnOk P w K mg base CX0 1 T.f_is_part_value T.fd_is_part_value ["part", "value"] (sp_is_part K) := by
  refine T.F_is_part_value.ok sc_is_part_value (fun vs H Q E h => ?_) (fun cdv A outer s H vs Q E hr h => ?_)
  · obtain ⟨a, S, ⟨rfl, _⟩, _⟩ := h
    rfl
  · obtain ⟨⟨part, val⟩, S, ⟨rfl, hp⟩, w0, q⟩ := h.body
    refine ⟨_, (pss_cons (ps_if (pt_cmpR (op_neK (K := K) hr.units) (pv 0) pe_str (nomark _)) (pss_one (ps_ret (pe_and (pe_callB (call_isiK2 (K := K)) (by rfl) T.z_isinstance (by decide +kernel) (pa_cons (pv 1) (pa_cons (pe_bltn (v := .ty "str") (by rfl) T.z_str (by decide +kernel) rfl) pa_nil))) (pe_one (pe_cmpR (op_inK (K := K)) (pv 1) (pe_ix (ix_kdK (K := K) (w := w)) (pe_const (by rfl) T.c_WORDS) (pv 0) (fun _ _ => rfl)) (by with_unfolding_all rfl)))))) pss_nil)
      (pss_cons (ps_if (PW.pt (pw_or (pt_not (pt_val (pe_callB (call_isiK2 (K := K)) (by rfl) T.z_isinstance (by decide +kernel) (pa_cons (pv 1) (pa_cons (pe_tup (pa_cons (pe_bltn (v := .ty "list") (by rfl) T.z_list (by decide +kernel) rfl) (pa_cons (pe_bltn (v := .ty "tuple") (by rfl) T.z_tuple (by decide +kernel) rfl) pa_nil))) pa_nil))))) (pw_or1 (pt_not (pt_val (pe_callB (call_allK (K := K)) (by rfl) T.z_all (by decide +kernel) (pa_cons (pe_lc (own := [("word", 2)]) (by rfl) sc_is_part_value.nd (pi_K (K := K) (pv 1)) (blkOk_by (own := [("word", 2)]) (N := N_is_part_value) (sc := (defScope s_is_part_value)) (by decide +kernel)) (fun _ _ _ _ _ => (pg_name (i := 2) sc_is_part_value.nd rfl (Or.inl rfl))) (fun _ _ _ _ _ => pts_nil) (fun _ _ _ _ _ => (pe_callB (call_isiK2 (K := K)) (by rfl) T.z_isinstance (by decide +kernel) (pa_cons (pv 2) (pa_cons (pe_bltn (v := .ty "str") (by rfl) T.z_str (by decide +kernel) rfl) pa_nil))))) pa_nil))))))) (pss_one (ps_ret pe_bl)) pss_nil)
      (pss_one (ps_ret (pe_cmpR (op_inDTK (K := K) (units65 hr)) (pe_callTy (call_tupleK (K := K)) (by rfl) T.z_tuple (by decide +kernel) (pa_cons (pv 1) pa_nil)) (pe_const (by rfl) T.c_MOVES) (by with_unfolding_all rfl)))))), ?_⟩
    dsimp only at hp
    have word : ∀ (tz : TS) (pt : Str) (ws : List Str) (a : Addr) (z : Str), pt ≠ ("moves" : Str) → z ∈ ws → KDct K w T.A_WORDS pt (.ref a) → (∀ H : Hp, SqT K H a (ws.map V.str)) → tSeq (tIfS (tTest (tOp (rNeU K) (tVar 0) (tC (.str ("moves" : Str))))) (tRet (tAndV (tCB (rIsiU K) (tCons (tVar 1) (tCons (tC (.ty "str")) tNil))) (tOp (rInU K) (tVar 1) (tOp (rIxD K w) (tC (.ref T.A_WORDS)) (tVar 0))))) tNext) tz { nx := fun _ H' => Q .non H', rt := Q } [some (.str pt), some (.str z), none] H := fun tz pt ws a z hpt hz hk ht => by
      refine sq_if (b := true) (tb_test ((vv_op (vv_var rfl) vv_c rs_neS).is (by rw [decide_eq_false hpt]; rfl))) w0 (fun _ S1 H1 w1 s1 => ?_) (fun z => nomatch z)
      exact st_ret ((vv_and (a := true) (vv_isT (vv_var rfl) vv_c (.base (.str _)) (by decide +kernel)) fun _ => vv_op (vv_var rfl) (vv_op vv_c (vv_var rfl) (rs_kd hk)) (rs_inT' (ht _) rfl (flat_words ws))).is (by rw [inV_words hz]; rfl)) w1 fun v S2 H2 w2 s2 e => q v S2 H2 w2 (s1.trans s2) e
    cases hp with
    | moves hm hv =>
      rename_i ms
      refine sq_ifNo (tb_test ((vv_op (vv_var rfl) vv_c rs_neS).is (by rw [decide_eq_true rfl]; rfl))) w0 fun S1 H1 w1 s1 => ?_
      have hms : ms.length ≤ 2 := by
        simp only [movesL, List.mem_cons, List.not_mem_nil, or_false] at hm
        rcases hm with rfl | rfl | rfl | rfl <;> decide
      have hv1 := Mono.up s1.ex hv
      have hi : EvI Rs.nil (iU K (tVar 1)) [some (.str ("moves" : Str)), some val, none] S1 ms StrR := by
        rcases hv1 with h | h
        · exact ei_list (ev_v (R := LstR StrR) rfl h)
        · exact ei_tup (ev_v (R := TupR K StrR) rfl h)
      refine sq_ifNo (EvB.is (tb_or (a := false) (tb_not (a := true) (tb_test (vv_isLT (vv_var rfl) vv_c vv_c hv1))) fun _ => tb_not (a := true) (tb_test (isStr_all hi (by omega) (by intro _; rfl) (fun _ => rfl)))) rfl) w1 fun S2 H2 w2 s2 => ?_
      have hv2 := Mono.up s2.ex hv1
      refine st_ret (R := fun v _ => v = .bl true) (ev_op2 (ev_tupS (K := K) (R := StrR) (ev_v (R := SeqR K StrR) rfl hv2)) (fun _ S e _ => vv_c) fun x y S3 S4 _ hx e4 hy => ?_) w2 fun v S3 H3 w3 s3 e => q v S3 H3 w3 (s1.trans (s2.trans s3)) e
      subst hy
      obtain ⟨d, hd, sd, he⟩ := lay_movesL hm (Mono.up e4 hx)
      exact ⟨.bl true, by
        rw [← he]
        exact rs_inDT hd (.tup (T.tu_MOVES _) (.cons (.tup (T.tu_MOVES_0 _) .nil) (.cons (.tup (T.tu_MOVES_1 _) (.cons (.str _) .nil)) (.cons (.tup (T.tu_MOVES_2 _) (.cons (.str _) .nil)) (.cons (.tup (T.tu_MOVES_3 _) (.cons (.str _) (.cons (.str _) .nil))) .nil))))) sd (by decide +kernel), rfl⟩
    | start hz => exact word _ ("start" : Str) startL T.A_WORDS_0 _ (by decide +kernel) hz T.kd_WORDS_start T.tu_WORDS_0
    | fresh hz => exact word _ ("fresh" : Str) freshL T.A_WORDS_1 _ (by decide +kernel) hz T.kd_WORDS_fresh T.tu_WORDS_1
    | sees hz => exact word _ ("sees" : Str) seesL T.A_WORDS_2 _ (by decide +kernel) hz T.kd_WORDS_sees T.tu_WORDS_2
end
end K16

namespace K16
open PySem PySem.Spec PyProof.Rows L2 Evl J RZ
section
variable {P : Program} {w : World} {K : PySem.W.Frag} {mg : Str → Option Value} {base : Heap}
/-! ### a rule as an object -/
def ruleK (t : Addr) (a : RuleD) : List (Key × V) := [(.inr ("moves" : Str), .ref t), (.inr ("start" : Str), .str a.start), (.inr ("fresh" : Str), .str a.fresh), (.inr ("sees" : Str), .str a.sees)]
theorem rk_m (t : Addr) (a : RuleD) : valV (ruleK t a) (.inr ("moves" : Str)) = some (.ref t) := by kernel_rfl
theorem rk_s (t : Addr) (a : RuleD) : valV (ruleK t a) (.inr ("start" : Str)) = some (.str a.start) := by kernel_rfl
theorem rk_f (t : Addr) (a : RuleD) : valV (ruleK t a) (.inr ("fresh" : Str)) = some (.str a.fresh) := by kernel_rfl
theorem rk_h (t : Addr) (a : RuleD) : valV (ruleK t a) (.inr ("sees" : Str)) = some (.str a.sees) := by kernel_rfl
theorem rk_merge (t : Addr) (a : RuleD) : mergeK [] (ruleK t a) = ruleK t a := by kernel_rfl
/-- the parts at d -/
def PartsAt (K : PySem.W.Frag) (d : Addr) (a : RuleD) (S : Hp) : Prop := ∃ t, S d = some (.dK (ruleK t a)) ∧ TupR K StrR a.moves (.ref t) S
def RuleR (K : PySem.W.Frag) (C : Addr) : Rl RuleD := fun a v S => ∃ x dx d, v = .ref x ∧ S x = some (.ins C dx [(("kept_parts" : Str), V.ref d)]) ∧ PartsAt K d a S ∧ RuleOk a
theorem PartsAt.up {K : PySem.W.Frag} {d : Addr} {a : RuleD} {S S' : Hp} (e : Ex S S') (h : PartsAt K d a S) : PartsAt K d a S' := h.imp fun t h => ⟨e _ _ h.1, Mono.up e h.2⟩
instance {K : PySem.W.Frag} {C : Addr} : Mono (RuleR K C) := ⟨fun e ⟨x, dx, d, h1, h2, h3, h4⟩ => ⟨x, dx, d, h1, e _ _ h2, h3.up e, h4⟩⟩
def sp_Rule_init (K : PySem.W.Frag) (C : Addr) : Sp := SpInit (A := RuleD) C (fun a us S => ∃ v, us = [v, .str a.start, .str a.fresh, .str a.sees] ∧ SeqR K StrR a.moves v S ∧ RuleOk a) (fun a fs S => ∃ d, fs = [(("kept_parts" : Str), V.ref d)] ∧ PartsAt K d a S)
theorem kp_put (d : Addr) : putF "kept_parts" (.ref d) [] = [(("kept_parts" : Str), V.ref d)] := by kernel_rfl
theorem G_Rule_init (T : TX P w K mg) : FnOk P w K mg base CX0 2 T.f_Rule_init T.fd_Rule_init ["self", "moves", "start", "fresh", "sees"] (sp_Rule_init K T.C_Rule) := by
  refine FunD.ok T.F_Rule_init sc_Rule_init (fun vs H Q E h => ?_) (fun cdv A outer s H vs Q E hr h => ?_)
  · obtain ⟨a, S, x, dx, us, rfl, ⟨v, rfl, _⟩, _⟩ := h
    rfl
  · obtain ⟨a, S, x, dx, us, rfl, ⟨v, rfl, hv, ho⟩, hx, hs, w0, q⟩ := h
    refine ⟨_, PSs.nox (pss_cons (ps_for PassesOwn.never (by rfl) (pi_zipAK (K := K) (by rfl) T.z_zip (pa_cons (pe_const (by rfl) T.c_PARTS) (pa_cons (pe_tup (pa_cons (pv 1) (pa_cons (pv 2) (pa_cons (pv 3) (pa_cons (pv 4) pa_nil))))) pa_nil))) (pg_tupK (K := K) (n := 2) (by rfl) (pgs_cons (pg_name (i := 5) sc_Rule_init.nd rfl (Or.inl rfl)) (pgs_cons (pg_name (i := 6) sc_Rule_init.nd rfl (Or.inl rfl)) pgs_nil))) (pss_one (ps_if (pt_not (pt_val (pe_call (G_is_part_value T) (hr.mono (by decide)) (by rfl) T.g_is_part_value T.F_is_part_value.kp T.b_is_part_value .nil pass0 (pa_cons (pv 5) (pa_cons (pv 6) pa_nil))))) (pss_one ps_never) pss_nil)))
      (pss_one (ps_fldK (K := K) (pv 0) (pe_disp (pps_cons pe_str (pe_callTy (call_tupleK (K := K)) (by rfl) T.z_tuple (by decide +kernel) (pa_cons (pv 1) pa_nil)) (pps_cons pe_str (pv 2) (pps_cons pe_str (pv 3) (pps_cons pe_str (pv 4) pps_nil)))) (by rfl) (by rfl) (fun z => by cases z) (by decide))))), ?_⟩
    have n0 : x ∉ Rs.nil.M := fun z => by cases z
    have hlen : (List.zip [("moves" : Str), ("start" : Str), ("fresh" : Str), ("sees" : Str)] [v, .str a.start, .str a.fresh, .str a.sees]) = [(("moves" : Str), v), (("start" : Str), .str a.start), (("fresh" : Str), .str a.fresh), (("sees" : Str), .str a.sees)] := rfl
    refine sq_for (ei_zipTT (K := K) (R := StrR) (ys := [("moves" : Str), ("start" : Str), ("fresh" : Str), ("sees" : Str)]) (R' := ValR) (zs := [v, .str a.start, .str a.fresh, .str a.sees]) (ev_kTup T.tu_PARTS) fun S1 e => ev_tupV (va_cons (vv_var rfl) (va_cons (vv_var rfl) (va_cons (vv_var rfl) (va_cons (vv_var rfl) va_nil)))) (by simp)) w0 fun S1 H1 w1 s1 => ?_
    rw [hlen]
    refine ⟨fun i s' S' H' => Wd Rs.nil S' H' ∧ Ex S1 S' ∧ Stp Rs.nil S H S' H' ∧ ∃ y1 y2, s' = [some (.ref x), some v, some (.str a.start), some (.str a.fresh), some (.str a.sees), y1, y2], ⟨w1, Ex.refl _, s1, none, none, rfl⟩, fun i s' S' H' p => ⟨p.1, p.2.1⟩, ?_, ?_⟩
    · rintro i ⟨pt, z⟩ u s' S2 H2 S3 H3 hi ⟨w2, e2, s2, y1, y2, rfl⟩ w3 s3 hu
      have hpt : PartOk K S3 pt z := by
        have hm := List.mem_of_getElem? hi
        simp only [List.mem_cons, List.not_mem_nil, or_false, Prod.mk.injEq] at hm
        rcases hm with ⟨rfl, rfl⟩ | ⟨rfl, rfl⟩ | ⟨rfl, rfl⟩ | ⟨rfl, rfl⟩
        · exact .moves ho.m (Mono.up (s2.ex.trans s3.ex) hv)
        · exact .start ho.s
        · exact .fresh ho.f
        · exact .sees ho.h
      refine g_two rfl hu w3 fun x1 x2 h1 h2 => ?_
      obtain rfl : x1 = .str pt := h1
      obtain rfl : x2 = z := h2
      refine st_ifNo (EvB.is (tb_not (a := true) (tb_B (vv_call (pt, x2) (va_cons (vv_var rfl) (va_cons (vv_var rfl) va_nil)) (fun S e => ⟨rfl, hpt.up e⟩) fun v S _ p => p))) rfl) w3 fun S4 H4 w4 s4 => ?_
      exact ⟨S4, w4, e2.trans (s3.ex.trans s4.ex), s2.trans (s3.trans s4), _, _, rfl⟩
    · rintro s' S2 H2 ⟨w2, e2, s2, y1, y2, rfl⟩
      have hv2 := Mono.up s2.ex hv
      refine st_fld n0 (vv_var rfl) (EvN.stable (R' := fun v S => ∃ d, v = .ref d ∧ PartsAt K d a S) (en_dispP (R := fun o S => ∃ t, o = .dK (ruleK t a) ∧ TupR K StrR a.moves (.ref t) S) (ep_cons vv_c (ev_tupS (K := K) (R := StrR) (ev_v (R := SeqR K StrR) rfl hv2)) fun v1 S3 e3 h3 => ep_cons vv_c (vv_var rfl) fun v2 S4 e4 h4 => ep_cons vv_c (vv_var rfl) fun v5 S5 e5 h5 => ep_cons vv_c (vv_var rfl) fun v6 S6 e6 h6 => ?_)) fun p o S3 e3 n3 ⟨t, eo, h3⟩ => ⟨p, rfl, t, by rw [eo]; exact upd_same, Mono.up (Ex.new n3) h3⟩) w2 (s2.kp _ _ n0 hx) (s2.fr _ (ne_none hx) hs) T.cl_Rule T.na_Rule_kept_parts (pfL pf0) fun v7 S7 H7 w7 s7 a7 h7 ⟨d, e7, h8⟩ => ?_
      · intro S7 H7 e7 w7 Q7 q7
        refine q7 [] S7 H7 w7 Stp.refl ?_
        obtain ⟨t, vs, e8, h8, h9⟩ := Mono.up (e4.trans (e5.trans (e6.trans e7))) h3
        subst h4 h5 h6 e8
        exact ⟨ruleK t a, rfl, by simp [ruleK], rk_merge t a, t, rfl, t, vs, rfl, h8, h9⟩
      · subst e7
        rw [kp_put] at h7
        exact q S7 H7 _ w7 (s2.more.trans s7) a7 h7 ⟨d, rfl, h8⟩
theorem rule_part {r : Rs} {s : L2.St} {S : Hp} {i : Nat} {x dx d : Addr} {nm : Str} {v : V} {kvs : List (Key × V)} {C : Addr} (hs : s[i]? = some (some (.ref x))) (hx : S x = some (.ins C dx [(("kept_parts" : Str), V.ref d)])) (hd : S d = some (.dK kvs)) (c : Cls K C) (na : NoAttr K C "kept_parts") (hv : valV kvs (.inr nm) = some v) : EvV r (tDGet (tFld K (tVar i) "kept_parts") (tC (.str nm))) s S v :=
  vv_dget (vv_fld (vv_var hs) hx c na (by kernel_rfl)) (k := .inr nm) vv_c hd hv
def sp_Rule_str (K : PySem.W.Frag) (C : Addr) (f : RuleD → Str) : Sp := SpP (A := RuleD) (fun a vs S => ∃ v, vs = [v] ∧ RuleR K C a v S) (fun a v _ => v = .str (f a))
def sp_Rule_moves (K : PySem.W.Frag) (C : Addr) : Sp := SpP (A := RuleD) (fun a vs S => ∃ v, vs = [v] ∧ RuleR K C a v S) (fun a v S => TupR K StrR a.moves v S)
theorem G_Rule_moves (T : TX P w K mg) : FnOk P w K mg base CX0 1 T.f_Rule_moves T.fd_Rule_moves ["self"] (sp_Rule_moves K T.C_Rule) := by
  refine T.F_Rule_moves.ok sc_Rule_moves (fun vs H Q E h => ?_) (fun cdv A outer s H vs Q E hr h => ?_)
  · obtain ⟨a, S, ⟨v, rfl, _⟩, _⟩ := h
    rfl
  · obtain ⟨a, S, ⟨v, rfl, x, dx, d, rfl, hx, ⟨t, hd, ht⟩, ho⟩, w0, q⟩ := h.body
    refine ⟨_, (pss_one (ps_ret (pe_dget (units1 hr) (pe_fldK (K := K) (pv 0)) pe_str (fun _ _ => rfl)))), ?_⟩
    exact st_ret (rule_part rfl hx hd T.cl_Rule T.na_Rule_kept_parts (rk_m t a)) w0 fun v S1 H1 w1 s1 e => q v S1 H1 w1 s1 (by rw [e]; exact Mono.up s1.ex ht)
theorem G_Rule_start (T : TX P w K mg) : FnOk P w K mg base CX0 1 T.f_Rule_start T.fd_Rule_start ["self"] (sp_Rule_str K T.C_Rule RuleD.start) := by
  refine T.F_Rule_start.ok sc_Rule_start (fun vs H Q E h => ?_) (fun cdv A outer s H vs Q E hr h => ?_)
  · obtain ⟨a, S, ⟨v, rfl, _⟩, _⟩ := h
    rfl
  · obtain ⟨a, S, ⟨v, rfl, x, dx, d, rfl, hx, ⟨t, hd, ht⟩, ho⟩, w0, q⟩ := h.body
    refine ⟨_, (pss_one (ps_ret (pe_dget (units1 hr) (pe_fldK (K := K) (pv 0)) pe_str (fun _ _ => rfl)))), ?_⟩
    exact st_ret (rule_part rfl hx hd T.cl_Rule T.na_Rule_kept_parts (rk_s t a)) w0 fun v S1 H1 w1 s1 e => q v S1 H1 w1 s1 e
theorem G_Rule_fresh (T : TX P w K mg) : FnOk P w K mg base CX0 1 T.f_Rule_fresh T.fd_Rule_fresh ["self"] (sp_Rule_str K T.C_Rule RuleD.fresh) := by
  refine T.F_Rule_fresh.ok sc_Rule_fresh (fun vs H Q E h => ?_) (fun cdv A outer s H vs Q E hr h => ?_)
  · obtain ⟨a, S, ⟨v, rfl, _⟩, _⟩ := h
    rfl
  · obtain ⟨a, S, ⟨v, rfl, x, dx, d, rfl, hx, ⟨t, hd, ht⟩, ho⟩, w0, q⟩ := h.body
    refine ⟨_, (pss_one (ps_ret (pe_dget (units1 hr) (pe_fldK (K := K) (pv 0)) pe_str (fun _ _ => rfl)))), ?_⟩
    exact st_ret (rule_part rfl hx hd T.cl_Rule T.na_Rule_kept_parts (rk_f t a)) w0 fun v S1 H1 w1 s1 e => q v S1 H1 w1 s1 e
theorem G_Rule_sees (T : TX P w K mg) : FnOk P w K mg base CX0 1 T.f_Rule_sees T.fd_Rule_sees ["self"] (sp_Rule_str K T.C_Rule RuleD.sees) := by
  refine T.F_Rule_sees.ok sc_Rule_sees (fun vs H Q E h => ?_) (fun cdv A outer s H vs Q E hr h => ?_)
  · obtain ⟨a, S, ⟨v, rfl, _⟩, _⟩ := h
    rfl
  · obtain ⟨a, S, ⟨v, rfl, x, dx, d, rfl, hx, ⟨t, hd, ht⟩, ho⟩, w0, q⟩ := h.body
    refine ⟨_, (pss_one (ps_ret (pe_dget (units1 hr) (pe_fldK (K := K) (pv 0)) pe_str (fun _ _ => rfl)))), ?_⟩
    exact st_ret (rule_part rfl hx hd T.cl_Rule T.na_Rule_kept_parts (rk_h t a)) w0 fun v S1 H1 w1 s1 e => q v S1 H1 w1 s1 e
theorem rule_prop {r : Rs} {s : L2.St} {S : Hp} {ta : TE} {a : RuleD} {C : Addr} {f : RuleD → Str} {E : XK} (h : EvS r ta s S fun v S1 => RuleR K C a v S1) : EvV r (tProp C (sp_Rule_str K C f) [] E ta) s S (.str (f a)) :=
  ev_propP h fun x S1 e hx => by
    obtain ⟨y, dx, d, e1, h1, h2, h3⟩ := hx
    exact ⟨y, dx, _, e1, h1, a, ⟨x, rfl, y, dx, d, e1, h1, h2, h3⟩, fun v S2 _ p => p⟩
theorem rule_moves {r : Rs} {s : L2.St} {S : Hp} {ta : TE} {a : RuleD} {C : Addr} {E : XK} (h : EvS r ta s S fun v S1 => RuleR K C a v S1) : EvS r (tProp C (sp_Rule_moves K C) [] E ta) s S fun v S1 => TupR K StrR a.moves v S1 :=
  ev_propP h fun x S1 e hx => by
    obtain ⟨y, dx, d, e1, h1, h2, h3⟩ := hx
    exact ⟨y, dx, _, e1, h1, a, ⟨x, rfl, y, dx, d, e1, h1, h2, h3⟩, fun v S2 _ p => p⟩
end
end K16

namespace K16
open PySem PySem.Spec PyProof.Rows L2 Evl J RZ
section
variable {P : Program} {w : World} {K : PySem.W.Frag} {mg : Str → Option Value} {base : Heap}
/-! ### the law's draws, out of a source -/
def sp_draw : Sp := SpR (A := Addr × Addr × Int) (fun a => srcR a.1 a.2.1) (fun a vs _ _ => vs = [.ref a.1, .int a.2.2] ∧ 1 ≤ a.2.2 ∧ a.2.2 < 10 ^ 40) (fun a v _ _ => ∃ i, v = .int i ∧ 0 ≤ i ∧ i < a.2.2)
theorem ev_draw {p c : Addr} {s : L2.St} {S : Hp} {t : TA} {n : Int} (h : EvAV (srcR p c) t s S [.ref p, .int n]) (h1 : 1 ≤ n) (h2 : n < 10 ^ 40) : EvS (srcR p c) (tCall sp_draw [] E0 t) s S fun v _ => ∃ i, v = .int i ∧ 0 ≤ i ∧ i < n :=
  ev_callR (p, c, n) rfl h (fun _ _ _ _ => ⟨rfl, h1, h2⟩) fun v _ _ _ _ p => p
theorem ev_draw1 {p c : Addr} {s : L2.St} {S : Hp} {t : TA} {n lo : Int} (h : EvAV (srcR p c) t s S [.ref p, .int n]) (h1 : 1 ≤ n) (h2 : n < 10 ^ 40) : EvS (srcR p c) (tOp (rAddU K) (tC (.int lo)) (tCall sp_draw [] E0 t)) s S fun v _ => ∃ i, v = .int i ∧ lo ≤ i ∧ i < lo + n :=
  ev_op2 vv_c (fun _ S e _ => ev_draw (EvAS.mono' e h) h1 h2) fun x y S S' _ hx _ ⟨i, hy, h1, h2⟩ => by
    subst hx
    subst hy
    exact ⟨_, rs_add, _, rfl, by omega, by omega⟩
theorem G_L_draw (T : TX P w K mg) : FnOk P w K mg base CX0 1 T.f_L_draw T.fd_L_draw ["_law_source", "_law_limit"] sp_draw := by
  refine T.F_L_draw.ok sc_L_draw (fun vs H Q E h => ?_) (fun cdv A outer s H vs Q E hr h => ?_)
  · obtain ⟨i, S, ⟨rfl, _⟩, _⟩ := h
    rfl
  · obtain ⟨⟨p, c, n⟩, S, ⟨rfl, hn1, hn2⟩, w0, q⟩ := h
    dsimp only at hn1 hn2 w0 q
    obtain ⟨cs, pos, big, seed, hp⟩ := w0.inv
    have x0 := SW.start w0 hp
    refine ⟨_, (pss_cons (ps_if (PW.pt (pw_and (pt_cmpR op_lt (pe_ix (ix_K (K := K)) (pv 0) pe_int (fun _ _ => rfl)) (pe_op op_pow pe_int pe_int) (nomark _)) (pw_and1 (pt_cmpR op_lt (pe_ix (ix_K (K := K)) (pv 0) pe_int (fun _ _ => rfl)) (pe_callB (call_lenK (K := K)) (by rfl) T.z_len (by decide +kernel) (pa_cons (pe_ix (ix_K (K := K)) (pv 0) pe_int (fun _ _ => rfl)) pa_nil)) (nomark _))))) (pss_cons (ps_set (i := 2) sc_L_draw.nd rfl (Or.inl rfl) (pe_callTy call_int1 (by rfl) T.z_int (by decide +kernel) (pa_cons (pe_ix (ix_K (K := K)) (pe_ix (ix_K (K := K)) (pv 0) pe_int (fun _ _ => rfl)) (pe_ix (ix_K (K := K)) (pv 0) pe_int (fun _ _ => rfl)) (fun _ _ => rfl)) pa_nil)))
        (pss_cons (ps_asg (pe_op (op_addK (K := K)) (pe_ix (ix_K (K := K)) (pv 0) pe_int (fun _ _ => rfl)) pe_int) (pg_sub (pv 0) pe_int set_list))
        (pss_cons (ps_asg pe_int (pg_sub (pv 0) pe_int set_list))
        (pss_cons (ps_if (pt_cmpR op_ge (pv 2) (pe_op op_pow pe_int pe_int) (nomark _)) (pss_one (ps_asg (pv 2) (pg_sub (pv 0) pe_int set_list))) pss_nil)
        (pss_one (ps_asg (pe_op op_mod (pe_callTy call_int1 (by rfl) T.z_int (by decide +kernel) (pa_cons (pe_op (op_addK (K := K)) (pe_op (op_addK (K := K)) (pe_op op_mulU (pe_ix (ix_K (K := K)) (pv 0) pe_int (fun _ _ => rfl)) pe_int) (pe_op op_mod (pv 2) pe_int)) pe_int) pa_nil)) pe_int) (pg_sub (pv 0) pe_int set_list))))))) pss_nil)
      (pss_cons (ps_if (pt_cmpR op_ge (pe_ix (ix_K (K := K)) (pv 0) pe_int (fun _ _ => rfl)) (pe_op op_pow pe_int pe_int) (nomark _)) (pss_cons (ps_set (i := 3) sc_L_draw.nd rfl (Or.inl rfl) (pe_op op_mod (pe_callTy call_int1 (by rfl) T.z_int (by decide +kernel) (pa_cons (pe_ix (ix_K (K := K)) (pv 0) pe_int (fun _ _ => rfl)) pa_nil)) (pv 1)))
        (pss_cons (ps_asg (pe_op op_fdivW (pe_ix (ix_K (K := K)) (pv 0) pe_int (fun _ _ => rfl)) (pv 1)) (pg_sub (pv 0) pe_int set_list))
        (pss_one (ps_ret (pv 3))))) pss_nil)
      (pss_cons (ps_asg (pe_op op_mod (pe_callTy call_int1 (by rfl) T.z_int (by decide +kernel) (pa_cons (pe_op (op_addK (K := K)) (pe_op op_mulU (pe_ix (ix_K (K := K)) (pv 0) pe_int (fun _ _ => rfl)) pe_int) pe_int) pa_nil)) pe_int) (pg_sub (pv 0) pe_int set_list))
      (pss_one (ps_ret (pe_op op_mod (pe_callTy call_int1 (by rfl) T.z_int (by decide +kernel) (pa_cons (pe_op op_fdivW (pe_ix (ix_K (K := K)) (pv 0) pe_int (fun _ _ => rfl)) pe_int) pa_nil)) (pv 1))))))), ?_⟩
    have at1 : ∀ {s : L2.St} {S H : Hp} {pos big seed : Int}, s[0]? = some (some (.ref p)) → SrcAt p c cs pos big seed H → EvV Rs.nil (tOp (rIx K) (tVar 0) (tC (.int 1))) s (sup [p, c] H S) (.int pos) := fun hs h => vv_op (vv_var hs) vv_c (rs_ixL' (SqL.of (sup_p h.hp)) (atI_nat (j := 1) rfl))
    have at2 : ∀ {s : L2.St} {S H : Hp} {pos big seed : Int}, s[0]? = some (some (.ref p)) → SrcAt p c cs pos big seed H → EvV Rs.nil (tOp (rIx K) (tVar 0) (tC (.int 2))) s (sup [p, c] H S) (.int big) := fun hs h => vv_op (vv_var hs) vv_c (rs_ixL' (SqL.of (sup_p h.hp)) (atI_nat (j := 2) rfl))
    have at3 : ∀ {s : L2.St} {S H : Hp} {pos big seed : Int}, s[0]? = some (some (.ref p)) → SrcAt p c cs pos big seed H → EvV Rs.nil (tOp (rIx K) (tVar 0) (tC (.int 3))) s (sup [p, c] H S) (.int seed) := fun hs h => vv_op (vv_var hs) vv_c (rs_ixL' (SqL.of (sup_p h.hp)) (atI_nat (j := 3) rfl))
    have ten : ∀ {s : L2.St} {S : Hp}, EvV Rs.nil (tOp (rI CPow fun i j => .int (i ^ j.toNat)) (tC (.int 10)) (tC (.int 18))) s S (.int (10 ^ 18)) := vv_op vv_c vv_c (rs_I (show CPow 10 18 from ⟨by decide, by decide, by decide⟩))
    have hdv : ∀ x, CDivW x n := fun x => cdiv (by omega) (by
      have : (10 : Int) ^ 40 < 10 ^ 100 := by decide +kernel
      omega)
    refine sq_join (fun s' H' => ∃ S' pos' big' seed' y2 y3, SW p c S H cs pos' big' seed' S' H' ∧ s' = [some (.ref p), some (.int n), y2, y3]) ?_ fun fin => ?_
    · rintro s' H5 ⟨S5, pos5, big5, seed5, y2, y3, x5, rfl⟩
      refine sq_ifL [p, c] (tb_test (vv_op (at2 rfl x5.at_) ten rs_I0)) x5.w x5.l (fun hb S6 H6 w6 s6 => ?_) (fun hb S6 H6 w6 s6 => ?_)
      · have x6 := x5.step w6 s6
        refine sq_asgL [p, c] (v := .int (big5 % n)) (vv_op (vv_cb (va_cons (at2 rfl x6.at_) va_nil) rc_int) (vv_var rfl) (rs_I (by omega))) x6.w x6.l fun S7 H7 w7 s7 => ?_
        have x7 := x6.step w7 s7
        refine sq_setL [p, c] (v := .int (big5 / n)) (i := 2) (j := 2) (vv_op (at2 rfl x7.at_) (vv_var rfl) (rs_I (hdv big5))) (vv_var rfl) vv_c x7.w x7.l (by simp) x7.at_.hp rfl fun S8 H8 w8 s8 h8 kp8 => ?_
        have x8 := x7.setp w8 s8 (pos' := pos5) (big' := big5 / n) (seed' := seed5) h8 kp8 x7.at_.pos0 (Int.ediv_nonneg x7.at_.big0 (by omega)) x7.at_.seed0
        exact st_ret (vv_var rfl) x8.w fun v S9 H9 w9 s9 e9 => q v S9 H9 (x8.step w9 s9).done.1 (x8.step w9 s9).done.2 ⟨_, e9, Int.emod_nonneg _ (by omega), Int.emod_lt_of_pos _ (by omega)⟩
      · have x6 := x5.step w6 s6
        refine sq_setL [p, c] (v := .int ((seed5 * 39373 + 12820163) % 2147483647)) (i := 3) (j := 3) (vv_op (vv_cb (va_cons (vv_op (vv_op (at3 rfl x6.at_) vv_c (rs_mul (cmul_r (by decide)))) vv_c rs_add) va_nil) rc_int) vv_c (rs_I (by decide))) (vv_var rfl) vv_c x6.w x6.l (by simp) x6.at_.hp rfl fun S7 H7 w7 s7 h7 kp7 => ?_
        have x7 := x6.setp w7 s7 (pos' := pos5) (big' := big5) (seed' := (seed5 * 39373 + 12820163) % 2147483647) h7 kp7 x6.at_.pos0 x6.at_.big0 (by omega)
        exact st_retL [p, c] (v := .int ((seed5 * 39373 + 12820163) % 2147483647 / 16 % n)) (vv_op (vv_cb (va_cons (vv_op (at3 rfl x7.at_) vv_c (rs_I (cdiv (by decide) (by decide)))) va_nil) rc_int) (vv_var rfl) (rs_I (by omega))) x7.w x7.l fun S8 H8 w8 s8 => q _ S8 H8 (x7.step w8 s8).done.1 (x7.step w8 s8).done.2 ⟨_, rfl, Int.emod_nonneg _ (by omega), Int.emod_lt_of_pos _ (by omega)⟩
    · refine sq_ifL [p, c] (tb_and (tb_test (vv_op (at2 rfl x0.at_) ten rs_I0)) fun _ => tb_test (vv_op (at1 rfl x0.at_) (vv_cb (va_cons (vv_op (vv_var rfl) vv_c (rs_ixL' (SqL.of (sup_p x0.at_.hp)) (atI_nat (j := 0) rfl))) va_nil) (rc_lenL (SqL.of (sup_c x0.at_.hc)))) rs_I0)) x0.w x0.l (fun hb S1 H1 w1 s1 => ?_) (fun hb S1 H1 w1 s1 => fin _ _ ⟨_, _, _, _, none, none, x0.step w1 s1, rfl⟩)
      have x1 := x0.step w1 s1
      have hp0 := hp.pos0
      simp only [Bool.and_eq_true, decide_eq_true_eq, List.length_map] at hb
      obtain ⟨j, rfl⟩ : ∃ j : Nat, pos = (j : Int) := ⟨pos.toNat, by omega⟩
      have hj : j < cs.length := by omega
      have gj : (cs.map V.int)[j]? = some (.int cs[j]) := by
        rw [List.getElem?_map, List.getElem?_eq_getElem hj]
        rfl
      generalize hxx : cs[j] = x at *
      refine sq_asgL [p, c] (v := .int x) (vv_cb (va_cons (vv_op (vv_op (vv_var rfl) vv_c (rs_ixL' (SqL.of (sup_p x1.at_.hp)) (atI_nat (j := 0) rfl))) (at1 rfl x1.at_) (rs_ixL' (SqL.of (sup_c x1.at_.hc)) (atI_nat gj))) va_nil) rc_int) x1.w x1.l fun S2 H2 w2 s2 => ?_
      have x2 := x1.step w2 s2
      refine sq_setL [p, c] (v := .int ((j : Int) + 1)) (i := 1) (j := 1) (vv_op (at1 rfl x2.at_) vv_c rs_add) (vv_var rfl) vv_c x2.w x2.l (by simp) x2.at_.hp rfl fun S3 H3 w3 s3 h3 kp3 => ?_
      have x3 := x2.setp w3 s3 (pos' := (j : Int) + 1) (big' := big) (seed' := seed) h3 kp3 (by omega) hp.big0 hp.seed0
      refine sq_setL [p, c] (v := .int 0) (i := 2) (j := 2) vv_c (vv_var rfl) vv_c x3.w x3.l (by simp) x3.at_.hp rfl fun S4 H4 w4 s4 h4 kp4 => ?_
      have x4 := x3.setp w4 s4 (pos' := (j : Int) + 1) (big' := 0) (seed' := seed) h4 kp4 (by omega) (by decide) hp.seed0
      refine sq_join (fun s' H' => ∃ S' big', SW p c S H cs ((j : Int) + 1) big' seed S' H' ∧ s' = [some (.ref p), some (.int n), some (.int x), none]) ?_ fun fin2 => ?_
      · rintro s' H5 ⟨S5, big5, x5, rfl⟩
        refine st_setL [p, c] (v := .int ((seed * 48271 + x % 2147483629 + 11) % 2147483647)) (i := 3) (j := 3) (vv_op (vv_cb (va_cons (vv_op (vv_op (vv_op (at3 rfl x5.at_) vv_c (rs_mul (cmul_r (by decide)))) (vv_op (vv_var rfl) vv_c (rs_I (by decide))) rs_add) vv_c rs_add) va_nil) rc_int) vv_c (rs_I (by decide))) (vv_var rfl) vv_c x5.w x5.l (by simp) x5.at_.hp rfl fun S6 H6 w6 s6 h6 kp6 => ?_
        exact fin _ _ ⟨S6, _, _, _, _, _, x5.setp w6 s6 (pos' := (j : Int) + 1) (big' := big5) (seed' := (seed * 48271 + x % 2147483629 + 11) % 2147483647) h6 kp6 (by omega) x5.at_.big0 (by omega), rfl⟩
      · refine sq_ifL [p, c] (tb_test (vv_op (vv_var rfl) ten rs_I0)) x4.w x4.l (fun hb5 S5 H5 w5 s5 => ?_) (fun hb5 S5 H5 w5 s5 => fin2 _ _ ⟨_, _, x4.step w5 s5, rfl⟩)
        have x5 := x4.step w5 s5
        have hx : (10 : Int) ^ 18 ≤ x := by simpa using hb5
        refine st_setL [p, c] (v := .int x) (i := 2) (j := 2) (vv_var rfl) (vv_var rfl) vv_c x5.w x5.l (by simp) x5.at_.hp rfl fun S6 H6 w6 s6 h6 kp6 => ?_
        exact fin2 _ _ ⟨S6, x, x5.setp w6 s6 (pos' := (j : Int) + 1) (big' := x) (seed' := seed) h6 kp6 (by omega) (by omega) hp.seed0, rfl⟩
def sp_begin (K : PySem.W.Frag) : Sp := fun vs H Q _ => ∃ (a : Addr) (ns : List Int) (S : Hp), vs = [.ref a] ∧ SqL K S a (ns.map V.int) ∧ ns.length ≤ 63 ∧ Wd Rs.nil S H ∧ ∀ p c S1 H1, H p = none → H c = none → Wd (srcR p c) S1 H1 → Stp Rs.nil S H S1 H1 → Q (.ref p) H1
theorem st_retLst {te : TE} {tr : TA} {D : Ends} {s : L2.St} {H : Hp} (h : te s H fun x H1 => tr s H1 fun xs H2 => (x :: xs).length ≤ sizeLine ∧ ∀ p, H2 p = none → D.rt (.ref p) (upd H2 p (.lst (x :: xs)))) : tRet (tLst (tCons te tr)) D s H := h
theorem cut_intsK (ns : List Int) (lo hi : Option Int) : ∃ ms : List Int, cutV (ns.map V.int) lo hi = ms.map V.int := by
  refine ⟨_, by unfold cutV; rw [← List.map_drop, ← List.map_take]⟩
theorem G_L_begin (T : TX P w K mg) : FnOk P w K mg base CX0 1 T.f_L_begin T.fd_L_begin ["_law_script"] (sp_begin K) := by
  refine T.F_L_begin.ok sc_L_begin (fun vs H Q E h => ?_) (fun cdv A outer s H vs Q E hr h => ?_)
  · obtain ⟨a, ns, S, rfl, _⟩ := h
    rfl
  · obtain ⟨a, ns, S, rfl, hS, hl, w0, q⟩ := h
    refine ⟨_, (pss_one (ps_ret (pe_lst (pa_cons (pe_callTy (call_listK (K := K)) (by rfl) T.z_list (by decide +kernel) (pa_cons (pe_slice (sl_K (K := K)) (pv 0) po_none (po_some pe_int)) pa_nil)) (pa_cons pe_int (pa_cons pe_int (pa_cons pe_int pa_nil))))))), ?_⟩
    refine st_retLst ?_
    obtain ⟨ms, em⟩ := cut_intsK ns none (some 63)
    refine (en_list (K := K) (X := IntR) (ys := ms) (ea_one (EvN.lst (X := IntR) ((en_slice (lo := none) (hi := some 63) (vv_var rfl) hS (fun H Q q => q) (fun H Q q => ⟨63, rfl, q⟩)).imp fun o S2 _ eo => ⟨_, eo, by rw [em]; exact All2.of_ints ms⟩) |>.imp fun v S1 _ h => .inl h)) : EvN Rs.nil _ _ S _) S H (Ex.refl _) w0 _ fun c o S4 H4 hc lc sc w4 s4 ⟨ws, eo, hws⟩ => ?_
    subst eo
    rw [hws.ints] at lc
    refine ⟨by show 4 ≤ sizeLine; decide, fun p hp => ?_⟩
    have w5 : Wd Rs.nil S4 (upd H4 p (.lst [.ref c, .int 0, .int 0, .int 7])) := w4.new hp
    have s5 : Stp Rs.nil S H S4 (upd H4 p (.lst [.ref c, .int 0, .int 0, .int 7])) := s4.trans (Stp.new hp)
    have ncp : c ≠ p := ne_of_none lc hp
    have hat : SrcAt p c ms 0 0 7 (upd H4 p (.lst [.ref c, .int 0, .int 0, .int 7])) := ⟨upd_same, by
      rw [upd_ne ncp]
      exact lc, by decide, by decide, by decide⟩
    refine q p c S4 _ (pre_none s4 hp) hc ⟨w5.ex, ⟨_, _, _, _, hat⟩, fun b hb => ?_⟩ s5
    rcases List.mem_cons.mp hb with rfl | hb
    · exact w4.fresh hp
    · rw [List.mem_singleton.mp hb]
      exact sc
theorem call_run {sp : Sp} {dvs : List V} {E : XK} {ta : TA} {s : L2.St} {H : Hp} {Q : VK} (h : ta s H fun vs H1 => sp (vs ++ dvs) H1 Q E) : tCall sp dvs E ta s H Q := h
theorem sq_begin {i : Nat} {a : Addr} {ns : List Int} {s : L2.St} {H : Hp} {tz : TS} {D : Ends} (h : s[0]? = some (some (.ref a))) (hS : SqL K H a (ns.map V.int)) (hl : ns.length ≤ 63) (k : ∀ p c S1 H1, Wd (srcR p c) S1 H1 → tz D (s.set i (some (.ref p))) H1) : tSeq (tAsg (tCall (sp_begin K) [] E0 (tCons (tVar 0) tNil)) (gName i)) tz D s H :=
  have h0 : EvAV Rs.nil (tCons (tVar 0) tNil) s H [.ref a] := va_cons (vv_var h) va_nil
  sq_asgRun (call_run (h0 H H (Ex.refl _) ⟨Ex.refl _, True.intro, fun a h => by cases h⟩ (fun vs H1 => sp_begin K (vs ++ []) H1 (fun v H1 => tz D (s.set i (some v)) H1) E0) fun us S1 H1 w1 s1 eu => by
    subst eu
    exact ⟨a, ns, S1, rfl, ex_l s1.ex hS, hl, w1, fun p c S2 H2 _ _ w2 s2 => k p c S2 H2 w2⟩))
def sp_law (K : PySem.W.Frag) : Sp := fun vs H Q _ => ∃ (a : Addr) (ns : List Int), vs = [.ref a] ∧ SqL K H a (ns.map V.int) ∧ ns.length ≤ 63 ∧ ∀ H', Q (.bl true) H'
end
end K16

namespace K16
open PySem PySem.Spec PyProof.Rows L2 Evl J RZ
section
variable {P : Program} {w : World} {K : PySem.W.Frag} {mg : Str → Option Value} {base : Heap}
/-! ### displays told by a relation, picks -/
theorem ar_nil {α : Type} {R : Rl α} {r : Rs} {s : L2.St} {S : Hp} : EvAS r tNil s S fun us S1 => All2 R S1 [] us := J.ea_nil.imp' fun us S1 _ e => by
  rw [show us = _ from e]
  exact .nil
theorem ar_cons {α : Type} {R : Rl α} [Mono R] {r : Rs} {s : L2.St} {S : Hp} {ta : TE} {tr : TA} {a : α} {xs : List α} (h : EvS r ta s S fun v S1 => R a v S1) (hr : ∀ S1, Ex S S1 → EvAS r tr s S1 fun us S2 => All2 R S2 xs us) : EvAS r (tCons ta tr) s S fun us S1 => All2 R S1 (a :: xs) us :=
  (ea_all h hr fun v S1 S2 e p => Mono.up e p).imp' fun us S1 _ ⟨v, vs, e, h1, h2⟩ => by
    rw [e]
    exact .cons h1 h2
theorem ev_lstA {α : Type} {R : Rl α} [Mono R] {r : Rs} {s : L2.St} {S : Hp} {ta : TA} {xs : List α} (h : EvAS r ta s S fun us S1 => All2 R S1 xs us) (hl : xs.length ≤ 100000) : EvS r (tLst ta) s S fun v S1 => LstR R xs v S1 :=
  EvN.lst (X := R) (en_lst h fun us S1 p => by rw [p.len]; exact hl)
theorem ev_tupA {α : Type} {R : Rl α} [Mono R] {r : Rs} {s : L2.St} {S : Hp} {ta : TA} {xs : List α} (h : EvAS r ta s S fun us S1 => All2 R S1 xs us) (hl : xs.length ≤ 100000) : EvS r (tTup ta) s S fun v S1 => TupR K R xs v S1 :=
  EvN.tup (X := R) (en_tup h fun us S1 p => by rw [p.len]; exact hl)
theorem ev_pickR {α : Type} {R : Rl α} [Mono R] {r : Rs} {s : L2.St} {S : Hp} {ta ti : TE} {xs : List α} {n : Int} (h : EvS r ta s S fun v S1 => LstR R xs v S1) (hi : ∀ S1, Ex S S1 → EvS r ti s S1 fun v _ => ∃ i, v = .int i ∧ 0 ≤ i ∧ i < n) (hn : n = (xs.length : Int)) : EvS r (tOp (rIx K) ta ti) s S fun v S1 => ∃ x, x ∈ xs ∧ R x v S1 :=
  ev_op2 h (fun _ S1 e _ => hi S1 e) fun x y S1 S2 _ ⟨b, vs, h1, h2, h3⟩ e2 ⟨i, hy, h0, hlt⟩ => by
    obtain ⟨j, rfl⟩ : ∃ j : Nat, i = (j : Int) := ⟨i.toNat, by omega⟩
    have hj : j < xs.length := by omega
    obtain ⟨v, g1, g2⟩ := h3.at (List.getElem?_eq_getElem hj)
    subst h1
    subst hy
    exact ⟨v, rs_ixL' (SqL.of (e2 _ _ h2)) (atI_nat g1), xs[j], List.getElem_mem hj, Mono.up e2 g2⟩
/-- items of a list of known values -/
theorem vv_ixK {r : Rs} {s : L2.St} {S : Hp} {i j : Nat} {a : Addr} {vs : List V} {v : V} (h : s[i]? = some (some (.ref a))) (ha : S a = some (.lst vs)) (hj : vs[j]? = some v) : EvV r (tOp (rIx K) (tVar i) (tC (.int (j : Int)))) s S v := vv_op (vv_var h) vv_c (rs_ixL' (SqL.of ha) (atI_nat hj))
theorem vv_ix0 {r : Rs} {s : L2.St} {S : Hp} {i : Nat} {a : Addr} {vs : List V} {v : V} (h : s[i]? = some (some (.ref a))) (ha : S a = some (.lst vs)) (hj : vs[0]? = some v) : EvV r (tOp (rIx K) (tVar i) (tC (.int 0))) s S v := vv_ixK (j := 0) h ha hj
theorem vv_ix1 {r : Rs} {s : L2.St} {S : Hp} {i : Nat} {a : Addr} {vs : List V} {v : V} (h : s[i]? = some (some (.ref a))) (ha : S a = some (.lst vs)) (hj : vs[1]? = some v) : EvV r (tOp (rIx K) (tVar i) (tC (.int 1))) s S v := vv_ixK (j := 1) h ha hj
theorem vv_ix2 {r : Rs} {s : L2.St} {S : Hp} {i : Nat} {a : Addr} {vs : List V} {v : V} (h : s[i]? = some (some (.ref a))) (ha : S a = some (.lst vs)) (hj : vs[2]? = some v) : EvV r (tOp (rIx K) (tVar i) (tC (.int 2))) s S v := vv_ixK (j := 2) h ha hj
theorem vv_ix3 {r : Rs} {s : L2.St} {S : Hp} {i : Nat} {a : Addr} {vs : List V} {v : V} (h : s[i]? = some (some (.ref a))) (ha : S a = some (.lst vs)) (hj : vs[3]? = some v) : EvV r (tOp (rIx K) (tVar i) (tC (.int 3))) s S v := vv_ixK (j := 3) h ha hj
/-- range(e) walked by a for, e only bounded -/
theorem sq_forR {r : Rs} {s : L2.St} {S H : Hp} {te : TE} {tu tz : TS} {D : Ends} {g : TG} {P : Int → Prop} (h : EvS r te s S fun v _ => ∃ n, v = .int n ∧ P n) (w0 : Wd r S H) (k : ∀ n S1 H1, P n → Wd r S1 H1 → Stp r S H S1 H1 → tSeq (tFor (iRng1 (tCons (tC (.int n)) tNil)) g tu) tz D s H1) : tSeq (tFor (iRng1 (tCons te tNil)) g tu) tz D s H := for_rng1 (D := { D with nx := tz D }) h w0 k
/-- lists of written texts -/
theorem ev_w1 {r : Rs} {s : L2.St} {S : Hp} (a : Str) : EvS r (tLst (tCons (tC (.str a)) tNil)) s S fun v S1 => LstR StrR [a] v S1 := ev_lstA (ar_cons (R := StrR) vv_c fun S1 e => ar_nil) (by simp)
theorem ev_w2 {r : Rs} {s : L2.St} {S : Hp} (a b : Str) : EvS r (tLst (tCons (tC (.str a)) (tCons (tC (.str b)) tNil))) s S fun v S1 => LstR StrR [a, b] v S1 := ev_lstA (ar_cons (R := StrR) vv_c fun S1 e => ar_cons (R := StrR) vv_c fun S1 e => ar_nil) (by simp)
theorem ev_w3 {r : Rs} {s : L2.St} {S : Hp} (a b c : Str) : EvS r (tLst (tCons (tC (.str a)) (tCons (tC (.str b)) (tCons (tC (.str c)) tNil)))) s S fun v S1 => LstR StrR [a, b, c] v S1 := ev_lstA (ar_cons (R := StrR) vv_c fun S1 e => ar_cons (R := StrR) vv_c fun S1 e => ar_cons (R := StrR) vv_c fun S1 e => ar_nil) (by simp)
theorem ev_ways {r : Rs} {s : L2.St} {S : Hp} (a b c d : Str) : EvS r (tLst (tCons (tLst tNil) (tCons (tLst (tCons (tC (.str a)) tNil)) (tCons (tLst (tCons (tC (.str b)) tNil)) (tCons (tLst (tCons (tC (.str c)) (tCons (tC (.str d)) tNil))) tNil))))) s S fun v S1 => LstR (LstR StrR) [[], [a], [b], [c, d]] v S1 :=
  ev_lstA (ar_cons (R := LstR StrR) ev_nilL fun S1 e => ar_cons (R := LstR StrR) (ev_w1 a) fun S1 e => ar_cons (R := LstR StrR) (ev_w1 b) fun S1 e => ar_cons (R := LstR StrR) (ev_w2 c d) fun S1 e => ar_nil) (by simp)
/-- one of a few written texts, drawn -/
theorem ev_pick2 {r : Rs} {s : L2.St} {S : Hp} {ti : TE} (a b : Str) (hi : ∀ S1, Ex S S1 → EvS r ti s S1 fun v _ => ∃ i, v = .int i ∧ 0 ≤ i ∧ i < 2) : EvS r (tOp (rIx K) (tLst (tCons (tC (.str a)) (tCons (tC (.str b)) tNil))) ti) s S fun v _ => ∃ z, z ∈ [a, b] ∧ v = .str z := ev_pickR (R := StrR) (ev_w2 a b) hi rfl
theorem ev_pick3 {r : Rs} {s : L2.St} {S : Hp} {ti : TE} (a b c : Str) (hi : ∀ S1, Ex S S1 → EvS r ti s S1 fun v _ => ∃ i, v = .int i ∧ 0 ≤ i ∧ i < 3) : EvS r (tOp (rIx K) (tLst (tCons (tC (.str a)) (tCons (tC (.str b)) (tCons (tC (.str c)) tNil)))) ti) s S fun v _ => ∃ z, z ∈ [a, b, c] ∧ v = .str z := ev_pickR (R := StrR) (ev_w3 a b c) hi rfl
theorem ev_pickW {r : Rs} {s : L2.St} {S : Hp} {ti : TE} (a b c d : Str) (hi : ∀ S1, Ex S S1 → EvS r ti s S1 fun v _ => ∃ i, v = .int i ∧ 0 ≤ i ∧ i < 4) : EvS r (tOp (rIx K) (tLst (tCons (tLst tNil) (tCons (tLst (tCons (tC (.str a)) tNil)) (tCons (tLst (tCons (tC (.str b)) tNil)) (tCons (tLst (tCons (tC (.str c)) (tCons (tC (.str d)) tNil))) tNil))))) ti) s S fun v S1 => ∃ z, z ∈ [[], [a], [b], [c, d]] ∧ LstR StrR z v S1 := ev_pickR (R := LstR StrR) (ev_ways a b c d) hi rfl
/-- x, y = (e, e') where the names are no cells -/
theorem sq_parR {r : Rs} {s : L2.St} {S H : Hp} {ta tb : TE} {tz : TS} {D : Ends} {A B : V → Hp → Prop} {i j : Nat} (h : EvS r ta s S A) (h2 : ∀ S1, Ex S S1 → EvS r tb s S1 B) (m : ∀ v S1 S2, Ex S1 S2 → A v S1 → A v S2) (w0 : Wd r S H) (k : ∀ v v' S1 H1, Wd r S1 H1 → Stp r S H S1 H1 → A v S1 → B v' S1 → tz D ((s.set i (some v)).set j (some v')) H1) : tSeq (tPar i j (tCons ta (tCons tb tNil))) tz D s H :=
  sq_par (h S H (Ex.refl _) w0 _ fun v S2 H2 w2 s2 hv => h2 S2 s2.ex S2 H2 (Ex.refl _) w2 _ fun v' S3 H3 w3 s3 hv' => ⟨v, v', rfl, k v v' S3 H3 w3 (s2.trans s3) (m _ _ _ s3.ex hv) hv'⟩)
theorem pg_unlK {X : Cx} {es : List Expr} {k : Nat} {t : TGs} {n : Nat} {pos : Pos} (hc : X.calm = true) (h : PGs X es t) (hn : (assignEach es X.env).length = n := by rfl) (hst : (assignEach es X.env).findIdx? (·.1) = none := by rfl) (hK : X.K = K := by rfl) : PG X (.Tuple es k pos) (gUnl K n t) := by
  subst hK
  exact pg_unl hc h hn hst
theorem sq_three_l {r : Rs} {s : L2.St} {S H : Hp} {te : TE} {tz : TS} {D : Ends} {i j l n : Nat} {a b c : V} {p : Addr} (hn : n = 3) (h : EvV r te s S (.ref p)) (hp : S p = some (.lst [a, b, c])) (w0 : Wd r S H) (k : ∀ S1 H1, Wd r S1 H1 → Stp r S H S1 H1 → tz D (((s.set i (some a)).set j (some b)).set l (some c)) H1) : tSeq (tAsg te (gUnl K n (gCons (gName i) (gCons (gName j) (gCons (gName l) gNil))))) tz D s H :=
  h S H (Ex.refl _) w0 _ fun v S1 H1 w1 s1 e => ⟨p, _, e, SqL.of (w1.ex _ _ (s1.ex _ _ hp)), hn.symm, _, _, rfl, _, _, rfl, _, _, rfl, rfl, k S1 H1 w1 s1⟩
theorem sq_par3R {r : Rs} {s : L2.St} {S H : Hp} {ta tb tc : TE} {tz : TS} {D : Ends} {A B C : V → Hp → Prop} {i j l : Nat} (h : EvS r ta s S A) (h2 : ∀ S1, Ex S S1 → EvS r tb s S1 B) (h3 : ∀ S1, Ex S S1 → EvS r tc s S1 C) (m : ∀ v S1 S2, Ex S1 S2 → A v S1 → A v S2) (m2 : ∀ v S1 S2, Ex S1 S2 → B v S1 → B v S2) (w0 : Wd r S H) (k : ∀ v v' v'' S1 H1, Wd r S1 H1 → Stp r S H S1 H1 → A v S1 → B v' S1 → C v'' S1 → tz D (((s.set i (some v)).set j (some v')).set l (some v'')) H1) : tSeq (tPar3 i j l (tCons ta (tCons tb (tCons tc tNil)))) tz D s H :=
  h S H (Ex.refl _) w0 _ fun v S2 H2 w2 s2 hv => h2 S2 s2.ex S2 H2 (Ex.refl _) w2 _ fun v' S3 H3 w3 s3 hv' => h3 S3 (s2.ex.trans s3.ex) S3 H3 (Ex.refl _) w3 _ fun v'' S4 H4 w4 s4 hv'' => ⟨v, v', v'', rfl, k v v' v'' S4 H4 w4 ((s2.trans s3).trans s4) (m _ _ _ (s3.ex.trans s4.ex) hv) (m2 _ _ _ s4.ex hv') hv''⟩
end
end K16

namespace K16
open PySem PySem.Spec PyProof.Rows L2 Evl J RZ
section
variable {P : Program} {w : World} {K : PySem.W.Frag} {mg : Str → Option Value} {base : Heap}
def sp_pick (K : PySem.W.Frag) : Sp := SpR (A := (Addr × Addr) × Addr × List V) (fun a => srcR a.1.1 a.1.2) (fun a vs S _ => vs = [.ref a.1.1, .ref a.2.1] ∧ S a.2.1 = some (.lst a.2.2) ∧ 1 ≤ a.2.2.length ∧ a.2.2.length ≤ 100000) (fun a v _ _ => v ∈ a.2.2)
/-- pick(source, [e ..]): one of known values -/
theorem ev_pickV {p c : Addr} {s : L2.St} {S : Hp} {ta tl : TE} {xs : List V} {P : V → Prop} (h : EvV (srcR p c) ta s S (.ref p)) (hl : EvS (srcR p c) tl s S fun v S1 => LstR ValR xs v S1) (h1 : 1 ≤ xs.length ∧ xs.length ≤ 100000) (hP : ∀ x, x ∈ xs → P x) : EvS (srcR p c) (tCall (sp_pick K) [] E0 (tCons ta (tCons tl tNil))) s S fun v _ => P v := fun S1 H e w Q q =>
  h S1 H e w _ fun v S2 H2 w2 s2 ev => hl S2 H2 (e.trans s2.ex) w2 _ fun v' S3 H3 w3 s3 ⟨l, vs, ev', hv, ha⟩ => by
    subst ev
    subst ev'
    have e2 : vs = xs := by
      have : ∀ {xs : List V} {vs : List V}, All2 ValR S3 xs vs → vs = xs := fun h => by
        induction h with
        | nil => rfl
        | cons h _ ih => rw [show _ = _ from h, ih]
      exact this ha
    subst e2
    exact ⟨((p, c), l, vs), S3, ⟨rfl, hv, h1.1, h1.2⟩, w3, fun v S4 H4 w4 s4 h4 => q v S4 H4 w4 (s2.trans (s3.trans s4)) (hP v h4)⟩
end
end K16

namespace K16
open PySem PySem.Spec PyProof.Rows L2 Evl J RZ
section
variable {P : Program} {w : World} {K : PySem.W.Frag} {mg : Str → Option Value} {base : Heap}
/-! ### the law's own tables -/
theorem vv_draw0 {p c : Addr} {s : L2.St} {S : Hp} {i : Nat} {n : Int} (h : s[i]? = some (some (.ref p))) (h1 : 1 ≤ n) (h2 : n < 10 ^ 40) : EvS (srcR p c) (tCall sp_draw [] E0 (tCons (tVar i) (tCons (tC (.int n)) tNil))) s S fun v _ => ∃ i, v = .int i ∧ 0 ≤ i ∧ i < n := ev_draw (va_cons (vv_var h) (va_cons vv_c va_nil)) h1 h2
def CaseR (K : PySem.W.Frag) : Rl RuleD := fun a v S => ∃ b m, v = .ref b ∧ S b = some (.lst [.ref m, .str a.start, .str a.fresh, .str a.sees]) ∧ LstR StrR a.moves (.ref m) S ∧ RuleOk a
instance {K : PySem.W.Frag} : Mono (CaseR K) := ⟨fun e ⟨b, m, h1, h2, h3, h4⟩ => ⟨b, m, h1, e _ _ h2, Mono.up e h3, h4⟩⟩
def sp_case (K : PySem.W.Frag) : Sp := SpR (A := Addr × Addr) (fun a => srcR a.1 a.2) (fun a vs _ _ => vs = [.ref a.1]) (fun _ v S _ => ∃ u, CaseR K u v S)
theorem ev_words {r : Rs} {s : L2.St} {S : Hp} : EvS r (tLst tNil) s S fun v S1 => LstR StrR [] v S1 := ev_nilL
def sp_lrule (K : PySem.W.Frag) (C : Addr) : Sp := SpP (A := RuleD) (fun a vs S => ∃ v, vs = [v] ∧ CaseR K a v S) (fun a v S => RuleR K C a v S)
theorem G_L_rule (T : TX P w K mg) : FnOk P w K mg base CX0 4 T.f_L_rule T.fd_L_rule ["_law_case"] (sp_lrule K T.C_Rule) := by
  refine T.F_L_rule.ok sc_L_rule (fun vs H Q E h => ?_) (fun cdv A outer s H vs Q E hr h => ?_)
  · obtain ⟨a, S, ⟨v, rfl, _⟩, _⟩ := h
    rfl
  · obtain ⟨a, S, ⟨v, rfl, b, m, rfl, hb, hm, ho⟩, w0, q⟩ := h.body
    refine ⟨_, (pss_one (ps_ret (pe_makeK0 T.mk_Rule (G_Rule_init T) (hr.mono (by decide)) (by rfl) T.g_Rule T.kb4_Rule_init.choose_spec pass0 (pk_cons (pe_callTy (call_tupleK (K := K)) (by rfl) T.z_tuple (by decide +kernel) (pa_cons (pe_ix (ix_K (K := K)) (pv 0) pe_int (fun _ _ => rfl)) pa_nil)) (pk_cons (pe_ix (ix_K (K := K)) (pv 0) pe_int (fun _ _ => rfl)) (pk_cons (pe_ix (ix_K (K := K)) (pv 0) pe_int (fun _ _ => rfl)) (pk_cons (pe_ix (ix_K (K := K)) (pv 0) pe_int (fun _ _ => rfl)) pk_nil))))))), ?_⟩
    refine st_ret (R := fun v S1 => RuleR K T.C_Rule a v S1) (EvN.stable (R' := fun v S1 => RuleR K T.C_Rule a v S1) (en_makeK0 (P := fun us S1 => ∃ v, us = [v, .str a.start, .str a.fresh, .str a.sees] ∧ TupR K StrR a.moves v S1) (R := fun o S1 => ∃ dx d, o = .ins T.C_Rule dx [(("kept_parts" : Str), V.ref d)] ∧ PartsAt K d a S1) ?_ fun zs S1 e1 ⟨v, ez, hv⟩ => ?_) fun p o S1 e1 n1 ⟨dx, d, eo, hd⟩ => ⟨p, dx, d, rfl, by rw [eo]; exact upd_same, hd.up (Ex.new n1), ho⟩) w0 fun v S1 H1 w1 s1 h => q v S1 H1 w1 s1 h
    · refine J.ea_cons (ev_tupS (K := K) (R := StrR) ((vv_ix0 rfl hb rfl).imp fun v S1 e ev => .inl (by rw [ev]; exact Mono.up e hm))) fun x1 S1 e1 h1 => J.ea_cons (vv_ix1 rfl (e1 _ _ hb) rfl) fun x2 S2 e2 h2 => J.ea_cons (vv_ix2 rfl (e2 _ _ (e1 _ _ hb)) rfl) fun x3 S3 e3 h3 => J.ea_cons (vv_ix3 rfl (e3 _ _ (e2 _ _ (e1 _ _ hb))) rfl) fun x4 S4 e4 h4 => J.ea_nil.imp' fun us S5 e5 eu => ⟨x1, by rw [h2, h3, h4, eu], Mono.up (e2.trans (e3.trans (e4.trans e5))) h1⟩
    · subst ez
      exact ⟨rfl, a, _, fun x => rfl, ⟨v, rfl, .inr hv, ho⟩, fun dx fs S2 e2 ⟨d, ef, hd⟩ => ⟨dx, d, by rw [ef], hd⟩⟩
end
end K16

namespace K16
open PySem PySem.Spec PyProof.Rows L2 Evl J RZ
section
variable {P : Program} {w : World} {K : PySem.W.Frag} {mg : Str → Option Value} {base : Heap}
/-! ### lists only bounded walked, a list extended -/
theorem g_four {α β γ δ : Type} {R : Rl α} {R' : Rl β} {R'' : Rl γ} {R3 : Rl δ} {r : Rs} {s : L2.St} {S H : Hp} {v : V} {i j l m n : Nat} {p : α × β × γ × δ} {Q : L2.St → Hp → Prop} (hn : n = 4) (h : QuadR K R R' R'' R3 p v S) (w0 : Wd r S H) (k : ∀ x y z w, R p.1 x S → R' p.2.1 y S → R'' p.2.2.1 z S → R3 p.2.2.2 w S → Q ((((s.set i (some x)).set j (some y)).set l (some z)).set m (some w)) H) : gTup K n (gCons (gName i) (gCons (gName j) (gCons (gName l) (gCons (gName m) gNil)))) v s H Q := by
  obtain ⟨T, x, y, z, w, e, hT, h1, h2, h3, h4⟩ := h
  exact ⟨T, _, e, ex_t w0.ex hT, hn.symm, _, _, rfl, _, _, rfl, _, _, rfl, _, _, rfl, rfl, k x y z w h1 h2 h3 h4⟩
theorem st_extend {r : Rs} {s : L2.St} {S H : Hp} {D : Ends} {i : Nat} {l : Addr} {xs : List V} {te : TE} {P : List V → Hp → Prop} (n : l ∉ r.M) (hi : s[i]? = some (some (.ref l))) (hv : EvS r te s S fun v S1 => ∃ b zs, v = .ref b ∧ S1 b = some (.lst zs) ∧ P zs S1) (w : Wd r S H) (hl : H l = some (.lst xs)) (hs : S l = none) (hz : ∀ zs S1, P zs S1 → xs.length + zs.length ≤ 100000)
    (k : ∀ zs S1 H1, Wd r S1 H1 → Stp (r.more [l]) S H S1 H1 → S1 l = none → H1 l = some (.lst (xs ++ zs)) → P zs S1 → D.nx s H1) : tDrop (tBM K "list" rExtend (tVar i) (tCons te tNil)) D s H := by
  refine ⟨_, hi, .inl ⟨rfl, _, .inl (.inl hl)⟩, ?_⟩
  refine hv S H (Ex.refl _) w _ fun v S2 H2 w2 s2 ⟨b, zs, ev, hb, p⟩ => ?_
  have h2 := s2.kp l _ n hl
  have n2 := s2.fr l (ne_none hl) hs
  refine ⟨l, b, xs, zs, rfl, by rw [ev], h2, w2.ex _ _ hb, sz_of (hz zs S2 p), ?_⟩
  exact k zs S2 _ (w2.mut n2 n) ((s2.more).trans (Stp.upd1 (s2.dm l (ne_none hl)))) n2 upd_same p
/-- for .. in a list that is only bounded -/
theorem st_forL {α : Type} {X : Rl α} {r : Rs} {s : L2.St} {S H : Hp} {te : TE} {g : TG} {tu : TS} {D : Ends} {P : List α → Prop} (h : EvS r te s S fun v S1 => ∃ ys, P ys ∧ LstR X ys v S1) (w : Wd r S H) (k : ∀ v ys S1 H1, P ys → LstR X ys v S1 → Wd r S1 H1 → Stp r S H S1 H1 → tFor (iList K (tC v)) g tu D s H1) : tFor (iU K te) g tu D s H := by
  refine Or.inl (Or.inl ?_)
  exact h S H (Ex.refl _) w _ fun v S1 H1 w1 s1 ⟨ys, p, l⟩ => k v ys S1 H1 p l w1 s1
theorem ei_listC {α : Type} {X : Rl α} [Mono X] {r : Rs} {s : L2.St} {S : Hp} {v : V} {ys : List α} (h : LstR X ys v S) : EvI r (iList K (tC v)) s S ys X :=
  ei_list0 (vv_c.imp fun u S1 e eu => by
    rw [eu]
    obtain ⟨a, vs, e1, e2, e3⟩ := Mono.up (R := LstR X) e h
    exact ⟨a, vs, e1, SqL.of e2, e3⟩)
/-- a slice of a list that is only bounded -/
theorem ev_sliceE {α : Type} {R : Rl α} [Mono R] {r : Rs} {s : L2.St} {S : Hp} {te : TE} {tl th : TO} {lo hi : Option Int} {P : List α → Prop} (h : EvS r te s S fun v S1 => ∃ zs, P zs ∧ LstR R zs v S1) (hl : ∀ H Q, Q lo H → tl s H Q) (hh : ∀ H Q, Q hi H → th s H Q) : EvS r (tSl (rSlU K) te tl th) s S fun v S1 => ∃ zs, P zs ∧ LstR R (cutD zs lo hi) v S1 := fun S1 H e w Q q =>
  h S1 H e w _ fun v S2 H2 w2 s2 ⟨zs, p, l⟩ => (ev_slice (K := K) (R := R) (r := r) (s := s) (S := S2) (te := tC v) (xs := zs) (lo := lo) (hi := hi) (vv_c.imp fun u S3 e3 eu => by rw [eu]; exact Mono.up e3 l) hl hh) S2 H2 (Ex.refl _) w2 Q fun u S3 H3 w3 s3 g => q u S3 H3 w3 (s2.trans s3) ⟨zs, p, g⟩
end
end K16

namespace K16
open PySem PySem.Spec PyProof.Rows L2 Evl J RZ
section
variable {P : Program} {w : World} {K : PySem.W.Frag} {mg : Str → Option Value} {base : Heap}
/-! ### a list's items, drawn one after the other -/
theorem st_movePop {r : Rs} {s : L2.St} {S H : Hp} {D : Ends} {i j : Nat} {l f : Addr} {xs zs : List V} {ti : TE} (nl : l ∉ r.M) (nf : f ∉ r.M) (ne : l ≠ f) (hi : s[i]? = some (some (.ref l))) (hj : s[j]? = some (some (.ref f))) (h : EvS r ti s (upd S l (.lst xs)) fun v _ => ∃ k, v = .int k ∧ 0 ≤ k ∧ k < (xs.length : Int)) (w : Wd r S H) (hl : H l = some (.lst xs)) (hf : H f = some (.lst zs)) (sl : S l = none) (sf : S f = none) (hx : xs.length < 100000) (hz : zs.length < 100000)
    (k : ∀ (n : Nat) (hn : n < xs.length) S1 H1, Wd r S1 H1 → Stp (r.more [l, f]) S H S1 H1 → S1 l = none → S1 f = none → H1 l = some (.lst (xs.eraseIdx n)) → H1 f = some (.lst (zs ++ [xs[n]])) → D.nx s H1) : tDrop (tBM K "list" rAppend (tVar j) (tCons (tBM K "list" rPopAt (tVar i) (tCons ti tNil)) tNil)) D s H := by
  refine ⟨_, hj, .inl ⟨rfl, _, .inl (.inl hf)⟩, _, hi, .inl ⟨rfl, _, .inl (.inl hl)⟩, ?_⟩
  refine h _ H (Ex.refl _) (w.settle hl nl) _ fun v S1 H1 w1 s1 ⟨k', ev, hk0, hk1⟩ => ?_
  subst ev
  have s2 : Stp r S H (J.del l S1) H1 := s1.del sl
  have w2 : Wd r (J.del l S1) H1 := w1.del
  have n2 : (J.del l S1) l = none := J.del_same
  generalize J.del l S1 = S2 at s2 w2 n2
  have f2 := s2.fr f (ne_none hf) sf
  obtain ⟨n, rfl⟩ : ∃ n : Nat, k' = (n : Int) := ⟨k'.toNat, by omega⟩
  have hn : n < xs.length := by omega
  obtain ⟨g1, _, g3, g4⟩ := ixN_seq (J.ixN_nat hn)
  have big : (100000 : Int) < 2 ^ 63 := by decide
  refine ⟨l, xs, (n : Int), n, xs[n], rfl, rfl, s2.kp l _ nl hl, by omega, by omega, g1, List.getElem?_eq_getElem hn, ?_⟩
  have hf2 : (upd H1 l (.lst (xs.eraseIdx n))) f = some (.lst zs) := by
    rw [upd_ne ne.symm]
    exact s2.kp f _ nf hf
  refine ⟨f, zs, xs[n], rfl, rfl, hf2, sz_lt hz, ?_⟩
  refine k n hn S2 _ ((w2.mut n2 nl (nco_lst (s2.kp l _ nl hl))).mut f2 nf (nco_lst hf2)) ⟨s2.ex, fun a o na ea => ?_, s2.fr, fun a ha => ?_⟩ n2 f2 ?_ upd_same
  · have n1 : a ≠ l := fun e => na (List.mem_append_left _ (by rw [e]; simp))
    have n3 : a ≠ f := fun e => na (List.mem_append_left _ (by rw [e]; simp))
    rw [upd_ne n3, upd_ne n1]
    exact s2.kp a o (fun z => na (List.mem_append_right _ z)) ea
  · intro z
    by_cases e : a = f
    · subst e
      rw [upd_same] at z
      cases z
    · rw [upd_ne e] at z
      by_cases e1 : a = l
      · subst e1
        rw [upd_same] at z
        cases z
      · rw [upd_ne e1] at z
        exact s2.dm a ha z
  · rw [upd_ne ne]
    exact upd_same
theorem All2.erase {α : Type} {R : Rl α} {S : Hp} : ∀ {xs : List α} {vs : List V} (n : Nat), All2 R S xs vs → All2 R S (xs.eraseIdx n) (vs.eraseIdx n)
  | _, _, _, .nil => .nil
  | _, _, 0, .cons h t => t
  | _, _, n + 1, .cons h t => .cons h (All2.erase n t)
theorem dpa_of {α : Type} {R : Rl α} {S : Hp} {dd : α → PyData} (hd : ∀ a v S, R a v S → Dp K S v (dd a)) : ∀ {xs : List α} {vs : List V}, All2 R S xs vs → DpAll K S vs (xs.map dd)
  | _, _, .nil => .nil
  | _, _, .cons h t => .cons (hd _ _ _ h) (dpa_of hd t)
/-- a list told by a relation != [] -/
theorem ne_nilG {α : Type} {R : Rl α} (dd : α → PyData) (hd : ∀ a v S, R a v S → Dp K S v (dd a)) (hl : ∀ a, (dd a).canLay0 = true) (hp : ∀ a, (dd a).depth ≤ 20) {r : Rs} {s : L2.St} {S : Hp} {ta : TE} {xs : List α} (h : EvS r ta s S fun v S1 => LstR R xs v S1) : EvV r (tOp (rNeU K) ta (tLst tNil)) s S (.bl (!xs.isEmpty)) :=
  ev_op2 h (fun _ S1 e _ => ev_nilL (R := IntR)) fun x y S1 S2 _ ⟨l, vs, e1, e2, e3⟩ e ⟨l', ws, g1, g2, g3⟩ => by
    subst e1
    subst g1
    cases g3
    have dl : ∀ l : List α, PyData.canLayAll0 (l.map dd) = true := fun l => by
      induction l with
      | nil => rfl
      | cons x l ih => rw [List.map_cons, PyData.canLayAll0, hl, ih]; rfl
    have dp : ∀ l : List α, PyData.depthAll (l.map dd) ≤ 20 := fun l => by
      induction l with
      | nil => exact Nat.zero_le _
      | cons x l ih => rw [List.map_cons, PyData.depthAll]; exact Nat.max_le.mpr ⟨hp x, ih⟩
    have sh : SeqAt.shaped (.list (xs.map dd)) = true := Bool.and_eq_true_iff.mpr ⟨by simp only [PyData.canLay0]; exact dl xs, decide_eq_true (by
      have := dp xs
      simp only [PyData.depth]
      omega)⟩
    have ev : PyData.eqv (.list (xs.map dd)) (.list []) = xs.isEmpty := by
      cases xs with
      | nil => simp [PyData.eqv, PyData.eqvAll]
      | cons x l => simp [PyData.eqv, PyData.eqvAll]
    rw [← ev]
    exact ⟨_, rs_ned (d := .list (xs.map dd)) (e := .list []) (Dp.lst (SqL.of (e _ _ e2)) (dpa_up e _ _ (dpa_of hd e3))) (Dp.lst (SqL.of g2) .nil) sh (by decide +kernel), rfl⟩
def sp_mixedG {α : Type} (R : Rl α) : Sp := SpR (A := (Addr × Addr) × List α) (fun a => srcR a.1.1 a.1.2) (fun a vs S _ => ∃ v, vs = [.ref a.1.1, v] ∧ LstR R a.2 v S ∧ a.2.length ≤ 10000) (fun a v S _ => ∃ zs, LstR R zs v S ∧ zs.length = a.2.length ∧ ∀ z, z ∈ zs → z ∈ a.2)
theorem mixG {α : Type} {R : Rl α} [Mono R] (dd : α → PyData) (hd : ∀ a v S, R a v S → Dp K S v (dd a)) (hl : ∀ a, (dd a).canLay0 = true) (hp : ∀ a, (dd a).depth ≤ 20) (T : TX P w K mg) : FnOk P w K mg base CX0 2 T.f_L_mixed T.fd_L_mixed ["_law_source", "_law_items"] (sp_mixedG R) := by
  refine T.F_L_mixed.ok sc_L_mixed (fun vs H Q E h => ?_) (fun cdv A outer s H vs Q E hr h => ?_)
  · obtain ⟨a, S, ⟨v, rfl, _⟩, _⟩ := h
    rfl
  · obtain ⟨⟨⟨p, c⟩, l⟩, S, ⟨v, rfl, hv, hlen⟩, w0, q⟩ := h
    dsimp only at w0 q hv hlen
    refine ⟨_, (pss_cons (ps_par (i := 2) (j := 3) (by rfl) sc_L_mixed.nd rfl rfl (by decide) rfl rfl (pa_cons (pe_callTy (call_listK (K := K)) (by rfl) T.z_list (by decide +kernel) (pa_cons (pv 1) pa_nil)) (pa_cons (pe_lst pa_nil) pa_nil)) (by rfl))
      (pss_cons (ps_while PassesOwn.never (pt_cmpR (op_neK (K := K) hr.units) (pv 2) (pe_lst pa_nil) (nomark _)) (pss_one (ps_expr (pe_bm PySem.F.plainAttrs_list PySem.F.slot_list_append PySem.F.type_list_append mt_append (pv 3) (pa_cons (pe_bm PySem.F.plainAttrs_list PySem.F.slot_list_pop PySem.F.type_list_pop mt_popAt (pv 2) (pa_cons (pe_call (G_L_draw T) (hr.mono (by decide)) (by rfl) T.g_L_draw T.F_L_draw.kp T.b_L_draw .nil pass0 (pa_cons (pv 0) (pa_cons (pe_callB (call_lenK (K := K)) (by rfl) T.z_len (by decide +kernel) (pa_cons (pv 2) pa_nil)) pa_nil))) pa_nil)) pa_nil)))))
      (pss_one (ps_ret (pv 3))))), ?_⟩
    have big : (20000 : Int) < 10 ^ 40 := by decide +kernel
    refine sq_par ?_
    refine (en_list (K := K) (X := R) (ea_one (ev_v (R := SeqR K R) rfl (.inl hv))) : EvN (srcR p c) _ _ S _) S H (Ex.refl _) w0 _ fun a o S1 H1 l0 l1 l2 w1 s1 ⟨ws, eo, hws⟩ => ?_
    subst eo
    refine ⟨by decide, fun f hf => ⟨_, _, rfl, ?_⟩⟩
    have na : a ∉ (srcR p c).M := w0.notM l0
    have nf : f ∉ (srcR p c).M := w1.notM hf
    have ne : a ≠ f := ne_of_none l1 hf
    have w2 := w1.new (o := .lst []) hf
    have s2 : Stp (srcR p c) S H S1 (upd H1 f (.lst [])) := s1.trans (Stp.new hf)
    have f2 : (upd H1 f (.lst [])) f = some (.lst []) := upd_same
    have a2 : (upd H1 f (.lst [])) a = some (.lst ws) := by
      rw [upd_ne ne]
      exact l1
    have hf0 : H f = none := pre_none s1 hf
    have nf1 : S1 f = none := w1.fresh hf
    generalize upd H1 f (.lst []) = H2 at w2 s2 f2 a2
    refine sq_while (fun m s' S' H' => ∃ ys ws zs us, m = ys.length ∧ Wd (srcR p c) S' H' ∧ Stp (srcR p c) S H S' H' ∧ S' a = none ∧ S' f = none ∧ H' a = some (.lst ws) ∧ All2 R S' ys ws ∧ H' f = some (.lst us) ∧ All2 R S' zs us ∧ (∀ z, z ∈ ys → z ∈ l) ∧ (∀ z, z ∈ zs → z ∈ l) ∧ ys.length + zs.length = l.length ∧ s' = [some (.ref p), some v, some (.ref a), some (.ref f)]) (m0 := l.length) ⟨l, ws, [], [], rfl, w2, s2, l2, nf1, a2, hws, f2, .nil, fun z h => h, fun z h => (by cases h), by simp, rfl⟩ ?_
    rintro m s' S5 H5 ⟨ys, ws, zs, us, rfl, w5, s5, n5, nf5, a5, hys, f5, hzs, hm1, hm2, hll, rfl⟩
    have ex5 : Ex S5 (upd S5 a (.lst ws)) := Ex.new n5
    refine borrowT (b := !ys.isEmpty) (tb_test (ne_nilG dd hd hl hp ((vv_var rfl).imp fun v S e ev => ⟨a, ws, ev, e _ _ upd_same, (hys.up ex5).up e⟩))) w5 a5 na n5 fun S6 H6 w6 s6 n6 => ?_
    have a6 := s6.kp a _ na a5
    have f6 := s6.kp f _ nf f5
    have nf6 := s6.fr f (ne_none f5) nf5
    have hys6 := hys.up s6.ex
    have hzs6 := hzs.up s6.ex
    have st6 := s5.trans s6
    have hwl : ws.length = ys.length := hys.len
    have hul : us.length = zs.length := hzs.len
    rcases Classical.em (ys = []) with hy | hy
    · rw [show ys.isEmpty = true by rw [hy]; rfl]
      refine st_ret (S := upd S6 f (.lst us)) (vv_var rfl) (w6.settle f6 nf) fun v8 S8 H8 w8 s8 e8 => q v8 S8 H8 w8 ((st6.settle hf0 nf6).trans s8) ⟨zs, ?_, ?_, hm2⟩
      · rw [e8]
        exact Mono.up (R := LstR R) s8.ex ⟨f, us, rfl, upd_same, hzs6.up (Ex.new nf6)⟩
      · rw [hy] at hll
        simpa using hll
    · rw [show ys.isEmpty = false by cases ys with | nil => exact absurd rfl hy | cons _ _ => rfl]
      have hp : 0 < ys.length := List.length_pos_iff.mpr hy
      refine ⟨fun s2 H2 => ∃ m2 S2, m2 < ys.length ∧ ∃ ys ws zs us, m2 = List.length (α := α) ys ∧ Wd (srcR p c) S2 H2 ∧ Stp (srcR p c) S H S2 H2 ∧ S2 a = none ∧ S2 f = none ∧ H2 a = some (.lst ws) ∧ All2 R S2 ys ws ∧ H2 f = some (.lst us) ∧ All2 R S2 zs us ∧ (∀ z, z ∈ ys → z ∈ l) ∧ (∀ z, z ∈ zs → z ∈ l) ∧ ys.length + zs.length = l.length ∧ s2 = [some (.ref p), some v, some (.ref a), some (.ref f)], fun s2 H2 ⟨m2, S2, hm, h⟩ => ⟨m2, hm, S2, h⟩, ?_⟩
      refine st_movePop na nf ne rfl rfl (ev_draw (n := (ws.length : Int)) (va_cons (vv_var rfl) (va_cons (vv_len (X := R) (ys := ys) ((vv_var rfl).imp fun v S e ev => .inl ⟨a, ws, ev, e _ _ upd_same, (hys6.up (Ex.new n6)).up e⟩) |> fun h => by rw [← hwl] at h; exact h) va_nil)) (by omega) (by omega)) w6 a6 f6 n6 nf6 (by omega) (by omega) fun n hn S7 H7 w7 s7 n7 nf7 a7 f7 => ?_
      have st7 : Stp (srcR p c) S H S7 H7 := Stp.drop st6 s7 (fun b hb => by
        rcases List.mem_cons.mp hb with rfl | hb
        · exact l0
        · rw [List.mem_singleton.mp hb]
          exact hf0)
      have hn2 : n < ys.length := by omega
      have hel : ys[n] ∈ ys := List.getElem_mem hn2
      obtain ⟨vn, hv1, hv2⟩ := hys6.at (i := n) (x := ys[n]) (List.getElem?_eq_getElem hn2)
      rw [List.getElem?_eq_getElem hn] at hv1
      obtain rfl : ws[n] = vn := by injection hv1
      refine ⟨_, S7, ?_, ys.eraseIdx n, _, zs ++ [ys[n]], _, rfl, w7, st7, n7, nf7, a7, All2.erase n (hys6.up s7.ex), f7, (hzs6.up s7.ex).snoc (Mono.up s7.ex hv2), fun z hz => hm1 z (List.mem_of_mem_eraseIdx hz), fun z hz => ?_, ?_, rfl⟩
      · rw [List.length_eraseIdx, if_pos hn2]
        omega
      · rcases List.mem_append.mp hz with hz | hz
        · exact hm2 z hz
        · rw [List.mem_singleton.mp hz]
          exact hm1 _ hel
      · rw [List.length_eraseIdx, if_pos hn2, List.length_append, List.length_singleton]
        omega
end
end K16

namespace K16
open PySem PySem.Spec PyProof.Rows L2 Evl J RZ
section
variable {P : Program} {w : World} {K : PySem.W.Frag} {mg : Str → Option Value} {base : Heap}
theorem ev_callRA {A : Type} {rs : A → Rs} {pre : A → List V → Hp → Hp → Prop} {post : A → V → Hp → Hp → Prop} {E : XK} {dvs : List V} {ta : TA} {r : Rs} {s : L2.St} {S : Hp} {P : List V → Hp → Prop} {R : V → Hp → Prop} (h : EvAS r ta s S P) (hp : ∀ us S1, Ex S S1 → P us S1 → ∃ a, rs a = r ∧ (∀ H1, Wd r S1 H1 → pre a (us ++ dvs) S1 H1) ∧ ∀ v S2 H2, Ex S1 S2 → post a v S2 H2 → R v S2) : EvS r (tCall (SpR rs pre post) dvs E ta) s S R := fun S1 H e w Q q =>
  h S1 H e w _ fun us S2 H2 w2 s2 eu => by
    obtain ⟨a, hr, h1, h2⟩ := hp us S2 (e.trans s2.ex) eu
    subst hr
    exact ⟨a, S2, h1 H2 w2, w2, fun v S3 H3 w3 s3 p3 => q v S3 H3 w3 (s2.trans s3) (h2 v S3 H3 s3.ex p3)⟩
theorem sq_forL {α : Type} {X : Rl α} {r : Rs} {s : L2.St} {S H : Hp} {te : TE} {g : TG} {tu tz : TS} {D : Ends} {P : List α → Prop} (h : EvS r te s S fun v S1 => ∃ ys, P ys ∧ LstR X ys v S1) (w : Wd r S H) (k : ∀ v ys S1 H1, P ys → LstR X ys v S1 → Wd r S1 H1 → Stp r S H S1 H1 → tSeq (tFor (iList K (tC v)) g tu) tz D s H1) : tSeq (tFor (iU K te) g tu) tz D s H := st_forL (D := { D with nx := tz D }) h w k
/-- a case as data -/
def dCase (u : RuleD) : PyData := .list [.list (u.moves.map .str), .str u.start, .str u.fresh, .str u.sees]
/-- a case among the 48 ones -/
def CaseK (K : PySem.W.Frag) : Rl { u : RuleD // RuleOk u } := fun u v S => CaseR K u.1 v S
instance : Mono (CaseK K) := ⟨fun e h => Mono.up (R := CaseR K) e h⟩
theorem lay_words : ∀ {l ws : List Str}, (∀ z, z ∈ l → (PyData.str z).canLay0 = true) → PyData.canLayAll0 (l.map .str) = true
  | [], _, _ => rfl
  | z :: l, ws, h => by
    rw [List.map_cons, PyData.canLayAll0, h z List.mem_cons_self, lay_words (ws := ws) fun x hx => h x (List.mem_cons_of_mem _ hx)]
    rfl
theorem dCase_lay (u : { u : RuleD // RuleOk u }) : (dCase u.1).canLay0 = true := by
  obtain ⟨u, ho⟩ := u
  have h1 : PyData.canLayAll0 (u.moves.map .str) = true := by
    have := ho.m
    simp only [movesL, List.mem_cons, List.not_mem_nil, or_false] at this
    rcases this with h | h | h | h <;> rw [h] <;> decide +kernel
  have h2 : (PyData.str u.start).canLay0 = true := by
    have := ho.s
    simp only [startL, List.mem_cons, List.not_mem_nil, or_false] at this
    rcases this with h | h <;> rw [h] <;> decide +kernel
  have h3 : (PyData.str u.fresh).canLay0 = true := by
    have := ho.f
    simp only [freshL, List.mem_cons, List.not_mem_nil, or_false] at this
    rcases this with h | h | h <;> rw [h] <;> decide +kernel
  have h4 : (PyData.str u.sees).canLay0 = true := by
    have := ho.h
    simp only [seesL, List.mem_cons, List.not_mem_nil, or_false] at this
    rcases this with h | h <;> rw [h] <;> decide +kernel
  simp only [dCase, PyData.canLay0, PyData.canLayAll0, h1, Bool.true_and, Bool.and_true] at h2 h3 h4 ⊢
  rw [h2, h3, h4]
  rfl
theorem dCase_dep (u : { u : RuleD // RuleOk u }) : (dCase u.1).depth ≤ 20 := by
  have : ∀ l : List Str, PyData.depthAll (l.map .str) = 0 := fun l => by
    induction l with
    | nil => rfl
    | cons x l ih => rw [List.map_cons, PyData.depthAll, ih]; rfl
  simp only [dCase, PyData.depth, PyData.depthAll, this]
  decide
theorem dCase_dp (u : { u : RuleD // RuleOk u }) (v : V) (S : Hp) (h : CaseK K u v S) : Dp K S v (dCase u.1) := by
  obtain ⟨b, m, rfl, h1, ⟨a, vs, e, h2, h3⟩, _⟩ := h
  cases e
  exact .lst (SqL.of h1) (.cons (.lst (SqL.of h2) (dp_strs h3)) (.cons (.str _) (.cons (.str _) (.cons (.str _) .nil))))
theorem G_L_mixed (T : TX P w K mg) : FnOk P w K mg base CX0 2 T.f_L_mixed T.fd_L_mixed ["_law_source", "_law_items"] (sp_mixedG (CaseK K)) := mixG (fun u => dCase u.1) dCase_dp dCase_lay dCase_dep T
theorem all2_case {S : Hp} : ∀ {us : List RuleD} {vs : List V}, All2 (CaseR K) S us vs → ∃ ks : List { u : RuleD // RuleOk u }, ks.length = us.length ∧ All2 (CaseK K) S ks vs
  | _, _, .nil => ⟨[], rfl, .nil⟩
  | _, _, .cons (x := u) h t => by
    obtain ⟨ks, h1, h2⟩ := all2_case t
    obtain ⟨_, _, _, _, _, ho⟩ := id h
    exact ⟨⟨u, ho⟩ :: ks, by rw [List.length_cons, h1, List.length_cons], .cons h h2⟩
end
end K16

namespace K16
open PySem PySem.Spec PyProof.Rows L2 Evl J RZ
section
variable {P : Program} {w : World} {K : PySem.W.Frag} {mg : Str → Option Value} {base : Heap}
/-! texts in lists -/
theorem inV_strs {z : Str} {l : List Str} : inV (.str z) (l.map V.str) = decide (z ∈ l) := by
  unfold inV
  rw [List.any_map]
  induction l with
  | nil => simp
  | cons x l ih =>
    rw [List.any_cons, ih]
    show ((x == z) || decide (z ∈ l)) = decide (z ∈ x :: l)
    rw [PySem.W.beq_decide, ← Bool.decide_or]
    exact decide_eq_decide.mpr (by rw [List.mem_cons]; exact ⟨fun h => h.elim (fun h => .inl h.symm) .inr, fun h => h.elim (fun h => .inl h.symm) .inr⟩)
theorem flat_strs (l : List Str) : (l.map V.str).all flatV = true := by
  rw [List.all_map, List.all_eq_true]
  exact fun x _ => rfl
end
end K16

namespace K16
open PySem PySem.Spec PyProof.Rows L2 Evl J RZ
section
variable {P : Program} {w : World} {K : PySem.W.Frag} {mg : Str → Option Value} {base : Heap}
/-! ### a law with tables: its beginning; draws beside the tables -/
def sp_lawT (K : PySem.W.Frag) (T' : List (Addr × Str)) : Sp := fun vs H Q _ => ∃ (a : Addr) (ns : List Int), vs = [.ref a] ∧ SqL K H a (ns.map V.int) ∧ ns.length ≤ 63 ∧ (∀ y ∈ T', H y.1 = some (.tbl #[])) ∧ ∀ H', Q (.bl true) H'
theorem sq_beginT {i : Nat} {a : Addr} {ns : List Int} {s : L2.St} {H : Hp} {tz : TS} {D : Ends} {T' : List (Addr × Str)} (h : s[0]? = some (some (.ref a))) (hS : SqL K H a (ns.map V.int)) (hl : ns.length ≤ 63) (t : ∀ y ∈ T', H y.1 = some (.tbl #[])) (k : ∀ p c S1 H1, Wd ((srcR p c).tabs T') S1 H1 → tz D (s.set i (some (.ref p))) H1) : tSeq (tAsg (tCall (sp_begin K) [] E0 (tCons (tVar 0) tNil)) (gName i)) tz D s H :=
  have h0 : EvAV Rs.nil (tCons (tVar 0) tNil) s (offT T' H) [.ref a] := va_cons (vv_var h) va_nil
  sq_asgRun (call_run (h0 (offT T' H) H (Ex.refl _) ⟨offT_ex, True.intro, fun a h => by cases h⟩ (fun vs H1 => sp_begin K (vs ++ []) H1 (fun v H1 => tz D (s.set i (some v)) H1) E0) fun us S1 H1 w1 s1 eu => by
    subst eu
    exact ⟨a, ns, S1, rfl, ex_l s1.ex (offT_sq t hS), hl, w1, fun p c S2 H2 _ _ w2 s2 => k p c S2 H2 (Wd.begin t w2 (s1.trans s2))⟩))
theorem sq_ifT {r : Rs} {s : L2.St} {S H : Hp} {t : TT} {tu tw tz : TS} {D : Ends} {R : Bool → Hp → Prop} (h : EvTS r t s S R) (w : Wd r S H) (h1 : ∀ S1 H1, R true S1 → Wd r S1 H1 → Stp r S H S1 H1 → tu { D with nx := tz D } s H1) (h2 : ∀ S1 H1, R false S1 → Wd r S1 H1 → Stp r S H S1 H1 → tw { D with nx := tz D } s H1) : tSeq (tIfS t tu tw) tz D s H := st_ifR (D := { D with nx := tz D }) h w h1 h2
/-- e == a number, e only told by a relation -/
theorem tt_eqI {r : Rs} {s : L2.St} {S : Hp} {ta tb : TE} {P : Int → Prop} {k : Int} (h : EvS r ta s S fun v _ => ∃ i, v = .int i ∧ P i) (h2 : ∀ S1, Ex S S1 → EvV r tb s S1 (.int k)) : EvTS r (tTest (tOp (rEqU K) ta tb)) s S fun _ _ => True := fun S1 H a w Q q =>
  (ev_op2 (R := fun v _ => ∃ b, v = .bl b) h (fun _ S2 e _ => h2 S2 e) fun x y S2 S3 _ ⟨i, hx, _⟩ _ hy => by
    subst hx
    subst hy
    exact ⟨_, rs_eqI, _, rfl⟩) S1 H a w _ fun v S2 H2 w2 s2 ⟨b, e⟩ => ⟨b, e, q b S2 H2 w2 s2 True.intro⟩
/-- pick(source, [e ..]): one of what a relation tells -/
theorem ev_pickD {α : Type} {R : Rl α} [Mono R] {p c : Addr} {s : L2.St} {S : Hp} {ta tl : TE} {ds : List α} (h : EvV (srcR p c) ta s S (.ref p)) (hl : EvS (srcR p c) tl s S fun v S1 => LstR R ds v S1) (h1 : 1 ≤ ds.length ∧ ds.length ≤ 100000) : EvS (srcR p c) (tCall (sp_pick K) [] E0 (tCons ta (tCons tl tNil))) s S fun v S1 => ∃ d, d ∈ ds ∧ R d v S1 := fun S1 H e w Q q =>
  h S1 H e w _ fun v S2 H2 w2 s2 ev => hl S2 H2 (e.trans s2.ex) w2 _ fun v' S3 H3 w3 s3 ⟨l, vs, ev', hv, ha⟩ => by
    subst ev
    subst ev'
    have el := ha.len
    refine ⟨((p, c), l, vs), S3, ⟨rfl, hv, (by rw [el]; exact h1.1 : 1 ≤ vs.length), (by rw [el]; exact h1.2 : vs.length ≤ 100000)⟩, w3, fun v S4 H4 w4 s4 h4 => ?_⟩
    obtain ⟨i, hi, e4⟩ := List.mem_iff_getElem.mp h4
    obtain ⟨d, hd, hR⟩ := ha.get (i := i) (v := v) (by rw [List.getElem?_eq_getElem hi, e4])
    exact q v S4 H4 w4 (s2.trans (s3.trans s4)) ⟨d, List.mem_of_getElem? hd, Mono.up s4.ex hR⟩
end
end K16

namespace K16
open PySem PySem.Spec PyProof.Rows L2 Evl J RZ
section
variable {P : Program} {w : World} {K : PySem.W.Frag} {mg : Str → Option Value} {base : Heap}
/-! ### what a rule lets happen -/
def missB (u : RuleD) : Bool := !decide (u.sees = ("home" : Str)) && (decide (("back" : Str) ∈ u.moves) || (decide (("ahead" : Str) ∈ u.moves) && (decide (u.start = ("any" : Str)) || decide (u.fresh = ("unseen" : Str)))))
def dblB (u : RuleD) : Bool := !decide (u.sees = ("home" : Str)) && (decide (("ahead" : Str) ∈ u.moves) || (decide (("back" : Str) ∈ u.moves) && decide (u.start = ("any" : Str))))
theorem vv_inMoves {r : Rs} {s : L2.St} {S : Hp} {z : Str} {u : RuleD} {vu : V} {C : Addr} {i : Nat} {E : XK} (h : s[i]? = some (some vu)) (hu : RuleR K C u vu S) : EvV r (tOp (rInU K) (tC (.str z)) (tProp C (sp_Rule_moves K C) [] E (tVar i))) s S (.bl (decide (z ∈ u.moves))) := by
  refine ev_op2 (B := fun v S => TupR K StrR u.moves v S) vv_c (fun _ S3 e3 _ => rule_moves (ev_v (R := RuleR K C) h (Mono.up e3 hu))) fun x y2 S3 S4 e3 hx e4 ⟨ta, vs, ey, h1, h2⟩ => ?_
  subst hx
  subst ey
  rw [h2.strs] at h1
  exact ⟨_, rs_inT' h1 rfl (flat_strs _), by rw [inV_strs]⟩
def sp_can_be_missed (K : PySem.W.Frag) (C : Addr) : Sp := SpP (A := RuleD) (fun u vs S => ∃ v, vs = [v] ∧ RuleR K C u v S) (fun u v _ => v = .bl (missB u))
theorem G_can_be_missed (T : TX P w K mg) : FnOk P w K mg base CX0 3 T.f_can_be_missed T.fd_can_be_missed ["rule"] (sp_can_be_missed K T.C_Rule) := by
  refine T.F_can_be_missed.ok sc_can_be_missed (fun vs H Q E h => ?_) (fun cdv A outer s H vs Q E hr h => ?_)
  · obtain ⟨a, S, ⟨v, rfl, _⟩, _⟩ := h
    rfl
  · obtain ⟨u, S, ⟨v, rfl, hu⟩, w0, q⟩ := h.body
    refine ⟨_, (pss_cons (ps_if (pt_cmpR (op_eqK (K := K) hr.units) (pe_prop (pv 0) T.cl_Rule T.p_Rule_sees (G_Rule_sees T) (hr.mono (by decide)) T.b_Rule_sees .nil pass0 rfl) pe_str (nomark _)) (pss_one (ps_ret pe_bl)) pss_nil)
      (pss_one (ps_ret (pe_or (pe_cmpR (op_inK (K := K)) pe_str (pe_prop (pv 0) T.cl_Rule T.p_Rule_moves (G_Rule_moves T) (hr.mono (by decide)) T.b_Rule_moves .nil pass0 rfl) (by with_unfolding_all rfl)) (pe_one (pe_and (pe_cmpR (op_inK (K := K)) pe_str (pe_prop (pv 0) T.cl_Rule T.p_Rule_moves (G_Rule_moves T) (hr.mono (by decide)) T.b_Rule_moves .nil pass0 rfl) (by with_unfolding_all rfl)) (pe_one (pe_or (pe_cmpR (op_eqK (K := K) hr.units) (pe_prop (pv 0) T.cl_Rule T.p_Rule_start (G_Rule_start T) (hr.mono (by decide)) T.b_Rule_start .nil pass0 rfl) pe_str (nomark _)) (pe_one (pe_cmpR (op_eqK (K := K) hr.units) (pe_prop (pv 0) T.cl_Rule T.p_Rule_fresh (G_Rule_fresh T) (hr.mono (by decide)) T.b_Rule_fresh .nil pass0 rfl) pe_str (nomark _))))))))))), ?_⟩
    refine sq_if (b := decide (u.sees = ("home" : Str))) (tb_test (vv_op (rule_prop (ev_v (R := RuleR K T.C_Rule) rfl hu)) vv_c rs_eqS)) w0 (fun hh S1 H1 w1 s1 => ?_) (fun hh S1 H1 w1 s1 => ?_)
    · refine st_ret vv_c w1 fun v S2 H2 w2 s2 e => q v S2 H2 w2 (s1.trans s2) ?_
      rw [e]
      unfold missB
      rw [hh]
      rfl
    · have hu1 := Mono.up s1.ex hu
      refine st_ret (vv_or (a := decide (("back" : Str) ∈ u.moves)) (b := decide (("ahead" : Str) ∈ u.moves) && (decide (u.start = ("any" : Str)) || decide (u.fresh = ("unseen" : Str)))) (vv_inMoves rfl hu1) fun _ => vv_and (vv_inMoves rfl hu1) fun _ => vv_or (vv_op (rule_prop (f := fun u => u.start) (ev_v (R := RuleR K T.C_Rule) rfl hu1)) vv_c rs_eqS) fun _ => vv_op (rule_prop (f := fun u => u.fresh) (ev_v (R := RuleR K T.C_Rule) rfl hu1)) vv_c rs_eqS) w1 fun v S2 H2 w2 s2 e => q v S2 H2 w2 (s1.trans s2) ?_
      rw [e]
      unfold missB
      rw [hh]
      rfl
def sp_can_be_doubled (K : PySem.W.Frag) (C : Addr) : Sp := SpP (A := RuleD) (fun u vs S => ∃ v, vs = [v] ∧ RuleR K C u v S) (fun u v _ => v = .bl (dblB u))
theorem G_can_be_doubled (T : TX P w K mg) : FnOk P w K mg base CX0 3 T.f_can_be_doubled T.fd_can_be_doubled ["rule"] (sp_can_be_doubled K T.C_Rule) := by
  refine T.F_can_be_doubled.ok sc_can_be_doubled (fun vs H Q E h => ?_) (fun cdv A outer s H vs Q E hr h => ?_)
  · obtain ⟨a, S, ⟨v, rfl, _⟩, _⟩ := h
    rfl
  · obtain ⟨u, S, ⟨v, rfl, hu⟩, w0, q⟩ := h.body
    refine ⟨_, (pss_cons (ps_if (pt_cmpR (op_eqK (K := K) hr.units) (pe_prop (pv 0) T.cl_Rule T.p_Rule_sees (G_Rule_sees T) (hr.mono (by decide)) T.b_Rule_sees .nil pass0 rfl) pe_str (nomark _)) (pss_one (ps_ret pe_bl)) pss_nil)
      (pss_one (ps_ret (pe_or (pe_cmpR (op_inK (K := K)) pe_str (pe_prop (pv 0) T.cl_Rule T.p_Rule_moves (G_Rule_moves T) (hr.mono (by decide)) T.b_Rule_moves .nil pass0 rfl) (by with_unfolding_all rfl)) (pe_one (pe_and (pe_cmpR (op_inK (K := K)) pe_str (pe_prop (pv 0) T.cl_Rule T.p_Rule_moves (G_Rule_moves T) (hr.mono (by decide)) T.b_Rule_moves .nil pass0 rfl) (by with_unfolding_all rfl)) (pe_one (pe_cmpR (op_eqK (K := K) hr.units) (pe_prop (pv 0) T.cl_Rule T.p_Rule_start (G_Rule_start T) (hr.mono (by decide)) T.b_Rule_start .nil pass0 rfl) pe_str (nomark _))))))))), ?_⟩
    refine sq_if (b := decide (u.sees = ("home" : Str))) (tb_test (vv_op (rule_prop (ev_v (R := RuleR K T.C_Rule) rfl hu)) vv_c rs_eqS)) w0 (fun hh S1 H1 w1 s1 => ?_) (fun hh S1 H1 w1 s1 => ?_)
    · refine st_ret vv_c w1 fun v S2 H2 w2 s2 e => q v S2 H2 w2 (s1.trans s2) ?_
      rw [e]
      unfold dblB
      rw [hh]
      rfl
    · have hu1 := Mono.up s1.ex hu
      refine st_ret (vv_or (a := decide (("ahead" : Str) ∈ u.moves)) (b := decide (("back" : Str) ∈ u.moves) && decide (u.start = ("any" : Str))) (vv_inMoves rfl hu1) fun _ => vv_and (vv_inMoves rfl hu1) fun _ => vv_op (rule_prop (f := fun u => u.start) (ev_v (R := RuleR K T.C_Rule) rfl hu1)) vv_c rs_eqS) w1 fun v S2 H2 w2 s2 e => q v S2 H2 w2 (s1.trans s2) ?_
      rw [e]
      unfold dblB
      rw [hh]
      rfl
end
end K16

namespace K16
open PySem PySem.Spec PyProof.Rows L2 Evl J RZ
section
variable {P : Program} {w : World} {K : PySem.W.Frag} {mg : Str → Option Value} {base : Heap}
/-! ### k16: states of a lot (plain) -/
abbrev St5 : Type := List Int
def kfL (l : St5) : List Key := l.map Sum.inl
theorem kfL_inj (a b : St5) (h : kfL a = kfL b) : a = b := by
  unfold kfL at h
  induction a generalizing b with
  | nil =>
    cases b with
    | nil => rfl
    | cons _ _ => exact nomatch h
  | cons x a ih =>
    cases b with
    | nil => exact nomatch h
    | cons y b =>
      obtain ⟨h1, h2⟩ := List.cons.inj h
      rw [Sum.inl.inj h1, ih b h2]
theorem kfL_vals (l : St5) : (kfL l).map kV = l.map V.int := by
  unfold kfL
  rw [List.map_map]
  rfl
def endN (u : RuleD) (c : Int) : Int := 3 + if decide (u.fresh = ("again" : Str)) = true then c else 0
def pageN (s d : Int) : Int := if decide (d < 3) = true then (s + d) % 3 else d
def visN (s d c a t : Int) : St5 := [s, d + 1, c, a, if (decide (pageN s d = a) && decide (t < 2)) = true then t + 1 else t]
def goesN (u : RuleD) (p a : Int) : Bool := (decide (p > a) && decide (("ahead" : Str) ∈ u.moves)) || (decide (p < a) && decide (("back" : Str) ∈ u.moves))
def movN (u : RuleD) (s d c a t : Int) : List St5 := ((List.range (3 + c).toNat).filter fun p : Nat => goesN u (p : Int) a).map fun p : Nat => [s, d, c, (p : Int), t]
def cameN (u : RuleD) (s d c a t : Int) : List St5 := if (!decide (u.fresh = ("none" : Str)) && decide (c < 2)) = true then [[s, d, c + 1, a, t]] else []
def behN (u : RuleD) : St5 → List St5
  | [s, d, c, a, t] => if decide (d = endN u c) = true then [] else [visN s d c a t] ++ movN u s d c a t ++ cameN u s d c a t
  | _ => []
theorem behN_at {u : RuleD} {s d c a t : Int} : behN u [s, d, c, a, t] = if decide (d = endN u c) = true then [] else [visN s d c a t] ++ movN u s d c a t ++ cameN u s d c a t := rfl
def startN (u : RuleD) : Nat := if decide (u.start = ("front" : Str)) = true then 1 else 3
def begN (u : RuleD) : List St5 := (List.range (startN u)).flatMap fun s : Nat => (List.range 3).map fun a : Nat => [(s : Int), 0, 0, (a : Int), 0]
/-- within the ranges -/
structure In5 (u : RuleD) (s d c a t : Int) : Prop where
  s1 : 0 ≤ s ∧ s < 3
  d1 : 0 ≤ d ∧ d ≤ endN u c
  c1 : 0 ≤ c ∧ c ≤ 2
  a1 : 0 ≤ a ∧ a < 3 + c
  t1 : 0 ≤ t ∧ t ≤ 2
def InN (u : RuleD) (l : St5) : Prop := ∃ s d c a t : Int, l = [s, d, c, a, t] ∧ In5 u s d c a t
theorem endN_le {u : RuleD} {c : Int} (hc : 0 ≤ c) : 3 ≤ endN u c ∧ endN u c ≤ 3 + c := by
  unfold endN
  split <;> omega
theorem beg_in {u : RuleD} {l : St5} (h : l ∈ begN u) : InN u l := by
  obtain ⟨s, hs, h⟩ := List.mem_flatMap.mp h
  obtain ⟨a, ha, rfl⟩ := List.mem_map.mp h
  have hs := List.mem_range.mp hs
  have ha := List.mem_range.mp ha
  have h3 : startN u ≤ 3 := by
    unfold startN
    split <;> omega
  have he := (endN_le (u := u) (c := 0) (Int.le_refl _)).1
  exact ⟨_, _, _, _, _, rfl, ⟨by omega, by omega, by omega, by omega, by omega⟩⟩
theorem beh_in {u : RuleD} {l l' : St5} (h : InN u l) (hb : l' ∈ behN u l) : InN u l' := by
  obtain ⟨s, d, c, a, t, rfl, ⟨hs, hd, hc, ha, ht⟩⟩ := h
  rw [behN_at] at hb
  by_cases he : decide (d = endN u c) = true
  · rw [if_pos he] at hb
    exact nomatch hb
  · rw [if_neg he] at hb
    have he : d ≠ endN u c := by simpa using he
    rcases List.mem_append.mp hb with hb | hb
    · rcases List.mem_append.mp hb with hb | hb
      · rw [List.mem_singleton.mp hb]
        refine ⟨_, _, _, _, _, rfl, ⟨hs, by omega, hc, ha, ?_⟩⟩
        split
        · rename_i h
          rw [Bool.and_eq_true, decide_eq_true_eq, decide_eq_true_eq] at h
          omega
        · exact ht
      · obtain ⟨p, hp, rfl⟩ := List.mem_map.mp hb
        have hp := List.mem_range.mp (List.mem_filter.mp hp).1
        exact ⟨_, _, _, _, _, rfl, ⟨hs, hd, hc, by omega, ht⟩⟩
    · unfold cameN at hb
      split at hb
      · rename_i h
        rw [Bool.and_eq_true, decide_eq_true_eq] at h
        rw [List.mem_singleton.mp hb]
        have : endN u c ≤ endN u (c + 1) := by
          unfold endN
          split <;> omega
        exact ⟨_, _, _, _, _, rfl, ⟨hs, by omega, by omega, by omega, ht⟩⟩
      · exact nomatch hb
theorem beh_few (u : RuleD) {l : St5} (h : InN u l) : (behN u l).length ≤ 7 := by
  obtain ⟨s, d, c, a, t, rfl, ⟨hs, hd, hc, ha, ht⟩⟩ := h
  rw [behN_at]
  split
  · exact Nat.zero_le _
  · rw [List.length_append, List.length_append]
    have h1 : (movN u s d c a t).length ≤ 5 := by
      unfold movN
      rw [List.length_map]
      refine Nat.le_trans (List.length_filter_le _ _) ?_
      rw [List.length_range]
      omega
    have h2 : (cameN u s d c a t).length ≤ 1 := by
      unfold cameN
      split <;> simp
    simp only [List.length_singleton]
    omega
/-! ### what is reached, by any next ones from any first ones -/
inductive ReachG {α : Type} (nx : α → List α) (B : List α) : α → Prop
  | first {l : α} : l ∈ B → ReachG nx B l
  | step {l l' : α} : ReachG nx B l → l' ∈ nx l → ReachG nx B l'
structure WG {α : Type} (nx : α → List α) (B F ws : List α) : Prop where
  nd : F.Nodup
  sub : ∀ q ∈ ws, q ∈ F
  re : ∀ q ∈ F, ReachG nx B q
  fst : ∀ q ∈ B, q ∈ F
  cl : ∀ p ∈ F, p ∉ ws → ∀ q ∈ nx p, q ∈ F
/-- k of p's next ones have been looked at -/
structure WK {α : Type} (nx : α → List α) (B : List α) (p : α) (k : Nat) (F ws : List α) : Prop where
  nd : F.Nodup
  sub : ∀ q ∈ ws, q ∈ F
  re : ∀ q ∈ F, ReachG nx B q
  fst : ∀ q ∈ B, q ∈ F
  cl : ∀ p' ∈ F, p' ∉ ws → p' ≠ p → ∀ q ∈ nx p', q ∈ F
  done : ∀ (j : Nat) (q : α), j < k → (nx p)[j]? = some q → q ∈ F
  pF : p ∈ F
section
variable {α : Type} {nx : α → List α} {B : List α} {p q : α} {k : Nat} {F ws : List α}
theorem WG.start (hB : B.Nodup) : WG nx B B B := ⟨hB, fun q h => h, fun q h => .first h, fun q h => h, fun p h n => absurd h n⟩
theorem WG.pop (h : WG nx B F (ws ++ [p])) : WK nx B p 0 F ws :=
  ⟨h.nd, fun q hq => h.sub q (List.mem_append_left _ hq), h.re, h.fst, fun p' hp hn ne => h.cl p' hp fun z => (List.mem_append.mp z).elim hn fun z => ne (List.mem_singleton.mp z), fun j q hj => absurd hj (Nat.not_lt_zero _), h.sub p (List.mem_append_right _ (List.mem_singleton.mpr rfl))⟩
theorem WK.old (h : WK nx B p k F ws) (g : (nx p)[k]? = some q) (hq : q ∈ F) : WK nx B p (k + 1) F ws :=
  ⟨h.nd, h.sub, h.re, h.fst, h.cl, fun j q' hj g' => by
    rcases Nat.lt_succ_iff_lt_or_eq.mp hj with hj | rfl
    · exact h.done j q' hj g'
    · rw [g] at g'
      cases g'
      exact hq, h.pF⟩
theorem WK.new (h : WK nx B p k F ws) (g : (nx p)[k]? = some q) (hq : q ∉ F) : WK nx B p (k + 1) (F ++ [q]) (ws ++ [q]) :=
  ⟨List.nodup_append.mpr ⟨h.nd, by simp, fun a ha b hb => by
    rw [List.mem_singleton.mp hb]
    exact fun e => hq (e ▸ ha)⟩, fun a ha => (List.mem_append.mp ha).elim (fun z => List.mem_append_left _ (h.sub a z)) fun z => List.mem_append_right _ z, fun a ha => (List.mem_append.mp ha).elim (h.re a) fun z => by
      rw [List.mem_singleton.mp z]
      exact .step (h.re p h.pF) (List.mem_of_getElem? g), fun b hb => List.mem_append_left _ (h.fst b hb), fun p' hp hn ne a ha => by
      rcases List.mem_append.mp hp with hp | hp
      · exact List.mem_append_left _ (h.cl p' hp (fun z => hn (List.mem_append_left _ z)) ne a ha)
      · exact absurd (List.mem_append_right _ hp) hn, fun j q' hj g' => by
      rcases Nat.lt_succ_iff_lt_or_eq.mp hj with hj | rfl
      · exact List.mem_append_left _ (h.done j q' hj g')
      · rw [g] at g'
        cases g'
        exact List.mem_append_right _ (List.mem_singleton.mpr rfl), List.mem_append_left _ h.pF⟩
theorem WK.all (h : WK nx B p k F ws) (hk : (nx p).length ≤ k) : WG nx B F ws :=
  ⟨h.nd, h.sub, h.re, h.fst, fun p' hp hn q hq => by
    by_cases e : p' = p
    · subst e
      obtain ⟨j, hj⟩ := List.mem_iff_getElem?.mp hq
      have := (List.getElem?_eq_some_iff.mp hj).1
      exact h.done j q (by omega) hj
    · exact h.cl p' hp hn e q hq⟩
theorem WG.end_ (h : WG nx B F []) (q : α) : q ∈ F ↔ ReachG nx B q := by
  refine ⟨h.re q, fun r => ?_⟩
  induction r with
  | first hb => exact h.fst _ hb
  | step _ hq ih => exact h.cl _ ih (fun z => nomatch z) _ hq
end
/-! ### how many, in which order -/
theorem reach_in5 {u : RuleD} {B : List St5} (hB : ∀ l ∈ B, InN u l) {l : St5} (h : ReachG (behN u) B l) : InN u l := by
  induction h with
  | first hb => exact hB _ hb
  | step _ hq ih => exact beh_in ih hq
def code5 : St5 → Nat
  | [s, d, c, a, t] => (((s.toNat * 6 + d.toNat) * 3 + c.toNat) * 5 + a.toNat) * 3 + t.toNat
  | _ => 0
theorem code5_at {s d c a t : Int} : code5 [s, d, c, a, t] = (((s.toNat * 6 + d.toNat) * 3 + c.toNat) * 5 + a.toNat) * 3 + t.toNat := rfl
theorem code5_lt {u : RuleD} {l : St5} (h : InN u l) : code5 l < 810 := by
  obtain ⟨s, d, c, a, t, rfl, ⟨hs, hd, hc, ha, ht⟩⟩ := h
  have := (endN_le (u := u) hc.1).2
  rw [code5_at]
  omega
theorem code5_inj {u : RuleD} {l l' : St5} (h : InN u l) (h' : InN u l') (e : code5 l = code5 l') : l = l' := by
  obtain ⟨s, d, c, a, t, rfl, ⟨hs, hd, hc, ha, ht⟩⟩ := h
  obtain ⟨s', d', c', a', t', rfl, ⟨hs', hd', hc', ha', ht'⟩⟩ := h'
  have := (endN_le (u := u) hc.1).2
  have := (endN_le (u := u) hc'.1).2
  rw [code5_at, code5_at] at e
  have e1 : t = t' := by omega
  have e2 : a = a' := by omega
  have e3 : c = c' := by omega
  have e4 : d = d' := by omega
  have e5 : s = s' := by omega
  rw [e1, e2, e3, e4, e5]
theorem nodup_subN : ∀ {l m : List Nat}, l.Nodup → (∀ x, x ∈ l → x ∈ m) → l.length ≤ m.length
  | [], _, _, _ => Nat.zero_le _
  | a :: l, m, hn, h => by
    obtain ⟨h1, h2⟩ := List.nodup_cons.mp hn
    have ha := h a (.head _)
    have := nodup_subN (l := l) (m := m.erase a) h2 fun x hx => by
      have ne : x ≠ a := fun e => h1 (e ▸ hx)
      exact (List.mem_erase_of_ne ne).mpr (h x (.tail _ hx))
    rw [List.length_erase_of_mem ha] at this
    have hp : 0 < m.length := List.length_pos_of_mem ha
    rw [List.length_cons]
    omega
theorem states_few5 {u : RuleD} {F : List St5} (nd : F.Nodup) (h : ∀ l ∈ F, InN u l) : F.length ≤ 810 := by
  have h1 : (F.map code5).Nodup := by
    refine List.pairwise_map.mpr (List.Pairwise.imp_of_mem (fun {a b} ha hb ne e => ne (code5_inj (h a ha) (h b hb) e)) nd)
  have h2 := nodup_subN (m := List.range 810) h1 fun x hx => by
    obtain ⟨l, hl, rfl⟩ := List.mem_map.mp hx
    exact List.mem_range.mpr (code5_lt (h l hl))
  rw [List.length_map, List.length_range] at h2
  exact h2
def dSt (l : St5) : PyData := keyD (kfL l)
theorem shown5 : ∀ s, s < 3 → ∀ d, d < 6 → ∀ c, c < 3 → ∀ a, a < 5 → ∀ t, t < 3 → (dSt [((s : Nat) : Int), ((d : Nat) : Int), ((c : Nat) : Int), ((a : Nat) : Int), ((t : Nat) : Int)]).shown.cps.toList = [40, 48 + s, 44, 32, 48 + d, 44, 32, 48 + c, 44, 32, 48 + a, 44, 32, 48 + t, 41] := by decide +kernel
def keyB (l : St5) : Bool := isBox (dSt l) && ((dSt l).showable && (decide ((dSt l).depth ≤ 40) && decide ((dSt l).shown.length ≤ sizeLine)))
theorem key5 : ∀ s, s < 3 → ∀ d, d < 6 → ∀ c, c < 3 → ∀ a, a < 5 → ∀ t, t < 3 → keyB [((s : Nat) : Int), ((d : Nat) : Int), ((c : Nat) : Int), ((a : Nat) : Int), ((t : Nat) : Int)] = true := by decide +kernel
theorem nat5 {u : RuleD} {l : St5} (h : InN u l) : ∃ s d c a t : Nat, s < 3 ∧ d < 6 ∧ c < 3 ∧ a < 5 ∧ t < 3 ∧ l = [((s : Nat) : Int), ((d : Nat) : Int), ((c : Nat) : Int), ((a : Nat) : Int), ((t : Nat) : Int)] := by
  obtain ⟨s, d, c, a, t, rfl, ⟨hs, hd, hc, ha, ht⟩⟩ := h
  have := (endN_le (u := u) hc.1).2
  refine ⟨s.toNat, d.toNat, c.toNat, a.toNat, t.toNat, by omega, by omega, by omega, by omega, by omega, ?_⟩
  rw [Int.toNat_of_nonneg hs.1, Int.toNat_of_nonneg hd.1, Int.toNat_of_nonneg hc.1, Int.toNat_of_nonneg ha.1, Int.toNat_of_nonneg ht.1]
theorem keyd5 {u : RuleD} {l : St5} (h : InN u l) : KeyD (dSt l) := by
  obtain ⟨s, d, c, a, t, h1, h2, h3, h4, h5, rfl⟩ := nat5 h
  have g := key5 s h1 d h2 c h3 a h4 t h5
  unfold keyB at g
  rw [Bool.and_eq_true, Bool.and_eq_true, Bool.and_eq_true, decide_eq_true_eq, decide_eq_true_eq] at g
  exact ⟨g.1, g.2.1, g.2.2.1, g.2.2.2⟩
theorem le_anti {u : RuleD} {l l' : St5} (h : InN u l) (h' : InN u l') (e : leA dSt l l' = true) (e' : leA dSt l' l = true) : l = l' := by
  obtain ⟨s, d, c, a, t, h1, h2, h3, h4, h5, rfl⟩ := nat5 h
  obtain ⟨s', d', c', a', t', g1, g2, g3, g4, g5, rfl⟩ := nat5 h'
  unfold leA at e e'
  rw [decide_eq_true_eq] at e e'
  have := List.le_antisymm e e'
  rw [shown5 s h1 d h2 c h3 a h4 t h5, shown5 s' g1 d' g2 c' g3 a' g4 t' g5] at this
  simp only [List.cons.injEq, Nat.add_left_cancel_iff, and_true, true_and] at this
  obtain ⟨e1, e2, e3, e4, e5⟩ := this
  rw [e1, e2, e3, e4, e5]
theorem sort_same5 {u : RuleD} {F F' : List St5} (nd : F.Nodup) (nd' : F'.Nodup) (e : ∀ q, q ∈ F ↔ q ∈ F') (h : ∀ q ∈ F, InN u q) : sortA dSt F = sortA dSt F' := by
  have hp : F.Perm F' := (List.perm_ext_iff_of_nodup nd nd').mpr e
  have s1 : ∀ G : List St5, (sortA dSt G).Pairwise fun a b => leA dSt a b = true := fun G => List.pairwise_mergeSort (fun a b c => leA_trans dSt a b c) (fun a b => leA_total dSt a b) G
  exact ((sortA_perm.trans hp).trans sortA_perm.symm).eq_of_pairwise (fun a b ha hb h1 h2 => le_anti (h a (sortA_mem.mp ha)) (h b ((e b).mpr (sortA_mem.mp hb))) h1 h2) (s1 F) (s1 F')
end
end K16

namespace K16
open PySem PySem.Spec PyProof.Rows L2 Evl J RZ
section
variable {P : Program} {w : World} {K : PySem.W.Frag} {mg : Str → Option Value} {base : Heap}
/-! ### which lots show which harm -/
def maskL : List Nat := [6359196873018599516286766067471069598449737, 6828344034132419377030819105384958297350039778132041, 8452822514324322516917705635476359065081983677102862133709295591721739449827401, 22887582827391718725581716333849716102399748515437929241951453254961945425618554068323507096602447031093673196758044740329142359815193259146281298771384466520251163330724545974238629851449899877556067237961, 24576104935236332026131986144620931031019836285466716688539220244605288179881774667962568024986904243616667281723878410522715523449618697056141729051754755584304819163225273748597873253618266700913515933122206924873, 30422815850015199820309054046849491551557735372739360802293514564022717121127383106646325674673198789994656470224502050044575978092325511762713432468389801426515934039276015296051738878561351150458967756488922561352668480476020902112157532233, 18903366047192590016456950319096680562032713, 1528853367479287120967864843686538651673758934239576137, 1625836724981209649164065833277990366309473527824801965478085811568037259072798793, 37936952357731431132558764509061531904494429259006605367109433743271042137706966901130731293637173104967059001191466247746752526232201942881524772403182673879598037970469996488069287501710035624095312248905, 2367659424277652807228060847643980390821818485310784670663616865850168536740467255412223415087670124398393937864682514702115395603628920180365206028559064758776120098178353977862902117283228598868191738521508028645449, 5971623675546158475823994271283689920712781155430364672174930635310206267610074050720255973364406743719094916824522374997625070514593060307715746805702268561050073902072608245650272960649685799472956303726757485652434941869770249878246441386057, 6751202159711531767656927183690125042253897, 7249269351304971021222387550297500255365286053838921, 8973886915892260206316742284238600377313070106915309943381556971992775431323721, 28687860667210105736604699791564036663782272357469496060681632078613390583750676357999574778073916231084810496413818341353508627445934300480786226790630791701966338517807338006670991078855296012475399405641, 30804295911974239732809676720573858302089887341256958642473522787788837478416914919785715701499384724949186339268875749062798795557746733003495934992115274573046682441658797620526574730604476381690294919304606679113, 38132707538032750459702444455982581876267505571365495640807302045511306470886424081711415100698797749986586049383445132116713979630723997958712487074361192734096916162345212021773987061271400304479912686103055073594329653061588803260055322697, 19469595905749047712880516375841900926599241, 1529461370715203028898363775884728865575416669464199241, 1659937495261600237922358445226007229732654841161388935397345185484298846910840905, 78852425768342860629912995539627756712300074658754882159782973132471831779608688348320360531952312173109904631669691583341992955650955306951735332741670960851353123509824718987162200121989801474753604616265, 5514158338353293549298250620785662626867354271827038736171844089961438919964257939708834903905936689305043939668244832550514017585657738276164665711287934709198469056939220395881671688822578177373660918861659885568073, 5974332556409515993616213570616628574109078699856168681570894712454241915149615510292531206854287501679254895965740661749852805971817727001130053841922197985618897198865015042708680552488240934439460509743902562307994008736153960892531416006729]
def missP : List (List St5) := [[], [], [], [], [], [], [], [[0, 0, 0, 0, 0], [0, 0, 1, 0, 0], [0, 0, 1, 3, 0], [0, 1, 1, 3, 0], [0, 2, 1, 3, 0], [0, 3, 1, 3, 0]], [], [[1, 0, 0, 0, 0], [1, 1, 0, 0, 0], [1, 2, 0, 0, 0], [1, 2, 0, 1, 0], [1, 3, 0, 1, 0]], [[1, 0, 0, 0, 0], [1, 1, 0, 0, 0], [1, 2, 0, 0, 0], [1, 2, 0, 1, 0], [1, 3, 0, 1, 0]], [[1, 0, 0, 0, 0], [1, 1, 0, 0, 0], [1, 2, 0, 0, 0], [1, 2, 0, 1, 0], [1, 3, 0, 1, 0]], [[0, 0, 0, 1, 0], [0, 1, 0, 1, 0], [0, 1, 0, 0, 0], [0, 2, 0, 0, 0], [0, 3, 0, 0, 0]], [[0, 0, 0, 1, 0], [0, 1, 0, 1, 0], [0, 1, 0, 0, 0], [0, 2, 0, 0, 0], [0, 3, 0, 0, 0]], [[0, 0, 0, 1, 0], [0, 1, 0, 1, 0], [0, 1, 0, 0, 0], [0, 2, 0, 0, 0], [0, 3, 0, 0, 0]], [[0, 0, 0, 1, 0], [0, 1, 0, 1, 0], [0, 1, 0, 0, 0], [0, 2, 0, 0, 0], [0, 3, 0, 0, 0]], [[0, 0, 0, 1, 0], [0, 1, 0, 1, 0], [0, 1, 0, 0, 0], [0, 2, 0, 0, 0], [0, 3, 0, 0, 0]], [[0, 0, 0, 1, 0], [0, 1, 0, 1, 0], [0, 1, 0, 0, 0], [0, 2, 0, 0, 0], [0, 3, 0, 0, 0]], [[0, 0, 0, 1, 0], [0, 1, 0, 1, 0], [0, 1, 0, 0, 0], [0, 2, 0, 0, 0], [0, 3, 0, 0, 0]], [[0, 0, 0, 1, 0], [0, 1, 0, 1, 0], [0, 1, 0, 0, 0], [0, 2, 0, 0, 0], [0, 3, 0, 0, 0]], [[0, 0, 0, 1, 0], [0, 1, 0, 1, 0], [0, 1, 0, 0, 0], [0, 2, 0, 0, 0], [0, 3, 0, 0, 0]], [[0, 0, 0, 1, 0], [0, 1, 0, 1, 0], [0, 1, 0, 0, 0], [0, 2, 0, 0, 0], [0, 3, 0, 0, 0]], [[0, 0, 0, 1, 0], [0, 1, 0, 1, 0], [0, 1, 0, 0, 0], [0, 2, 0, 0, 0], [0, 3, 0, 0, 0]], [[0, 0, 0, 1, 0], [0, 1, 0, 1, 0], [0, 1, 0, 0, 0], [0, 2, 0, 0, 0], [0, 3, 0, 0, 0]]]
def dblP : List (List St5) := [[], [], [], [], [], [], [[0, 0, 0, 0, 0], [0, 1, 0, 0, 1], [0, 1, 0, 1, 1], [0, 2, 0, 1, 2]], [[0, 0, 0, 0, 0], [0, 1, 0, 0, 1], [0, 1, 0, 1, 1], [0, 2, 0, 1, 2]], [[0, 0, 0, 0, 0], [0, 1, 0, 0, 1], [0, 1, 0, 1, 1], [0, 2, 0, 1, 2]], [[0, 0, 0, 0, 0], [0, 1, 0, 0, 1], [0, 1, 0, 1, 1], [0, 2, 0, 1, 2]], [[0, 0, 0, 0, 0], [0, 1, 0, 0, 1], [0, 1, 0, 1, 1], [0, 2, 0, 1, 2]], [[0, 0, 0, 0, 0], [0, 1, 0, 0, 1], [0, 1, 0, 1, 1], [0, 2, 0, 1, 2]], [], [], [], [[2, 0, 0, 2, 0], [2, 1, 0, 2, 1], [2, 1, 0, 0, 1], [2, 2, 0, 0, 2]], [[2, 0, 0, 2, 0], [2, 1, 0, 2, 1], [2, 1, 0, 0, 1], [2, 2, 0, 0, 2]], [[2, 0, 0, 2, 0], [2, 1, 0, 2, 1], [2, 1, 0, 0, 1], [2, 2, 0, 0, 2]], [[0, 0, 0, 0, 0], [0, 1, 0, 0, 1], [0, 1, 0, 1, 1], [0, 2, 0, 1, 2]], [[0, 0, 0, 0, 0], [0, 1, 0, 0, 1], [0, 1, 0, 1, 1], [0, 2, 0, 1, 2]], [[0, 0, 0, 0, 0], [0, 1, 0, 0, 1], [0, 1, 0, 1, 1], [0, 2, 0, 1, 2]], [[0, 0, 0, 0, 0], [0, 1, 0, 0, 1], [0, 1, 0, 1, 1], [0, 2, 0, 1, 2]], [[0, 0, 0, 0, 0], [0, 1, 0, 0, 1], [0, 1, 0, 1, 1], [0, 2, 0, 1, 2]], [[0, 0, 0, 0, 0], [0, 1, 0, 0, 1], [0, 1, 0, 1, 1], [0, 2, 0, 1, 2]]]
def dec5 (k : Nat) : St5 := [((k / 270 : Nat) : Int), ((k / 45 % 6 : Nat) : Int), ((k / 15 % 3 : Nat) : Int), ((k / 3 % 5 : Nat) : Int), ((k % 3 : Nat) : Int)]
theorem dec_code {u : RuleD} {l : St5} (h : InN u l) : dec5 (code5 l) = l := by
  obtain ⟨s, d, c, a, t, h1, h2, h3, h4, h5, rfl⟩ := nat5 h
  rw [code5_at]
  unfold dec5
  simp only [Int.toNat_natCast]
  have e1 : ((((s * 6 + d) * 3 + c) * 5 + a) * 3 + t) / 270 = s := by omega
  have e2 : ((((s * 6 + d) * 3 + c) * 5 + a) * 3 + t) / 45 % 6 = d := by omega
  have e3 : ((((s * 6 + d) * 3 + c) * 5 + a) * 3 + t) / 15 % 3 = c := by omega
  have e4 : ((((s * 6 + d) * 3 + c) * 5 + a) * 3 + t) / 3 % 5 = a := by omega
  have e5 : ((((s * 6 + d) * 3 + c) * 5 + a) * 3 + t) % 3 = t := by omega
  rw [e1, e2, e3, e4, e5]
/-- the mask holds the first ones and all that come next -/
def maskOk (u : RuleD) (m : Nat) : Bool := ((begN u).all fun l => m.testBit (code5 l)) && (List.range 810).all fun k => !m.testBit k || (behN u (dec5 k)).all fun l => m.testBit (code5 l)
def maskNo (m : Nat) (bad : St5 → Bool) : Bool := (List.range 810).all fun k => !m.testBit k || !bad (dec5 k)
theorem mask_all {u : RuleD} {m : Nat} (h : maskOk u m = true) {l : St5} (r : ReachG (behN u) (begN u) l) : m.testBit (code5 l) = true := by
  unfold maskOk at h
  rw [Bool.and_eq_true, List.all_eq_true, List.all_eq_true] at h
  induction r with
  | first hb => exact h.1 _ hb
  | @step l l' r hq ih =>
    have hi := reach_in5 (fun l => beg_in) r
    have := h.2 (code5 l) (List.mem_range.mpr (code5_lt hi))
    rw [ih, dec_code hi, Bool.not_true, Bool.false_or, List.all_eq_true] at this
    exact this _ hq
theorem mask_no {u : RuleD} {m : Nat} {bad : St5 → Bool} (h : maskOk u m = true) (hn : maskNo m bad = true) {l : St5} (r : ReachG (behN u) (begN u) l) : bad l = false := by
  have hi := reach_in5 (fun l => beg_in) r
  unfold maskNo at hn
  rw [List.all_eq_true] at hn
  have := hn (code5 l) (List.mem_range.mpr (code5_lt hi))
  rw [mask_all h r, dec_code hi, Bool.not_true, Bool.false_or, Bool.not_eq_true'] at this
  exact this
/-- a walk from a first one to one that is bad -/
def walkB (u : RuleD) (bad : St5 → Bool) : St5 → List St5 → Bool
  | l, [] => bad l
  | l, l' :: p => decide (l' ∈ behN u l) && walkB u bad l' p
def pathB (u : RuleD) (bad : St5 → Bool) : List St5 → Bool
  | [] => false
  | l :: p => decide (l ∈ begN u) && walkB u bad l p
theorem walk_bad {u : RuleD} {bad : St5 → Bool} : ∀ {p : List St5} {l : St5}, ReachG (behN u) (begN u) l → walkB u bad l p = true → ∃ l', ReachG (behN u) (begN u) l' ∧ bad l' = true
  | [], l, r, h => ⟨l, r, h⟩
  | l' :: p, l, r, h => by
    unfold walkB at h
    rw [Bool.and_eq_true, decide_eq_true_eq] at h
    exact walk_bad (.step r h.1) h.2
theorem path_bad {u : RuleD} {bad : St5 → Bool} {p : List St5} (h : pathB u bad p = true) : ∃ l', ReachG (behN u) (begN u) l' ∧ bad l' = true := by
  cases p with
  | nil => exact nomatch h
  | cons l p =>
    unfold pathB at h
    rw [Bool.and_eq_true, decide_eq_true_eq] at h
    exact walk_bad (.first h.1) h.2
def missN (u : RuleD) : St5 → Bool
  | [_, d, c, _, t] => decide (d = endN u c) && decide (t = 0)
  | _ => false
def dblN : St5 → Bool
  | [_, _, _, _, t] => decide (t = 2)
  | _ => false
/-- a rule without what it sees -/
def bare (i j k : Nat) : RuleD := ⟨(movesL.getD i []), startL.getD j "", freshL.getD k "", "now"⟩
def idxR (i j k : Nat) : Nat := (i * 2 + j) * 3 + k
def harmOk (i j k : Nat) : Bool := maskOk (bare i j k) (maskL.getD (idxR i j k) 0) && ((if missB (bare i j k) = true then pathB (bare i j k) (missN (bare i j k)) (missP.getD (idxR i j k) []) else maskNo (maskL.getD (idxR i j k) 0) (missN (bare i j k))) && (if dblB (bare i j k) = true then pathB (bare i j k) dblN (dblP.getD (idxR i j k) []) else maskNo (maskL.getD (idxR i j k) 0) dblN))
theorem harm_all : ∀ i, i < 4 → ∀ j, j < 2 → ∀ k, k < 3 → harmOk i j k = true := by decide +kernel
theorem harm_of {i j k : Nat} (hi : i < 4) (hj : j < 2) (hk : k < 3) : ((∃ l, ReachG (behN (bare i j k)) (begN (bare i j k)) l ∧ missN (bare i j k) l = true) ↔ missB (bare i j k) = true) ∧ ((∃ l, ReachG (behN (bare i j k)) (begN (bare i j k)) l ∧ dblN l = true) ↔ dblB (bare i j k) = true) := by
  have h := harm_all i hi j hj k hk
  unfold harmOk at h
  rw [Bool.and_eq_true, Bool.and_eq_true] at h
  obtain ⟨h1, h2, h3⟩ := h
  constructor
  · by_cases b : missB (bare i j k) = true
    · rw [if_pos b] at h2
      exact ⟨fun _ => b, fun _ => path_bad h2⟩
    · rw [if_neg b] at h2
      refine ⟨fun ⟨l, r, hl⟩ => ?_, fun z => absurd z b⟩
      rw [mask_no h1 h2 r] at hl
      exact nomatch hl
  · by_cases b : dblB (bare i j k) = true
    · rw [if_pos b] at h3
      exact ⟨fun _ => b, fun _ => path_bad h3⟩
    · rw [if_neg b] at h3
      refine ⟨fun ⟨l, r, hl⟩ => ?_, fun z => absurd z b⟩
      rw [mask_no h1 h3 r] at hl
      exact nomatch hl
theorem pick_idx {α : Type} {l : List α} {x d : α} (h : x ∈ l) : ∃ i, i < l.length ∧ l.getD i d = x := by
  obtain ⟨i, hi⟩ := List.mem_iff_getElem?.mp h
  exact ⟨i, (List.getElem?_eq_some_iff.mp hi).1, by rw [List.getD_eq_getElem?_getD, hi]; rfl⟩
/-- what is reached shows a harm just where the rule lets it be -/
theorem harm_iff {u : RuleD} (ho : RuleOk u) (hs : u.sees = ("now" : Str)) : ((∃ l, ReachG (behN u) (begN u) l ∧ missN u l = true) ↔ missB u = true) ∧ ((∃ l, ReachG (behN u) (begN u) l ∧ dblN l = true) ↔ dblB u = true) := by
  obtain ⟨i, hi, ei⟩ := pick_idx (d := ([] : List Str)) ho.m
  obtain ⟨j, hj, ej⟩ := pick_idx (d := ("" : Str)) ho.s
  obtain ⟨k, hk, ek⟩ := pick_idx (d := ("" : Str)) ho.f
  have e : u = bare i j k := by
    obtain ⟨m, s, f, h⟩ := u
    unfold bare
    dsimp only at ei ej ek hs
    rw [ei, ej, ek, hs]
  rw [e]
  exact harm_of hi hj hk
end
end K16

namespace K16
open PySem PySem.Spec PyProof.Rows L2 Evl J RZ
section
variable {P : Program} {w : World} {K : PySem.W.Frag} {mg : Str → Option Value} {base : Heap}
/-! ### k16: states, walked -/
abbrev StR : Rl St5 := OwnG kfL
section
variable {r : Rs} {s : L2.St} {S H : Hp}
theorem ev_tupC5 {ts : TA} {vs : List V} (h : EvAV r ts s S vs) (hz : vs.length ≤ 100) : EvS r (tTup ts) s S fun v S1 => ∃ p, v = .ref p ∧ S1 p = some (.tup vs) :=
  EvN.stable (en_tup (P := fun us _ => us = vs) h fun us S1 e => by rw [e]; omega) fun p o S1 _ n ⟨us, eo, eu⟩ => ⟨p, rfl, by rw [eo, eu]; exact upd_same⟩
theorem ev_five {ts : TA} {a b c d e : Int} (h : EvAV r ts s S [.int a, .int b, .int c, .int d, .int e]) : EvS r (tTup ts) s S fun v S1 => StR [a, b, c, d, e] v S1 :=
  (ev_tupC5 h (Nat.le_of_ble_eq_true rfl)).imp fun v S1 _ ⟨p, h1, h2⟩ => ⟨p, h1, h2⟩
theorem g_five {v : V} {i j l m n k : Nat} {a b c d e : Int} {Q : L2.St → Hp → Prop} (hn : k = 5) (h : StR [a, b, c, d, e] v S) (w0 : Wd r S H) (q : Q (((((s.set i (some (.int a))).set j (some (.int b))).set l (some (.int c))).set m (some (.int d))).set n (some (.int e))) H) : gTup K k (gCons (gName i) (gCons (gName j) (gCons (gName l) (gCons (gName m) (gCons (gName n) gNil))))) v s H Q := by
  obtain ⟨t, rfl, ht⟩ := h
  exact ⟨t, _, rfl, ex_t w0.ex (SqT.of ht), hn.symm, _, _, rfl, _, _, rfl, _, _, rfl, _, _, rfl, _, _, rfl, rfl, q⟩
theorem sq_five {v : V} {i0 i j l m n k : Nat} {a b c d e : Int} {tz : TS} {D : Ends} (hn : k = 5) (hs : s[i0]? = some (some v)) (h : StR [a, b, c, d, e] v S) (w0 : Wd r S H) (q : tz D (((((s.set i (some (.int a))).set j (some (.int b))).set l (some (.int c))).set m (some (.int d))).set n (some (.int e))) H) : tSeq (tAsg (tVar i0) (gTup K k (gCons (gName i) (gCons (gName j) (gCons (gName l) (gCons (gName m) (gCons (gName n) gNil))))))) tz D s H :=
  ⟨v, hs, g_five hn h w0 q⟩
/-- [e for x in .. for y in ..] -/
theorem en_two16 {te : TE} {α β γ : Type} {wi wi1 : TI} {j j1 : Nat} {vs vs1 : List Nat} {ys : List α} (zs : α → List γ) {X : Rl α} {X1 : Rl γ} [Mono X] [Mono X1] (gf : α → γ → β) {Yr : Rl β} [Mono Yr] (m : Nat) (hm : ∀ y, y ∈ ys → (zs y).length ≤ m) (hz : ys.length * m ≤ 100000) (hi : EvI r wi s S ys X)
    (hw : ∀ v, wipe ((wipe s vs).set j (some v)) vs = wipe s vs) (hw1 : ∀ v v1, wipe ((wipe ((wipe s vs).set j (some v)) vs1).set j1 (some v1)) vs1 = wipe ((wipe s vs).set j (some v)) vs1)
    (hi1 : ∀ y v S1, Ex S S1 → y ∈ ys → X y v S1 → EvI r wi1 ((wipe s vs).set j (some v)) S1 (zs y) X1)
    (hb : ∀ y v z v1 S1, Ex S S1 → y ∈ ys → X y v S1 → z ∈ zs y → X1 z v1 S1 → EvS r te ((wipe ((wipe s vs).set j (some v)) vs1).set j1 (some v1)) S1 fun u S3 => Yr (gf y z) u S3) :
    EvN r (tLc2 wi (gName j) tYes wi1 (gName j1) tYes te vs vs1) s S fun o S1 => ∃ ws, o = .lst ws ∧ All2 Yr S1 (ys.flatMap fun y => (zs y).map (gf y)) ws := by
  have h := en_lcc (r := r) (s := s) (S := S) (te := te) (wi := wi) (wi1 := wi1) (g := gName j) (g1 := gName j1) (tt := tYes) (tt1 := tYes) (vs := vs) (vs1 := vs1) (ys := ys) zs (X := X) (X1 := X1) (fun _ => true) (fun _ _ => true) gf (Yr := Yr) m hm hz hi fun y v S1 e my hy => ⟨(wipe s vs).set j (some v), hw v, fun H k _ h => h, fun S2 H2 _ w2 Q q => q true S2 H2 w2 Stp.refl rfl, fun _ => ⟨hi1 y v S1 e my hy, fun z v1 S2 e2 mz hz => ⟨(wipe ((wipe s vs).set j (some v)) vs1).set j1 (some v1), hw1 v v1, fun H k _ h => h, fun S3 H3 _ w3 Q q => q true S3 H3 w3 Stp.refl rfl, fun _ => hb y v z v1 S2 (e.trans e2) my (Mono.up e2 hy) mz hz⟩⟩⟩
  have e : twoL ys zs (fun _ => true) (fun _ _ => true) gf = ys.flatMap fun y => (zs y).map (gf y) := by
    unfold twoL
    rw [List.filter_eq_self.mpr (fun _ _ => rfl)]
    congr 1
    funext y
    rw [List.filter_eq_self.mpr (fun _ _ => rfl)]
  rw [e] at h
  exact h
theorem en_cat16 {α : Type} {R : Rl α} [Mono R] {ta tb : TE} {xs ys : List α} (h : EvS r ta s S fun v S1 => LstR R xs v S1) (h2 : ∀ S1, Ex S S1 → EvS r tb s S1 fun v S2 => LstR R ys v S2) (hz : xs.length + ys.length ≤ 100000) : EvN r (tOp (rAddU K) ta tb) s S fun o S1 => ∃ ws, o = .lst ws ∧ All2 R S1 (xs ++ ys) ws :=
  ev_op2N h (fun _ S1 e _ => h2 S1 e) fun x y S1 S2 _ ⟨a, vs, h1, h2, h3⟩ e2 ⟨b, ws, g1, g2, g3⟩ => by
    subst h1
    subst g1
    exact ⟨_, rn_cat (e2 _ _ h2) g2 (by rw [h3.len, g3.len]; exact hz), _, rfl, (h3.up e2).append g3⟩
end
def fst16 (u : RuleD) : List Int := (List.range (startN u)).map fun s : Nat => (s : Int)
theorem beg_flat (u : RuleD) : ((fst16 u).flatMap fun s => (List.range 3).map fun a : Nat => [s, 0, 0, (a : Int), 0]) = begN u := by
  unfold fst16 begN
  rw [List.flatMap_map]
theorem startN_le (u : RuleD) : startN u ≤ 3 := by
  unfold startN
  split <;> omega
theorem fst_true {u : RuleD} (h : decide (u.start = ("front" : Str)) = true) : fst16 u = [0] := by
  unfold fst16 startN
  rw [if_pos h]
  rfl
theorem fst_false {u : RuleD} (h : decide (u.start = ("front" : Str)) = false) : fst16 u = rgI 0 3 := by
  unfold fst16 startN
  rw [h]
  rfl
def sp_starts_of (K : PySem.W.Frag) (C : Addr) : Sp := SpP (A := RuleD) (fun u vs S => ∃ v, vs = [v] ∧ RuleR K C u v S) (fun u v S => LstR IntR (fst16 u) v S)
theorem G_starts_of (T : TX P w K mg) : FnOk P w K mg base CX0 3 T.f_starts_of T.fd_starts_of ["rule"] (sp_starts_of K T.C_Rule) := by
  refine T.F_starts_of.ok sc_starts_of (fun vs H Q E h => ?_) (fun cdv A outer s H vs Q E hr h => ?_)
  · obtain ⟨u, S, ⟨v, rfl, _⟩, _⟩ := h
    rfl
  · obtain ⟨u, S, ⟨v, rfl, hu⟩, w0, q⟩ := h.body
    refine ⟨_, (pss_one (ps_ret (pe_ifExp (pt_cmpR (op_eqK (K := K) hr.units) (pe_prop (pv 0) T.cl_Rule T.p_Rule_start (G_Rule_start T) (hr.mono (by decide)) T.b_Rule_start .nil pass0 rfl) pe_str (nomark _)) (pe_lst (pa_cons pe_int pa_nil)) (pe_listRg rfl (by rfl) T.z_list (prg_1 (by rfl) T.z_range (pe_const (by rfl) T.c_PAGES)))))), ?_⟩
    exact st_ret (R := fun v S => LstR IntR (fst16 u) v S) (ev_if (b := decide (u.start = ("front" : Str))) (tb_test (vv_op (rule_prop (f := fun u => u.start) (ev_v (R := RuleR K T.C_Rule) rfl hu)) vv_c rs_eqS)) (fun e => by
      rw [fst_true e]
      exact ev_lst1 (R := IntR) vv_c) fun e => by
      rw [fst_false e]
      exact ev_listRg1 (n := 3) vv_c (by omega)) w0 q
def sp_beginnings (K : PySem.W.Frag) (C : Addr) : Sp := SpP (A := RuleD) (fun u vs S => ∃ v, vs = [v] ∧ RuleR K C u v S) (fun u v S => LstR StR (begN u) v S)
theorem G_beginnings (T : TX P w K mg) : FnOk P w K mg base CX0 4 T.f_beginnings T.fd_beginnings ["rule"] (sp_beginnings K T.C_Rule) := by
  refine T.F_beginnings.ok sc_beginnings (fun vs H Q E h => ?_) (fun cdv A outer s H vs Q E hr h => ?_)
  · obtain ⟨u, S, ⟨v, rfl, _⟩, _⟩ := h
    rfl
  · obtain ⟨u, S, ⟨v, rfl, hu⟩, w0, q⟩ := h.body
    refine ⟨_, (pss_one (ps_ret (pe_lc2 (own := [("start", 1), ("at", 2)]) (vs1 := [2]) (by rfl) sc_beginnings.nd (pi_K (K := K) (pe_call (G_starts_of T) (hr.mono (by decide)) (by rfl) T.g_starts_of T.F_starts_of.kp T.b_starts_of .nil pass0 (pa_cons (pv 0) pa_nil))) (blkOk_by (own := [("start", 1), ("at", 2)]) (N := N_beginnings) (sc := (defScope s_beginnings)) (by decide +kernel)) (by decide) (fun _ _ _ _ _ => (pg_name (i := 1) sc_beginnings.nd rfl (Or.inl rfl))) (fun _ _ _ _ _ => pts_nil) (fun _ _ _ _ _ => (pi_range1 (by rfl) T.z_range (pa_cons (pe_const (by rfl) T.c_PAGES) pa_nil))) (fun _ _ _ _ _ => (pg_name (i := 2) sc_beginnings.nd rfl (Or.inl rfl))) (fun _ _ _ _ _ => pts_nil) (fun _ _ _ _ _ => (pe_tup (pa_cons (pv 1) (pa_cons pe_int (pa_cons pe_int (pa_cons (pv 2) (pa_cons pe_int pa_nil)))))))))), ?_⟩
    refine st_ret (R := fun v S => LstR StR (begN u) v S) (EvS.imp (EvN.lst (X := StR) (en_two16 (X := IntR) (X1 := FromR 0) (Yr := StR) (ys := fst16 u) (fun _ => List.range 3) (fun s (a : Nat) => [s, 0, 0, (a : Int), 0]) 3 (fun _ _ => by rw [List.length_range]; exact Nat.le_refl _) (by
      have := startN_le u
      unfold fst16
      rw [List.length_map, List.length_range]
      omega) (ei_list (X := IntR) (vv_call (R := fun v S => LstR IntR (fst16 u) v S) u (va_cons (vv_var rfl) va_nil) (fun S e => ⟨v, rfl, Mono.up e hu⟩) fun v _ _ h => h)) (by intro _; rfl) (by intro _ _; rfl) (fun y v1 S1 e my hy => ei_range1 (n := 3) (va_cons vv_c va_nil) (by omega)) fun y v1 z v2 S1 e my hy mz hz => ?_)) fun v S1 _ h => by rw [← beg_flat]; exact h) w0 q
    obtain rfl : v1 = .int y := hy
    obtain rfl : v2 = .int (0 + (z : Int)) := hz
    rw [Int.zero_add]
    exact ev_five (va_cons (vv_var rfl) (va_cons vv_c (va_cons vv_c (va_cons (vv_var rfl) (va_cons vv_c va_nil)))))
abbrev I5 : Type := Int × Int × Int × Int × Int
def l5 (x : I5) : St5 := [x.1, x.2.1, x.2.2.1, x.2.2.2.1, x.2.2.2.2]
def sp_is_end (K : PySem.W.Frag) (C : Addr) : Sp := SpP (A := RuleD × I5) (fun a vs S => ∃ v x, vs = [v, x] ∧ RuleR K C a.1 v S ∧ StR (l5 a.2) x S) (fun a v _ => v = .bl (decide (a.2.2.1 = endN a.1 a.2.2.2.1)))
theorem G_is_end (T : TX P w K mg) : FnOk P w K mg base CX0 3 T.f_is_end T.fd_is_end ["rule", "state"] (sp_is_end K T.C_Rule) := by
  refine T.F_is_end.ok sc_is_end (fun vs H Q E h => ?_) (fun cdv A outer s H vs Q E hr h => ?_)
  · obtain ⟨a, S, ⟨v, x, rfl, _⟩, _⟩ := h
    rfl
  · obtain ⟨⟨u, s0, d, c, a, t⟩, S, ⟨v, x, rfl, hu, hx⟩, w0, q⟩ := h.body
    dsimp only at hu hx q
    refine ⟨_, (pss_cons (ps_asg (pv 1) (pg_tupK (K := K) (n := 5) (by rfl) (pgs_cons (pg_name (i := 2) sc_is_end.nd rfl (Or.inl rfl)) (pgs_cons (pg_name (i := 3) sc_is_end.nd rfl (Or.inl rfl)) (pgs_cons (pg_name (i := 4) sc_is_end.nd rfl (Or.inl rfl)) (pgs_cons (pg_name (i := 5) sc_is_end.nd rfl (Or.inl rfl)) (pgs_cons (pg_name (i := 6) sc_is_end.nd rfl (Or.inl rfl)) pgs_nil)))))))
      (pss_one (ps_ret (pe_cmpR (op_eqK (K := K) hr.units) (pv 3) (pe_op (op_addK (K := K)) (pe_const (by rfl) T.c_PAGES) (pe_ifExp (pt_cmpR (op_eqK (K := K) hr.units) (pe_prop (pv 0) T.cl_Rule T.p_Rule_fresh (G_Rule_fresh T) (hr.mono (by decide)) T.b_Rule_fresh .nil pass0 rfl) pe_str (nomark _)) (pv 4) pe_int)) (nomark _))))), ?_⟩
    refine sq_five rfl rfl hx w0 ?_
    exact st_ret (vv_op (vv_var rfl) (vv_op vv_c (ev_if (R := fun v _ => v = .int (if decide (u.fresh = ("again" : Str)) = true then c else 0)) (b := decide (u.fresh = ("again" : Str))) (tb_test (vv_op (rule_prop (f := fun u => u.fresh) (ev_v (R := RuleR K T.C_Rule) rfl hu)) vv_c rs_eqS)) (fun e => by
      rw [if_pos e]
      exact vv_var rfl) fun e => by
      rw [e]
      exact vv_c) rs_add) rs_eqI) w0 q
def sp_visited_next : Sp := SpP (A := I5) (fun a vs S => ∃ x, vs = [x] ∧ StR (l5 a) x S) (fun a v S => StR (visN a.1 a.2.1 a.2.2.1 a.2.2.2.1 a.2.2.2.2) v S)
theorem G_visited_next (T : TX P w K mg) : FnOk P w K mg base CX0 1 T.f_visited_next T.fd_visited_next ["state"] sp_visited_next := by
  refine T.F_visited_next.ok sc_visited_next (fun vs H Q E h => ?_) (fun cdv A outer s H vs Q E hr h => ?_)
  · obtain ⟨a, S, ⟨x, rfl, _⟩, _⟩ := h
    rfl
  · obtain ⟨⟨s0, d, c, a, t⟩, S, ⟨x, rfl, hx⟩, w0, q⟩ := h.body
    dsimp only at hx q
    refine ⟨_, (pss_cons (ps_asg (pv 0) (pg_tupK (K := K) (n := 5) (by rfl) (pgs_cons (pg_name (i := 1) sc_visited_next.nd rfl (Or.inl rfl)) (pgs_cons (pg_name (i := 2) sc_visited_next.nd rfl (Or.inl rfl)) (pgs_cons (pg_name (i := 3) sc_visited_next.nd rfl (Or.inl rfl)) (pgs_cons (pg_name (i := 4) sc_visited_next.nd rfl (Or.inl rfl)) (pgs_cons (pg_name (i := 5) sc_visited_next.nd rfl (Or.inl rfl)) pgs_nil)))))))
      (pss_cons (ps_set (i := 6) sc_visited_next.nd rfl (Or.inl rfl) (pe_ifExp (pt_cmpR op_lt (pv 2) (pe_const (by rfl) T.c_PAGES) (nomark _)) (pe_op op_mod (pe_op (op_addK (K := K)) (pv 1) (pv 2)) (pe_const (by rfl) T.c_PAGES)) (pv 2)))
      (pss_one (ps_ret (pe_tup (pa_cons (pv 1) (pa_cons (pe_op (op_addK (K := K)) (pv 2) pe_int) (pa_cons (pv 3) (pa_cons (pv 4) (pa_cons (pe_ifExp (PW.pt (pw_and (pt_cmpR (op_eqK (K := K) hr.units) (pv 6) (pv 4) (nomark _)) (pw_and1 (pt_cmpR op_lt (pv 5) (pe_const (by rfl) T.c_MOST_SEEN) (nomark _))))) (pe_op (op_addK (K := K)) (pv 5) pe_int) (pv 5)) pa_nil)))))))))), ?_⟩
    refine sq_five rfl rfl hx w0 ?_
    refine sq_asg (R := fun v _ => v = .int (pageN s0 d)) (ev_if (b := decide (d < 3)) (tb_test (vv_op (vv_var rfl) vv_c rs_I0)) (fun e => by
      unfold pageN
      rw [if_pos e]
      exact vv_op (vv_op (vv_var rfl) (vv_var rfl) rs_add) vv_c (rs_I (C := fun _ j => 0 < j) (g := fun i j => .int (i % j)) (by omega))) fun e => by
      unfold pageN
      rw [e]
      exact vv_var rfl) w0 fun v1 S1 H1 w1 s1 ev => ?_
    subst ev
    refine st_ret (ev_five (va_cons (vv_var rfl) (va_cons (vv_op (vv_var rfl) vv_c rs_add) (va_cons (vv_var rfl) (va_cons (vv_var rfl) (va_cons (x := .int (if (decide (pageN s0 d = a) && decide (t < 2)) = true then t + 1 else t)) (ev_if (b := decide (pageN s0 d = a) && decide (t < 2)) (tb_and (tb_test (vv_op (vv_var rfl) (vv_var rfl) rs_eqI)) fun _ => tb_test (vv_op (vv_var rfl) vv_c rs_I0)) (fun e => by
      rw [if_pos e]
      exact vv_op (vv_var rfl) vv_c rs_add) fun e => by
      rw [e]
      exact vv_var rfl) va_nil)))))) w1 fun v S2 H2 w2 s2 h => q v S2 H2 w2 (s1.trans s2) h
theorem mov_flat {u : RuleD} {s d c a t : Int} : ((List.range (3 + c).toNat).flatMap fun p : Nat => if goesN u (p : Int) a = true then [[s, d, c, (p : Int), t]] else []) = movN u s d c a t := by
  unfold movN
  generalize List.range (3 + c).toNat = l
  induction l with
  | nil => rfl
  | cons p l ih =>
    rw [List.flatMap_cons, List.filter_cons, ih]
    split <;> rfl
theorem mov_len {u : RuleD} {s d c a t : Int} (hc : 0 ≤ c ∧ c ≤ 2) : (movN u s d c a t).length ≤ 5 := by
  unfold movN
  rw [List.length_map]
  refine Nat.le_trans (List.length_filter_le _ _) ?_
  rw [List.length_range]
  omega
def sp_moved (K : PySem.W.Frag) (C : Addr) : Sp := SpP (A := RuleD × I5) (fun a vs S => ∃ v x, vs = [v, x] ∧ RuleR K C a.1 v S ∧ StR (l5 a.2) x S ∧ 0 ≤ a.2.2.2.1 ∧ a.2.2.2.1 ≤ 2) (fun a v S => LstR StR (movN a.1 a.2.1 a.2.2.1 a.2.2.2.1 a.2.2.2.2.1 a.2.2.2.2.2) v S)
theorem G_moved (T : TX P w K mg) : FnOk P w K mg base CX0 3 T.f_moved T.fd_moved ["rule", "state"] (sp_moved K T.C_Rule) := by
  refine T.F_moved.ok sc_moved (fun vs H Q E h => ?_) (fun cdv A outer s H vs Q E hr h => ?_)
  · obtain ⟨a, S, ⟨v, x, rfl, _⟩, _⟩ := h
    rfl
  · obtain ⟨⟨u, s0, d, c, a, t⟩, S, ⟨v, x, rfl, hu, hx, hc⟩, w0, q⟩ := h.body
    dsimp only at hu hx hc q
    refine ⟨_, (pss_cons (ps_asg (pv 1) (pg_tupK (K := K) (n := 5) (by rfl) (pgs_cons (pg_name (i := 2) sc_moved.nd rfl (Or.inl rfl)) (pgs_cons (pg_name (i := 3) sc_moved.nd rfl (Or.inl rfl)) (pgs_cons (pg_name (i := 4) sc_moved.nd rfl (Or.inl rfl)) (pgs_cons (pg_name (i := 5) sc_moved.nd rfl (Or.inl rfl)) (pgs_cons (pg_name (i := 6) sc_moved.nd rfl (Or.inl rfl)) pgs_nil)))))))
      (pss_cons (ps_set (i := 7) sc_moved.nd rfl (Or.inl rfl) (pe_lst pa_nil))
      (pss_cons (ps_for PassesOwn.never (by rfl) (pi_range1 (by rfl) T.z_range (pa_cons (pe_op (op_addK (K := K)) (pe_const (by rfl) T.c_PAGES) (pv 4)) pa_nil)) (pg_name (i := 8) sc_moved.nd rfl (Or.inl rfl)) (pss_one (ps_if (PW.pt (pw_or (PW.pt (pw_and (pt_cmpR op_gt (pv 8) (pv 5) (nomark _)) (pw_and1 (pt_cmpR (op_inK (K := K)) pe_str (pe_prop (pv 0) T.cl_Rule T.p_Rule_moves (G_Rule_moves T) (hr.mono (by decide)) T.b_Rule_moves .nil pass0 rfl) (by with_unfolding_all rfl))))) (pw_or1 (PW.pt (pw_and (pt_cmpR op_lt (pv 8) (pv 5) (nomark _)) (pw_and1 (pt_cmpR (op_inK (K := K)) pe_str (pe_prop (pv 0) T.cl_Rule T.p_Rule_moves (G_Rule_moves T) (hr.mono (by decide)) T.b_Rule_moves .nil pass0 rfl) (by with_unfolding_all rfl)))))))) (pss_one (ps_expr (pe_bm PySem.F.plainAttrs_list PySem.F.slot_list_append PySem.F.type_list_append mt_append (pv 7) (pa_cons (pe_tup (pa_cons (pv 2) (pa_cons (pv 3) (pa_cons (pv 4) (pa_cons (pv 8) (pa_cons (pv 6) pa_nil)))))) pa_nil)))) pss_nil)))
      (pss_one (ps_ret (pv 7)))))), ?_⟩
    refine sq_five rfl rfl hx w0 ?_
    refine sq_asgN (i := 7) (R := fun o _ => o = .lst []) en_nil w0 fun l o S1 H1 l0 hl sl w1 s1 eo => ?_
    subst eo
    have nl := w0.notM l0
    refine sq_forA (Y := StR) (X := FromR 0) (ys := List.range (3 + c).toNat) (fun p : Nat => if goesN u (p : Int) a = true then [[s0, d, c, (p : Int), t]] else []) 1 (fun s => ∃ y8, s = [some v, some x, some (.int s0), some (.int d), some (.int c), some (.int a), some (.int t), some (.ref l), y8]) (fun y _ => by split <;> simp) nl (ei_range1 (n := 3 + c) (va_cons (vv_op vv_c (vv_var rfl) rs_add) va_nil) (by omega)) w1 ⟨[], hl, sl, .nil⟩ ⟨none, rfl⟩ (fun p v8 s' S2 H2 zs mp hp ⟨y8, es⟩ w2 e2 a2 l2 D2 k2 => ?_) fun s2 S2 H2 ⟨y8, es⟩ w2 st2 a2 => ?_
    · subst es
      obtain rfl : v8 = .int (0 + (p : Int)) := hp
      rw [Int.zero_add]
      have hu2 := Mono.up (s1.ex.trans e2) hu
      rw [List.length_range] at l2
      dsimp only [List.length_nil] at l2
      refine st_if (b := goesN u (p : Int) a) (tb_or (tb_and (tb_test (vv_op (vv_var rfl) (vv_var rfl) rs_I0)) fun _ => tb_test (vv_inMoves rfl hu2)) fun _ => tb_and (tb_test (vv_op (vv_var rfl) (vv_var rfl) rs_I0)) fun _ => tb_test (vv_inMoves rfl hu2)) w2 (fun hg S3 H3 w3 s3 => ?_) fun hg S3 H3 w3 s3 => ?_
      · rw [if_pos hg] at k2
        exact st_appendA (D := { D2 with nx := D2.nx }) nl (vv_var rfl) (ev_five (va_cons (vv_var rfl) (va_cons (vv_var rfl) (va_cons (vv_var rfl) (va_cons (vv_var rfl) (va_cons (vv_var rfl) va_nil)))))) w3 (a2.step nl s3) (by omega) fun S4 H4 w4 s4 a4 => k2 _ S4 H4 ⟨_, rfl⟩ w4 (s3.more.trans s4) a4
      · rw [hg, if_neg Bool.false_ne_true, List.append_nil] at k2
        exact k2 _ S3 H3 ⟨_, rfl⟩ w3 s3.more (a2.step nl s3)
    · subst es
      obtain ⟨S3, w3, s3, h3⟩ := a2.settle nl w2 l0 (s1.more.trans st2) Stp.refl
      exact st_ret (R := fun v S => LstR StR (movN u s0 d c a t) v S) ((vv_var (v := .ref l) rfl).imp fun v S e ev => by
        rw [show v = _ from ev, ← mov_flat]
        exact Mono.up (R := LstR StR) e h3) w3 fun v S4 H4 w4 s4 h => q v S4 H4 w4 (s3.trans s4) h
def sp_behind (K : PySem.W.Frag) (C : Addr) : Sp := SpP (A := RuleD × St5) (fun a vs S => ∃ v x, vs = [v, x] ∧ RuleR K C a.1 v S ∧ StR a.2 x S ∧ InN a.1 a.2) (fun a v S => LstR StR (behN a.1 a.2) v S)
theorem G_behind (T : TX P w K mg) : FnOk P w K mg base CX0 4 T.f_behind T.fd_behind ["rule", "state"] (sp_behind K T.C_Rule) := by
  refine T.F_behind.ok sc_behind (fun vs H Q E h => ?_) (fun cdv A outer s H vs Q E hr h => ?_)
  · obtain ⟨a, S, ⟨v, x, rfl, _⟩, _⟩ := h
    rfl
  · obtain ⟨⟨u, l⟩, S, ⟨v, x, rfl, hu, hx, s0, d, c, a, t, e5, hin⟩, w0, q⟩ := h.body
    dsimp only at hu hx e5 hin q
    subst e5
    refine ⟨_, (pss_cons (ps_if (pt_val (pe_call (G_is_end T) (hr.mono (by decide)) (by rfl) T.g_is_end T.F_is_end.kp T.b_is_end .nil pass0 (pa_cons (pv 0) (pa_cons (pv 1) pa_nil)))) (pss_one (ps_ret (pe_lst pa_nil))) pss_nil)
      (pss_cons (ps_asg (pv 1) (pg_tupK (K := K) (n := 5) (by rfl) (pgs_cons (pg_name (i := 2) sc_behind.nd rfl (Or.inl rfl)) (pgs_cons (pg_name (i := 3) sc_behind.nd rfl (Or.inl rfl)) (pgs_cons (pg_name (i := 4) sc_behind.nd rfl (Or.inl rfl)) (pgs_cons (pg_name (i := 5) sc_behind.nd rfl (Or.inl rfl)) (pgs_cons (pg_name (i := 6) sc_behind.nd rfl (Or.inl rfl)) pgs_nil)))))))
      (pss_cons (ps_set (i := 7) sc_behind.nd rfl (Or.inl rfl) (pe_op (op_addK (K := K)) (pe_lst (pa_cons (pe_call (G_visited_next T) (hr.mono (by decide)) (by rfl) T.g_visited_next T.F_visited_next.kp T.b_visited_next .nil pass0 (pa_cons (pv 1) pa_nil)) pa_nil)) (pe_call (G_moved T) (hr.mono (by decide)) (by rfl) T.g_moved T.F_moved.kp T.b_moved .nil pass0 (pa_cons (pv 0) (pa_cons (pv 1) pa_nil)))))
      (pss_cons (ps_if (PW.pt (pw_and (pt_cmpR (op_neK (K := K) hr.units) (pe_prop (pv 0) T.cl_Rule T.p_Rule_fresh (G_Rule_fresh T) (hr.mono (by decide)) T.b_Rule_fresh .nil pass0 rfl) pe_str (nomark _)) (pw_and1 (pt_cmpR op_lt (pv 4) (pe_const (by rfl) T.c_MOST_CAME) (nomark _))))) (pss_one (ps_expr (pe_bm PySem.F.plainAttrs_list PySem.F.slot_list_append PySem.F.type_list_append mt_append (pv 7) (pa_cons (pe_tup (pa_cons (pv 2) (pa_cons (pv 3) (pa_cons (pe_op (op_addK (K := K)) (pv 4) pe_int) (pa_cons (pv 5) (pa_cons (pv 6) pa_nil)))))) pa_nil)))) pss_nil)
      (pss_one (ps_ret (pv 7))))))), ?_⟩
    refine sq_if (b := decide (d = endN u c)) (tb_B (vv_call (R := fun v _ => v = .bl (decide (d = endN u c))) (u, s0, d, c, a, t) (va_cons (vv_var rfl) (va_cons (vv_var rfl) va_nil)) (fun S e => ⟨v, x, rfl, Mono.up e hu, Mono.up e hx⟩) fun v _ _ h => h)) w0 (fun he S1 H1 w1 s1 => ?_) fun he S1 H1 w1 s1 => ?_
    · refine st_ret (R := fun v S => LstR StR (behN u [s0, d, c, a, t]) v S) (ev_nilL (R := StR) |>.imp fun v S2 _ h => ?_) w1 fun v S2 H2 w2 s2 h => q v S2 H2 w2 (s1.trans s2) h
      rw [behN_at, if_pos he]
      exact h
    · have hu1 := Mono.up s1.ex hu
      have hx1 := Mono.up s1.ex hx
      refine sq_five rfl rfl hx1 w1 ?_
      have hml := mov_len (u := u) (s := s0) (d := d) (a := a) (t := t) hin.c1
      refine sq_asgN (i := 7) (en_cat16 (R := StR) (xs := [visN s0 d c a t]) (ys := movN u s0 d c a t) (ev_lst1 (R := StR) (vv_call (R := fun v S => StR (visN s0 d c a t) v S) (s0, d, c, a, t) (va_cons (vv_var rfl) va_nil) (fun S e => ⟨x, rfl, Mono.up e hx1⟩) fun v _ _ h => h)) (fun S2 e2 => vv_call (R := fun v S => LstR StR (movN u s0 d c a t) v S) (u, s0, d, c, a, t) (va_cons (vv_var rfl) (va_cons (vv_var rfl) va_nil)) (fun S e => ⟨v, x, rfl, Mono.up (e2.trans e) hu1, Mono.up (e2.trans e) hx1, hin.c1⟩) fun v _ _ h => h) (by rw [List.length_singleton]; omega)) w1 fun l o S2 H2 l0 hl sl w2 s2 ⟨ws, eo, hws⟩ => ?_
      subst eo
      have nl := w1.notM l0
      have hu2 := Mono.up s2.ex hu1
      have a2 : AccS l StR ([visN s0 d c a t] ++ movN u s0 d c a t) S2 H2 := ⟨ws, hl, sl, hws⟩
      have l00 : H l = none := pre_none s1 l0
      refine sq_if (b := !decide (u.fresh = ("none" : Str)) && decide (c < 2)) (tb_and (tb_test (vv_op (rule_prop (f := fun u => u.fresh) (ev_v (R := RuleR K T.C_Rule) rfl hu2)) vv_c rs_neS)) fun _ => tb_test (vv_op (vv_var rfl) vv_c rs_I0)) w2 (fun hc S3 H3 w3 s3 => ?_) fun hc S3 H3 w3 s3 => ?_
      · refine st_appendA nl (vv_var rfl) (ev_five (a := s0) (b := d) (c := c + 1) (d := a) (e := t) (va_cons (vv_var rfl) (va_cons (vv_var rfl) (va_cons (vv_op (vv_var rfl) vv_c rs_add) (va_cons (vv_var rfl) (va_cons (vv_var rfl) va_nil)))))) w3 (a2.step nl s3) (by rw [List.length_append, List.length_singleton]; omega) fun S4 H4 w4 s4 a4 => ?_
        obtain ⟨S5, w5, s5, h5⟩ := a4.settle nl w4 l00 ((s1.trans (s2.trans s3)).more.trans s4) Stp.refl
        refine st_ret (R := fun v S => LstR StR (behN u [s0, d, c, a, t]) v S) ((vv_var (v := .ref l) rfl).imp fun v S e ev => ?_) w5 fun v S6 H6 w6 s6 h => q v S6 H6 w6 (s5.trans s6) h
        rw [show v = _ from ev, behN_at, he, if_neg Bool.false_ne_true]
        unfold cameN
        rw [if_pos hc]
        exact Mono.up (R := LstR StR) e h5
      · obtain ⟨S5, w5, s5, h5⟩ := (a2.step nl s3).settle nl w3 l00 (s1.trans (s2.trans s3)).more Stp.refl
        refine st_ret (R := fun v S => LstR StR (behN u [s0, d, c, a, t]) v S) ((vv_var (v := .ref l) rfl).imp fun v S e ev => ?_) w5 fun v S6 H6 w6 s6 h => q v S6 H6 w6 (s5.trans s6) h
        rw [show v = _ from ev, behN_at, he, if_neg Bool.false_ne_true]
        unfold cameN
        rw [hc, if_neg Bool.false_ne_true, List.append_nil]
        exact Mono.up (R := LstR StR) e h5
end
end K16

namespace K16
open PySem PySem.Spec PyProof.Rows L2 Evl J RZ
section
variable {P : Program} {w : World} {K : PySem.W.Frag} {mg : Str → Option Value} {base : Heap}
/-! ### k16: the lot -/
theorem reach_congr {α : Type} {nx : α → List α} {B B' : List α} (h : ∀ q, q ∈ B ↔ q ∈ B') (q : α) : ReachG nx B q ↔ ReachG nx B' q := by
  constructor
  · intro r
    induction r with
    | first hb => exact .first ((h _).mp hb)
    | step _ hq ih => exact .step ih hq
  · intro r
    induction r with
    | first hb => exact .first ((h _).mpr hb)
    | step _ hq ih => exact .step ih hq
theorem wh_go16 {tu : TS} {s : L2.St} {H : Hp} {rt : VK} {bk : L2.St → Hp → Prop} {m : Nat} {P : Nat → L2.St → Hp → Hp → Prop} {X : Prop} (h : tu { nx := fun s2 H2 => ∃ m2 S2, m2 < m ∧ P m2 s2 S2 H2, ct := fun s2 H2 => ∃ m2 S2, m2 < m ∧ P m2 s2 S2 H2, bk := bk, rt := rt } s H) : if true = true then ∃ N : L2.St → Hp → Prop, (∀ s2 H2, N s2 H2 → ∃ m2, m2 < m ∧ ∃ S2, P m2 s2 S2 H2) ∧ tu { nx := N, ct := N, bk := bk, rt := rt } s H else X := ⟨_, fun s2 H2 ⟨m2, S2, hm, p⟩ => ⟨m2, hm, S2, p⟩, h⟩
theorem for_pop16 {te te' : TE} {g : TG} {tu : TS} {D : Ends} {s : L2.St} {H H1 : Hp} (h : ∀ Q : VK, te' s H1 Q → te s H Q) (k : tFor (iU K te') g tu D s H1) : tFor (iU K te) g tu D s H := by
  rcases k with (k | k) | k
  · exact .inl (.inl (h _ k))
  · exact .inl (.inr (h _ k))
  · exact .inr (h _ k)
theorem all2_snoc16 {α : Type} {R : Rl α} {S : Hp} : ∀ {xs : List α} {x : α} {vs : List V}, All2 R S (xs ++ [x]) vs → ∃ us u, vs = us ++ [u] ∧ All2 R S xs us ∧ R x u S
  | [], x, _, .cons h t => by
    cases t
    exact ⟨[], _, rfl, .nil, h⟩
  | y :: xs, x, _, .cons h t => by
    obtain ⟨us, u, rfl, h1, h2⟩ := all2_snoc16 t
    exact ⟨_ :: us, u, rfl, .cons h h1, h2⟩
theorem sq_dcg {α β : Type} [DecidableEq β] {newO : Addr → HO} {Put : Addr → V → V → Hp → (Hp → Prop) → Prop} {Kr : β → V → Hp → Prop} {Acc : List β → Addr → HO → Hp → Prop} {n : Nat} {r : Rs} {s : L2.St} {S H : Hp} {tk tv : TE} {tz : TS} {D : Ends} (ok : AccOk newO Put Kr Acc n) {wi : TI} {i j : Nat} {vs : List Nat} {ys : List α} {X : Rl α} (kf : α → β) (hn : ys.length ≤ n) (hi : EvI r wi s S ys X) (hw : ∀ v, wipe ((wipe s vs).set j (some v)) vs = wipe s vs)
    (hk : ∀ y v S1, Ex S S1 → y ∈ ys → X y v S1 → EvS r tk ((wipe s vs).set j (some v)) S1 fun u S2 => Kr (kf y) u S2) (hv : ∀ y v S1, Ex S S1 → y ∈ ys → X y v S1 → EvV r tv ((wipe s vs).set j (some v)) S1 (.bl true)) (w : Wd r S H)
    (k : ∀ d o S2 H2, H d = none → H2 d = some o → S2 d = none → Wd r S2 H2 → Stp r S H S2 H2 → Acc ((ys.map kf).foldl addL []) d o S2 → tz D (s.set i (some (.ref d))) H2) : tSeq (tAsg (tDcg newO Put wi (gName j) tYes tk tv vs) (gName i)) tz D s H := by
  have h := en_dcg ok kf hn hi hw hk hv S H (Ex.refl _) w (fun v H1 => tz D (s.set i (some v)) H1) k
  exact h
theorem any16 {F : List St5} {ks : List (List Key × Addr)} {q : St5} (h : ks.map (·.1) = F.map kfL) : (ks.any fun z => decide (z.1 = kfL q)) = decide (q ∈ F) := (any_keysG kfL_inj h).trans (decide_eq_decide.mpr Iff.rfl)
def sp_lot (K : PySem.W.Frag) (C : Addr) (T : List (Addr × Str)) : Sp := SpR (A := (Addr × Addr) × RuleD) (fun a => (srcR a.1.1 a.1.2).tabs T) (fun a vs S _ => ∃ v, vs = [v] ∧ RuleR K C a.2 v S) (fun a v S _ => ∃ F : List St5, F.Nodup ∧ (∀ q, q ∈ F ↔ ReachG (behN a.2) (begN a.2) q) ∧ TupR K StR (sortA dSt F) v S)
theorem G_lot (T : TX P w K mg) (TB : ∀ y ∈ lamC T, LamX.TabB base mg y.1 y.2) : FnG P w K mg base 5 T.f_lot T.fd_lot ["rule"] (sp_lot K T.C_Rule (lamT T)) := by
  refine ok_GC T.FC_lot sc_lot (fun vs H Q E h => ?_) (fun A outer s H vs Q E g hr h => ?_)
  · obtain ⟨a, S, ⟨v, rfl, _⟩, _⟩ := h
    rfl
  · obtain ⟨⟨⟨p, cc⟩, u⟩, S, ⟨v, rfl, hu⟩, w0, q⟩ := h
    dsimp only at hu w0 q
    refine ⟨_, (pss_cons (ps_setDcg putT_ok (show _ from Nat.lt_of_succ_lt (units1 hr)) (i := 1) (own := [("state", 3)]) (by rfl) sc_lot.nd rfl rfl (swd_true rfl rfl rfl (by decide +kernel)) (pi_K (K := K) (pe_call (G_beginnings T) (hr.mono (by decide)) (by rfl) T.g_beginnings T.F_beginnings.kp T.b_beginnings .nil pass0 (pa_cons (pv 0) pa_nil))) (blkOk_by (own := [("state", 3)]) (N := N_lot) (sc := (defScope s_lot)) (by decide +kernel)) (fun _ _ _ _ _ => (pg_name (i := 3) sc_lot.nd rfl (Or.inl rfl))) (fun _ _ _ _ _ => pts_nil) (fun _ _ _ _ _ => (pv 3)) (fun _ _ _ _ _ => pe_bl))
      (pss_cons (ps_set (i := 2) sc_lot.nd rfl (Or.inl rfl) (pe_callTy call_listE (by rfl) T.z_list (by decide +kernel) (pa_cons (pv 1) pa_nil)))
      (pss_cons (ps_while PassesOwn.never (pt_cmpR op_gt (pe_callB (call_lenK (K := K)) (by rfl) T.z_len (by decide +kernel) (pa_cons (pv 2) pa_nil)) pe_int (nomark _)) (pss_one (ps_for PassesOwn.never (by rfl) (pi_K (K := K) (pe_call (G_behind T) (hr.mono (by decide)) (by rfl) T.g_behind T.F_behind.kp T.b_behind .nil pass0 (pa_cons (pv 0) (pa_cons (pe_bm0 PySem.F.plainAttrs_list PySem.F.slot_list_pop PySem.F.type_list_pop mt_pop (pv 2)) pa_nil)))) (pg_name (i := 3) sc_lot.nd rfl (Or.inl rfl)) (pss_one (ps_if (pt_cmpR (op_notInE (units1 hr)) (pv 3) (pv 1) (by with_unfolding_all rfl)) (pss_cons (ps_dputE (units1 hr) (pv 1) (pv 3) pe_bl (by rfl))
            (pss_one (ps_expr (pe_bm PySem.F.plainAttrs_list PySem.F.slot_list_append PySem.F.type_list_append mt_append (pv 2) (pa_cons (pv 3) pa_nil))))) pss_nil)))))
      (pss_one (ps_ret (pe_callTy (call_tupleK (K := K)) (by rfl) T.z_tuple (by decide +kernel) (pa_cons (pe_sortE (k := 0) g (hr.mono (by decide)) (by rfl) T.z_sorted T.z_str (pv 1) (TB _ (lc_lot T)) rfl (lm_lot T) (lu_lot T) (strS_by (by decide +kernel)) rfl) pa_nil))))))), ?_⟩
    have hbl : (begN u).length ≤ 9 := by
      have := flat_len (ys := List.range (startN u)) (f := fun s : Nat => (List.range 3).map fun a : Nat => [(s : Int), 0, 0, (a : Int), 0]) (m := 3) fun y _ => by rw [List.length_map, List.length_range]; exact Nat.le_refl _
      have h3 := startN_le u
      rw [List.length_range] at this
      exact Nat.le_trans this (by omega)
    refine sq_dcg (accG_ok kfL_inj) (X := StR) (ys := begN u) id (by omega) (ei_list (X := StR) (vv_call (R := fun v S => LstR StR (begN u) v S) u (va_cons (vv_var rfl) va_nil) (fun S e => ⟨v, rfl, Mono.up e hu⟩) fun v _ _ h => h)) (by intro _; rfl) (fun y v1 S1 e my hy => ev_v (R := StR) rfl hy) (fun y v1 S1 e my hy => vv_c) w0 fun d o S1 H1 d0 d1 d2 w1 s1 ⟨ks, eo, hks⟩ => ?_
    subst eo
    rw [List.map_id] at hks
    generalize hB : (begN u).foldl addL [] = B at hks
    have hBm : ∀ q, q ∈ B ↔ q ∈ begN u := fun q => by rw [← hB, mem_addAll]; simp
    have hBn : B.Nodup := by rw [← hB]; exact nodup_addAll _ _ .nil
    have hBi : ∀ l ∈ B, InN u l := fun l hl => beg_in ((hBm l).mp hl)
    have nd := w0.notM d0
    refine sq_listE rfl d1 w1 fun l hl => ?_
    have nl := w1.notM hl
    have ndl : d ≠ l := ne_of_none d1 hl
    have l00 := pre_none s1 hl
    have w2 := w1.new (o := .lst (ks.map fun z => V.ref z.2)) hl
    have s2 : Stp ((srcR p cc).tabs (lamT T)) S H S1 (L2.upd H1 l (.lst (ks.map fun z => V.ref z.2))) := s1.trans (Stp.new hl)
    have hd2 : (L2.upd H1 l (.lst (ks.map fun z => V.ref z.2))) d = some (dkO P w d ks) := by rw [upd_ne ndl]; exact d1
    refine sq_while (S := S1) (fun μ s' S' H' => ∃ F ws us y3, μ = 2 * (810 - F.length) + ws.length ∧ s' = [some v, some (.ref d), some (.ref l), y3] ∧ Wd ((srcR p cc).tabs (lamT T)) S' H' ∧ Ex S1 S' ∧ Stp ((srcR p cc).tabs (lamT T)) S H S' H' ∧ S' d = none ∧ (∃ ks, H' d = some (dkO P w d ks) ∧ KsG kfL S' F ks) ∧ S' l = none ∧ H' l = some (.lst us) ∧ All2 StR S' ws us ∧ WG (behN u) B F ws ∧ 2 * (810 - F.length) + ws.length ≤ 1620)
      ⟨B, B, _, none, rfl, rfl, w2, Ex.refl _, s2, d2, ⟨ks, hd2, hks⟩, w1.fresh hl, upd_same, hks.all, WG.start hBn, by have := states_few5 hBn hBi; omega⟩ ?_
    rintro μ s' S' H' ⟨F, ws, us, y3, rfl, rfl, w', e', st', dn', ⟨ks, hd', hks⟩, ln', hl', hall, hwl, hws⟩
    have hfew := states_few5 hwl.nd fun q hq => reach_in5 hBi (hwl.re q hq)
    refine borrowT (b := decide ((ws.length : Int) > 0)) (tb_test (vv_op (vv_len (K := K) (X := StR) (ys := ws) ((vv_var rfl).imp fun u S4 e ev => .inl ⟨l, us, ev, e _ _ upd_same, hall.up ((Ex.new ln').trans e)⟩)) vv_c rs_I0)) w' hl' nl ln' fun S4 H4 w4 s4 n4 => ?_
    have hd4 := s4.kp d _ nd hd'
    have hl4 := s4.kp l _ nl hl'
    have dn4 := s4.fr d (ne_none hd') dn'
    have e4 := e'.trans s4.ex
    have st4 := st'.trans s4
    have hall4 := hall.up s4.ex
    rcases List.eq_nil_or_concat ws with rfl | ⟨ws, pp, rfl⟩
    · -- the end
      rw [show decide (((([] : List St5).length : Nat) : Int) > 0) = false from rfl, if_neg Bool.false_ne_true]
      have hks4 := hks.up s4.ex
      refine ⟨_, rfl, w4.inv.2, fun H5 k5 t5 => ?_⟩
      obtain ⟨w5, s5⟩ := w4.grown (lm_lot T) k5 t5
      have dP : d ≠ T.P_lot := fun z => nd (List.mem_append_left _ (List.mem_map.mpr ⟨_, lm_lot T, z.symm⟩))
      have ek : (ks.map fun z => keyD z.1) = F.map dSt := by
        have := congrArg (List.map keyD) hks.1
        rw [List.map_map, List.map_map] at this
        exact this
      refine ⟨d, ks, rfl, k5 d _ dP hd4, fun z hz => w5.ex _ _ (hks4.2 z hz), fun z hz => ?_, fun p' hp' => ?_⟩
      · have : z.1 ∈ F.map kfL := by
          rw [← hks.1]
          exact List.mem_map.mpr ⟨z, hz, rfl⟩
        obtain ⟨pz, hpz, ez⟩ := List.mem_map.mp this
        rw [← ez]
        exact keyd5 (reach_in5 hBi (hwl.re pz hpz))
      · have w6 := w5.newS (o := .lst (sortS (ks.map fun z => V.ref z.2) (ks.map fun z => keyD z.1))) hp'
        have st6 := st4.trans (s5.trans (Stp.newS (o := .lst (sortS (ks.map fun z => V.ref z.2) (ks.map fun z => keyD z.1))) w5 hp'))
        have ha6 : All2 StR (L2.upd S4 p' (.lst (sortS (ks.map fun z => V.ref z.2) (ks.map fun z => keyD z.1)))) (sortA dSt F) (sortS (ks.map fun z => V.ref z.2) (ks.map fun z => keyD z.1)) := by
          rw [ek]
          exact all2_sort dSt ((hks4.up (Ex.new (w5.fresh hp'))).all)
        refine ⟨_, rfl, .inl ⟨p', _, rfl, SqL.of upd_same, fun p2 hp2 => ?_⟩⟩
        have w7 := w6.newS (o := .tup (sortS (ks.map fun z => V.ref z.2) (ks.map fun z => keyD z.1))) hp2
        exact q (.ref p2) _ _ w7 (st6.trans (Stp.newS w6 hp2)) ⟨F, hwl.nd, fun q => (hwl.end_ q).trans (reach_congr hBm q), p2, _, rfl, SqT.of upd_same, ha6.up (Ex.new (w6.fresh hp2))⟩
    · rw [decide_eq_true (show (((ws.concat pp).length : Nat) : Int) > 0 by rw [List.length_concat]; omega)]
      rw [List.concat_eq_append] at hall4 hwl hws ⊢
      rw [List.length_append, List.length_singleton] at hws
      refine wh_go16 ?_
      obtain ⟨us', x, rfl, ha4, hx4⟩ := all2_snoc16 hall4
      have hin : InN u pp := reach_in5 hBi (hwl.re pp (hwl.sub pp (List.mem_append_right _ (List.mem_singleton.mpr rfl))))
      have hdl : (us' ++ [x]).dropLast = us' := List.dropLast_concat
      have hlast : (us' ++ [x])[(us' ++ [x]).length - 1]? = some x := by simp
      refine for_pop16 (te' := tCall (sp_behind K T.C_Rule) [] E0 (tCons (tVar 0) (tCons (tC x) tNil))) (H1 := L2.upd H4 l (.lst us')) (fun Q ⟨v0, e0, hQ⟩ => ⟨v0, e0, .ref l, rfl, .inl ⟨rfl, _, SqL.of hl4⟩, l, us' ++ [x], x, rfl, rfl, hl4, hlast, by rw [hdl]; exact hQ⟩) ?_
      have w4' : Wd ((srcR p cc).tabs (lamT T)) S4 (L2.upd H4 l (.lst us')) := w4.upd n4 nl (nco_lst hl4)
      have st4' : Stp ((srcR p cc).tabs (lamT T)) S H S4 (L2.upd H4 l (.lst us')) := st4.drop (Stp.upd1 (ne_none hl4)) (fun b hb => by rw [List.mem_singleton.mp hb]; exact l00)
      have hu4 := Mono.up (s1.ex.trans e4) hu
      have hks4 := hks.up s4.ex
      refine st_for (ei_list (X := StR) (ys := behN u pp) (vv_call (R := fun v S => LstR StR (behN u pp) v S) (u, pp) (va_cons (vv_var rfl) (va_cons vv_c va_nil)) (fun S e => ⟨v, x, rfl, Mono.up e hu4, Mono.up e hx4, hin⟩) fun v _ _ h => h)) w4' fun S5 H5 w5 s5 => ?_
      refine ⟨fun i s'' S'' H'' => ∃ F' ws' us'' y3, 2 * (810 - F'.length) + ws'.length ≤ 2 * (810 - F.length) + ws.length ∧ s'' = [some v, some (.ref d), some (.ref l), y3] ∧ Wd ((srcR p cc).tabs (lamT T)) S'' H'' ∧ Ex S5 S'' ∧ Stp ((srcR p cc).tabs (lamT T)) S H S'' H'' ∧ S'' d = none ∧ (∃ ks, H'' d = some (dkO P w d ks) ∧ KsG kfL S'' F' ks) ∧ S'' l = none ∧ H'' l = some (.lst us'') ∧ All2 StR S'' ws' us'' ∧ WK (behN u) B pp i F' ws',
        ⟨F, ws, us', y3, Nat.le_refl _, rfl, w5, Ex.refl _, st4'.trans s5, s5.fr d (by rw [upd_ne ndl]; exact ne_none hd4) dn4, ⟨ks, s5.kp d _ nd (by rw [upd_ne ndl]; exact hd4), hks4.up s5.ex⟩, s5.fr l (by rw [upd_same]; exact fun z => nomatch z) n4, s5.kp l _ nl upd_same, ha4.up s5.ex, hwl.pop⟩, fun i s'' S'' H'' ⟨_, _, _, _, _, _, h1, h2, _⟩ => ⟨h1, h2⟩, ?_, ?_⟩
      · rintro i qq uq s'' S6 H6 S7 H7 hi ⟨F', ws', us'', y3, hle, rfl, w6, e6, st6, dn6, ⟨ks6, hd6, hks6⟩, ln6, hl6, ha6, hwi⟩ w7 s7 hq7
        obtain ⟨b, rfl, hb⟩ := id hq7
        have hd7 := s7.kp d _ nd hd6
        have dn7 := s7.fr d (ne_none hd6) dn6
        have hks7 := hks6.up s7.ex
        refine st_ifB (l := d) (o := dkO P w d ks6) (b := !decide (qq ∈ F')) (tb_test (vv_op (vv_var rfl) (vv_var rfl) fun H9 e9 Q9 q9 => ⟨d, ks6, b, kfL qq, rfl, rfl, e9 _ _ upd_same, fun z hz => e9 _ _ (Ex.new dn7 _ _ (hks7.2 z hz)), e9 _ _ (Ex.new dn7 _ _ hb), by rw [any16 hks7.1]; exact q9⟩)) w7 hd7 nd dn7 (fun hq S8 H8 w8 s8 dn8 => ?_) fun hq S8 H8 w8 s8 dn8 => ?_
        · have hq : qq ∉ F' := by simpa using hq
          have hwi2 := hwi.new hi hq
          have few2 := states_few5 hwi2.nd fun a ha => reach_in5 hBi (hwi2.re a ha)
          rw [List.length_append, List.length_singleton] at few2
          have hd8 := s8.kp d _ nd hd7
          have hks8 := hks7.up s8.ex
          have hb8 := s8.ex _ _ hb
          have hl8 := s8.kp l _ nl (s7.kp l _ nl hl6)
          have ln8 := s8.fr l (ne_none (s7.kp l _ nl hl6)) (s7.fr l (ne_none hl6) ln6)
          have kl := hks6.len
          have ul := ha6.len
          refine ⟨_, rfl, _, rfl, d, ks6, b, kfL qq, rfl, rfl, rfl, hd8, fun z hz => w8.ex _ _ (hks8.2 z hz), w8.ex _ _ hb8, by rw [any16 hks8.1]; exact decide_eq_false hq, by omega, ?_⟩
          have w9 : Wd ((srcR p cc).tabs (lamT T)) S8 (L2.upd H8 d (dkO P w d (ks6 ++ [(kfL qq, b)]))) := w8.upd dn8 nd (fun q z => by rw [hd8] at z; exact dkO_nco (Option.some.inj z))
          have st9 : Stp ((srcR p cc).tabs (lamT T)) S H S8 (L2.upd H8 d (dkO P w d (ks6 ++ [(kfL qq, b)]))) := ((st6.trans s7).trans s8).drop (Stp.upd1 (ne_none hd8)) (fun b hb => by rw [List.mem_singleton.mp hb]; exact d0)
          refine st_append (R := fun v _ => v = .ref b) nl (vv_var rfl) (vv_var rfl) w9 (by rw [upd_ne (Ne.symm ndl)]; exact hl8) ln8 (by omega) fun v10 S10 H10 w10 s10 n10 hl10 ev10 => ?_
          subst ev10
          have st10 := st9.drop s10 (fun b hb => by rw [List.mem_singleton.mp hb]; exact l00)
          refine ⟨S10, F' ++ [qq], ws' ++ [qq], us'' ++ [.ref b], _, by rw [List.length_append, List.length_append, List.length_singleton]; omega, rfl, w10, e6.trans (s7.ex.trans (s8.ex.trans s10.ex)), st10, ?_, ⟨ks6 ++ [(kfL qq, b)], ?_, (hks8.snoc hb8).up s10.ex⟩, n10, hl10, ?_, hwi2⟩
          · exact s10.fr d (by rw [upd_same]; exact fun z => nomatch z) dn8
          · exact s10.kp d _ (fun z => (List.mem_append.mp z).elim (fun z => ndl (List.mem_singleton.mp z)) nd) upd_same
          · exact (ha6.up (s7.ex.trans (s8.ex.trans s10.ex))).append (.cons (Mono.up (s8.ex.trans s10.ex) hq7) .nil)
        · have hq : qq ∈ F' := by simpa using hq
          exact ⟨S8, F', ws', us'', _, hle, rfl, w8, e6.trans (s7.ex.trans s8.ex), st6.trans (s7.trans s8), dn8, ⟨ks6, s8.kp d _ nd hd7, hks7.up s8.ex⟩, s8.fr l (ne_none (s7.kp l _ nl hl6)) (s7.fr l (ne_none hl6) ln6), s8.kp l _ nl (s7.kp l _ nl hl6), ha6.up (s7.ex.trans s8.ex), hwi.old hi hq⟩
      · rintro s'' S6 H6 ⟨F', ws', us'', y3', hle, rfl, w6, e6, st6, dn6, ⟨ks6, hd6, hks6⟩, ln6, hl6, ha6, hwi⟩
        exact ⟨_, S6, by rw [List.length_append, List.length_singleton]; omega, F', ws', us'', y3', rfl, rfl, w6, e4.trans (s5.ex.trans e6), st6, dn6, ⟨ks6, hd6, hks6⟩, ln6, hl6, ha6, hwi.all (Nat.le_refl _), by omega⟩
end
end K16

namespace K16
open PySem PySem.Spec PyProof.Rows L2 Evl J RZ
section
variable {P : Program} {w : World} {K : PySem.W.Frag} {mg : Str → Option Value} {base : Heap}
/-! ### all cases -/
theorem lstref16 {α : Type} {R : Rl α} {xs : List α} {v : V} {S : Hp} (h : LstR R xs v S) : ∃ r, v = .ref r ∧ LstR R xs (.ref r) S := by
  obtain ⟨a, vs, rfl, h1, h2⟩ := h
  exact ⟨a, rfl, a, vs, rfl, h1, h2⟩
theorem ev_case16 {r : Rs} {s : L2.St} {S : Hp} {u : RuleD} {tm t2 t3 t4 : TE} (ho : RuleOk u) (hm : EvS r tm s S fun v S1 => LstR StrR u.moves v S1) (h2 : ∀ S1, Ex S S1 → EvV r t2 s S1 (.str u.start)) (h3 : ∀ S1, Ex S S1 → EvV r t3 s S1 (.str u.fresh)) (h4 : ∀ S1, Ex S S1 → EvV r t4 s S1 (.str u.sees)) :
    EvS r (tLst (tCons tm (tCons t2 (tCons t3 (tCons t4 tNil))))) s S fun v S1 => CaseR K u v S1 :=
  EvN.stable (en_lst (P := fun us S3 => ∃ m, us = [.ref m, .str u.start, .str u.fresh, .str u.sees] ∧ LstR StrR u.moves (.ref m) S3) (J.ea_cons hm fun x1 S1 e1 hx => J.ea_cons (h2 S1 e1) fun x2 S2 e2 hx2 => J.ea_cons (h3 S2 (e1.trans e2)) fun x3 S3 e3 hx3 => J.ea_cons (h4 S3 (e1.trans (e2.trans e3))) fun x4 S4 e4 hx4 => J.ea_nil.imp' fun us S5 e5 eu => by
    obtain ⟨m, em, hm⟩ := lstref16 hx
    exact ⟨m, by rw [em, hx2, hx3, hx4, eu], Mono.up (e2.trans (e3.trans (e4.trans e5))) hm⟩) fun us S3 ⟨m, e, _⟩ => by rw [e]; simp) fun p o S3 e3 n3 ⟨us, eo, m, eu, hm⟩ => ⟨p, m, rfl, by rw [eo, eu]; exact upd_same, Mono.up (Ex.new n3) hm, ho⟩
theorem vv_inCase16 {r : Rs} {s : L2.St} {S : Hp} {z : Str} {u : RuleD} {i : Nat} {cb cm : Addr} {tz : TE} (hz : EvV r tz s S (.str z)) (h : s[i]? = some (some (.ref cb))) (hc : S cb = some (.lst [.ref cm, .str u.start, .str u.fresh, .str u.sees])) (hm : LstR StrR u.moves (.ref cm) S) : EvV r (tOp (rInU K) tz (tOp (rIx K) (tVar i) (tC (.int 0)))) s S (.bl (decide (z ∈ u.moves))) := by
  obtain ⟨a, vs, e, h1, h2⟩ := hm
  cases e
  rw [h2.strs] at h1
  exact (vv_op hz (vv_ix0 h hc rfl) (rs_inL' (SqL.of h1) rfl (flat_strs _))).is (by rw [inV_strs])
def casesL : List RuleD := movesL.flatMap fun m => startL.flatMap fun z => freshL.flatMap fun f => seesL.map fun h => ⟨m, z, f, h⟩
def sp_every (K : PySem.W.Frag) : Sp := SpP (A := Unit) (fun _ vs _ => vs = []) (fun _ v S => ∃ us : List RuleD, us.length = 48 ∧ LstR (CaseR K) us v S)
theorem G_L_every (T : TX P w K mg) : FnOk P w K mg base CX0 1 T.f_L_every T.fd_L_every [] (sp_every K) := by
  refine T.F_L_every.ok sc_L_every (fun vs H Q E h => ?_) (fun cdv A outer s H vs Q E hr h => ?_)
  · obtain ⟨a, S, rfl, _⟩ := h
    rfl
  · obtain ⟨a, S, rfl, w0, q⟩ := h.body
    refine ⟨_, (pss_cons (ps_set (i := 0) sc_L_every.nd rfl (Or.inl rfl) (pe_lst pa_nil))
      (pss_cons (ps_for PassesOwn.never (by rfl) (pi_K (K := K) (pe_lst (pa_cons (pe_lst pa_nil) (pa_cons (pe_lst (pa_cons pe_str pa_nil)) (pa_cons (pe_lst (pa_cons pe_str pa_nil)) (pa_cons (pe_lst (pa_cons pe_str (pa_cons pe_str pa_nil))) pa_nil)))))) (pg_name (i := 1) sc_L_every.nd rfl (Or.inr rfl)) (pss_one (ps_for PassesOwn.never (by rfl) (pi_K (K := K) (pe_lst (pa_cons pe_str (pa_cons pe_str pa_nil)))) (pg_name (i := 2) sc_L_every.nd rfl (Or.inr rfl)) (pss_one (ps_for PassesOwn.never (by rfl) (pi_K (K := K) (pe_lst (pa_cons pe_str (pa_cons pe_str (pa_cons pe_str pa_nil))))) (pg_name (i := 3) sc_L_every.nd rfl (Or.inr rfl)) (pss_one (ps_expr (pe_bm PySem.F.plainAttrs_list PySem.F.slot_list_extend PySem.F.type_list_extend mt_extend (pv 0) (pa_cons (pe_lc (own := [("_law_look", 4)]) (by rfl) sc_L_every.nd (pi_K (K := K) (pe_lst (pa_cons pe_str (pa_cons pe_str pa_nil)))) (blkOk_by (own := [("_law_look", 4)]) (N := N_L_every) (sc := (defScope s_L_every)) (by decide +kernel)) (fun _ _ _ _ _ => (pg_name (i := 4) sc_L_every.nd rfl (Or.inl rfl))) (fun _ _ _ _ _ => pts_nil) (fun _ _ _ _ _ => (pe_lst (pa_cons (pv 1) (pa_cons (pv 2) (pa_cons (pv 3) (pa_cons (pv 4) pa_nil))))))) pa_nil)))))))))
      (pss_one (ps_ret (pv 0))))), ?_⟩
    refine sq_asgN (i := 0) (R := fun o _ => o = .lst []) en_nil w0 fun l o S1 H1 hn hl sl w1 s1 eo => ?_
    subst eo
    have nl := w0.notM hn
    refine sq_forA (Y := CaseR K) (X := LstR StrR) (ys := movesL) (fun m => startL.flatMap fun z => freshL.flatMap fun f => seesL.map fun h => (⟨m, z, f, h⟩ : RuleD)) 12 (fun s => ∃ x1 x2 x3 x4, s = [some (.ref l), x1, x2, x3, x4]) (fun _ _ => Nat.le_of_ble_eq_true rfl) nl (ei_list (X := LstR StrR) (ys := movesL) (ev_lstA (ar_cons (R := LstR StrR) ev_words fun S e => ar_cons (R := LstR StrR) (ev_lst1 (R := StrR) vv_c) fun S e => ar_cons (R := LstR StrR) (ev_lst1 (R := StrR) vv_c) fun S e => ar_cons (R := LstR StrR) (ev_lstA (ar_cons (R := StrR) vv_c fun _ _ => ar_cons (R := StrR) vv_c fun _ _ => ar_nil) (by decide)) fun S e => ar_nil) (by decide))) w1 ⟨[], hl, sl, .nil⟩ ⟨none, none, none, none, rfl⟩ (fun m vm s' S2 H2 zs2 mm hm ⟨x1, x2, x3, x4, es⟩ w2 e2 a2 l2 D2 k2 => ?_) fun t2 S2 H2 ⟨x1, x2, x3, x4, es⟩ w2 s2 a2 => ?_
    · subst es
      refine st_forA (D := D2) (Y := CaseR K) (X := StrR) (ys := startL) (fun z => freshL.flatMap fun f => seesL.map fun h => (⟨m, z, f, h⟩ : RuleD)) 6 (fun s => ∃ x2 x3 x4, s = [some (.ref l), some vm, x2, x3, x4]) (fun _ _ => Nat.le_of_ble_eq_true rfl) nl (ei_list (X := StrR) (ys := startL) (ev_lstA (ar_cons (R := StrR) vv_c fun _ _ => ar_cons (R := StrR) vv_c fun _ _ => ar_nil) (by decide))) w2 a2 ⟨x2, x3, x4, rfl⟩ (fun z vz s' S3 H3 zs3 mz hz ⟨x2, x3, x4, es⟩ w3 e3 a3 l3 D3 k3 => ?_) fun t3 S3 H3 ⟨x2, x3, x4, es⟩ w3 s3 a3 => k2 t3 S3 H3 ⟨_, _, _, _, es⟩ w3 s3 a3
      subst es
      refine st_forA (D := D3) (Y := CaseR K) (X := StrR) (ys := freshL) (fun f => seesL.map fun h => (⟨m, z, f, h⟩ : RuleD)) 2 (fun s => ∃ x3 x4, s = [some (.ref l), some vm, some vz, x3, x4]) (fun _ _ => Nat.le_of_ble_eq_true rfl) nl (ei_list (X := StrR) (ys := freshL) (ev_lstA (ar_cons (R := StrR) vv_c fun _ _ => ar_cons (R := StrR) vv_c fun _ _ => ar_cons (R := StrR) vv_c fun _ _ => ar_nil) (by decide))) w3 a3 ⟨x3, x4, rfl⟩ (fun f vf s' S4 H4 zs4 mf hf ⟨x3, x4, es⟩ w4 e4 a4 l4 D4 k4 => ?_) fun t4 S4 H4 ⟨x3, x4, es⟩ w4 s4 a4 => k3 t4 S4 H4 ⟨_, _, _, es⟩ w4 s4 a4
      subst es
      obtain rfl : vz = .str z := hz
      obtain rfl : vf = .str f := hf
      have hm4 := Mono.up (e3.trans e4) hm
      refine st_extendA (D := D4) (Y := CaseR K) (ys := seesL.map fun h => (⟨m, z, f, h⟩ : RuleD)) nl (vv_var rfl) (EvN.lst (X := CaseR K) (en_lcn (X := StrR) (Yr := CaseR K) (fun y => (⟨m, z, f, y⟩ : RuleD)) (ei_list (X := StrR) (ys := seesL) (ev_lstA (ar_cons (R := StrR) vv_c fun _ _ => ar_cons (R := StrR) vv_c fun _ _ => ar_nil) (by decide))) (by decide) (by intro _; rfl) fun y v S5 e5 my hy => by
        obtain rfl : v = .str y := hy
        exact ev_case16 (u := ⟨m, z, f, y⟩) ⟨mm, mz, mf, my⟩ (ev_v (R := LstR StrR) rfl (Mono.up e5 hm4)) (fun S e => vv_var rfl) (fun S e => vv_var rfl) fun S e => vv_var rfl)) w4 a4 ?_ fun S6 H6 w6 s6 a6 => k4 _ S6 H6 ⟨_, _, rfl⟩ w6 s6 a6
      have q1 : movesL.length = 4 := rfl
      have q2 : startL.length = 2 := rfl
      have q3 : freshL.length = 3 := rfl
      have q4 : seesL.length = 2 := rfl
      rw [List.length_map]
      dsimp only [List.length_nil] at l2
      omega
    · subst es
      obtain ⟨S3, w3, s3, h3⟩ := a2.settle nl w2 hn (s1.more.trans s2) Stp.refl
      exact st_ret (R := fun v S => ∃ us : List RuleD, us.length = 48 ∧ LstR (CaseR K) us v S) ((vv_var (v := .ref l) rfl).imp fun v S4 e ev => ⟨casesL, by decide +kernel, by
        rw [show v = _ from ev]
        exact Mono.up (R := LstR (CaseR K)) e h3⟩) w3 fun v S4 H4 w4 s4 h => q v S4 H4 w4 (s3.trans s4) h
end
end K16

namespace K16
open PySem PySem.Spec PyProof.Rows L2 Evl J RZ
section
variable {P : Program} {w : World} {K : PySem.W.Frag} {mg : Str → Option Value} {base : Heap}
/-! ### k16: the law's own -/
theorem beg_nodup (u : RuleD) : (begN u).Nodup := by
  unfold begN startN
  split <;> decide
theorem add_all_nd {β : Type} [DecidableEq β] : ∀ (l us : List β), (us ++ l).Nodup → l.foldl addL us = us ++ l
  | [], us, _ => (List.append_nil _).symm
  | x :: l, us, h => by
    have hx : x ∉ us := fun m => (List.nodup_append.mp h).2.2 x m x (.head _) rfl
    rw [List.foldl_cons]
    have e : addL us x = us ++ [x] := by
      unfold addL
      rw [if_neg hx]
    rw [e, add_all_nd l (us ++ [x]) (by rw [List.append_assoc]; exact h), List.append_assoc]
    rfl
def sp_lbegins (K : PySem.W.Frag) : Sp := SpP (A := RuleD) (fun u vs S => ∃ v, vs = [v] ∧ CaseR K u v S) (fun u v S => LstR StR (begN u) v S)
theorem G_L_begins (T : TX P w K mg) : FnOk P w K mg base CX0 1 T.f_L_begins T.fd_L_begins ["_law_case"] (sp_lbegins K) := by
  refine T.F_L_begins.ok sc_L_begins (fun vs H Q E h => ?_) (fun cdv A outer s H vs Q E hr h => ?_)
  · obtain ⟨a, S, ⟨v, rfl, _⟩, _⟩ := h
    rfl
  · obtain ⟨u, S, ⟨v, rfl, cb, cm, rfl, c1, c2, uo⟩, w0, q⟩ := h.body
    refine ⟨_, (pss_cons (ps_set (i := 1) sc_L_begins.nd rfl (Or.inl rfl) (pe_lst pa_nil))
      (pss_cons (ps_for PassesOwn.never (by rfl) (pi_range1 (by rfl) T.z_range (pa_cons (pe_ifExp (pt_cmpR (op_eqK (K := K) hr.units) (pe_ix (ix_K (K := K)) (pv 0) pe_int (fun _ _ => rfl)) pe_str (nomark _)) pe_int pe_int) pa_nil)) (pg_name (i := 2) sc_L_begins.nd rfl (Or.inr rfl)) (pss_one (ps_expr (pe_bm PySem.F.plainAttrs_list PySem.F.slot_list_extend PySem.F.type_list_extend mt_extend (pv 1) (pa_cons (pe_lc (own := [("_law_at", 3)]) (by rfl) sc_L_begins.nd (pi_range1 (by rfl) T.z_range (pa_cons pe_int pa_nil)) (blkOk_by (own := [("_law_at", 3)]) (N := N_L_begins) (sc := (defScope s_L_begins)) (by decide +kernel)) (fun _ _ _ _ _ => (pg_name (i := 3) sc_L_begins.nd rfl (Or.inl rfl))) (fun _ _ _ _ _ => pts_nil) (fun _ _ _ _ _ => (pe_tup (pa_cons (pv 2) (pa_cons pe_int (pa_cons pe_int (pa_cons (pv 3) (pa_cons pe_int pa_nil)))))))) pa_nil)))))
      (pss_one (ps_ret (pv 1))))), ?_⟩
    refine sq_asgN (i := 1) (R := fun o _ => o = .lst []) en_nil w0 fun l o S1 H1 hn hl sl w1 s1 eo => ?_
    subst eo
    have nl := w0.notM hn
    have h3 := startN_le u
    refine sq_forA (Y := StR) (X := FromR 0) (ys := List.range (startN u)) (fun s : Nat => (List.range 3).map fun a : Nat => [(s : Int), 0, 0, (a : Int), 0]) 3 (fun s => ∃ x2 x3, s = [some (.ref cb), some (.ref l), x2, x3]) (fun _ _ => by rw [List.length_map, List.length_range]; exact Nat.le_refl _) nl (ei_range1 (n := ((startN u : Nat) : Int)) (va_cons (ev_if (b := decide (u.start = ("front" : Str))) (tb_test (vv_op (vv_ix1 rfl (s1.ex _ _ c1) rfl) vv_c rs_eqS)) (fun e => by
      unfold startN
      rw [if_pos e]
      exact vv_c) fun e => by
      unfold startN
      rw [e]
      exact vv_c) va_nil) (by omega)) w1 ⟨[], hl, sl, .nil⟩ ⟨none, none, rfl⟩ (fun st v2 s' S2 H2 zs2 ms hs ⟨x2, x3, es⟩ w2 e2 a2 l2 D2 k2 => ?_) fun t2 S2 H2 ⟨x2, x3, es⟩ w2 s2 a2 => ?_
    · subst es
      obtain rfl : v2 = .int (0 + (st : Int)) := hs
      rw [Int.zero_add]
      rw [List.length_range] at l2
      dsimp only [List.length_nil] at l2
      refine st_extendA (D := D2) (Y := StR) (ys := (List.range 3).map fun a : Nat => [(st : Int), 0, 0, (a : Int), 0]) nl (vv_var rfl) (EvN.lst (X := StR) (en_lcn (X := FromR 0) (Yr := StR) (fun a : Nat => [(st : Int), 0, 0, (a : Int), 0]) (ei_range1 (n := 3) (va_cons vv_c va_nil) (by omega)) (by decide) (by intro _; rfl) fun y v S5 e5 my hy => by
        obtain rfl : v = .int (0 + (y : Int)) := hy
        rw [Int.zero_add]
        exact ev_five (va_cons (vv_var rfl) (va_cons vv_c (va_cons vv_c (va_cons (vv_var rfl) (va_cons vv_c va_nil))))))) w2 a2 (by rw [List.length_map, List.length_range]; omega) fun S6 H6 w6 s6 a6 => k2 _ S6 H6 ⟨_, _, rfl⟩ w6 s6 a6
    · subst es
      obtain ⟨S3, w3, s3, h3⟩ := a2.settle nl w2 hn (s1.more.trans s2) Stp.refl
      exact st_ret (R := fun v S => LstR StR (begN u) v S) ((vv_var (v := .ref l) rfl).imp fun v S4 e ev => by
        rw [show v = _ from ev]
        exact Mono.up (R := LstR StR) e h3) w3 fun v S4 H4 w4 s4 h => q v S4 H4 w4 (s3.trans s4) h
theorem goes_if {u : RuleD} {p a : Int} : goesN u p a = (!decide (p = a) && decide ((if decide (p > a) = true then ("ahead" : Str) else ("back" : Str)) ∈ u.moves)) := by
  unfold goesN
  rcases Int.lt_trichotomy p a with h | rfl | h
  · rw [decide_eq_false (show ¬ p > a by omega), decide_eq_true h, decide_eq_false (show ¬ p = a by omega), if_neg Bool.false_ne_true]
    simp
  · simp
  · rw [decide_eq_true (show p > a from h), decide_eq_false (show ¬ p < a by omega), decide_eq_false (show ¬ p = a by omega), if_pos rfl]
    simp
def sp_lbehind (K : PySem.W.Frag) : Sp := SpP (A := RuleD × St5) (fun a vs S => ∃ v x, vs = [v, x] ∧ CaseR K a.1 v S ∧ StR a.2 x S ∧ InN a.1 a.2) (fun a v S => LstR StR (behN a.1 a.2) v S)
theorem G_L_behind (T : TX P w K mg) : FnOk P w K mg base CX0 1 T.f_L_behind T.fd_L_behind ["_law_case", "_law_state"] (sp_lbehind K) := by
  refine T.F_L_behind.ok sc_L_behind (fun vs H Q E h => ?_) (fun cdv A outer s H vs Q E hr h => ?_)
  · obtain ⟨a, S, ⟨v, x, rfl, _⟩, _⟩ := h
    rfl
  · obtain ⟨⟨u, l⟩, S, ⟨v, x, rfl, ⟨cb, cm, rfl, c1, c2, uo⟩, hx, s0, d, c, a, t, e5, hin⟩, w0, q⟩ := h.body
    dsimp only at c1 c2 uo hx e5 hin q
    subst e5
    refine ⟨_, (pss_cons (ps_asg (pv 1) (pg_tupK (K := K) (n := 5) (by rfl) (pgs_cons (pg_name (i := 2) sc_L_behind.nd rfl (Or.inl rfl)) (pgs_cons (pg_name (i := 3) sc_L_behind.nd rfl (Or.inl rfl)) (pgs_cons (pg_name (i := 4) sc_L_behind.nd rfl (Or.inl rfl)) (pgs_cons (pg_name (i := 5) sc_L_behind.nd rfl (Or.inl rfl)) (pgs_cons (pg_name (i := 6) sc_L_behind.nd rfl (Or.inl rfl)) pgs_nil)))))))
      (pss_cons (ps_if (pt_cmpR (op_eqK (K := K) hr.units) (pv 3) (pe_op (op_addK (K := K)) pe_int (pe_ifExp (pt_cmpR (op_eqK (K := K) hr.units) (pe_ix (ix_K (K := K)) (pv 0) pe_int (fun _ _ => rfl)) pe_str (nomark _)) (pv 4) pe_int)) (nomark _)) (pss_one (ps_ret (pe_lst pa_nil))) pss_nil)
      (pss_cons (ps_set (i := 7) sc_L_behind.nd rfl (Or.inl rfl) (pe_ifExp (pt_cmpR op_lt (pv 3) pe_int (nomark _)) (pe_op op_mod (pe_callTy call_int1 (by rfl) T.z_int (by decide +kernel) (pa_cons (pe_op (op_addK (K := K)) (pv 2) (pv 3)) pa_nil)) pe_int) (pv 3)))
      (pss_cons (ps_set (i := 8) sc_L_behind.nd rfl (Or.inl rfl) (pe_lst (pa_cons (pe_tup (pa_cons (pv 2) (pa_cons (pe_op (op_addK (K := K)) (pv 3) pe_int) (pa_cons (pv 4) (pa_cons (pv 5) (pa_cons (pe_op (op_addK (K := K)) (pv 6) (pe_callTy call_int1 (by rfl) T.z_int (by decide +kernel) (pa_cons (pe_and (pe_cmpR (op_eqK (K := K) hr.units) (pv 7) (pv 5) (nomark _)) (pe_one (pe_cmpR op_lt (pv 6) pe_int (nomark _)))) pa_nil))) pa_nil)))))) pa_nil)))
      (pss_cons (ps_for PassesOwn.never (by rfl) (pi_range1 (by rfl) T.z_range (pa_cons (pe_op (op_addK (K := K)) pe_int (pv 4)) pa_nil)) (pg_name (i := 9) sc_L_behind.nd rfl (Or.inl rfl)) (pss_one (ps_if (PW.pt (pw_and (pt_cmpR (op_neK (K := K) hr.units) (pv 9) (pv 5) (nomark _)) (pw_and1 (pt_cmpR (op_inK (K := K)) (pe_ifExp (pt_cmpR op_gt (pv 9) (pv 5) (nomark _)) pe_str pe_str) (pe_ix (ix_K (K := K)) (pv 0) pe_int (fun _ _ => rfl)) (by with_unfolding_all rfl))))) (pss_one (ps_expr (pe_bm PySem.F.plainAttrs_list PySem.F.slot_list_append PySem.F.type_list_append mt_append (pv 8) (pa_cons (pe_tup (pa_cons (pv 2) (pa_cons (pv 3) (pa_cons (pv 4) (pa_cons (pv 9) (pa_cons (pv 6) pa_nil)))))) pa_nil)))) pss_nil)))
      (pss_cons (ps_if (PW.pt (pw_and (pt_cmpR (op_neK (K := K) hr.units) (pe_ix (ix_K (K := K)) (pv 0) pe_int (fun _ _ => rfl)) pe_str (nomark _)) (pw_and1 (pt_cmpR op_lt (pv 4) pe_int (nomark _))))) (pss_one (ps_expr (pe_bm PySem.F.plainAttrs_list PySem.F.slot_list_append PySem.F.type_list_append mt_append (pv 8) (pa_cons (pe_tup (pa_cons (pv 2) (pa_cons (pv 3) (pa_cons (pe_op (op_addK (K := K)) (pv 4) pe_int) (pa_cons (pv 5) (pa_cons (pv 6) pa_nil)))))) pa_nil)))) pss_nil)
      (pss_one (ps_ret (pv 8))))))))), ?_⟩
    refine sq_five rfl rfl hx w0 ?_
    refine sq_if (b := decide (d = endN u c)) (tb_test (vv_op (vv_var rfl) (vv_op vv_c (ev_if (R := fun v _ => v = .int (if decide (u.fresh = ("again" : Str)) = true then c else 0)) (b := decide (u.fresh = ("again" : Str))) (tb_test (vv_op (vv_ix2 rfl c1 rfl) vv_c rs_eqS)) (fun e => by
      rw [if_pos e]
      exact vv_var rfl) fun e => by
      rw [e]
      exact vv_c) rs_add) rs_eqI)) w0 (fun he S1 H1 w1 s1 => ?_) fun he S1 H1 w1 s1 => ?_
    · refine st_ret (R := fun v S => LstR StR (behN u [s0, d, c, a, t]) v S) (ev_nilL (R := StR) |>.imp fun v S2 _ h => ?_) w1 fun v S2 H2 w2 s2 h => q v S2 H2 w2 (s1.trans s2) h
      rw [behN_at, if_pos he]
      exact h
    · have c1a := s1.ex _ _ c1
      have c2a := Mono.up s1.ex c2
      refine sq_asg (R := fun v _ => v = .int (pageN s0 d)) (ev_if (b := decide (d < 3)) (tb_test (vv_op (vv_var rfl) vv_c rs_I0)) (fun e => by
        unfold pageN
        rw [if_pos e]
        exact vv_op (vv_cb (va_cons (vv_op (vv_var rfl) (vv_var rfl) rs_add) va_nil) rc_int) vv_c (rs_I (C := fun _ j => 0 < j) (g := fun i j => .int (i % j)) (by omega))) fun e => by
        unfold pageN
        rw [e]
        exact vv_var rfl) w1 fun v7 S2 H2 w2 s2 ev => ?_
      subst ev
      have hvis : (if (decide (pageN s0 d = a) && decide (t < 2)) = true then t + 1 else t) = t + (if (decide (pageN s0 d = a) && decide (t < 2)) then 1 else 0) := by
        split <;> omega
      refine sq_asgN (i := 8) (R := fun o S1 => ∃ ws, o = .lst ws ∧ All2 StR S1 [visN s0 d c a t] ws) (J.EvN.imp (en_lst (P := fun us S1 => All2 StR S1 [visN s0 d c a t] us) (ar_cons (R := StR) (ev_five (va_cons (vv_var rfl) (va_cons (vv_op (vv_var rfl) vv_c rs_add) (va_cons (vv_var rfl) (va_cons (vv_var rfl) (va_cons (by rw [hvis]; exact vv_op (vv_var rfl) (vv_cb (va_cons (vv_and (vv_op (vv_var rfl) (vv_var rfl) rs_eqI) fun _ => vv_op (vv_var rfl) vv_c rs_I0) va_nil) rc_intB) rs_add) va_nil)))))) fun _ _ => ar_nil) fun us S1 h => by rw [h.len, List.length_singleton]; omega) fun o S1 _ h => h) w2 fun l o S3 H3 l0 hl sl w3 s3 ⟨ws, eo, hws⟩ => ?_
      subst eo
      have nl := w2.notM l0
      have l00 : H l = none := pre_none (s1.trans s2) l0
      have c1b := s3.ex _ _ (s2.ex _ _ c1a)
      have c2b := Mono.up (s2.ex.trans s3.ex) c2a
      have hc := hin.c1
      refine sq_forA (Y := StR) (X := FromR 0) (ys := List.range (3 + c).toNat) (fun p : Nat => if goesN u (p : Int) a = true then [[s0, d, c, (p : Int), t]] else []) 1 (fun s => ∃ y9, s = [some (.ref cb), some x, some (.int s0), some (.int d), some (.int c), some (.int a), some (.int t), some (.int (pageN s0 d)), some (.ref l), y9]) (fun y _ => by split <;> simp) nl (ei_range1 (n := 3 + c) (va_cons (vv_op vv_c (vv_var rfl) rs_add) va_nil) (by omega)) w3 ⟨ws, hl, sl, hws⟩ ⟨none, rfl⟩ (fun p v9 s' S4 H4 zs mp hp ⟨y9, es⟩ w4 e4 a4 l4 D4 k4 => ?_) fun s4 S4 H4 ⟨y9, es⟩ w4 st4 a4 => ?_
      · subst es
        obtain rfl : v9 = .int (0 + (p : Int)) := hp
        rw [Int.zero_add]
        have c1c := e4 _ _ c1b
        have c2c := Mono.up e4 c2b
        rw [List.length_range, List.length_singleton] at l4
        refine st_if (b := goesN u (p : Int) a) (EvB.is (tb_and (tb_test (vv_op (vv_var rfl) (vv_var rfl) rs_neI)) fun _ => tb_test (vv_inCase16 (z := if decide ((p : Int) > a) = true then ("ahead" : Str) else ("back" : Str)) (ev_if (b := decide ((p : Int) > a)) (tb_test (vv_op (vv_var rfl) (vv_var rfl) rs_I0)) (fun e => by
          rw [if_pos e]
          exact vv_c) fun e => by
          rw [e]
          exact vv_c) rfl c1c c2c)) goes_if.symm) w4 (fun hg S5 H5 w5 s5 => ?_) fun hg S5 H5 w5 s5 => ?_
        · rw [if_pos hg] at k4
          exact st_appendA (D := { D4 with nx := D4.nx }) nl (vv_var rfl) (ev_five (va_cons (vv_var rfl) (va_cons (vv_var rfl) (va_cons (vv_var rfl) (va_cons (vv_var rfl) (va_cons (vv_var rfl) va_nil)))))) w5 (a4.step nl s5) (by omega) fun S6 H6 w6 s6 a6 => k4 _ S6 H6 ⟨_, rfl⟩ w6 (s5.more.trans s6) a6
        · rw [hg, if_neg Bool.false_ne_true, List.append_nil] at k4
          exact k4 _ S5 H5 ⟨_, rfl⟩ w5 s5.more (a4.step nl s5)
      · subst es
        rw [mov_flat] at a4
        have hml := mov_len (u := u) (s := s0) (d := d) (a := a) (t := t) hc
        have e34 := st4.ex
        refine sq_if (b := !decide (u.fresh = ("none" : Str)) && decide (c < 2)) (tb_and (tb_test (vv_op (vv_ix2 rfl (e34 _ _ c1b) rfl) vv_c rs_neS)) fun _ => tb_test (vv_op (vv_var rfl) vv_c rs_I0)) w4 (fun hc S5 H5 w5 s5 => ?_) fun hc S5 H5 w5 s5 => ?_
        · refine st_appendA nl (vv_var rfl) (ev_five (a := s0) (b := d) (c := c + 1) (d := a) (e := t) (va_cons (vv_var rfl) (va_cons (vv_var rfl) (va_cons (vv_op (vv_var rfl) vv_c rs_add) (va_cons (vv_var rfl) (va_cons (vv_var rfl) va_nil)))))) w5 (a4.step nl s5) (by rw [List.length_append, List.length_singleton]; omega) fun S6 H6 w6 s6 a6 => ?_
          obtain ⟨S7, w7, s7, h7⟩ := a6.settle nl w6 l00 (((s1.trans (s2.trans s3)).more.trans st4).trans (s5.more.trans s6)) Stp.refl
          refine st_ret (R := fun v S => LstR StR (behN u [s0, d, c, a, t]) v S) ((vv_var (v := .ref l) rfl).imp fun v S e ev => ?_) w7 fun v S8 H8 w8 s8 h => q v S8 H8 w8 (s7.trans s8) h
          rw [show v = _ from ev, behN_at, he, if_neg Bool.false_ne_true]
          unfold cameN
          rw [if_pos hc]
          exact Mono.up (R := LstR StR) e h7
        · obtain ⟨S7, w7, s7, h7⟩ := (a4.step nl s5).settle nl w5 l00 (((s1.trans (s2.trans s3)).more.trans st4).trans s5.more) Stp.refl
          refine st_ret (R := fun v S => LstR StR (behN u [s0, d, c, a, t]) v S) ((vv_var (v := .ref l) rfl).imp fun v S e ev => ?_) w7 fun v S8 H8 w8 s8 h => q v S8 H8 w8 (s7.trans s8) h
          rw [show v = _ from ev, behN_at, he, if_neg Bool.false_ne_true]
          unfold cameN
          rw [hc, if_neg Bool.false_ne_true, List.append_nil]
          exact Mono.up (R := LstR StR) e h7
end
end K16

namespace K16
open PySem PySem.Spec PyProof.Rows L2 Evl J RZ
section
variable {P : Program} {w : World} {K : PySem.W.Frag} {mg : Str → Option Value} {base : Heap}
/-! ### k16: the law's own lots -/
theorem dp_st {S : Hp} (l : St5) (v : V) (S : Hp) (h : StR l v S) : Dp K S v (dSt l) := by
  obtain ⟨a, rfl, h⟩ := h
  exact .tup (SqT.of h) (dpa_keys (kfL l))
theorem WG.popF {α : Type} {nx : α → List α} {B : List α} {p : α} {F ws : List α} (h : WG nx B F (p :: ws)) : WK nx B p 0 F ws :=
  ⟨h.nd, fun q hq => h.sub q (.tail _ hq), h.re, h.fst, fun p' hp hn ne => h.cl p' hp fun z => (List.mem_cons.mp z).elim ne hn, fun j q hj => absurd hj (Nat.not_lt_zero _), h.sub p (.head _)⟩
theorem sq_pop16 {te te' : TE} {g : TG} {tu tz : TS} {D : Ends} {s : L2.St} {H H1 : Hp} (h : ∀ Q : VK, te' s H1 Q → te s H Q) (k : tFor (iU K te') g tu { D with nx := tz D } s H1) : tSeq (tFor (iU K te) g tu) tz D s H := for_pop16 (D := { D with nx := tz D }) h k
def sp_lclosed (K : PySem.W.Frag) (T : List (Addr × Str)) : Sp := SpR (A := (Addr × Addr) × RuleD) (fun a => (srcR a.1.1 a.1.2).tabs T) (fun a vs S _ => ∃ v x, vs = [v, x] ∧ CaseR K a.2 v S ∧ LstR StR (begN a.2) x S) (fun a v S _ => ∃ F : List St5, F.Nodup ∧ (∀ q, q ∈ F ↔ ReachG (behN a.2) (begN a.2) q) ∧ LstR StR (sortA dSt F) v S)
theorem G_L_closed (T : TX P w K mg) (TB : ∀ y ∈ lamC T, LamX.TabB base mg y.1 y.2) : FnG P w K mg base 2 T.f_L_closed T.fd_L_closed ["_law_case", "_law_some"] (sp_lclosed K (lamT T)) := by
  refine ok_GC T.FC_L_closed sc_L_closed (fun vs H Q E h => ?_) (fun A outer s H vs Q E g hr h => ?_)
  · obtain ⟨a, S, ⟨v, x, rfl, _⟩, _⟩ := h
    rfl
  · obtain ⟨⟨⟨p, cc⟩, u⟩, S, ⟨v, x, rfl, hu, hx⟩, w0, q⟩ := h
    dsimp only at hu hx w0 q
    refine ⟨_, (pss_cons (ps_par (i := 2) (j := 3) (by rfl) sc_L_closed.nd rfl rfl (by decide) rfl rfl (pa_cons (pe_callTy (call_listK (K := K)) (by rfl) T.z_list (by decide +kernel) (pa_cons (pv 1) pa_nil)) (pa_cons pe_int pa_nil)) (by rfl))
      (pss_cons (ps_set (i := 4) sc_L_closed.nd rfl (Or.inl rfl) (pe_callTy (call_dictE (K := K) (Nat.lt_of_le_of_lt (Nat.le_trans (Nat.add_le_add_left (by decide : 65 ≤ 200) _) (Nat.add_le_add_right (Nat.le_add_right _ _) _)) hr.un)) (by rfl) T.z_dict (by decide +kernel) (pa_cons (pe_lc (own := [("_law_state", 5)]) (by rfl) sc_L_closed.nd (pi_K (K := K) (pv 2)) (blkOk_by (own := [("_law_state", 5)]) (N := N_L_closed) (sc := (defScope s_L_closed)) (by decide +kernel)) (fun _ _ _ _ _ => (pg_name (i := 5) sc_L_closed.nd rfl (Or.inl rfl))) (fun _ _ _ _ _ => pts_nil) (fun _ _ _ _ _ => (pe_tup (pa_cons (pv 5) (pa_cons pe_bl pa_nil))))) pa_nil)))
      (pss_cons (ps_while PassesOwn.never (pt_cmpR op_lt (pv 3) (pe_callB (call_lenK (K := K)) (by rfl) T.z_len (by decide +kernel) (pa_cons (pv 2) pa_nil)) (nomark _)) (pss_cons (ps_for PassesOwn.never (by rfl) (pi_K (K := K) (pe_call (G_L_behind T) (hr.mono (by decide)) (by rfl) T.g_L_behind T.F_L_behind.kp T.b_L_behind .nil pass0 (pa_cons (pv 0) (pa_cons (pe_ix (ix_K (K := K)) (pv 2) (pv 3) (fun _ _ => rfl)) pa_nil)))) (pg_name (i := 5) sc_L_closed.nd rfl (Or.inl rfl)) (pss_one (ps_if (pt_cmpR (op_notInE (units1 hr)) (pv 5) (pv 4) (by with_unfolding_all rfl)) (pss_cons (ps_dputE (units1 hr) (pv 4) (pv 5) pe_bl (by rfl))
            (pss_one (ps_expr (pe_bm PySem.F.plainAttrs_list PySem.F.slot_list_append PySem.F.type_list_append mt_append (pv 2) (pa_cons (pv 5) pa_nil))))) pss_nil)))
        (pss_one (ps_set (i := 3) sc_L_closed.nd rfl (Or.inl rfl) (pe_op (op_addK (K := K)) (pv 3) pe_int)))))
      (pss_one (ps_ret (pe_sortSK (K := K) (k := 0) g (hr.mono (by decide)) (by rfl) T.z_sorted T.z_str (pv 2) (TB _ (lc_L_closed T)) rfl (lm_L_closed T) (lu_L_closed T) (strS_by (by decide +kernel)))))))), ?_⟩
    have hbl : (begN u).length ≤ 9 := by
      have := flat_len (ys := List.range (startN u)) (f := fun s : Nat => (List.range 3).map fun a : Nat => [(s : Int), 0, 0, (a : Int), 0]) (m := 3) fun y _ => by rw [List.length_map, List.length_range]; exact Nat.le_refl _
      have h3 := startN_le u
      rw [List.length_range] at this
      exact Nat.le_trans this (by omega)
    have hBi : ∀ l ∈ begN u, InN u l := fun l hl => beg_in hl
    have hBn := beg_nodup u
    refine sq_par ?_
    refine (en_list (K := K) (X := StR) (ea_one (ev_v (R := SeqR K StR) rfl (.inl hx))) : EvN ((srcR p cc).tabs (lamT T)) _ _ S _) S H (Ex.refl _) w0 _ fun l o S1 H1 l0 hl1 sl1 w1 s1 ⟨us, eo, hus⟩ => ?_
    subst eo
    refine ⟨_, _, rfl, ?_⟩
    have nl := w0.notM l0
    refine sq_dictE (K := K) (kf := kfL) kfL_inj (F := begN u) (EvN.lst (X := PairS StR BoolR) (en_lcn (X := StR) (Yr := PairS StR BoolR) (fun l => (l, true)) (ei_list (X := StR) (ys := begN u) ((vv_var rfl).imp fun v S3 e ev => ⟨l, us, ev, e _ _ upd_same, hus.up ((Ex.new sl1).trans e)⟩)) (by omega) (by intro _; rfl) fun y v S3 e3 my hy => ev_pairS (R := StR) (R' := BoolR) (ev_v (R := StR) rfl hy) fun S4 e4 => vv_c)) (w1.settle hl1 nl) fun d ks S2 H2 d0 d1 d2 hks w2 s2 => ?_
    rw [add_all_nd _ _ (by rw [List.nil_append]; exact hBn), List.nil_append] at hks
    have s2d := s2.del sl1
    have w2d := w2.del (l := l)
    have n2 : (J.del l S2) l = none := J.del_same
    have hl2 := w2.ex _ _ (s2.ex _ _ upd_same)
    have hks2 : KsG kfL (J.del l S2) (begN u) ks := ⟨hks.1, fun z hz => by
      have := hks.2 z hz
      have ne : z.2 ≠ l := fun e => by
        rw [e, s2.ex _ _ upd_same] at this
        cases this
      rw [J.del_ne ne]
      exact this⟩
    have d2d : (J.del l S2) d = none := by
      have : d ≠ l := fun e => by
        rw [e, hl1] at d0
        cases d0
      rw [J.del_ne this]
      exact d2
    have nd := w1.notM d0
    have ndl : d ≠ l := fun e => by
      rw [e, hl1] at d0
      cases d0
    have d00 := pre_none s1 d0
    generalize J.del l S2 = S2 at s2d w2d n2 hks2 d2d
    have st2 := s1.trans s2d
    refine sq_while (S := S2) (fun μ s' S' H' => ∃ F us y5, ∃ k : Nat, μ = 810 - k ∧ k ≤ List.length (α := St5) F ∧ s' = [some v, some x, some (.ref l), some (.int (k : Int)), some (.ref d), y5] ∧ Wd ((srcR p cc).tabs (lamT T)) S' H' ∧ Ex S2 S' ∧ Stp ((srcR p cc).tabs (lamT T)) S H S' H' ∧ S' d = none ∧ (∃ ks, H' d = some (dkO P w d ks) ∧ KsG kfL S' F ks) ∧ S' l = none ∧ H' l = some (.lst us) ∧ All2 StR S' F us ∧ WG (behN u) (begN u) F (F.drop k))
      ⟨begN u, us, none, 0, rfl, Nat.zero_le _, rfl, w2d, Ex.refl _, st2, d2d, ⟨ks, d1, hks2⟩, n2, hl2, hus.up s2d.ex, WG.start hBn⟩ ?_
    rintro μ s' S' H' ⟨F, us, y5, k, rfl, hk, rfl, w', e', st', dn', ⟨ks, hd', hks⟩, ln', hl', hall, hwl⟩
    have hfew := states_few5 hwl.nd fun q hq => reach_in5 hBi (hwl.re q hq)
    refine borrowT (b := decide ((k : Int) < (F.length : Int))) (tb_test (vv_op (vv_var rfl) (vv_len (K := K) (X := StR) (ys := F) ((vv_var rfl).imp fun u S4 e ev => .inl ⟨l, us, ev, e _ _ upd_same, hall.up ((Ex.new ln').trans e)⟩)) rs_I0)) w' hl' nl ln' fun S4 H4 w4 s4 n4 => ?_
    have hd4 := s4.kp d _ nd hd'
    have hl4 := s4.kp l _ nl hl'
    have dn4 := s4.fr d (ne_none hd') dn'
    have e4 := e'.trans s4.ex
    have st4 := st'.trans s4
    have hall4 := hall.up s4.ex
    by_cases hkl : k < F.length
    · rw [decide_eq_true (show (k : Int) < (F.length : Int) by omega)]
      refine wh_go16 ?_
      obtain ⟨x4, hx4, hxr⟩ := hall4.at (i := k) (x := F[k]) (List.getElem?_eq_getElem hkl)
      have hdrop : F.drop k = F[k] :: F.drop (k + 1) := List.drop_eq_getElem_cons hkl
      rw [hdrop] at hwl
      have hwk := hwl.popF
      generalize hpp : F[k] = pp at hxr hwk
      have hin : InN u pp := reach_in5 hBi (hwk.re pp hwk.pF)
      refine sq_pop16 (te' := tCall (sp_lbehind K) [] E0 (tCons (tVar 0) (tCons (tC x4) tNil))) (H1 := H4) (fun Q ⟨v0, e0, hQ⟩ => ⟨v0, e0, .ref l, rfl, .int (k : Int), rfl, (rs_ixL' (S := H4) (SqL.of hl4) (atI_nat hx4)) H4 (Ex.refl _) _ hQ⟩) ?_
      have hu4 := Mono.up (s1.ex.trans (s2d.ex.trans e4)) hu
      have hks4 := hks.up s4.ex
      refine st_for (ei_list (X := StR) (ys := behN u pp) (vv_call (R := fun v S => LstR StR (behN u pp) v S) (u, pp) (va_cons (vv_var rfl) (va_cons vv_c va_nil)) (fun S e => ⟨v, x4, rfl, Mono.up e hu4, Mono.up e hxr, hin⟩) fun v _ _ h => h)) w4 fun S5 H5 w5 s5 => ?_
      refine ⟨fun i s'' S'' H'' => ∃ F' us'' y5, k < List.length (α := St5) F' ∧ s'' = [some v, some x, some (.ref l), some (.int (k : Int)), some (.ref d), y5] ∧ Wd ((srcR p cc).tabs (lamT T)) S'' H'' ∧ Ex S5 S'' ∧ Stp ((srcR p cc).tabs (lamT T)) S H S'' H'' ∧ S'' d = none ∧ (∃ ks, H'' d = some (dkO P w d ks) ∧ KsG kfL S'' F' ks) ∧ S'' l = none ∧ H'' l = some (.lst us'') ∧ All2 StR S'' F' us'' ∧ WK (behN u) (begN u) pp i F' (F'.drop (k + 1)),
        ⟨F, us, y5, hkl, rfl, w5, Ex.refl _, st4.trans s5, s5.fr d (ne_none hd4) dn4, ⟨ks, s5.kp d _ nd hd4, hks4.up s5.ex⟩, s5.fr l (ne_none hl4) n4, s5.kp l _ nl hl4, hall4.up s5.ex, hwk⟩, fun i s'' S'' H'' ⟨_, _, _, _, _, h1, h2, _⟩ => ⟨h1, h2⟩, ?_, ?_⟩
      · rintro i qq uq s'' S6 H6 S7 H7 hi ⟨F', us'', y5, hkF, rfl, w6, e6, st6, dn6, ⟨ks6, hd6, hks6⟩, ln6, hl6, ha6, hwi⟩ w7 s7 hq7
        obtain ⟨b, rfl, hb⟩ := id hq7
        have hd7 := s7.kp d _ nd hd6
        have dn7 := s7.fr d (ne_none hd6) dn6
        have hks7 := hks6.up s7.ex
        have hl7 := s7.kp l _ nl hl6
        have ln7 := s7.fr l (ne_none hl6) ln6
        refine st_ifB (l := d) (o := dkO P w d ks6) (b := !decide (qq ∈ F')) (tb_test (vv_op (vv_var rfl) (vv_var rfl) fun H9 e9 Q9 q9 => ⟨d, ks6, b, kfL qq, rfl, rfl, e9 _ _ upd_same, fun z hz => e9 _ _ (Ex.new dn7 _ _ (hks7.2 z hz)), e9 _ _ (Ex.new dn7 _ _ hb), by rw [any16 hks7.1]; exact q9⟩)) w7 hd7 nd dn7 (fun hq S8 H8 w8 s8 dn8 => ?_) fun hq S8 H8 w8 s8 dn8 => ?_
        · have hq : qq ∉ F' := by simpa using hq
          have hwi2 := hwi.new hi hq
          have few2 := states_few5 hwi2.nd fun a ha => reach_in5 hBi (hwi2.re a ha)
          rw [List.length_append, List.length_singleton] at few2
          have hd8 := s8.kp d _ nd hd7
          have hks8 := hks7.up s8.ex
          have hb8 := s8.ex _ _ hb
          have hl8 := s8.kp l _ nl hl7
          have ln8 := s8.fr l (ne_none hl7) ln7
          have kl := hks6.len
          have ul := ha6.len
          refine ⟨_, rfl, _, rfl, d, ks6, b, kfL qq, rfl, rfl, rfl, hd8, fun z hz => w8.ex _ _ (hks8.2 z hz), w8.ex _ _ hb8, by rw [any16 hks8.1]; exact decide_eq_false hq, by omega, ?_⟩
          have w9 : Wd ((srcR p cc).tabs (lamT T)) S8 (L2.upd H8 d (dkO P w d (ks6 ++ [(kfL qq, b)]))) := w8.upd dn8 nd (fun q z => by rw [hd8] at z; exact dkO_nco (Option.some.inj z))
          have st9 : Stp ((srcR p cc).tabs (lamT T)) S H S8 (L2.upd H8 d (dkO P w d (ks6 ++ [(kfL qq, b)]))) := ((st6.trans s7).trans s8).drop (Stp.upd1 (ne_none hd8)) (fun b hb => by rw [List.mem_singleton.mp hb]; exact d00)
          refine st_append (R := fun v _ => v = .ref b) nl (vv_var rfl) (vv_var rfl) w9 (by rw [upd_ne (Ne.symm ndl)]; exact hl8) ln8 (by omega) fun v10 S10 H10 w10 s10 n10 hl10 ev10 => ?_
          subst ev10
          have st10 := st9.drop s10 (fun b hb => by rw [List.mem_singleton.mp hb]; exact l0)
          refine ⟨S10, F' ++ [qq], us'' ++ [.ref b], _, by rw [List.length_append]; omega, rfl, w10, e6.trans (s7.ex.trans (s8.ex.trans s10.ex)), st10, ?_, ⟨ks6 ++ [(kfL qq, b)], ?_, (hks8.snoc hb8).up s10.ex⟩, n10, hl10, ?_, ?_⟩
          · exact s10.fr d (by rw [upd_same]; exact fun z => nomatch z) dn8
          · exact s10.kp d _ (fun z => (List.mem_append.mp z).elim (fun z => ndl (List.mem_singleton.mp z)) nd) upd_same
          · exact (ha6.up (s7.ex.trans (s8.ex.trans s10.ex))).append (.cons (Mono.up (s8.ex.trans s10.ex) hq7) .nil)
          · rw [List.drop_append_of_le_length (by omega)]
            exact hwi2
        · have hq : qq ∈ F' := by simpa using hq
          exact ⟨S8, F', us'', _, hkF, rfl, w8, e6.trans (s7.ex.trans s8.ex), st6.trans (s7.trans s8), dn8, ⟨ks6, s8.kp d _ nd hd7, hks7.up s8.ex⟩, s8.fr l (ne_none hl7) ln7, s8.kp l _ nl hl7, ha6.up (s7.ex.trans s8.ex), hwi.old hi hq⟩
      · rintro s'' S6 H6 ⟨F', us'', y5', hkF, rfl, w6, e6, st6, dn6, ⟨ks6, hd6, hks6⟩, ln6, hl6, ha6, hwi⟩
        have hwG := hwi.all (Nat.le_refl _)
        have few := states_few5 hwG.nd fun a ha => reach_in5 hBi (hwG.re a ha)
        refine st_asg (R := fun v _ => v = .int ((k + 1 : Nat) : Int)) (EvV.is (vv_op (vv_var rfl) vv_c rs_add) (by rw [Int.natCast_add]; rfl)) w6 fun v7 S7 H7 w7 s7 ev7 => ?_
        subst ev7
        exact ⟨_, S7, by omega, F', us'', y5', k + 1, rfl, hkF, rfl, w7, e4.trans (s5.ex.trans (e6.trans s7.ex)), st6.trans s7, s7.fr d (ne_none hd6) dn6, ⟨ks6, s7.kp d _ nd hd6, hks6.up s7.ex⟩, s7.fr l (ne_none hl6) ln6, s7.kp l _ nl hl6, ha6.up s7.ex, hwG⟩
    · rw [decide_eq_false (show ¬ (k : Int) < (F.length : Int) by omega), if_neg Bool.false_ne_true]
      rw [List.drop_of_length_le (by omega)] at hwl
      have ha5 : LstR StR F (.ref l) (L2.upd S4 l (.lst us)) := ⟨l, us, rfl, upd_same, hall4.up (Ex.new n4)⟩
      have w5 := w4.settle hl4 nl
      have st5 := st4.settle l0 n4 (o := .lst us)
      refine st_ret (R := fun v S => LstR StR (sortA dSt F) v S) (EvN.lst (X := StR) (en_sortS (K := K) (r := srcR p cc) (R := StR) dSt (fun a v S h => dp_st (S := S) a v S h) (fun y hy => keyd5 (reach_in5 hBi (hwl.re y hy))) (lm_L_closed T) (ev_v (R := LstR StR) (r := (srcR p cc).tabs (lamT T)) rfl ha5))) w5 fun v6 S6 H6 w6 s6 h6 => q v6 S6 H6 w6 (st5.trans s6) ⟨F, hwl.nd, hwl.end_, h6⟩
end
end K16

namespace K16
open PySem PySem.Spec PyProof.Rows L2 Evl J RZ
section
variable {P : Program} {w : World} {K : PySem.W.Frag} {mg : Str → Option Value} {base : Heap}
/-! ### k16: what a lot shows; the law -/
def shB (u : RuleD) (z : Str) (l : St5) : Bool := (decide (z = ("doubled" : Str)) && dblN l) || (decide (z = ("missed" : Str)) && missN u l)
theorem shB_miss {u : RuleD} {l : St5} : shB u "missed" l = missN u l := by
  unfold shB
  rw [decide_eq_false (show ¬ (("missed" : Str) = ("doubled" : Str)) by decide +kernel), decide_eq_true rfl, Bool.false_and, Bool.false_or, Bool.true_and]
theorem shB_dbl {u : RuleD} {l : St5} : shB u "doubled" l = dblN l := by
  unfold shB
  rw [decide_eq_false (show ¬ (("doubled" : Str) = ("missed" : Str)) by decide +kernel), decide_eq_true rfl, Bool.false_and, Bool.or_false, Bool.true_and]
theorem shows_are {u : RuleD} {F : List St5} (hF : ∀ q, q ∈ F ↔ ReachG (behN u) (begN u) q) (f : St5 → Bool) (b : Bool) (h : (∃ l, ReachG (behN u) (begN u) l ∧ f l = true) ↔ b = true) : (sortA dSt F).any f = b := by
  refine Bool.eq_iff_iff.mpr (Iff.trans ?_ h)
  rw [List.any_eq_true]
  exact ⟨fun ⟨l, m, hl⟩ => ⟨l, (hF l).mp (sortA_mem.mp m), hl⟩, fun ⟨l, m, hl⟩ => ⟨l, sortA_mem.mpr ((hF l).mpr m), hl⟩⟩
def sp_lshows (K : PySem.W.Frag) : Sp := SpP (A := RuleD × Str × List St5) (fun a vs S => ∃ v x, vs = [v, .str a.2.1, x] ∧ CaseR K a.1 v S ∧ LstR StR a.2.2 x S ∧ ∀ l ∈ a.2.2, InN a.1 l) (fun a v _ => v = .bl (a.2.2.any (shB a.1 a.2.1)))
theorem G_L_shows (T : TX P w K mg) : FnOk P w K mg base CX0 1 T.f_L_shows T.fd_L_shows ["_law_case", "_law_harm", "_law_states"] (sp_lshows K) := by
  refine T.F_L_shows.ok sc_L_shows (fun vs H Q E h => ?_) (fun cdv A outer s H vs Q E hr h => ?_)
  · obtain ⟨a, S, ⟨v, x, rfl, _⟩, _⟩ := h
    rfl
  · obtain ⟨⟨u, z, xs⟩, S, ⟨v, x, rfl, ⟨cb, cm, rfl, c1, c2, uo⟩, hx, hin⟩, w0, q⟩ := h.body
    dsimp only at c1 c2 uo hx hin q
    refine ⟨_, (pss_cons (ps_for PassesOwn.never (by rfl) (pi_K (K := K) (pv 2)) (pg_tupK (K := K) (n := 5) (by rfl) (pgs_cons (pg_name (i := 3) sc_L_shows.nd rfl (Or.inl rfl)) (pgs_cons (pg_name (i := 4) sc_L_shows.nd rfl (Or.inl rfl)) (pgs_cons (pg_name (i := 5) sc_L_shows.nd rfl (Or.inl rfl)) (pgs_cons (pg_name (i := 6) sc_L_shows.nd rfl (Or.inl rfl)) (pgs_cons (pg_name (i := 7) sc_L_shows.nd rfl (Or.inl rfl)) pgs_nil)))))) (pss_cons (ps_if (PW.pt (pw_and (pt_cmpR (op_eqK (K := K) hr.units) (pv 1) pe_str (nomark _)) (pw_and1 (pt_cmpR (op_eqK (K := K) hr.units) (pv 7) pe_int (nomark _))))) (pss_one (ps_ret pe_bl)) pss_nil)
        (pss_cons (ps_set (i := 8) sc_L_shows.nd rfl (Or.inl rfl) (pe_cmpR (op_eqK (K := K) hr.units) (pv 4) (pe_op (op_addK (K := K)) pe_int (pe_ifExp (pt_cmpR (op_eqK (K := K) hr.units) (pe_ix (ix_K (K := K)) (pv 0) pe_int (fun _ _ => rfl)) pe_str (nomark _)) (pv 5) pe_int)) (nomark _)))
        (pss_one (ps_if (PW.pt (pw_and (pt_cmpR (op_eqK (K := K) hr.units) (pv 1) pe_str (nomark _)) (pw_and (pt_val (pv 8)) (pw_and1 (pt_cmpR (op_eqK (K := K) hr.units) (pv 7) pe_int (nomark _)))))) (pss_one (ps_ret pe_bl)) pss_nil)))))
      (pss_one (ps_ret pe_bl))), ?_⟩
    refine sq_for (ei_list (X := StR) (ev_v (R := LstR StR) rfl hx)) w0 fun S1 H1 w1 s1 => ?_
    refine ⟨fun i s' S' H' => Wd Rs.nil S' H' ∧ Ex S1 S' ∧ Stp Rs.nil S H S' H' ∧ (∀ (j : Nat) (l : St5), j < i → xs[j]? = some l → shB u z l = false) ∧ ∃ y3 y4 y5 y6 y7 y8, s' = [some (.ref cb), some (.str z), some x, y3, y4, y5, y6, y7, y8], ⟨w1, Ex.refl _, s1, fun j l hj => absurd hj (Nat.not_lt_zero _), none, none, none, none, none, none, rfl⟩, fun i s' S' H' p => ⟨p.1, p.2.1⟩, ?_, ?_⟩
    · rintro i l v3 s' S2 H2 S3 H3 hi ⟨w2, e2, s2, hno, y3, y4, y5, y6, y7, y8, rfl⟩ w3 s3 hl
      have ml := List.mem_of_getElem? hi
      obtain ⟨s0, d, c, a, t, rfl, i5⟩ := hin l ml
      have c13 := (s2.trans s3).ex _ _ c1
      have yes : shB u z [s0, d, c, a, t] = true → ∀ (v : V) S4 H4, Wd Rs.nil S4 H4 → Stp Rs.nil S3 H3 S4 H4 → v = .bl true → Q v H4 := fun hs v S4 H4 w4 s4 ev => q v S4 H4 w4 (s2.trans (s3.trans s4)) (by
        rw [ev, List.any_eq_true.mpr ⟨_, ml, hs⟩])
      refine g_five rfl hl w3 ?_
      refine sq_if (b := decide (z = ("doubled" : Str)) && decide (t = 2)) (tb_and (tb_test (vv_op (vv_var rfl) vv_c rs_eqS)) fun _ => tb_test (vv_op (vv_var rfl) vv_c rs_eqI)) w3 (fun hc S4 H4 w4 s4 => ?_) fun hc S4 H4 w4 s4 => ?_
      · exact st_ret (R := fun v _ => v = .bl true) vv_c w4 fun v S5 H5 w5 s5 ev => yes (by
          unfold shB
          rw [show dblN [s0, d, c, a, t] = decide (t = 2) from rfl, hc, Bool.true_or]) v S5 H5 w5 (s4.trans s5) ev
      · have c14 := s4.ex _ _ c13
        refine sq_asg (R := fun v _ => v = .bl (decide (d = endN u c))) (vv_op (vv_var rfl) (vv_op vv_c (ev_if (R := fun v _ => v = .int (if decide (u.fresh = ("again" : Str)) = true then c else 0)) (b := decide (u.fresh = ("again" : Str))) (tb_test (vv_op (vv_ix2 rfl c14 rfl) vv_c rs_eqS)) (fun e => by
          rw [if_pos e]
          exact vv_var rfl) fun e => by
          rw [e]
          exact vv_c) rs_add) rs_eqI) w4 fun v8 S5 H5 w5 s5 ev => ?_
        subst ev
        refine st_if (b := decide (z = ("missed" : Str)) && (decide (d = endN u c) && decide (t = 0))) (tb_and (tb_test (vv_op (vv_var rfl) vv_c rs_eqS)) fun _ => tb_and (tb_B (vv_var rfl)) fun _ => tb_test (vv_op (vv_var rfl) vv_c rs_eqI)) w5 (fun hc2 S6 H6 w6 s6 => ?_) fun hc2 S6 H6 w6 s6 => ?_
        · exact st_ret (R := fun v _ => v = .bl true) vv_c w6 fun v S7 H7 w7 s7 ev => yes (by
            unfold shB
            rw [show missN u [s0, d, c, a, t] = (decide (d = endN u c) && decide (t = 0)) from rfl, hc2, Bool.or_true]) v S7 H7 w7 (s4.trans (s5.trans (s6.trans s7))) ev
        · have s36 := s3.trans (s4.trans (s5.trans s6))
          refine ⟨S6, w6, e2.trans s36.ex, s2.trans s36, fun j l' hj hl' => ?_, _, _, _, _, _, _, rfl⟩
          rcases Nat.lt_succ_iff_lt_or_eq.mp hj with hj | rfl
          · exact hno j l' hj hl'
          · rw [hi] at hl'
            cases hl'
            unfold shB
            rw [show missN u [s0, d, c, a, t] = (decide (d = endN u c) && decide (t = 0)) from rfl, show dblN [s0, d, c, a, t] = decide (t = 2) from rfl, hc, hc2]
            rfl
    · rintro s' S2 H2 ⟨w2, e2, s2, hno, y3, y4, y5, y6, y7, y8, rfl⟩
      refine st_ret (R := fun v _ => v = .bl false) vv_c w2 fun v S3 H3 w3 s3 ev => q v S3 H3 w3 (s2.trans s3) ?_
      rw [ev]
      congr 1
      refine (List.any_eq_false.mpr fun l ml => ?_).symm
      obtain ⟨j, hj⟩ := List.mem_iff_getElem?.mp ml
      rw [hno j l (List.getElem?_eq_some_iff.mp hj).1 hj]
      exact Bool.false_ne_true
theorem st_ints {S : Hp} {l : St5} {v : V} (h : StR l v S) : TupR K IntR l v S := by
  obtain ⟨a, rfl, h⟩ := h
  rw [kfL_vals] at h
  exact ⟨a, _, rfl, SqT.of h, All2.of_ints l⟩
theorem sts_ints {S : Hp} {xs : List St5} {vs : List V} (h : All2 StR S xs vs) : All2 (TupR K IntR) S xs vs := by
  induction h with
  | nil => exact .nil
  | cons h _ ih => exact .cons (st_ints h) ih
theorem G_law (T : TX P w K mg) (TB : ∀ y ∈ lamC T, LamX.TabB base mg y.1 y.2) : FnG P w K mg base 6 T.f_law T.fd_law ["_law_script"] (sp_lawT K (lamT T)) := by
  refine ok_G T.F_law sc_law (fun vs H Q E h => ?_) (fun cdv A outer s H vs Q E g hr h => ?_)
  · obtain ⟨a, ns, rfl, _⟩ := h
    rfl
  · obtain ⟨a0, ns, rfl, hS, hl, htab, q⟩ := h
    refine ⟨_, (pss_cons (ps_set (i := 1) sc_law.nd rfl (Or.inl rfl) (pe_call (G_L_begin T) (hr.mono (by decide)) (by rfl) T.g_L_begin T.F_L_begin.kp T.b_L_begin .nil pass0 (pa_cons (pv 0) pa_nil)))
      (pss_cons (ps_for PassesOwn.never (by rfl) (pi_K (K := K) (pe_slice (sl_K (K := K)) (pe_call (G_L_mixed T) (hr.mono (by decide)) (by rfl) T.g_L_mixed T.F_L_mixed.kp T.b_L_mixed .nil pass0 (pa_cons (pv 1) (pa_cons (pe_call0 (G_L_every T) (hr.mono (by decide)) (by rfl) T.g_L_every T.F_L_every.kp T.b_L_every .nil pass0) pa_nil))) po_none (po_some pe_int))) (pg_name (i := 2) sc_law.nd rfl (Or.inl rfl)) (pss_cons (ps_set (i := 3) sc_law.nd rfl (Or.inl rfl) (pe_call (G_L_rule T) (hr.mono (by decide)) (by rfl) T.g_L_rule T.F_L_rule.kp T.b_L_rule .nil pass0 (pa_cons (pv 2) pa_nil)))
        (pss_cons (ps_set (i := 4) sc_law.nd rfl (Or.inl rfl) (pe_callG (G_L_closed T TB) g (hr.mono (by decide)) (by rfl) T.g_L_closed T.F_L_closed.kp T.b_L_closed .nil (pa_cons (pv 2) (pa_cons (pe_call (G_L_begins T) (hr.mono (by decide)) (by rfl) T.g_L_begins T.F_L_begins.kp T.b_L_begins .nil pass0 (pa_cons (pv 2) pa_nil)) pa_nil))))
        (pss_cons (ps_if (pt_cmpR (op_neK (K := K) hr.units) (pe_callG (G_lot T TB) g (hr.mono (by decide)) (by rfl) T.g_lot T.F_lot.kp T.b_lot .nil (pa_cons (pv 3) pa_nil)) (pe_callTy (call_tupleK (K := K)) (by rfl) T.z_tuple (by decide +kernel) (pa_cons (pv 4) pa_nil)) (nomark _)) (pss_one (ps_ret pe_bl)) pss_nil)
        (pss_one (ps_if (pt_cmpR (op_eqK (K := K) hr.units) (pe_ix (ix_K (K := K)) (pv 2) pe_int (fun _ _ => rfl)) pe_str (nomark _)) (pss_cons (ps_if (pt_cmpR (op_neK (K := K) hr.units) (pe_call (G_L_shows T) (hr.mono (by decide)) (by rfl) T.g_L_shows T.F_L_shows.kp T.b_L_shows .nil pass0 (pa_cons (pv 2) (pa_cons pe_str (pa_cons (pv 4) pa_nil)))) (pe_call (G_can_be_missed T) (hr.mono (by decide)) (by rfl) T.g_can_be_missed T.F_can_be_missed.kp T.b_can_be_missed .nil pass0 (pa_cons (pv 3) pa_nil)) (nomark _)) (pss_one (ps_ret pe_bl)) pss_nil)
          (pss_one (ps_if (pt_cmpR (op_neK (K := K) hr.units) (pe_call (G_L_shows T) (hr.mono (by decide)) (by rfl) T.g_L_shows T.F_L_shows.kp T.b_L_shows .nil pass0 (pa_cons (pv 2) (pa_cons pe_str (pa_cons (pv 4) pa_nil)))) (pe_call (G_can_be_doubled T) (hr.mono (by decide)) (by rfl) T.g_can_be_doubled T.F_can_be_doubled.kp T.b_can_be_doubled .nil pass0 (pa_cons (pv 3) pa_nil)) (nomark _)) (pss_one (ps_ret pe_bl)) pss_nil))) pss_nil))))))
      (pss_one (ps_ret pe_bl)))), ?_⟩
    refine sq_beginT rfl hS hl htab fun p c S2 H2 w2 => ?_
    refine sq_forL (X := CaseK K) (P := fun _ => True) ((ev_sliceE (R := CaseK K) (P := fun _ => True) (lo := none) (hi := some 3) (EvS.tab (r := srcR p c) (ev_callRA (P := fun us S1 => ∃ v ks, us = [.ref p, v] ∧ List.length ks = 48 ∧ LstR (CaseK K) ks v S1) (J.ea_cons (vv_var rfl) fun y1 S1 e1 g1 => J.ea_cons (ev_call (R := fun v S => ∃ ks : List { u : RuleD // RuleOk u }, ks.length = 48 ∧ LstR (CaseK K) ks v S) (EvAS.imp' va_nil fun us S e h => h) fun us S e eu => ⟨(), by rw [show us = _ from eu]; rfl, fun v S3 e3 ⟨us, hu, l, vs, e1, e2, e3⟩ => by
      obtain ⟨ks, k1, k2⟩ := all2_case e3
      exact ⟨ks, by rw [k1, hu], l, vs, e1, e2, k2⟩⟩) fun y2 S2 e2 ⟨ks, k1, k2⟩ => J.ea_nil.imp' fun us S3 e3 eu => ⟨y2, ks, by rw [show y1 = _ from g1, eu], k1, Mono.up e3 k2⟩) fun us S1 e ⟨v, ks, eu, k1, k2⟩ => ⟨((p, c), ks), rfl, fun H1 _ => ⟨v, by rw [eu]; rfl, k2, by rw [k1]; decide⟩, fun v S3 H3 _ ⟨zs, g1, _, _⟩ => ⟨zs, True.intro, g1⟩⟩)) (fun H Q q => q) (fun H Q q => ⟨_, rfl, q⟩)).imp fun v S _ ⟨zs, _, h⟩ => ⟨_, True.intro, h⟩) w2 fun vl ys S3 H3 _ hys w3 s3 => ?_
    refine sq_for (ei_listC (X := CaseK K) hys) w3 fun S4 H4 w4 s4 => ?_
    refine ⟨fun i s' S' H' => Wd ((srcR p c).tabs (lamT T)) S' H' ∧ Ex S4 S' ∧ ∃ x2 x3 x4, s' = [some (.ref a0), some (.ref p), x2, x3, x4], ⟨w4, Ex.refl _, none, none, none, rfl⟩, fun i s' S' H' p => ⟨p.1, p.2.1⟩, ?_, ?_⟩
    · rintro i0 ⟨u, uo⟩ v2 s' S5 H5 S6 H6 hi ⟨w5, e5, x2, x3, x4, rfl⟩ w6 s6 hv
      have hv : CaseR K u v2 S6 := hv
      clear hi
      refine sq_asg (R := fun v S => RuleR K T.C_Rule u v S) (vv_call (R := fun v S => RuleR K T.C_Rule u v S) u (va_cons (vv_var rfl) va_nil) (fun S e => ⟨v2, rfl, Mono.up e hv⟩) fun v _ _ h => h) w6 fun v3 S7 H7 w7 s7 hu => ?_
      have hv7 := Mono.up s7.ex hv
      refine sq_asg (R := fun v S => ∃ F : List St5, F.Nodup ∧ (∀ q, q ∈ F ↔ ReachG (behN u) (begN u) q) ∧ LstR StR (sortA dSt F) v S) (ev_callRA (P := fun us S1 => ∃ y, us = [v2, y] ∧ LstR StR (begN u) y S1) (J.ea_cons (vv_var rfl) fun y1 S1 e1 g1 => J.ea_cons (vv_call (R := fun v S => LstR StR (begN u) v S) u (va_cons (vv_var rfl) va_nil) (fun S e => ⟨v2, rfl, Mono.up (e1.trans e) hv7⟩) fun v _ _ h => h) fun y2 S2 e2 g2 => J.ea_nil.imp' fun us S3 e3 eu => ⟨y2, by rw [show y1 = _ from g1, eu], Mono.up (R := LstR StR) e3 g2⟩) fun us S1 e ⟨y, eu, hy⟩ => ⟨((p, c), u), rfl, fun H1 _ => ⟨v2, y, by rw [eu]; rfl, Mono.up e hv7, hy⟩, fun v S2 H2 _ h => h⟩) w7 fun v4 S8 H8 w8 s8 ⟨F, nd, hF, h4⟩ => ?_
      have hu8 := Mono.up s8.ex hu
      have hv8 := Mono.up s8.ex hv7
      have hFi : ∀ l ∈ sortA dSt F, InN u l := fun l hl => reach_in5 (fun l hl => beg_in hl) ((hF l).mp (sortA_mem.mp hl))
      refine sq_ifNo (tb_test (EvV.is (vv_neD (R := TupR K (TupR K IntR)) (a := sortA dSt F) (b := sortA dSt F) (ev_callRA (P := fun us _ => us = [v3]) (ea_one (vv_var rfl) |>.imp' fun us S1 e ⟨y, eu, ey⟩ => by rw [eu, show y = _ from ey]) fun us S1 e eu => ⟨((p, c), u), rfl, fun H1 _ => ⟨v3, by rw [show us = _ from eu]; rfl, Mono.up e hu8⟩, fun v S2 H2 _ ⟨F', nd', hF', b, vs, h1, h2, h3⟩ => by
        rw [← sort_same5 nd' nd (fun q => (hF' q).trans (hF q).symm) fun q hq => reach_in5 (fun l hl => beg_in hl) ((hF' q).mp hq)]
        exact ⟨b, vs, h1, h2, sts_ints h3⟩⟩) fun S1 e => (ev_tupS (K := K) (R := StR) ((ev_v (R := LstR StR) rfl (Mono.up e h4)).imp fun v S _ h => .inl h)).imp fun v S _ ⟨b, vs, h1, h2, h3⟩ => ⟨b, vs, h1, h2, sts_ints h3⟩) (by rw [decide_eq_true rfl]; rfl))) w8 fun S9 H9 w9 s9 => ?_
      have hu9 := Mono.up s9.ex hu8
      have hv9 := Mono.up s9.ex hv8
      have h49 := Mono.up (R := LstR StR) s9.ex h4
      obtain ⟨cb, cm, rfl, c1, c2, _⟩ := id hv9
      have e69 := s7.ex.trans (s8.ex.trans s9.ex)
      refine st_if (b := decide (u.sees = ("now" : Str))) (tb_test (vv_op (vv_ix3 rfl c1 rfl) vv_c rs_eqS)) w9 (fun hs S10 H10 w10 s10 => ?_) fun hs S10 H10 w10 s10 => ?_
      · have hi := harm_iff uo (of_decide_eq_true hs)
        have hu10 := Mono.up s10.ex hu9
        have hv10 := Mono.up s10.ex hv9
        have h410 := Mono.up (R := LstR StR) s10.ex h49
        refine sq_ifNo (tb_test (EvV.is (vv_op (vv_call (R := fun v _ => v = .bl ((sortA dSt F).any (shB u "missed"))) (u, ("missed" : Str), sortA dSt F) (va_cons (vv_var rfl) (va_cons vv_c (va_cons (vv_var rfl) va_nil))) (fun S e => ⟨_, v4, rfl, Mono.up e hv10, Mono.up (R := LstR StR) e h410, hFi⟩) fun v _ _ h => h) (vv_call (R := fun v _ => v = .bl (missB u)) u (va_cons (vv_var rfl) va_nil) (fun S e => ⟨v3, rfl, Mono.up e hu10⟩) fun v _ _ h => h) (rs_ne' rfl)) (by
          rw [shows_are hF (shB u "missed") (missB u) (by
            rw [show shB u "missed" = missN u from funext fun l => shB_miss]
            exact hi.1), decide_eq_true rfl]
          rfl))) w10 fun S11 H11 w11 s11 => ?_
        have hu11 := Mono.up s11.ex hu10
        have hv11 := Mono.up s11.ex hv10
        have h411 := Mono.up (R := LstR StR) s11.ex h410
        refine st_ifNo (tb_test (EvV.is (vv_op (vv_call (R := fun v _ => v = .bl ((sortA dSt F).any (shB u "doubled"))) (u, ("doubled" : Str), sortA dSt F) (va_cons (vv_var rfl) (va_cons vv_c (va_cons (vv_var rfl) va_nil))) (fun S e => ⟨_, v4, rfl, Mono.up e hv11, Mono.up (R := LstR StR) e h411, hFi⟩) fun v _ _ h => h) (vv_call (R := fun v _ => v = .bl (dblB u)) u (va_cons (vv_var rfl) va_nil) (fun S e => ⟨v3, rfl, Mono.up e hu11⟩) fun v _ _ h => h) (rs_ne' rfl)) (by
          rw [shows_are hF (shB u "doubled") (dblB u) (by
            rw [show shB u "doubled" = dblN from funext fun l => shB_dbl]
            exact hi.2), decide_eq_true rfl]
          rfl))) w11 fun S12 H12 w12 s12 => ?_
        exact ⟨S12, w12, e5.trans (s6.ex.trans (e69.trans (s10.ex.trans (s11.ex.trans s12.ex)))), _, _, _, rfl⟩
      · exact ⟨S10, w10, e5.trans (s6.ex.trans (e69.trans s10.ex)), _, _, _, rfl⟩
    · rintro s' S5 H5 ⟨w5, e5, x2, x3, x4, rfl⟩
      exact st_ret (R := fun v _ => v = .bl true) vv_c w5 fun v S6 H6 w6 s6 h6 => by rw [h6]; exact q _
end
end K16

set_option pp.maxSteps 3000
/-! J40: the head by one kernel run: what the end finds, as a Bool of the written part; addresses as functions of it. -/
namespace J
open PySem PySem.Spec PyProof.Rows L2 Evl RZ
/-! ### addresses -/
abbrev Ad : Type := PySem.W.Frag → Addr
def adG (x : Str) : Ad := fun K => He.ga K x
def adM (C m : Str) : Ad := fun K => He.ma K (He.ga K C) m
def adP (C m : Str) : Ad := fun K => match PySem.W.recIn K (He.ma K (He.ga K C) m) "property" with
  | some (.ref f :: _) => f
  | _ => 0
def adS (C m : Str) : Ad := fun K => He5.wf K (He.ga K C) "staticmethod" m
def adI (a : Ad) (i : Nat) : Ad := fun K => match K.lookup (a K) with
  | some ⟨_, _, .seq its _, _⟩ => (match its.toList[i]? with
    | some (.ref b) => b
    | _ => 0)
  | _ => 0
def adK (a : Ad) (x : Str) : Ad := fun K => match PySem.W.nsIn K (a K) x with
  | some (some (.ref b)) => b
  | _ => 0
def vAd : Value → Addr
  | .ref b => b
  | _ => 0
def adDf (f : Ad) : Ad := fun K => match K.lookup (f K) with
  | some ⟨_, _, .func fd, _⟩ => vAd fd.defaults
  | _ => 0
def adKw (f : Ad) : Ad := fun K => match K.lookup (f K) with
  | some ⟨_, _, .func fd, _⟩ => vAd fd.kwdefaults
  | _ => 0
def adC (f : Ad) : Ad := fun K => match K.lookup (f K) with
  | some ⟨_, _, .func fd, _⟩ => vAd fd.code
  | _ => 0
def adT (f : Ad) : Ad := fun K => He.tabOf K (adC f K)
theorem adC_eq {K : PySem.W.Frag} {f : Ad} {oc : Value} {od : Option Addr} {osl : Array (Option Value)} {fd : FuncData} {c : Addr} (lk : K.lookup (f K) = some ⟨oc, od, .func fd, osl⟩) (e : fd.code = .ref c) : adC f K = c := by
  unfold adC
  rw [lk]
  show vAd fd.code = c
  rw [e]
  rfl
/-! ### a tuple at any address -/
def tupAt (K : PySem.W.Frag) (a : Addr) (vs : List V) : Bool := match K.lookup a with
  | some ⟨.type c, _, .seq its _, _⟩ => decide (c = "tuple") && (decide (its.size ≤ sizeLine) && He.relAll vs its.toList)
  | _ => false
theorem tupAt_ok {K : PySem.W.Frag} {a : Addr} {vs : List V} (h : tupAt K a vs = true) (H : Hp) : SqT K H a vs := by
  unfold tupAt at h
  split at h
  · rename_i c o its n sl q
    rw [Bool.and_eq_true, Bool.and_eq_true] at h
    obtain ⟨h1, h2, h3⟩ := h
    exact .inr ⟨_, its, n, q, congrArg Value.type (of_decide_eq_true h1), rfl, of_decide_eq_true h2, He.relAll_ok h3⟩
  · cases h
/-- a name's value, an int or a text -/
def mgB (K : PySem.W.Frag) (x : Str) (v : V) : Bool := match PySem.W.nsIn K mainGlobals x with
  | some (some u) => He.relB v u
  | _ => false
theorem mgB_ok {K : PySem.W.Frag} {h : Heap} {mg : Str → Option Value} {x : Str} {v : V} (X : K.In h) (G : h.Ns mainGlobals mg) (e : mgB K x v = true) : MgC mg x v := by
  unfold mgB at e
  split at e
  · rename_i u q
    exact ⟨u, PySem.W.mg_of X G q, He.relB_ok e⟩
  · cases e
def ndB (K : PySem.W.Frag) (a : Addr) (x : Str) (v : V) : Bool := match PySem.W.nsIn K a x with
  | some (some u) => He.relB v u
  | _ => false
theorem ndB_ok {K : PySem.W.Frag} {w : World} {a : Addr} {x : Str} {v : V} {es : Array DictEntry} {n : Nat} (k : KDict K w a es n) (e : ndB K a x v = true) : KDct K w a x v := by
  unfold ndB at e
  split at e
  · rename_i u q
    exact ⟨es, n, u, k.at_, k.lit, q, He.relB_ok e⟩
  · cases e
/-- the facts of names: what is found is a reference, is nothing -/
def isRf : Option (Option Value) → Bool
  | some (some (.ref _)) => true
  | _ => false
def isNo : Option (Option Value) → Bool
  | some none => true
  | _ => false
theorem gloB {K : PySem.W.Frag} {x : Str} (h : isRf (PySem.W.nsIn K mainGlobals x) = true) : PySem.W.nsIn K mainGlobals x = some (some (.ref (adG x K))) := by
  unfold adG He.ga
  cases e : PySem.W.nsIn K mainGlobals x with
  | none =>
    rw [e] at h
    cases h
  | some o =>
    cases o with
    | none =>
      rw [e] at h
      cases h
    | some v =>
      cases v with
      | ref a => rfl
      | _ =>
        rw [e] at h
        cases h
theorem metB {K : PySem.W.Frag} {C m : Str} (h : isRf (PySem.W.findIn K (.ref (adG C K)) m) = true) : PySem.W.findIn K (.ref (adG C K)) m = some (some (.ref (adM C m K))) := by
  show PySem.W.findIn K (.ref (He.ga K C)) m = some (some (.ref (He.ma K (He.ga K C) m)))
  have h : isRf (PySem.W.findIn K (.ref (He.ga K C)) m) = true := h
  unfold He.ma
  cases e : PySem.W.findIn K (.ref (He.ga K C)) m with
  | none =>
    rw [e] at h
    cases h
  | some o =>
    cases o with
    | none =>
      rw [e] at h
      cases h
    | some v =>
      cases v with
      | ref a => rfl
      | _ =>
        rw [e] at h
        cases h
theorem isNo_ok {o : Option (Option Value)} (h : isNo o = true) : o = some none := by
  cases o with
  | none => cases h
  | some o =>
    cases o with
    | none => rfl
    | some v => cases h
def isBi (z : String) : Option (Option Value) → Bool
  | some (some (.builtin y)) => y == z
  | _ => false
theorem isBi_ok {z : String} {o : Option (Option Value)} (h : isBi z o = true) : o = some (some (.builtin z)) := by
  cases o with
  | none => cases h
  | some o =>
    cases o with
    | none => cases h
    | some v =>
      cases v with
      | builtin y => rw [beq_iff_eq.mp h]
      | _ => cases h
def isB (b : Bool) : Option Bool → Bool
  | some c => c == b
  | none => false
theorem isB_ok {b : Bool} {o : Option Bool} (h : isB b o = true) : o = some b := by
  cases o with
  | none => cases h
  | some c => rw [beq_iff_eq.mp h]
/-- a property: its record's rest -/
def prB (K : PySem.W.Frag) (p : Addr) : Bool := match PySem.W.recIn K p "property" with
  | some (.ref g :: _) => true
  | _ => false
theorem prB_ok {K : PySem.W.Frag} {C m : Str} (h : prB K (adM C m K) = true) : ∃ r, PySem.W.recIn K (adM C m K) "property" = some (.ref (adP C m K) :: r) := by
  unfold prB at h
  unfold adP
  show ∃ r, PySem.W.recIn K (He.ma K (He.ga K C) m) "property" = _
  have h : (match PySem.W.recIn K (He.ma K (He.ga K C) m) "property" with
    | some (.ref g :: _) => true
    | _ => false) = true := h
  split at h
  · rename_i g r q
    rw [q]
    exact ⟨r, rfl⟩
  · cases h
/-! ### the __init__ of an error class -/
abbrev FnX : Type := Option (Str × Str × Arguments × FuncBody × Scope × Addr × Addr)
def fnXa (K : PySem.W.Frag) (a : Addr) : FnX := match K.lookup a with
  | some ⟨_, _, .func fd, _⟩ => some (fd.name, fd.qualname, fd.params, fd.body, fd.scope, fd.globals, fd.builtins)
  | _ => none
structure XD where
  cls : Str
  qual : Str
  fld : Str
  params : Arguments
  body : List Stmt
  scope : Scope
def XD.at_ (d : XD) : Ad := adM d.cls "__init__"
def XD.val (d : XD) : FnX := some ("__init__", d.qual, d.params, .stmts d.body, d.scope, mainGlobals, builtinsNs)
def XD.ok (file : Str) (K : PySem.W.Frag) (d : XD) : Bool := match K.lookup (d.at_ K) with
  | some ⟨_, _, .func fd, _⟩ => (match fd.closure with
      | [(z, cx)] => decide (z = ("__class__" : Str)) && (match K.lookup cx with
        | some ⟨_, _, .cell (some (.ref C)), _⟩ => C == adG d.cls K
        | _ => false)
      | _ => false) && (match fd.defaults with
      | .none => true
      | _ => false) && (match fd.code with
      | .ref ca => (match K.lookup ca with
        | some ⟨_, _, .fields vs, _⟩ => (match (vs[2]? : Option Value) with
          | some (.str z _) => file == z
          | _ => false)
        | _ => false) && xcAll K (adG d.cls K) (d.at_ K) ca d.qual d.fld
      | _ => false)
  | _ => false
theorem XD.parts {file : Str} {K : PySem.W.Frag} {d : XD} (e : fnXa K (d.at_ K) = d.val) (c : d.ok file K = true) :
    ∃ (oc kV doc pm ct ccl cl : Value) (od an cdd cld : Option Addr) (osl ccs csl : Array (Option Value)) (vs : Array Value) (tf : Tok) (z : Str) (ca cc : Addr),
      K.lookup (d.at_ K) = some ⟨oc, od, .func (PySem.W.ksFn "__init__" d.qual d.params d.body d.scope .none kV doc pm an (.ref ca) ct cc), osl⟩ ∧ K.lookup ca = some ⟨ccl, cdd, .fields vs, ccs⟩ ∧ K.lookup cc = some ⟨cl, cld, .cell (some (.ref (adG d.cls K))), csl⟩ ∧ vs[2]? = some (.str z tf) ∧ (file == z) = true ∧ xcAll K (adG d.cls K) (d.at_ K) ca d.qual d.fld = true := by
  unfold fnXa at e
  unfold XD.ok at c
  cases q : K.lookup (d.at_ K) with
  | none =>
    rw [q] at c
    cases c
  | some o =>
    obtain ⟨oc, od, dt, osl⟩ := o
    rw [q] at c e
    cases dt with
    | func fd =>
      obtain ⟨n1, n2, n3, n4, n5, n6, n7, n8, n9, n10, n11, n12, n13, n14, n15⟩ := fd
      have e2 : (some (n1, n2, n3, n4, n5, n6, n15) : FnX) = some (("__init__" : Str), d.qual, d.params, FuncBody.stmts d.body, d.scope, mainGlobals, builtinsNs) := e
      simp only [Option.some.injEq, Prod.mk.injEq] at e2
      obtain ⟨h1, h2, h3, h4, h5, h6, h7⟩ := e2
      subst h1 h2 h3 h4 h5 h6 h7
      dsimp only at c
      rw [Bool.and_eq_true, Bool.and_eq_true] at c
      obtain ⟨⟨c1, c2⟩, c3⟩ := c
      split at c1
      · rename_i z cx
        rw [Bool.and_eq_true] at c1
        obtain ⟨c4, c5⟩ := c1
        have ez := of_decide_eq_true c4
        subst ez
        split at c2
        · split at c3
          · rename_i ca
            rw [Bool.and_eq_true] at c3
            obtain ⟨c6, c7⟩ := c3
            split at c5
            · rename_i cl cld C csl qc
              have ec := beq_iff_eq.mp c5
              subst ec
              split at c6
              · rename_i ccl cdd vs ccs qv
                split at c6
                · rename_i z tf qz
                  exact ⟨oc, _, _, _, _, ccl, cl, od, _, cdd, cld, osl, ccs, csl, vs, tf, z, ca, cx, rfl, qv, qc, qz, c6, c7⟩
                · cases c6
              · cases c6
            · cases c5
          · cases c3
        · cases c2
      · cases c1
    | _ => cases c
/-! ### what the names reach -/
/-- what an object names; st: a property's (or another wrapper's) record is followed -/
def rfs (st : Bool) (o : Obj) : List Addr := match o.data with
  | .seq its _ => its.toList.flatMap He.refV
  | .dict es _ => es.toList.flatMap fun e => He.refV e.val
  | .func fd => He.refV fd.code ++ (He.refV fd.defaults ++ (He.refV fd.kwdefaults ++ fd.closure.map (·.2)))
  | .cls cd => [cd.ns]
  | .fields vs => (match st with
    | true => vs.toList.flatMap He.refV
    | false => [])
  | _ => []
def stepL (g : Addr → Option Obj) (st : Bool) : List Addr → List Addr
  | [] => []
  | a :: l => (match g a with
    | some o => rfs st o
    | none => []) ++ stepL g st l
def stepsL (g : Addr → Option Obj) : List Bool → List Addr → List Addr
  | [], _ => []
  | b :: l, as => stepL g b as ++ stepsL g l (stepL g b as)
/-- the names; classes, defs; their namespaces, codes; methods; wrapped defs; defaults .. -/
def asJ (g : Addr → Option Obj) (n : Nat) : List Addr := mainGlobals :: cStatics :: stepsL g [false, false, false, true, false, false] [mainGlobals]
/-! ### the Hook -/
/-- what is looked at: defs, the error classes' inits, tables, makers of lambdas, the rest -/
structure HD where
  fn : List He5.DefA
  xs : List XD
  ts : List He.Tab
  tf : List Ad
  ex : PySem.W.Frag → List Bool
  file : Str
abbrev AlJ0 : Type := (Bool × List He.FnW) × (List FnX × List (Option (List (Option (Str × Int)))))
def obsJ0 (D : HD) (K : PySem.W.Frag) : AlJ0 := (((D.ex K).all id && (D.fn.all (fun d => d.ok K) && D.xs.all fun d => d.ok D.file K), D.fn.map fun d => He5.fnA K (d.at_ K)), (D.xs.map fun d => fnXa K (d.at_ K), D.ts.map fun t => He.dicW K (t.1 K)))
def valJ0 (D : HD) (w : World) : AlJ0 := ((true, D.fn.map He5.DefA.val), (D.xs.map XD.val, D.ts.map fun t => some (He.keysIn w.params t.2)))
def tabsJ (g : Addr → Option Obj) (tf : List Ad) (K : PySem.W.Frag) : Bool := tf.all fun f => PySem.W.codeHdIn K (adC f K) (adT f K) && (match g (adT f K) with
  | some o => He.emptyTab o
  | none => false)
def obsJK (D : HD) (g : Addr → Option Obj) (K : PySem.W.Frag) : AlJ0 × Bool := (obsJ0 D K, tabsJ g D.tf K)
def obsJ (n : Nat) (D : HD) (g : Addr → Option Obj) : AlJ0 × Bool := obsJK D g (He.frT g (asJ g n))
def valJ (D : HD) (w : World) : AlJ0 × Bool := (valJ0 D w, true)
structure SaysJ (D : HD) (w : World) (h : Heap) (K : PySem.W.Frag) : Prop where
  e : obsJ0 D K = valJ0 D w
  hd : ∀ f ∈ D.tf, PySem.W.codeHdIn K (adC f K) (adT f K) = true
  out : ∀ f ∈ D.tf, K.lookup (adT f K) = none
  empty : ∀ f ∈ D.tf, h.get? (adT f K) = some { cls := .none, data := .fields #[] }
theorem saysJ_of {n : Nat} {D : HD} {w : World} {h : Heap} (e : obsJ n D h.get? = valJ D w) : SaysJ D w h (He.frT h.get? (asJ h.get? n)) := by
  have e1 : obsJ0 D (He.frT h.get? (asJ h.get? n)) = valJ0 D w := congrArg (fun z : AlJ0 × Bool => z.1) e
  have e2 : tabsJ h.get? D.tf (He.frT h.get? (asJ h.get? n)) = true := congrArg (fun z : AlJ0 × Bool => z.2) e
  have key : ∀ f ∈ D.tf, PySem.W.codeHdIn (He.frT h.get? (asJ h.get? n)) (adC f (He.frT h.get? (asJ h.get? n))) (adT f (He.frT h.get? (asJ h.get? n))) = true ∧ ∃ o, h.get? (adT f (He.frT h.get? (asJ h.get? n))) = some o ∧ He.emptyTab o = true := fun f hf => by
    have z := List.all_eq_true.mp e2 f hf
    rw [Bool.and_eq_true] at z
    obtain ⟨h3, h4⟩ := z
    refine ⟨h3, ?_⟩
    split at h4
    · rename_i o q
      exact ⟨o, q, h4⟩
    · cases h4
  exact ⟨e1, fun f hf => (key f hf).1, fun f hf => by
    obtain ⟨_, o, q, z⟩ := key f hf
    exact He.frT_none q z, fun f hf => by
    obtain ⟨_, o, q, z⟩ := key f hf
    rw [q, He.emptyTab_eq z]⟩
def hookJ (n : Nat) (D : HD) : PySem.W.Hook where
  α := AlJ0 × Bool
  obs := fun s => obsJ n D s.heap.get?
  val := fun w => valJ D w
  says := fun w h => ∃ K : PySem.W.Frag, K.In h ∧ SaysJ D w h K
  of := fun _ _ e => ⟨_, He.frT_in, saysJ_of e⟩
  keeps := fun _ _ _ ⟨K, hK, c⟩ k => ⟨K, PySem.W.Frag.In.keeps hK k, ⟨c.e, c.hd, c.out, fun f hf => k _ _ (c.empty f hf)⟩⟩
theorem obsJ_eq {n : Nat} {D : HD} {g : Addr → Option Obj} {s : Shared} (h : ∀ a, g a = s.heap.get? a) : obsJ n D g = (hookJ n D).obs s := by
  have e : g = s.heap.get? := funext h
  rw [e] <;> rfl
section
variable {D : HD} {w : World} {h : Heap} {K : PySem.W.Frag}
theorem SaysJ.flag (c : SaysJ D w h K) : ((D.ex K).all id && (D.fn.all (fun d => d.ok K) && D.xs.all fun d => d.ok D.file K)) = true := congrArg (fun z : AlJ0 => z.1.1) c.e
theorem SaysJ.b (c : SaysJ D w h K) (i : Nat) {b : Bool} (e : (D.ex K)[i]? = some b := by rfl) : b = true := by
  have z := c.flag
  rw [Bool.and_eq_true] at z
  exact List.all_eq_true.mp z.1 b (List.mem_of_getElem? e)
/-- an equation among them -/
theorem SaysJ.q {p : Prop} [Decidable p] (c : SaysJ D w h K) (i : Nat) (e : (D.ex K)[i]? = some (decide p) := by rfl) : p := of_decide_eq_true (c.b i e)
theorem SaysJ.def_ (c : SaysJ D w h K) (i : Nat) {d : He5.DefA} (e : D.fn[i]? = some d := by rfl) : ∃ fd, FunD K d.name d.qual d.params d.body d.scope (d.dvs K) (d.kws K) (d.at_ K) fd := by
  have z := c.flag
  rw [Bool.and_eq_true, Bool.and_eq_true] at z
  have e1 : D.fn.map (fun d => He5.fnA K (d.at_ K)) = D.fn.map He5.DefA.val := congrArg (fun z : AlJ0 => z.1.2) c.e
  have e2 : (D.fn.map fun d => He5.fnA K (d.at_ K))[i]? = (D.fn.map He5.DefA.val)[i]? := by rw [e1]
  rw [List.getElem?_map, List.getElem?_map, e] at e2
  exact He5.DefA.funD (Option.some.inj e2) (List.all_eq_true.mp z.2.1 d (List.mem_of_getElem? e))
theorem SaysJ.xc (c : SaysJ D w h K) (i : Nat) {d : XD} (e : D.xs[i]? = some d := by rfl) : ∃ (oc kV doc pm ct ccl cl : Value) (od an cdd cld : Option Addr) (osl ccs csl : Array (Option Value)) (vs : Array Value) (tf : Tok) (z : Str) (ca cc : Addr),
      K.lookup (d.at_ K) = some ⟨oc, od, .func (PySem.W.ksFn "__init__" d.qual d.params d.body d.scope .none kV doc pm an (.ref ca) ct cc), osl⟩ ∧ K.lookup ca = some ⟨ccl, cdd, .fields vs, ccs⟩ ∧ K.lookup cc = some ⟨cl, cld, .cell (some (.ref (adG d.cls K))), csl⟩ ∧ vs[2]? = some (.str z tf) ∧ (D.file == z) = true ∧ xcAll K (adG d.cls K) (d.at_ K) ca d.qual d.fld = true := by
  have z := c.flag
  rw [Bool.and_eq_true, Bool.and_eq_true] at z
  have e1 : D.xs.map (fun d => fnXa K (d.at_ K)) = D.xs.map XD.val := congrArg (fun z : AlJ0 => z.2.1) c.e
  have e2 : (D.xs.map fun d => fnXa K (d.at_ K))[i]? = (D.xs.map XD.val)[i]? := by rw [e1]
  rw [List.getElem?_map, List.getElem?_map, e] at e2
  exact XD.parts (Option.some.inj e2) (List.all_eq_true.mp z.2.2 d (List.mem_of_getElem? e))
theorem SaysJ.tab (c : SaysJ D w h K) (i : Nat) {t : He.Tab} (e : D.ts[i]? = some t := by rfl) : ∃ es n, KDict K w (t.1 K) es n := by
  have e1 : D.ts.map (fun t => He.dicW K (t.1 K)) = D.ts.map fun t => some (He.keysIn w.params t.2) := congrArg (fun z : AlJ0 => z.2.2) c.e
  have e2 : (D.ts.map fun t => He.dicW K (t.1 K))[i]? = (D.ts.map fun t => some (He.keysIn w.params t.2))[i]? := by rw [e1]
  rw [List.getElem?_map, List.getElem?_map, e] at e2
  exact He.dicW_ok (Option.some.inj e2)
/-- a maker: its code object -/
theorem funC_of {x qual : Str} {st : Stmt} {f : Ad} {fd : FuncData} (F : Fun K x qual st (f K) fd) : FunC K x qual st (f K) fd (adC f K) := by
  obtain ⟨oc, od, kV, doc, pm, an, cdv, ct, osl, e, lk, hc⟩ := F.ex
  obtain ⟨c, rfl⟩ := He.codeIn_ref hc
  have ec : adC f K = c := adC_eq lk (by rw [e])
  rw [ec]
  exact ⟨oc, od, kV, doc, pm, an, ct, osl, e, lk, hc⟩
theorem SaysJ.tabd (c : SaysJ D w h K) (X : K.In h) : Tabd K h (D.tf.map fun f => (adC f K, adT f K)) :=
  ⟨fun q hq => by
    obtain ⟨f, hf, rfl⟩ := List.mem_map.mp hq
    exact c.empty f hf, fun q hq => by
    obtain ⟨f, hf, rfl⟩ := List.mem_map.mp hq
    exact c.out f hf, fun q hq => by
    obtain ⟨f, hf, rfl⟩ := List.mem_map.mp hq
    exact PySem.W.codeHd_of_K X (c.hd f hf)⟩
end
/-! ### the walk -/
theorem walk_GE {l : PySem.W.OpenLaw} {n k : Nat} {q : Program} {loose : List Str} {XP : (Str → Option Value) → Heap → Prop} {YP : World → Heap → Prop} {d : DefRec} {x : Str} (hn : l.most = some n) (hn2 : n ≤ sizeLine) (nd : d.params.defaults = []) (room : Room k callerA)
    (F : ∀ (w : World) (mg : Str → Option Value) (fa : Addr) (h : Heap), YP w h → h.Ns mainGlobals mg → mg d.name = some (.ref fa) → ∃ K : PySem.W.Frag, K.In h ∧ LawG l w K k n x mg fa h) :
    PySem.W.WalkO q loose XP YP l.row.toRowW d [] (fun f vs => PySem.call f vs) := by
  refine Att.attach_callB hn nd fun w s₀ s₁ mg mb fa o pm cd doc a vs ns G Y ho hd hcd hmg hobj hints hlen hbits hg => ?_
  obtain ⟨K, KX, fd, cs, sp, D, bd, use, hF⟩ := F w mg fa _ Y G.T.g hmg
  exact law_G KX G.T.g G.T.b G.T.builtins G.T.nolimit hg D G.T.bmain hobj hints (Nat.le_trans hlen hn2) room hF bd fun H hH hS => use H a ns hlen hbits hH hS
end J

set_option pp.maxSteps 400
namespace K16
open PySem PySem.Spec PyProof.Rows L2 Evl J RZ
def dd_is_part_value : He5.DefA := ⟨(adG "is_part_value"), "is_part_value", "is_part_value", defArgs s_is_part_value, defBody s_is_part_value, defScope s_is_part_value, [], []⟩
def dd_Rule_init : He5.DefA := ⟨(adM "Rule" "__init__"), "__init__", "Rule.__init__", defArgs s_Rule_init, defBody s_Rule_init, defScope s_Rule_init, [], [("moves", .adr (adK (adKw (adM "Rule" "__init__")) "moves")), ("start", .str "front"), ("fresh", .str "none"), ("sees", .str "now")]⟩
def dd_Rule_moves : He5.DefA := ⟨(adP "Rule" "moves"), "moves", "Rule.moves", defArgs s_Rule_moves, defBody s_Rule_moves, defScope s_Rule_moves, [], []⟩
def dd_Rule_start : He5.DefA := ⟨(adP "Rule" "start"), "start", "Rule.start", defArgs s_Rule_start, defBody s_Rule_start, defScope s_Rule_start, [], []⟩
def dd_Rule_fresh : He5.DefA := ⟨(adP "Rule" "fresh"), "fresh", "Rule.fresh", defArgs s_Rule_fresh, defBody s_Rule_fresh, defScope s_Rule_fresh, [], []⟩
def dd_Rule_sees : He5.DefA := ⟨(adP "Rule" "sees"), "sees", "Rule.sees", defArgs s_Rule_sees, defBody s_Rule_sees, defScope s_Rule_sees, [], []⟩
def dd_can_be_missed : He5.DefA := ⟨(adG "can_be_missed"), "can_be_missed", "can_be_missed", defArgs s_can_be_missed, defBody s_can_be_missed, defScope s_can_be_missed, [], []⟩
def dd_can_be_doubled : He5.DefA := ⟨(adG "can_be_doubled"), "can_be_doubled", "can_be_doubled", defArgs s_can_be_doubled, defBody s_can_be_doubled, defScope s_can_be_doubled, [], []⟩
def dd_starts_of : He5.DefA := ⟨(adG "starts_of"), "starts_of", "starts_of", defArgs s_starts_of, defBody s_starts_of, defScope s_starts_of, [], []⟩
def dd_beginnings : He5.DefA := ⟨(adG "beginnings"), "beginnings", "beginnings", defArgs s_beginnings, defBody s_beginnings, defScope s_beginnings, [], []⟩
def dd_is_end : He5.DefA := ⟨(adG "is_end"), "is_end", "is_end", defArgs s_is_end, defBody s_is_end, defScope s_is_end, [], []⟩
def dd_visited_next : He5.DefA := ⟨(adG "visited_next"), "visited_next", "visited_next", defArgs s_visited_next, defBody s_visited_next, defScope s_visited_next, [], []⟩
def dd_moved : He5.DefA := ⟨(adG "moved"), "moved", "moved", defArgs s_moved, defBody s_moved, defScope s_moved, [], []⟩
def dd_behind : He5.DefA := ⟨(adG "behind"), "behind", "behind", defArgs s_behind, defBody s_behind, defScope s_behind, [], []⟩
def dd_lot : He5.DefA := ⟨(adG "lot"), "lot", "lot", defArgs s_lot, defBody s_lot, defScope s_lot, [], []⟩
def dd_L_begin : He5.DefA := ⟨(adG "_law_begin"), "_law_begin", "_law_begin", defArgs s_L_begin, defBody s_L_begin, defScope s_L_begin, [], []⟩
def dd_L_draw : He5.DefA := ⟨(adG "_law_draw"), "_law_draw", "_law_draw", defArgs s_L_draw, defBody s_L_draw, defScope s_L_draw, [], []⟩
def dd_L_mixed : He5.DefA := ⟨(adG "_law_mixed"), "_law_mixed", "_law_mixed", defArgs s_L_mixed, defBody s_L_mixed, defScope s_L_mixed, [], []⟩
def dd_L_rule : He5.DefA := ⟨(adG "_law_rule"), "_law_rule", "_law_rule", defArgs s_L_rule, defBody s_L_rule, defScope s_L_rule, [], []⟩
def dd_L_every : He5.DefA := ⟨(adG "_law_every"), "_law_every", "_law_every", defArgs s_L_every, defBody s_L_every, defScope s_L_every, [], []⟩
def dd_L_behind : He5.DefA := ⟨(adG "_law_behind"), "_law_behind", "_law_behind", defArgs s_L_behind, defBody s_L_behind, defScope s_L_behind, [], []⟩
def dd_L_begins : He5.DefA := ⟨(adG "_law_begins"), "_law_begins", "_law_begins", defArgs s_L_begins, defBody s_L_begins, defScope s_L_begins, [], []⟩
def dd_L_closed : He5.DefA := ⟨(adG "_law_closed"), "_law_closed", "_law_closed", defArgs s_L_closed, defBody s_L_closed, defScope s_L_closed, [], []⟩
def dd_L_shows : He5.DefA := ⟨(adG "_law_shows"), "_law_shows", "_law_shows", defArgs s_L_shows, defBody s_L_shows, defScope s_L_shows, [], []⟩
def dd_law : He5.DefA := ⟨(adG "law"), "law", "law", defArgs s_law, defBody s_law, defScope s_law, [], []⟩
def hdF0 : List He5.DefA := [dd_is_part_value,
  dd_Rule_init,
  dd_Rule_moves,
  dd_Rule_start,
  dd_Rule_fresh,
  dd_Rule_sees,
  dd_can_be_missed,
  dd_can_be_doubled,
  dd_starts_of,
  dd_beginnings,
  dd_is_end,
  dd_visited_next,
  dd_moved,
  dd_behind,
  dd_lot,
  dd_L_begin,
  dd_L_draw,
  dd_L_mixed,
  dd_L_rule,
  dd_L_every,
  dd_L_behind,
  dd_L_begins,
  dd_L_closed,
  dd_L_shows,
  dd_law]
def hdF : List He5.DefA := hdF0
def hdX0 : List XD := []
def hdX : List XD := hdX0
def hdT0 : List He.Tab := [((adG "WORDS"), ["start", "fresh", "sees"])]
def hdT : List He.Tab := hdT0
def hdL0 : List Ad := [(adG "lot"),
  (adG "_law_closed")]
def hdL : List Ad := hdL0
def hdE0 (K : PySem.W.Frag) : List Bool := [isNo (PySem.W.nsIn K mainGlobals "all"),
  isNo (PySem.W.nsIn K mainGlobals "dict"),
  isNo (PySem.W.nsIn K mainGlobals "int"),
  isNo (PySem.W.nsIn K mainGlobals "isinstance"),
  isNo (PySem.W.nsIn K mainGlobals "len"),
  isNo (PySem.W.nsIn K mainGlobals "list"),
  isNo (PySem.W.nsIn K mainGlobals "range"),
  isNo (PySem.W.nsIn K mainGlobals "sorted"),
  isNo (PySem.W.nsIn K mainGlobals "str"),
  isNo (PySem.W.nsIn K mainGlobals "tuple"),
  isNo (PySem.W.nsIn K mainGlobals "zip"),
  mgB K "MOST_CAME" (.int 2),
  mgB K "MOST_SEEN" (.int 2),
  isRf (PySem.W.nsIn K mainGlobals "MOVES"),
  mgB K "PAGES" (.int 3),
  isRf (PySem.W.nsIn K mainGlobals "PARTS"),
  isRf (PySem.W.nsIn K mainGlobals "WORDS"),
  tupAt K ((adG "MOVES") K) [(.ref ((adI (adG "MOVES") 0) K) : V), .ref ((adI (adG "MOVES") 1) K), .ref ((adI (adG "MOVES") 2) K), .ref ((adI (adG "MOVES") 3) K)],
  tupAt K ((adI (adG "MOVES") 3) K) [(.str "ahead" : V), .str "back"],
  tupAt K ((adI (adG "MOVES") 2) K) [(.str "back" : V)],
  tupAt K ((adI (adG "MOVES") 1) K) [(.str "ahead" : V)],
  tupAt K ((adI (adG "MOVES") 0) K) [],
  tupAt K ((adG "PARTS") K) [(.str "moves" : V), .str "start", .str "fresh", .str "sees"],
  ndB K ((adG "WORDS") K) "start" (.ref ((adK (adG "WORDS") "start") K)),
  ndB K ((adG "WORDS") K) "fresh" (.ref ((adK (adG "WORDS") "fresh") K)),
  ndB K ((adG "WORDS") K) "sees" (.ref ((adK (adG "WORDS") "sees") K)),
  tupAt K ((adK (adG "WORDS") "sees") K) [(.str "now" : V), .str "home"],
  tupAt K ((adK (adG "WORDS") "fresh") K) [(.str "none" : V), .str "unseen", .str "again"],
  tupAt K ((adK (adG "WORDS") "start") K) [(.str "front" : V), .str "any"],
  isRf (PySem.W.nsIn K mainGlobals "Rule")]
def hdE1 (K : PySem.W.Frag) : List Bool := [PySem.W.plainGet K (adG "Rule" K) Str.empty,
  PySem.W.hasDictIn K (adG "Rule" K),
  PySem.W.plainOver K (adG "Rule" K),
  isBi "object.__setattr__" (PySem.W.findIn K (Value.ref (adG "Rule" K)) "__setattr__"),
  isNo (PySem.W.findIn K (Value.ref (adG "Rule" K)) "kept_parts"),
  isRf (PySem.W.nsIn K mainGlobals "is_part_value"),
  tupAt K ((adK (adKw (adM "Rule" "__init__")) "moves") K) [],
  isRf (PySem.W.findIn K (Value.ref (adG "Rule" K)) "__init__"),
  PySem.W.isFn K (Value.ref ((adM "Rule" "__init__") K)),
  PySem.W.makesIn K (adG "Rule" K),
  PySem.W.keepIn K (Value.ref (adG "Rule" K)),
  isRf (PySem.W.findIn K (Value.ref (adG "Rule" K)) "moves"),
  isBi "property.__get__" (PySem.W.specialIn K (Value.ref (adM "Rule" "moves" K)) "__get__"),
  isB true (PySem.W.takesIn K (Value.ref (adM "Rule" "moves" K))),
  prB K (adM "Rule" "moves" K),
  isRf (PySem.W.findIn K (Value.ref (adG "Rule" K)) "start"),
  isBi "property.__get__" (PySem.W.specialIn K (Value.ref (adM "Rule" "start" K)) "__get__"),
  isB true (PySem.W.takesIn K (Value.ref (adM "Rule" "start" K))),
  prB K (adM "Rule" "start" K),
  isRf (PySem.W.findIn K (Value.ref (adG "Rule" K)) "fresh"),
  isBi "property.__get__" (PySem.W.specialIn K (Value.ref (adM "Rule" "fresh" K)) "__get__"),
  isB true (PySem.W.takesIn K (Value.ref (adM "Rule" "fresh" K))),
  prB K (adM "Rule" "fresh" K),
  isRf (PySem.W.findIn K (Value.ref (adG "Rule" K)) "sees"),
  isBi "property.__get__" (PySem.W.specialIn K (Value.ref (adM "Rule" "sees" K)) "__get__"),
  isB true (PySem.W.takesIn K (Value.ref (adM "Rule" "sees" K))),
  prB K (adM "Rule" "sees" K),
  isRf (PySem.W.nsIn K mainGlobals "can_be_missed"),
  isRf (PySem.W.nsIn K mainGlobals "can_be_doubled"),
  isRf (PySem.W.nsIn K mainGlobals "starts_of")]
def hdE2 (K : PySem.W.Frag) : List Bool := [isRf (PySem.W.nsIn K mainGlobals "beginnings"),
  isRf (PySem.W.nsIn K mainGlobals "is_end"),
  isRf (PySem.W.nsIn K mainGlobals "visited_next"),
  isRf (PySem.W.nsIn K mainGlobals "moved"),
  isRf (PySem.W.nsIn K mainGlobals "behind"),
  isRf (PySem.W.nsIn K mainGlobals "lot"),
  isRf (PySem.W.nsIn K mainGlobals "_law_begin"),
  isRf (PySem.W.nsIn K mainGlobals "_law_draw"),
  isRf (PySem.W.nsIn K mainGlobals "_law_mixed"),
  isRf (PySem.W.nsIn K mainGlobals "_law_rule"),
  isRf (PySem.W.nsIn K mainGlobals "_law_every"),
  isRf (PySem.W.nsIn K mainGlobals "_law_behind"),
  isRf (PySem.W.nsIn K mainGlobals "_law_begins"),
  isRf (PySem.W.nsIn K mainGlobals "_law_closed"),
  isRf (PySem.W.nsIn K mainGlobals "_law_shows"),
  isRf (PySem.W.nsIn K mainGlobals "law"),
  decide (((adT (adG "lot") K) == (adT (adG "_law_closed") K)) = false)]
def hdE (K : PySem.W.Frag) : List Bool := hdE0 K ++ (hdE1 K ++ (hdE2 K))
def hdD : HD := ⟨hdF, hdX, hdT, hdL, hdE, PySem.Challenge.pw_joinedrounds_k16_whole_lots_of_states.main.file⟩
theorem lawG_mk {l : PySem.W.OpenLaw} {w : World} {K : PySem.W.Frag} {h : Heap} {mg : Str → Option Value} {fa : Addr} {fd : FuncData} (T : TX l.prog w K mg) (D : Tabd K h (lamC T)) (hb : ∀ (s : Shared) (v : Value), BindsTo s fd ⟨[v], []⟩ [("_law_script", v)]) (hf : ∀ base : Heap, K.In base → base.Ns mainGlobals mg → (∀ q ∈ lamC T, LamX.TabB base mg q.1 q.2) → FnG l.prog w K mg base 6 fa fd ["_law_script"] (sp_lawT K (lamT T))) : LawG l w K 6 63 "_law_script" mg fa h :=
  ⟨fd, lamC T, sp_lawT K (lamT T), D, hb, fun H a ns hl _ ht hS => ⟨a, ns, rfl, hS, hl, List.forall_mem_cons.mpr ⟨ht _ (lc_lot T), List.forall_mem_cons.mpr ⟨ht _ (lc_L_closed T), fun y hy => (by cases hy)⟩⟩, fun _ => rfl⟩, hf⟩
theorem law_of {w : World} {K : PySem.W.Frag} {h : Heap} {mg : Str → Option Value} {fa : Addr} (X : K.In h) (G : h.Ns mainGlobals mg) (hfa : mg "law" = some (.ref fa)) (c : SaysJ hdD w h K) : LawG PySem.Challenge.rw_joinedrounds_k16_whole_lots_of_states w K 6 63 "_law_script" mg fa h := by
  have e := hfa.symm.trans (PySem.W.mg_of X G (gloB (c.b 75)))
  cases e
  obtain ⟨es_WORDS, n_WORDS, kd_WORDS⟩ := c.tab 0
  obtain ⟨fd_is_part_value, FD_is_part_value⟩ := c.def_ 0 (d := dd_is_part_value) rfl
  have F_is_part_value : FunD K "is_part_value" "is_part_value" (defArgs s_is_part_value) (defBody s_is_part_value) (defScope s_is_part_value) [] [] ((adG "is_part_value") K) fd_is_part_value := FD_is_part_value
  have Fu_is_part_value : Fun K "is_part_value" "is_part_value" s_is_part_value ((adG "is_part_value") K) fd_is_part_value := He5.fun_of F_is_part_value
  obtain ⟨fd_Rule_init, FD_Rule_init⟩ := c.def_ 1 (d := dd_Rule_init) rfl
  have F_Rule_init : FunD K "__init__" "Rule.__init__" (defArgs s_Rule_init) (defBody s_Rule_init) (defScope s_Rule_init) [] [("moves", .ref ((adK (adKw (adM "Rule" "__init__")) "moves") K)), ("start", .str "front"), ("fresh", .str "none"), ("sees", .str "now")] ((adM "Rule" "__init__") K) fd_Rule_init := FD_Rule_init
  obtain ⟨fd_Rule_moves, FD_Rule_moves⟩ := c.def_ 2 (d := dd_Rule_moves) rfl
  have F_Rule_moves : FunD K "moves" "Rule.moves" (defArgs s_Rule_moves) (defBody s_Rule_moves) (defScope s_Rule_moves) [] [] ((adP "Rule" "moves") K) fd_Rule_moves := FD_Rule_moves
  have Fu_Rule_moves : Fun K "moves" "Rule.moves" s_Rule_moves ((adP "Rule" "moves") K) fd_Rule_moves := He5.fun_of F_Rule_moves
  obtain ⟨fd_Rule_start, FD_Rule_start⟩ := c.def_ 3 (d := dd_Rule_start) rfl
  have F_Rule_start : FunD K "start" "Rule.start" (defArgs s_Rule_start) (defBody s_Rule_start) (defScope s_Rule_start) [] [] ((adP "Rule" "start") K) fd_Rule_start := FD_Rule_start
  have Fu_Rule_start : Fun K "start" "Rule.start" s_Rule_start ((adP "Rule" "start") K) fd_Rule_start := He5.fun_of F_Rule_start
  obtain ⟨fd_Rule_fresh, FD_Rule_fresh⟩ := c.def_ 4 (d := dd_Rule_fresh) rfl
  have F_Rule_fresh : FunD K "fresh" "Rule.fresh" (defArgs s_Rule_fresh) (defBody s_Rule_fresh) (defScope s_Rule_fresh) [] [] ((adP "Rule" "fresh") K) fd_Rule_fresh := FD_Rule_fresh
  have Fu_Rule_fresh : Fun K "fresh" "Rule.fresh" s_Rule_fresh ((adP "Rule" "fresh") K) fd_Rule_fresh := He5.fun_of F_Rule_fresh
  obtain ⟨fd_Rule_sees, FD_Rule_sees⟩ := c.def_ 5 (d := dd_Rule_sees) rfl
  have F_Rule_sees : FunD K "sees" "Rule.sees" (defArgs s_Rule_sees) (defBody s_Rule_sees) (defScope s_Rule_sees) [] [] ((adP "Rule" "sees") K) fd_Rule_sees := FD_Rule_sees
  have Fu_Rule_sees : Fun K "sees" "Rule.sees" s_Rule_sees ((adP "Rule" "sees") K) fd_Rule_sees := He5.fun_of F_Rule_sees
  obtain ⟨fd_can_be_missed, FD_can_be_missed⟩ := c.def_ 6 (d := dd_can_be_missed) rfl
  have F_can_be_missed : FunD K "can_be_missed" "can_be_missed" (defArgs s_can_be_missed) (defBody s_can_be_missed) (defScope s_can_be_missed) [] [] ((adG "can_be_missed") K) fd_can_be_missed := FD_can_be_missed
  have Fu_can_be_missed : Fun K "can_be_missed" "can_be_missed" s_can_be_missed ((adG "can_be_missed") K) fd_can_be_missed := He5.fun_of F_can_be_missed
  obtain ⟨fd_can_be_doubled, FD_can_be_doubled⟩ := c.def_ 7 (d := dd_can_be_doubled) rfl
  have F_can_be_doubled : FunD K "can_be_doubled" "can_be_doubled" (defArgs s_can_be_doubled) (defBody s_can_be_doubled) (defScope s_can_be_doubled) [] [] ((adG "can_be_doubled") K) fd_can_be_doubled := FD_can_be_doubled
  have Fu_can_be_doubled : Fun K "can_be_doubled" "can_be_doubled" s_can_be_doubled ((adG "can_be_doubled") K) fd_can_be_doubled := He5.fun_of F_can_be_doubled
  obtain ⟨fd_starts_of, FD_starts_of⟩ := c.def_ 8 (d := dd_starts_of) rfl
  have F_starts_of : FunD K "starts_of" "starts_of" (defArgs s_starts_of) (defBody s_starts_of) (defScope s_starts_of) [] [] ((adG "starts_of") K) fd_starts_of := FD_starts_of
  have Fu_starts_of : Fun K "starts_of" "starts_of" s_starts_of ((adG "starts_of") K) fd_starts_of := He5.fun_of F_starts_of
  obtain ⟨fd_beginnings, FD_beginnings⟩ := c.def_ 9 (d := dd_beginnings) rfl
  have F_beginnings : FunD K "beginnings" "beginnings" (defArgs s_beginnings) (defBody s_beginnings) (defScope s_beginnings) [] [] ((adG "beginnings") K) fd_beginnings := FD_beginnings
  have Fu_beginnings : Fun K "beginnings" "beginnings" s_beginnings ((adG "beginnings") K) fd_beginnings := He5.fun_of F_beginnings
  obtain ⟨fd_is_end, FD_is_end⟩ := c.def_ 10 (d := dd_is_end) rfl
  have F_is_end : FunD K "is_end" "is_end" (defArgs s_is_end) (defBody s_is_end) (defScope s_is_end) [] [] ((adG "is_end") K) fd_is_end := FD_is_end
  have Fu_is_end : Fun K "is_end" "is_end" s_is_end ((adG "is_end") K) fd_is_end := He5.fun_of F_is_end
  obtain ⟨fd_visited_next, FD_visited_next⟩ := c.def_ 11 (d := dd_visited_next) rfl
  have F_visited_next : FunD K "visited_next" "visited_next" (defArgs s_visited_next) (defBody s_visited_next) (defScope s_visited_next) [] [] ((adG "visited_next") K) fd_visited_next := FD_visited_next
  have Fu_visited_next : Fun K "visited_next" "visited_next" s_visited_next ((adG "visited_next") K) fd_visited_next := He5.fun_of F_visited_next
  obtain ⟨fd_moved, FD_moved⟩ := c.def_ 12 (d := dd_moved) rfl
  have F_moved : FunD K "moved" "moved" (defArgs s_moved) (defBody s_moved) (defScope s_moved) [] [] ((adG "moved") K) fd_moved := FD_moved
  have Fu_moved : Fun K "moved" "moved" s_moved ((adG "moved") K) fd_moved := He5.fun_of F_moved
  obtain ⟨fd_behind, FD_behind⟩ := c.def_ 13 (d := dd_behind) rfl
  have F_behind : FunD K "behind" "behind" (defArgs s_behind) (defBody s_behind) (defScope s_behind) [] [] ((adG "behind") K) fd_behind := FD_behind
  have Fu_behind : Fun K "behind" "behind" s_behind ((adG "behind") K) fd_behind := He5.fun_of F_behind
  obtain ⟨fd_lot, FD_lot⟩ := c.def_ 14 (d := dd_lot) rfl
  have F_lot : FunD K "lot" "lot" (defArgs s_lot) (defBody s_lot) (defScope s_lot) [] [] ((adG "lot") K) fd_lot := FD_lot
  have Fu_lot : Fun K "lot" "lot" s_lot ((adG "lot") K) fd_lot := He5.fun_of F_lot
  obtain ⟨fd_L_begin, FD_L_begin⟩ := c.def_ 15 (d := dd_L_begin) rfl
  have F_L_begin : FunD K "_law_begin" "_law_begin" (defArgs s_L_begin) (defBody s_L_begin) (defScope s_L_begin) [] [] ((adG "_law_begin") K) fd_L_begin := FD_L_begin
  have Fu_L_begin : Fun K "_law_begin" "_law_begin" s_L_begin ((adG "_law_begin") K) fd_L_begin := He5.fun_of F_L_begin
  obtain ⟨fd_L_draw, FD_L_draw⟩ := c.def_ 16 (d := dd_L_draw) rfl
  have F_L_draw : FunD K "_law_draw" "_law_draw" (defArgs s_L_draw) (defBody s_L_draw) (defScope s_L_draw) [] [] ((adG "_law_draw") K) fd_L_draw := FD_L_draw
  have Fu_L_draw : Fun K "_law_draw" "_law_draw" s_L_draw ((adG "_law_draw") K) fd_L_draw := He5.fun_of F_L_draw
  obtain ⟨fd_L_mixed, FD_L_mixed⟩ := c.def_ 17 (d := dd_L_mixed) rfl
  have F_L_mixed : FunD K "_law_mixed" "_law_mixed" (defArgs s_L_mixed) (defBody s_L_mixed) (defScope s_L_mixed) [] [] ((adG "_law_mixed") K) fd_L_mixed := FD_L_mixed
  have Fu_L_mixed : Fun K "_law_mixed" "_law_mixed" s_L_mixed ((adG "_law_mixed") K) fd_L_mixed := He5.fun_of F_L_mixed
  obtain ⟨fd_L_rule, FD_L_rule⟩ := c.def_ 18 (d := dd_L_rule) rfl
  have F_L_rule : FunD K "_law_rule" "_law_rule" (defArgs s_L_rule) (defBody s_L_rule) (defScope s_L_rule) [] [] ((adG "_law_rule") K) fd_L_rule := FD_L_rule
  have Fu_L_rule : Fun K "_law_rule" "_law_rule" s_L_rule ((adG "_law_rule") K) fd_L_rule := He5.fun_of F_L_rule
  obtain ⟨fd_L_every, FD_L_every⟩ := c.def_ 19 (d := dd_L_every) rfl
  have F_L_every : FunD K "_law_every" "_law_every" (defArgs s_L_every) (defBody s_L_every) (defScope s_L_every) [] [] ((adG "_law_every") K) fd_L_every := FD_L_every
  have Fu_L_every : Fun K "_law_every" "_law_every" s_L_every ((adG "_law_every") K) fd_L_every := He5.fun_of F_L_every
  obtain ⟨fd_L_behind, FD_L_behind⟩ := c.def_ 20 (d := dd_L_behind) rfl
  have F_L_behind : FunD K "_law_behind" "_law_behind" (defArgs s_L_behind) (defBody s_L_behind) (defScope s_L_behind) [] [] ((adG "_law_behind") K) fd_L_behind := FD_L_behind
  have Fu_L_behind : Fun K "_law_behind" "_law_behind" s_L_behind ((adG "_law_behind") K) fd_L_behind := He5.fun_of F_L_behind
  obtain ⟨fd_L_begins, FD_L_begins⟩ := c.def_ 21 (d := dd_L_begins) rfl
  have F_L_begins : FunD K "_law_begins" "_law_begins" (defArgs s_L_begins) (defBody s_L_begins) (defScope s_L_begins) [] [] ((adG "_law_begins") K) fd_L_begins := FD_L_begins
  have Fu_L_begins : Fun K "_law_begins" "_law_begins" s_L_begins ((adG "_law_begins") K) fd_L_begins := He5.fun_of F_L_begins
  obtain ⟨fd_L_closed, FD_L_closed⟩ := c.def_ 22 (d := dd_L_closed) rfl
  have F_L_closed : FunD K "_law_closed" "_law_closed" (defArgs s_L_closed) (defBody s_L_closed) (defScope s_L_closed) [] [] ((adG "_law_closed") K) fd_L_closed := FD_L_closed
  have Fu_L_closed : Fun K "_law_closed" "_law_closed" s_L_closed ((adG "_law_closed") K) fd_L_closed := He5.fun_of F_L_closed
  obtain ⟨fd_L_shows, FD_L_shows⟩ := c.def_ 23 (d := dd_L_shows) rfl
  have F_L_shows : FunD K "_law_shows" "_law_shows" (defArgs s_L_shows) (defBody s_L_shows) (defScope s_L_shows) [] [] ((adG "_law_shows") K) fd_L_shows := FD_L_shows
  have Fu_L_shows : Fun K "_law_shows" "_law_shows" s_L_shows ((adG "_law_shows") K) fd_L_shows := He5.fun_of F_L_shows
  obtain ⟨fd_law, FD_law⟩ := c.def_ 24 (d := dd_law) rfl
  have F_law : FunD K "law" "law" (defArgs s_law) (defBody s_law) (defScope s_law) [] [] ((adG "law") K) fd_law := FD_law
  have Fu_law : Fun K "law" "law" s_law ((adG "law") K) fd_law := He5.fun_of F_law
  have hb : ∀ (s : Shared) (v : Value), BindsTo s fd_law ⟨[v], []⟩ [("_law_script", v)] := fun s v => (FunD.bindsA (ps := ["_law_script"]) F_law fun _ _ _ _ _ _ us hl => match us, hl with | [_], _ => rfl) s [v] rfl
  let T : TX PySem.Challenge.rw_joinedrounds_k16_whole_lots_of_states.prog w K mg := { z_all := PySem.W.mg_none_of X G (isNo_ok (c.b 0)), z_dict := PySem.W.mg_none_of X G (isNo_ok (c.b 1)), z_int := PySem.W.mg_none_of X G (isNo_ok (c.b 2)), z_isinstance := PySem.W.mg_none_of X G (isNo_ok (c.b 3)), z_len := PySem.W.mg_none_of X G (isNo_ok (c.b 4)), z_list := PySem.W.mg_none_of X G (isNo_ok (c.b 5)), z_range := PySem.W.mg_none_of X G (isNo_ok (c.b 6)), z_sorted := PySem.W.mg_none_of X G (isNo_ok (c.b 7)), z_str := PySem.W.mg_none_of X G (isNo_ok (c.b 8)), z_tuple := PySem.W.mg_none_of X G (isNo_ok (c.b 9)), z_zip := PySem.W.mg_none_of X G (isNo_ok (c.b 10)), c_MOST_CAME := mgB_ok X G (c.b 11), c_MOST_SEEN := mgB_ok X G (c.b 12), c_MOVES := ⟨_, PySem.W.mg_of X G (gloB (c.b 13)), rfl⟩, c_PAGES := mgB_ok X G (c.b 14), c_PARTS := ⟨_, PySem.W.mg_of X G (gloB (c.b 15)), rfl⟩, c_WORDS := ⟨_, PySem.W.mg_of X G (gloB (c.b 16)), rfl⟩, A_MOVES := (adG "MOVES") K, tu_MOVES := tupAt_ok (c.b 17), A_MOVES_3 := (adI (adG "MOVES") 3) K, tu_MOVES_3 := tupAt_ok (c.b 18), A_MOVES_2 := (adI (adG "MOVES") 2) K, tu_MOVES_2 := tupAt_ok (c.b 19), A_MOVES_1 := (adI (adG "MOVES") 1) K, tu_MOVES_1 := tupAt_ok (c.b 20), A_MOVES_0 := (adI (adG "MOVES") 0) K, tu_MOVES_0 := tupAt_ok (c.b 21), A_PARTS := (adG "PARTS") K, tu_PARTS := tupAt_ok (c.b 22), A_WORDS := (adG "WORDS") K, kd_WORDS_start := ndB_ok kd_WORDS (c.b 23), kd_WORDS_fresh := ndB_ok kd_WORDS (c.b 24), kd_WORDS_sees := ndB_ok kd_WORDS (c.b 25), A_WORDS_2 := (adK (adG "WORDS") "sees") K, tu_WORDS_2 := tupAt_ok (c.b 26), A_WORDS_1 := (adK (adG "WORDS") "fresh") K, tu_WORDS_1 := tupAt_ok (c.b 27), A_WORDS_0 := (adK (adG "WORDS") "start") K, tu_WORDS_0 := tupAt_ok (c.b 28), C_Rule := (adG "Rule" K), g_Rule := PySem.W.mg_of X G (gloB (c.b 29)), cl_Rule := ⟨c.b 30, c.b 31, c.b 32, isBi_ok (c.b 33)⟩, na_Rule_kept_parts := isNo_ok (c.b 34), f_is_part_value := ((adG "is_part_value") K), fd_is_part_value := fd_is_part_value, F_is_part_value := Fu_is_part_value, b_is_part_value := Fu_is_part_value.binds (ps := ["part", "value"]) fun _ _ _ _ _ _ us hl => match us, hl with | [_, _], _ => rfl, g_is_part_value := PySem.W.mg_of X G (gloB (c.b 35)), A_Rule_init_moves := (adK (adKw (adM "Rule" "__init__")) "moves") K, tu_Rule_init_moves := tupAt_ok (c.b 36), f_Rule_init := ((adM "Rule" "__init__") K), fd_Rule_init := fd_Rule_init, F_Rule_init := F_Rule_init, kb4_Rule_init := F_Rule_init.kbinds0 1 ["moves", "start", "fresh", "sees"] [] (fun us _ ws => us ++ ws) (fun z => nomatch z) (fun q hq => by cases hq) (fun r1 _ r3 => r1.append r3) fun _ _ _ _ _ _ us mv ws h1 h2 h3 => match us, mv, ws, h1, h2, h3 with | [_], [], [_, _, _, _], _, _, _ => rfl, mk_Rule := ⟨c.b 39, metB (c.b 37), c.b 38, c.b 40⟩, f_Rule_moves := ((adP "Rule" "moves") K), fd_Rule_moves := fd_Rule_moves, F_Rule_moves := Fu_Rule_moves, b_Rule_moves := Fu_Rule_moves.binds (ps := ["self"]) fun _ _ _ _ _ _ us hl => match us, hl with | [_], _ => rfl, pa_Rule_moves := (adM "Rule" "moves" K), p_Rule_moves := ⟨metB (c.b 41), isBi_ok (c.b 42), isB_ok (c.b 43), prB_ok (c.b 44)⟩, f_Rule_start := ((adP "Rule" "start") K), fd_Rule_start := fd_Rule_start, F_Rule_start := Fu_Rule_start, b_Rule_start := Fu_Rule_start.binds (ps := ["self"]) fun _ _ _ _ _ _ us hl => match us, hl with | [_], _ => rfl, pa_Rule_start := (adM "Rule" "start" K), p_Rule_start := ⟨metB (c.b 45), isBi_ok (c.b 46), isB_ok (c.b 47), prB_ok (c.b 48)⟩, f_Rule_fresh := ((adP "Rule" "fresh") K), fd_Rule_fresh := fd_Rule_fresh, F_Rule_fresh := Fu_Rule_fresh, b_Rule_fresh := Fu_Rule_fresh.binds (ps := ["self"]) fun _ _ _ _ _ _ us hl => match us, hl with | [_], _ => rfl, pa_Rule_fresh := (adM "Rule" "fresh" K), p_Rule_fresh := ⟨metB (c.b 49), isBi_ok (c.b 50), isB_ok (c.b 51), prB_ok (c.b 52)⟩, f_Rule_sees := ((adP "Rule" "sees") K), fd_Rule_sees := fd_Rule_sees, F_Rule_sees := Fu_Rule_sees, b_Rule_sees := Fu_Rule_sees.binds (ps := ["self"]) fun _ _ _ _ _ _ us hl => match us, hl with | [_], _ => rfl, pa_Rule_sees := (adM "Rule" "sees" K), p_Rule_sees := ⟨metB (c.b 53), isBi_ok (c.b 54), isB_ok (c.b 55), prB_ok (c.b 56)⟩, f_can_be_missed := ((adG "can_be_missed") K), fd_can_be_missed := fd_can_be_missed, F_can_be_missed := Fu_can_be_missed, b_can_be_missed := Fu_can_be_missed.binds (ps := ["rule"]) fun _ _ _ _ _ _ us hl => match us, hl with | [_], _ => rfl, g_can_be_missed := PySem.W.mg_of X G (gloB (c.b 57)), f_can_be_doubled := ((adG "can_be_doubled") K), fd_can_be_doubled := fd_can_be_doubled, F_can_be_doubled := Fu_can_be_doubled, b_can_be_doubled := Fu_can_be_doubled.binds (ps := ["rule"]) fun _ _ _ _ _ _ us hl => match us, hl with | [_], _ => rfl, g_can_be_doubled := PySem.W.mg_of X G (gloB (c.b 58)), f_starts_of := ((adG "starts_of") K), fd_starts_of := fd_starts_of, F_starts_of := Fu_starts_of, b_starts_of := Fu_starts_of.binds (ps := ["rule"]) fun _ _ _ _ _ _ us hl => match us, hl with | [_], _ => rfl, g_starts_of := PySem.W.mg_of X G (gloB (c.b 59)), f_beginnings := ((adG "beginnings") K), fd_beginnings := fd_beginnings, F_beginnings := Fu_beginnings, b_beginnings := Fu_beginnings.binds (ps := ["rule"]) fun _ _ _ _ _ _ us hl => match us, hl with | [_], _ => rfl, g_beginnings := PySem.W.mg_of X G (gloB (c.b 60)), f_is_end := ((adG "is_end") K), fd_is_end := fd_is_end, F_is_end := Fu_is_end, b_is_end := Fu_is_end.binds (ps := ["rule", "state"]) fun _ _ _ _ _ _ us hl => match us, hl with | [_, _], _ => rfl, g_is_end := PySem.W.mg_of X G (gloB (c.b 61)), f_visited_next := ((adG "visited_next") K), fd_visited_next := fd_visited_next, F_visited_next := Fu_visited_next, b_visited_next := Fu_visited_next.binds (ps := ["state"]) fun _ _ _ _ _ _ us hl => match us, hl with | [_], _ => rfl, g_visited_next := PySem.W.mg_of X G (gloB (c.b 62)), f_moved := ((adG "moved") K), fd_moved := fd_moved, F_moved := Fu_moved, b_moved := Fu_moved.binds (ps := ["rule", "state"]) fun _ _ _ _ _ _ us hl => match us, hl with | [_, _], _ => rfl, g_moved := PySem.W.mg_of X G (gloB (c.b 63)), f_behind := ((adG "behind") K), fd_behind := fd_behind, F_behind := Fu_behind, b_behind := Fu_behind.binds (ps := ["rule", "state"]) fun _ _ _ _ _ _ us hl => match us, hl with | [_, _], _ => rfl, g_behind := PySem.W.mg_of X G (gloB (c.b 64)), f_lot := ((adG "lot") K), fd_lot := fd_lot, F_lot := Fu_lot, b_lot := Fu_lot.binds (ps := ["rule"]) fun _ _ _ _ _ _ us hl => match us, hl with | [_], _ => rfl, c_lot := adC (adG "lot") K, P_lot := adT (adG "lot") K, FC_lot := funC_of Fu_lot, g_lot := PySem.W.mg_of X G (gloB (c.b 65)), f_L_begin := ((adG "_law_begin") K), fd_L_begin := fd_L_begin, F_L_begin := Fu_L_begin, b_L_begin := Fu_L_begin.binds (ps := ["_law_script"]) fun _ _ _ _ _ _ us hl => match us, hl with | [_], _ => rfl, g_L_begin := PySem.W.mg_of X G (gloB (c.b 66)), f_L_draw := ((adG "_law_draw") K), fd_L_draw := fd_L_draw, F_L_draw := Fu_L_draw, b_L_draw := Fu_L_draw.binds (ps := ["_law_source", "_law_limit"]) fun _ _ _ _ _ _ us hl => match us, hl with | [_, _], _ => rfl, g_L_draw := PySem.W.mg_of X G (gloB (c.b 67)), f_L_mixed := ((adG "_law_mixed") K), fd_L_mixed := fd_L_mixed, F_L_mixed := Fu_L_mixed, b_L_mixed := Fu_L_mixed.binds (ps := ["_law_source", "_law_items"]) fun _ _ _ _ _ _ us hl => match us, hl with | [_, _], _ => rfl, g_L_mixed := PySem.W.mg_of X G (gloB (c.b 68)), f_L_rule := ((adG "_law_rule") K), fd_L_rule := fd_L_rule, F_L_rule := Fu_L_rule, b_L_rule := Fu_L_rule.binds (ps := ["_law_case"]) fun _ _ _ _ _ _ us hl => match us, hl with | [_], _ => rfl, g_L_rule := PySem.W.mg_of X G (gloB (c.b 69)), f_L_every := ((adG "_law_every") K), fd_L_every := fd_L_every, F_L_every := Fu_L_every, b_L_every := Fu_L_every.binds (ps := []) fun _ _ _ _ _ _ us hl => match us, hl with | [], _ => rfl, g_L_every := PySem.W.mg_of X G (gloB (c.b 70)), f_L_behind := ((adG "_law_behind") K), fd_L_behind := fd_L_behind, F_L_behind := Fu_L_behind, b_L_behind := Fu_L_behind.binds (ps := ["_law_case", "_law_state"]) fun _ _ _ _ _ _ us hl => match us, hl with | [_, _], _ => rfl, g_L_behind := PySem.W.mg_of X G (gloB (c.b 71)), f_L_begins := ((adG "_law_begins") K), fd_L_begins := fd_L_begins, F_L_begins := Fu_L_begins, b_L_begins := Fu_L_begins.binds (ps := ["_law_case"]) fun _ _ _ _ _ _ us hl => match us, hl with | [_], _ => rfl, g_L_begins := PySem.W.mg_of X G (gloB (c.b 72)), f_L_closed := ((adG "_law_closed") K), fd_L_closed := fd_L_closed, F_L_closed := Fu_L_closed, b_L_closed := Fu_L_closed.binds (ps := ["_law_case", "_law_some"]) fun _ _ _ _ _ _ us hl => match us, hl with | [_, _], _ => rfl, c_L_closed := adC (adG "_law_closed") K, P_L_closed := adT (adG "_law_closed") K, FC_L_closed := funC_of Fu_L_closed, g_L_closed := PySem.W.mg_of X G (gloB (c.b 73)), f_L_shows := ((adG "_law_shows") K), fd_L_shows := fd_L_shows, F_L_shows := Fu_L_shows, b_L_shows := Fu_L_shows.binds (ps := ["_law_case", "_law_harm", "_law_states"]) fun _ _ _ _ _ _ us hl => match us, hl with | [_, _, _], _ => rfl, g_L_shows := PySem.W.mg_of X G (gloB (c.b 74)), f_law := ((adG "law") K), fd_law := fd_law, F_law := Fu_law, b_law := Fu_law.binds (ps := ["_law_script"]) fun _ _ _ _ _ _ us hl => match us, hl with | [_], _ => rfl, g_law := PySem.W.mg_of X G (gloB (c.b 75)), pd_lot_L_closed := c.q (p := ((adT (adG "lot") K) == (adT (adG "_law_closed") K)) = false) 76 }
  exact lawG_mk (fd := fd_law) T (c.tabd X) hb fun base _ _ TB => G_law T TB
end K16

set_option pp.maxSteps 400
namespace K16
open PySem PySem.W PySem.Calls PyProof.Rows J
abbrev R0 : OpenRow := OpenLaw.row PySem.Challenge.rw_joinedrounds_k16_whole_lots_of_states
def nm0 : List PySem.Str := ["_wall", "RoundError", "InvalidName", "InvalidRule", "PARTS", "MOVES", "WORDS", "is_part_value", "Rule", "can_be_missed", "can_be_doubled", "PAGES", "MOST_CAME", "MOST_SEEN", "starts_of", "beginnings", "is_end", "visited_next", "moved", "behind", "lot", "_law_begin", "_law_draw", "_law_mixed", "_law_rule", "_law_every", "_law_behind", "_law_begins", "_law_closed", "_law_shows"]
def nms : List PySem.Str := nm0
abbrev qv : Program := view R0.prog [35]
abbrev hk : Hook := hookJ 6 hdD
def ob (s : SharedT) : AlJ0 × Bool := obsJ 6 hdD (HandSHeadRun.getT s)
theorem ob_eq (s : SharedT) : ob s = hk.obs s.abs := obsJ_eq (HandSHeadRun.getT_eq s)
theorem run_f (w : World) : HandSHeadRun.RunEq R0 qv hk ob 20000 nms (w.withFollow "special-get-raises" false) := by
  intro os
  kernel_rfl
theorem run_t (w : World) : HandSHeadRun.RunEq R0 qv hk ob 20000 nms (w.withFollow "special-get-raises" true) := by
  intro os
  kernel_rfl
theorem run (w : World) : HandSHeadRun.RunEq R0 qv hk ob 20000 nms w := byRow2 "special-get-raises" (P := fun w => HandSHeadRun.RunEq R0 qv hk ob 20000 nms w) run_f run_t w
end K16
open PySem PySem.W PySem.Calls PyProof.Rows
set_option maxHeartbeats 0 in
theorem PySem.Challenge.cw_joinedrounds_k16_whole_lots_of_states_holds : PySem.Challenge.rw_joinedrounds_k16_whole_lots_of_states.Holds := by
  w_on; o_law
  refine HandSHeadRun.head_any (r := OpenLaw.row PySem.Challenge.rw_joinedrounds_k16_whole_lots_of_states) (q := K16.qv) (H := K16.hk) (ob := K16.ob) (M := 20000) (loose := K16.nms) (d := HandSHeadRun.topDef (OpenLaw.row PySem.Challenge.rw_joinedrounds_k16_whole_lots_of_states).prog 35) (kwd := []) K16.ob_eq
    (by kernel_rfl) (fun s => by kernel_rfl) K16.run (by kernel_rfl) (by kernel_rfl) (by kernel_rfl) (by rfl) (by first | assumption | decide +kernel) (by decide +kernel) ⟨rfl, rfl, rfl, rfl, rfl, by decide +kernel⟩ ?hw ?hc
  case hw => w_witness2
  case hc =>
    refine J.walk_GE (l := PySem.Challenge.rw_joinedrounds_k16_whole_lots_of_states) (n := 63) (k := 6) (x := "_law_script") rfl (by decide) (by kernel_rfl) ⟨rfl, by decide, by decide⟩ ?F
    intro w mg fa h Y G hmg0
    obtain ⟨K, KX, c⟩ := Y
    have hmg : mg ("law" : PySem.Str) = some (.ref fa) := by
      have e : (HandSHeadRun.topDef (OpenLaw.row PySem.Challenge.rw_joinedrounds_k16_whole_lots_of_states).prog 35).name = ("law" : PySem.Str) := by kernel_rfl
      rw [← e]
      exact hmg0
    exact ⟨K, KX, K16.law_of KX G hmg c⟩

