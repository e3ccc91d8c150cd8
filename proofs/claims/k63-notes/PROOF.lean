import PyProof.Rows.All
import Wide.All
import OpenK.AllK
import Wide.FinOn
import HandS.ForMost
import HandS.Evl
import HandS.IsInst
import HandS.Property
import HandS.Defaults
import HandS.Lambda
import HandS.More
import HandS.Style
import HandS.Wide
import HandS.Zip
import HandS.Conv
import HandS.Walk
import HandS.Deep
import HandS.RaiseMore
import HandS.TupAny
import KE.DatumMore
import HandS.MakeKwOnly
import PyProof.ReprLen
import PyProof.Rows.RegStrFacts
import HandS.EndOwn
import HandS.DeepEq
import PyProof.ReprReads
import KE.KSuper
import KE.KExcSuper
import HandS.ExcInitHot
import HandS.ExcField
import HandS.ExcIs
import HandS.ExcCtx
import HandS.WordsExc
import HandS.TryMany
import HandS.HotCalls
import KE.KExcIs
import HandS.NoneIn
import PySem.Challenge.RW_joinedrounds_k63_notes
import HandS.Head0
import HandS.Head1
import HandS.Head2
import HandS.HeadHook1
import HandS.HeadHook2
import HandS.HeadHook3
import HandS.HeadHook4
import HandS.HeadNt
import HandS.OwnEq
import PyProof.InstNe
import HandS.SetFor
import KE.DataEq
import HandS.MakeKw
import KE.KEqDict
import KE.KTryMore
import KE.GoesEnum
import KE.GoesMore
import HandS.ClsMeth
import HandS.SortInts
import HandS.Star
import KE.SortKeyHeap
import HandS.Replace
import KE.KDictSum
import KE.KDictDisplayH
import HandS.ExcValue
import KE.KDictZip
import HandS.DictTup
import HandS.DictComp
import HandS.SetKeys
import HandS.Text
import HandS.Codes
import HandS.Flow
import KE.KOpsOwn
set_option Elab.async false
set_option linter.all false
set_option maxRecDepth 100000
set_option maxHeartbeats 4000000
/-! JKit: a stable part S of the heap H, resources, judgements of expressions, relations of values with data. -/
namespace J
open PySem PySem.Spec L2 Evl

/-! ### worlds -/
/-- code objects stay -/
def CoK (H H' : Hp) : Prop := ∀ a q, H a = some (LamX.CodeO a q) → H' a = some (LamX.CodeO a q)
theorem CoK.ex {H H' : Hp} (e : ∀ a u, H a = some u → H' a = some u) : CoK H H' := fun a q h => e a _ h
theorem CoK.upd {H : Hp} {p : Addr} {o : HO} (n : ∀ q, H p ≠ some (LamX.CodeO p q)) : CoK H (L2.upd H p o) := fun a q h => by
  rw [upd_ne (fun z : a = p => n q (z ▸ h))]
  exact h
theorem nco_lst {H : Hp} {p : Addr} {xs : List V} (h : H p = some (.lst xs)) : ∀ q, H p ≠ some (LamX.CodeO p q) := fun q z => by
  rw [h] at z
  unfold LamX.CodeO at z
  cases z
theorem nco_ins {H : Hp} {p C d : Addr} {fs : List (Str × V)} (h : H p = some (.ins C d fs)) : ∀ q, H p ≠ some (LamX.CodeO p q) := fun q z => by
  rw [h] at z
  unfold LamX.CodeO at z
  cases z
theorem nco_dK {H : Hp} {p : Addr} {kvs : List (Key × V)} (h : H p = some (.dK kvs)) : ∀ q, H p ≠ some (LamX.CodeO p q) := fun q z => by
  rw [h] at z
  unfold LamX.CodeO at z
  cases z
theorem nco_dT {H : Hp} {p : Addr} {kvs : List (List Key × V)} (h : H p = some (.dT kvs)) : ∀ q, H p ≠ some (LamX.CodeO p q) := fun q z => by
  rw [h] at z
  unfold LamX.CodeO at z
  cases z
/-- what may be changed: the addresses M, and what is true of them -/
structure Rs where
  M : List Addr
  I : Hp → Prop
  mono : ∀ H H' : Hp, (∀ a o, a ∈ M → H a = some o → H' a = some o) → CoK H H' → I H → I H'
  has : ∀ H, I H → ∀ a, a ∈ M → H a ≠ none
def Rs.nil : Rs := ⟨[], fun _ => True, fun _ _ _ _ _ => True.intro, fun _ _ a h => by cases h⟩
structure Wd (r : Rs) (S H : Hp) : Prop where
  ex : Ex S H
  inv : r.I H
  dj : ∀ a, a ∈ r.M → S a = none
structure Stp (r : Rs) (S H S' H' : Hp) : Prop where
  ex : Ex S S'
  kp : ∀ a o, a ∉ r.M → H a = some o → H' a = some o
  fr : ∀ a, H a ≠ none → S a = none → S' a = none
  dm : ∀ a, H a ≠ none → H' a ≠ none
theorem Stp.refl {r : Rs} {S H : Hp} : Stp r S H S H := ⟨Ex.refl S, fun _ _ _ h => h, fun _ _ h => h, fun _ h => h⟩
theorem Stp.trans {r : Rs} {S H S1 H1 S2 H2 : Hp} (a : Stp r S H S1 H1) (b : Stp r S1 H1 S2 H2) : Stp r S H S2 H2 :=
  ⟨a.ex.trans b.ex, fun x o n h => b.kp x o n (a.kp x o n h), fun x h e => b.fr x (a.dm x h) (a.fr x h e), fun x h => b.dm x (a.dm x h)⟩
theorem none_of {H : Hp} {a : Addr} (h : ¬ H a ≠ none) : H a = none := Classical.byContradiction h
theorem ne_none {H : Hp} {a : Addr} {o : HO} (h : H a = some o) : H a ≠ none := by
  rw [h]
  exact fun z => nomatch z
theorem Wd.fresh {r : Rs} {S H : Hp} (w : Wd r S H) {p : Addr} (h : H p = none) : S p = none := fresh_back w.ex h
theorem Wd.notM {r : Rs} {S H : Hp} (w : Wd r S H) {p : Addr} (h : H p = none) : p ∉ r.M := fun z => r.has H w.inv p z h
theorem ex_upd2 {S H : Hp} {p : Addr} {o : HO} (e : Ex S H) (h : H p = none) : Ex (upd S p o) (upd H p o) := fun a u q => by
  by_cases z : a = p
  · subst z
    rw [upd_same] at q ⊢
    exact q
  · rw [upd_ne z] at q ⊢
    exact e a u q
/-- a new object, unstable -/
theorem Wd.new {r : Rs} {S H : Hp} (w : Wd r S H) {p : Addr} {o : HO} (h : H p = none) : Wd r S (upd H p o) :=
  ⟨Ex.trans w.ex (Ex.new h), r.mono H _ (fun a u _ q => Ex.new h a u q) (CoK.ex (Ex.new h)) w.inv, w.dj⟩
theorem Stp.new {r : Rs} {S H : Hp} {p : Addr} {o : HO} (h : H p = none) : Stp r S H S (upd H p o) :=
  ⟨Ex.refl S, fun a u _ q => Ex.new h a u q, fun _ _ q => q, fun a q => by
    intro z
    by_cases e : a = p
    · subst e
      exact q h
    · rw [upd_ne e] at z
      exact q z⟩
/-- a new object, stable -/
theorem Wd.newS {r : Rs} {S H : Hp} (w : Wd r S H) {p : Addr} {o : HO} (h : H p = none) : Wd r (upd S p o) (upd H p o) :=
  ⟨ex_upd2 w.ex h, r.mono H _ (fun a u _ q => Ex.new h a u q) (CoK.ex (Ex.new h)) w.inv, fun a ha => by
    have z : a ≠ p := fun e => w.notM h (e ▸ ha)
    rw [upd_ne z]
    exact w.dj a ha⟩
theorem Stp.newS {r : Rs} {S H : Hp} (w : Wd r S H) {p : Addr} {o : HO} (h : H p = none) : Stp r S H (upd S p o) (upd H p o) :=
  ⟨Ex.new (w.fresh h), fun a u _ q => Ex.new h a u q, fun a q e => by
    have z : a ≠ p := fun e => q (e ▸ h)
    rw [upd_ne z]
    exact e, fun a q => by
    have z : a ≠ p := fun e => q (e ▸ h)
    rw [upd_ne z]
    exact q⟩
/-- an unstable new object at p becomes stable -/
theorem Wd.settle {r : Rs} {S H : Hp} (w : Wd r S H) {p : Addr} {o : HO} (h : H p = some o) (n : p ∉ r.M) : Wd r (upd S p o) H :=
  ⟨fun a u q => by
    by_cases z : a = p
    · subst z
      rw [upd_same] at q
      rw [h]
      exact q
    · rw [upd_ne z] at q
      exact w.ex a u q, w.inv, fun a ha => by
    have z : a ≠ p := fun e => n (e ▸ ha)
    rw [upd_ne z]
    exact w.dj a ha⟩
theorem Stp.settle {r : Rs} {S H S1 H1 : Hp} (st : Stp r S H S1 H1) {p : Addr} {o : HO} (h0 : H p = none) (hs : S1 p = none) : Stp r S H (upd S1 p o) H1 :=
  ⟨st.ex.trans (Ex.new hs), st.kp, fun a q e => by
    have z : a ≠ p := fun e => q (e ▸ h0)
    rw [upd_ne z]
    exact st.fr a q e, st.dm⟩
/-- an unstable object (new since the beginning) is changed -/
theorem Wd.mut {r : Rs} {S H : Hp} (w : Wd r S H) {p : Addr} {o : HO} (hs : S p = none) (n : p ∉ r.M) (hc : ∀ q, H p ≠ some (LamX.CodeO p q) := by first | assumption | exact nco_lst (by assumption) | exact nco_ins (by assumption) | exact nco_dK (by assumption)) : Wd r S (upd H p o) :=
  ⟨Ex.mut w.ex hs, r.mono H _ (fun a u ha q => by
    rw [upd_ne (fun e : a = p => n (e ▸ ha))]
    exact q) (CoK.upd hc) w.inv, w.dj⟩
theorem Stp.mut {r : Rs} {S H S1 H1 : Hp} (st : Stp r S H S1 H1) {p : Addr} {o : HO} (h0 : H p = none) : Stp r S H S1 (upd H1 p o) :=
  ⟨st.ex, fun a u na q => by
    rw [upd_ne (ne_of_none q h0)]
    exact st.kp a u na q, st.fr, fun a q z => by
    by_cases e : a = p
    · subst e
      exact q h0
    · rw [upd_ne e] at z
      exact st.dm a q z⟩
/-- what was unstable and known stays -/
theorem Stp.keeps {r : Rs} {S H S' H' : Hp} (st : Stp r S H S' H') {p : Addr} {o : HO} (h : H p = some o) (n : p ∉ r.M) : H' p = some o := st.kp p o n h
theorem Stp.apart {r : Rs} {S H S' H' : Hp} (st : Stp r S H S' H') {p : Addr} {o : HO} (h : H p = some o) (hs : S p = none) : S' p = none := st.fr p (ne_none h) hs
theorem Wd.mono {r : Rs} {S S1 H : Hp} (w : Wd r S1 H) (e : Ex S S1) : Wd r S H :=
  ⟨e.trans w.ex, w.inv, fun a ha => fresh_back e (w.dj a ha)⟩

/-! ### relations of values with data -/
abbrev Rl (α : Type) := α → V → Hp → Prop
class Mono {α : Type} (R : Rl α) : Prop where
  up : ∀ {x : α} {v : V} {S S' : Hp}, Ex S S' → R x v S → R x v S'
def ValR : Rl V := fun u v _ => v = u
def IntR : Rl Int := fun i v _ => v = .int i
def BoolR : Rl Bool := fun b v _ => v = .bl b
def StrR : Rl Str := fun z v _ => v = .str z
instance : Mono ValR := ⟨fun _ h => h⟩
instance : Mono IntR := ⟨fun _ h => h⟩
instance : Mono BoolR := ⟨fun _ h => h⟩
instance : Mono StrR := ⟨fun _ h => h⟩
inductive All2 {α : Type} (R : Rl α) (S : Hp) : List α → List V → Prop
  | nil : All2 R S [] []
  | cons {x : α} {v : V} {xs : List α} {vs : List V} : R x v S → All2 R S xs vs → All2 R S (x :: xs) (v :: vs)
theorem All2.up {α : Type} {R : Rl α} [m : Mono R] {S S' : Hp} (e : Ex S S') : ∀ {xs : List α} {vs : List V}, All2 R S xs vs → All2 R S' xs vs
  | _, _, .nil => .nil
  | _, _, .cons h t => .cons (m.up e h) (All2.up e t)
theorem All2.len {α : Type} {R : Rl α} {S : Hp} : ∀ {xs : List α} {vs : List V}, All2 R S xs vs → vs.length = xs.length
  | _, _, .nil => rfl
  | _, _, .cons _ t => by
    rw [List.length_cons, List.length_cons, All2.len t]
theorem All2.get {α : Type} {R : Rl α} {S : Hp} : ∀ {xs : List α} {vs : List V} {i : Nat} {v : V}, All2 R S xs vs → vs[i]? = some v → ∃ x, xs[i]? = some x ∧ R x v S
  | _, _, _, _, .nil, e => by simp at e
  | _, _, 0, _, .cons h _, e => by
    simp at e
    subst e
    exact ⟨_, rfl, h⟩
  | _, _, i + 1, _, .cons _ t, e => by
    obtain ⟨x, h1, h2⟩ := All2.get (i := i) t (by simpa using e)
    exact ⟨x, by simpa using h1, h2⟩
theorem All2.at {α : Type} {R : Rl α} {S : Hp} : ∀ {xs : List α} {vs : List V} {i : Nat} {x : α}, All2 R S xs vs → xs[i]? = some x → ∃ v, vs[i]? = some v ∧ R x v S
  | _, _, _, _, .nil, e => by simp at e
  | _, _, 0, _, .cons h _, e => by
    simp at e
    subst e
    exact ⟨_, rfl, h⟩
  | _, _, i + 1, _, .cons _ t, e => by
    obtain ⟨x, h1, h2⟩ := All2.at (i := i) t (by simpa using e)
    exact ⟨x, by simpa using h1, h2⟩
theorem All2.append {α : Type} {R : Rl α} {S : Hp} : ∀ {xs ys : List α} {vs ws : List V}, All2 R S xs vs → All2 R S ys ws → All2 R S (xs ++ ys) (vs ++ ws)
  | _, _, _, _, .nil, q => q
  | _, _, _, _, .cons h t, q => .cons h (All2.append t q)
theorem All2.snoc {α : Type} {R : Rl α} {S : Hp} {xs : List α} {vs : List V} {x : α} {v : V} (h : All2 R S xs vs) (q : R x v S) : All2 R S (xs ++ [x]) (vs ++ [v]) := h.append (.cons q .nil)
theorem All2.take {α : Type} {R : Rl α} {S : Hp} : ∀ (n : Nat) {xs : List α} {vs : List V}, All2 R S xs vs → All2 R S (xs.take n) (vs.take n)
  | 0, _, _, _ => by
    rw [List.take_zero, List.take_zero]
    exact .nil
  | _ + 1, _, _, .nil => .nil
  | n + 1, _, _, .cons h t => .cons h (All2.take n t)
theorem All2.drop {α : Type} {R : Rl α} {S : Hp} : ∀ (n : Nat) {xs : List α} {vs : List V}, All2 R S xs vs → All2 R S (xs.drop n) (vs.drop n)
  | 0, _, _, h => h
  | _ + 1, _, _, .nil => .nil
  | n + 1, _, _, .cons _ t => All2.drop n t
theorem All2.set {α : Type} {R : Rl α} {S : Hp} {x : α} {v : V} (q : R x v S) : ∀ (i : Nat) {xs : List α} {vs : List V}, All2 R S xs vs → All2 R S (xs.set i x) (vs.set i v)
  | _, _, _, .nil => .nil
  | 0, _, _, .cons _ t => .cons q t
  | i + 1, _, _, .cons h t => .cons h (All2.set q i t)
theorem All2.imp {α β : Type} {R : Rl α} {R' : Rl β} {f : α → β} {S : Hp} (k : ∀ x v, R x v S → R' (f x) v S) : ∀ {xs : List α} {vs : List V}, All2 R S xs vs → All2 R' S (xs.map f) vs
  | _, _, .nil => .nil
  | _, _, .cons h t => .cons (k _ _ h) (All2.imp k t)
theorem All2.ints {S : Hp} : ∀ {xs : List Int} {vs : List V}, All2 IntR S xs vs → vs = xs.map V.int
  | _, _, .nil => rfl
  | _, _, .cons h t => by
    rw [show _ = _ from h, All2.ints t]
    rfl
theorem All2.of_ints {S : Hp} : ∀ (xs : List Int), All2 IntR S xs (xs.map V.int)
  | [] => .nil
  | x :: r => .cons rfl (All2.of_ints r)
theorem All2.bools {S : Hp} : ∀ {xs : List Bool} {vs : List V}, All2 BoolR S xs vs → vs = xs.map V.bl
  | _, _, .nil => rfl
  | _, _, .cons h t => by
    rw [show _ = _ from h, All2.bools t]
    rfl
theorem All2.strs {S : Hp} : ∀ {xs : List Str} {vs : List V}, All2 StrR S xs vs → vs = xs.map V.str
  | _, _, .nil => rfl
  | _, _, .cons h t => by
    rw [show _ = _ from h, All2.strs t]
    rfl
/-- a list, a tuple of such -/
def LstR {α : Type} (R : Rl α) : Rl (List α) := fun xs v S => ∃ a vs, v = .ref a ∧ S a = some (.lst vs) ∧ All2 R S xs vs
section
variable (K : PySem.W.Frag)
def TupR {α : Type} (R : Rl α) : Rl (List α) := fun xs v S => ∃ a vs, v = .ref a ∧ SqT K S a vs ∧ All2 R S xs vs
/-- a list or a tuple -/
def SeqR {α : Type} (R : Rl α) : Rl (List α) := fun xs v S => LstR R xs v S ∨ TupR K R xs v S
def PairR {α β : Type} (R : Rl α) (R' : Rl β) : Rl (α × β) := fun p v S => ∃ a x y, v = .ref a ∧ SqT K S a [x, y] ∧ R p.1 x S ∧ R' p.2 y S
def TripR {α β γ : Type} (R : Rl α) (R' : Rl β) (R'' : Rl γ) : Rl (α × β × γ) := fun p v S => ∃ a x y z, v = .ref a ∧ SqT K S a [x, y, z] ∧ R p.1 x S ∧ R' p.2.1 y S ∧ R'' p.2.2 z S
/-- data of any depth -/
def DatR : Rl PyData := fun d v S => Dp K S v d
end
section
variable {K : PySem.W.Frag}
instance {α : Type} {R : Rl α} [Mono R] : Mono (LstR R) := ⟨fun e ⟨a, vs, h1, h2, h3⟩ => ⟨a, vs, h1, e a _ h2, h3.up e⟩⟩
instance {α : Type} {R : Rl α} [Mono R] : Mono (TupR K R) := ⟨fun e ⟨a, vs, h1, h2, h3⟩ => ⟨a, vs, h1, ex_t e h2, h3.up e⟩⟩
instance {α : Type} {R : Rl α} [m : Mono R] : Mono (SeqR K R) := ⟨fun e h => h.elim (fun h => .inl (Mono.up e h)) (fun h => .inr (Mono.up e h))⟩
instance {α β : Type} {R : Rl α} {R' : Rl β} [m : Mono R] [m' : Mono R'] : Mono (PairR K R R') := ⟨fun e ⟨a, x, y, h1, h2, h3, h4⟩ => ⟨a, x, y, h1, ex_t e h2, m.up e h3, m'.up e h4⟩⟩
instance {α β γ : Type} {R : Rl α} {R' : Rl β} {R'' : Rl γ} [m : Mono R] [m' : Mono R'] [m'' : Mono R''] : Mono (TripR K R R' R'') := ⟨fun e ⟨a, x, y, z, h1, h2, h3, h4, h5⟩ => ⟨a, x, y, z, h1, ex_t e h2, m.up e h3, m'.up e h4, m''.up e h5⟩⟩
mutual
theorem dp_up {S S' : Hp} (e : Ex S S') : ∀ (d : PyData) (v : V), Dp K S v d → Dp K S' v d
  | .none, _, h => by
    cases h
    exact .non
  | .bool b, _, h => by
    cases h
    exact .bl b
  | .int i, _, h => by
    cases h
    exact .int i
  | .str x, _, h => by
    cases h
    exact .str x
  | .list ds, _, h => by
    cases h with
    | lst h1 h2 => exact .lst (ex_l e h1) (dpa_up e ds _ h2)
  | .tuple ds, _, h => by
    cases h with
    | tup h1 h2 => exact .tup (ex_t e h1) (dpa_up e ds _ h2)
  | .dict _, _, h => by cases h
theorem dpa_up {S S' : Hp} (e : Ex S S') : ∀ (ds : List PyData) (vs : List V), DpAll K S vs ds → DpAll K S' vs ds
  | [], _, h => by
    cases h
    exact .nil
  | d :: ds, _, h => by
    cases h with
    | cons h1 h2 => exact .cons (dp_up e d _ h1) (dpa_up e ds _ h2)
end
instance : Mono (DatR K) := ⟨fun e h => dp_up e _ _ h⟩
end
end J

/-! JEv: judgements. -/
namespace J
open PySem PySem.Spec L2 Evl

/-- te gives a value that R tells, at a stable part that has grown -/
def EvS (r : Rs) (te : TE) (s : L2.St) (S : Hp) (R : V → Hp → Prop) : Prop := ∀ S1 H, Ex S S1 → Wd r S1 H → ∀ Q : VK, (∀ v S2 H2, Wd r S2 H2 → Stp r S1 H S2 H2 → R v S2 → Q v H2) → te s H Q
/-- te gives a new object, unstable so far -/
def EvN (r : Rs) (te : TE) (s : L2.St) (S : Hp) (R : HO → Hp → Prop) : Prop := ∀ S1 H, Ex S S1 → Wd r S1 H → ∀ Q : VK, (∀ p o S2 H2, H p = none → H2 p = some o → S2 p = none → Wd r S2 H2 → Stp r S1 H S2 H2 → R o S2 → Q (.ref p) H2) → te s H Q
def EvTS (r : Rs) (tt : TT) (s : L2.St) (S : Hp) (R : Bool → Hp → Prop) : Prop := ∀ S1 H, Ex S S1 → Wd r S1 H → ∀ Q : Bool → Hp → Prop, (∀ b S2 H2, Wd r S2 H2 → Stp r S1 H S2 H2 → R b S2 → Q b H2) → tt s H Q
def EvAS (r : Rs) (ta : TA) (s : L2.St) (S : Hp) (R : List V → Hp → Prop) : Prop := ∀ S1 H, Ex S S1 → Wd r S1 H → ∀ Q : List V → Hp → Prop, (∀ vs S2 H2, Wd r S2 H2 → Stp r S1 H S2 H2 → R vs S2 → Q vs H2) → ta s H Q
/-- a value that is known -/
abbrev EvV (r : Rs) (te : TE) (s : L2.St) (S : Hp) (v : V) : Prop := EvS r te s S fun u _ => u = v
abbrev EvB (r : Rs) (tt : TT) (s : L2.St) (S : Hp) (b : Bool) : Prop := EvTS r tt s S fun c _ => c = b
abbrev EvAV (r : Rs) (ta : TA) (s : L2.St) (S : Hp) (vs : List V) : Prop := EvAS r ta s S fun us _ => us = vs
section
variable {r : Rs} {s : L2.St} {S S' : Hp} {ta tb tc te : TE} {t u : TT} {tt : TT} {x y z v : V} {R R' : V → Hp → Prop}
theorem EvS.mono (e : Ex S S') (h : EvS r te s S R) : EvS r te s S' R := fun S1 H a w Q q => h S1 H (e.trans a) w Q q
theorem EvN.mono {R : HO → Hp → Prop} (e : Ex S S') (h : EvN r te s S R) : EvN r te s S' R := fun S1 H a w Q q => h S1 H (e.trans a) w Q q
theorem EvTS.mono {R : Bool → Hp → Prop} (e : Ex S S') (h : EvTS r t s S R) : EvTS r t s S' R := fun S1 H a w Q q => h S1 H (e.trans a) w Q q
theorem EvS.imp (h : EvS r te s S R) (k : ∀ v S1, Ex S S1 → R v S1 → R' v S1) : EvS r te s S R' := fun S1 H a w Q q => h S1 H a w Q fun v S2 H2 w2 st p => q v S2 H2 w2 st (k v S2 (a.trans st.ex) p)
theorem EvAS.mono' {ta : TA} {P : List V → Hp → Prop} (e : Ex S S') (h : EvAS r ta s S P) : EvAS r ta s S' P := fun S1 H a w Q q => h S1 H (e.trans a) w Q q
theorem EvAS.imp' {ta : TA} {P P' : List V → Hp → Prop} (h : EvAS r ta s S P) (k : ∀ v S1, Ex S S1 → P v S1 → P' v S1) : EvAS r ta s S P' := fun S1 H a w Q q => h S1 H a w Q fun v S2 H2 w2 st p => q v S2 H2 w2 st (k v S2 (a.trans st.ex) p)
theorem EvN.imp {R R' : HO → Hp → Prop} (h : EvN r te s S R) (k : ∀ o S1, Ex S S1 → R o S1 → R' o S1) : EvN r te s S R' := fun S1 H a w Q q => h S1 H a w Q fun p o S2 H2 h1 h2 h3 w2 st z => q p o S2 H2 h1 h2 h3 w2 st (k o S2 (a.trans st.ex) z)
theorem EvTS.imp {R R' : Bool → Hp → Prop} (h : EvTS r t s S R) (k : ∀ v S1, Ex S S1 → R v S1 → R' v S1) : EvTS r t s S R' := fun S1 H a w Q q => h S1 H a w Q fun v S2 H2 w2 st p => q v S2 H2 w2 st (k v S2 (a.trans st.ex) p)
/-- the new object becomes stable -/
theorem EvN.stable {R : HO → Hp → Prop} (h : EvN r te s S R) (k : ∀ p o S1, Ex S S1 → S1 p = none → R o S1 → R' (.ref p) (upd S1 p o)) : EvS r te s S R' := fun S1 H a w Q q =>
  h S1 H a w Q fun p o S2 H2 h1 h2 h3 w2 st z => q (.ref p) (upd S2 p o) H2 (w2.settle h2 (w.notM h1)) (st.settle h1 h3) (k p o S2 (a.trans st.ex) h3 z)
theorem EvV.is {w : V} (h : EvV r te s S v) (e : v = w) : EvV r te s S w := e ▸ h
theorem EvB.is {a b : Bool} (h : EvB r t s S a) (e : a = b) : EvB r t s S b := e ▸ h

/-! ### names, constants -/
theorem ev_var {i : Nat} (h : s[i]? = some (some v)) (p : R v S) (m : ∀ S1, Ex S S1 → R v S → R v S1) : EvS r (tVar i) s S R := fun S1 H a w Q q => ⟨v, h, q v S1 H w Stp.refl (m S1 a p)⟩
theorem vv_var {i : Nat} (h : s[i]? = some (some v)) : EvV r (tVar i) s S v := fun S1 H a w Q q => ⟨v, h, q v S1 H w Stp.refl rfl⟩
theorem vv_c : EvV r (tC v) s S v := fun S1 H a w Q q => q v S1 H w Stp.refl rfl

/-! ### operators -/
/-- an operation that reads at most -/
def RVS (o : R2) (x y : V) (S : Hp) (z : V) : Prop := ∀ H, Ex S H → ∀ Q : VK, Q z H → o x y H Q
/-- an operation that lays one object -/
def RVN (o : R2) (x y : V) (S : Hp) (ob : HO) : Prop := ∀ H, Ex S H → ∀ Q : VK, (∀ p, H p = none → Q (.ref p) (upd H p ob)) → o x y H Q
def RUS (o : V → Hp → VK → Prop) (x : V) (S : Hp) (z : V) : Prop := ∀ H, Ex S H → ∀ Q : VK, Q z H → o x H Q
def RCS (o : List V → Hp → VK → Prop) (vs : List V) (S : Hp) (z : V) : Prop := ∀ H, Ex S H → ∀ Q : VK, Q z H → o vs H Q
def RCN (o : List V → Hp → VK → Prop) (vs : List V) (S : Hp) (R : HO → Prop) : Prop := ∀ H, Ex S H → ∀ Q : VK, (∀ p ob, H p = none → R ob → Q (.ref p) (upd H p ob)) → o vs H Q
variable {o : R2} {A B : V → Hp → Prop}
/-- both sides by relations -/
theorem ev_op2 (ha : EvS r ta s S A) (hb : ∀ x S1, Ex S S1 → A x S1 → EvS r tb s S1 B) (k : ∀ x y S1 S2, Ex S S1 → A x S1 → Ex S1 S2 → B y S2 → ∃ z, RVS o x y S2 z ∧ R z S2) : EvS r (tOp o ta tb) s S R := fun S1 H a w Q q =>
  ha S1 H a w _ fun x S2 H2 w2 s2 hx => hb x S2 (a.trans s2.ex) hx S2 H2 (Ex.refl _) w2 _ fun y S3 H3 w3 s3 hy => by
    obtain ⟨z, hz, rz⟩ := k x y S2 S3 (a.trans s2.ex) hx s3.ex hy
    exact hz H3 w3.ex Q (q z S3 H3 w3 (s2.trans s3) rz)
theorem ev_op2N {R : HO → Hp → Prop} (ha : EvS r ta s S A) (hb : ∀ x S1, Ex S S1 → A x S1 → EvS r tb s S1 B) (k : ∀ x y S1 S2, Ex S S1 → A x S1 → Ex S1 S2 → B y S2 → ∃ z, RVN o x y S2 z ∧ R z S2) : EvN r (tOp o ta tb) s S R := fun S1 H a w Q q =>
  ha S1 H a w _ fun x S2 H2 w2 s2 hx => hb x S2 (a.trans s2.ex) hx S2 H2 (Ex.refl _) w2 _ fun y S3 H3 w3 s3 hy => by
    obtain ⟨z, hz, rz⟩ := k x y S2 S3 (a.trans s2.ex) hx s3.ex hy
    refine hz H3 w3.ex Q fun p hp => ?_
    have h1 : H p = none := by
      cases e : H p with
      | none => rfl
      | some ob => exact absurd hp (s3.dm p (s2.dm p (ne_none e)))
    exact q p z S3 _ h1 upd_same (w3.fresh hp) (w3.new hp) ((s2.trans s3).trans (Stp.new hp)) rz
theorem vv_op (ha : EvV r ta s S x) (hb : EvV r tb s S y) (ho : RVS o x y S z) : EvV r (tOp o ta tb) s S z :=
  ev_op2 ha (fun _ S1 e _ => EvS.mono e hb) fun x' y' S1 S2 e1 hx e2 hy => ⟨z, by
    subst hx
    subst hy
    exact fun H e Q q => ho H ((e1.trans e2).trans e) Q q, rfl⟩
theorem vn_op {ob : HO} (ha : EvV r ta s S x) (hb : EvV r tb s S y) (ho : RVN o x y S ob) : EvN r (tOp o ta tb) s S fun u _ => u = ob :=
  ev_op2N ha (fun _ S1 e _ => EvS.mono e hb) fun x' y' S1 S2 e1 hx e2 hy => ⟨ob, by
    subst hx
    subst hy
    exact fun H e Q q => ho H ((e1.trans e2).trans e) Q q, rfl⟩
theorem vv_un {o : V → Hp → VK → Prop} (ha : EvV r ta s S x) (ho : RUS o x S z) : EvV r (tUn o ta) s S z := fun S1 H a w Q q =>
  ha S1 H a w _ fun x' S2 H2 w2 s2 hx => by
    subst hx
    exact ho H2 ((a.trans s2.ex).trans w2.ex) Q (q z S2 H2 w2 s2 rfl)
theorem rs_I0 {g : Int → Int → V} {i j : Int} : RVS (rI0 g) (.int i) (.int j) S (g i j) := fun H _ Q q => ⟨i, j, rfl, rfl, q⟩
theorem rs_I {C : Int → Int → Prop} {g : Int → Int → V} {i j : Int} (c : C i j) : RVS (rI C g) (.int i) (.int j) S (g i j) := fun H _ Q q => ⟨i, j, rfl, rfl, c, q⟩
theorem rs_or1 {o o' : R2} (h : RVS o x y S z) : RVS (fun x y H Q => o x y H Q ∨ o' x y H Q) x y S z := fun H e Q q => .inl (h H e Q q)
theorem rs_or2 {o o' : R2} (h : RVS o' x y S z) : RVS (fun x y H Q => o x y H Q ∨ o' x y H Q) x y S z := fun H e Q q => .inr (h H e Q q)
theorem rs_eq (h : scal x y = true) : RVS rEq x y S (.bl (decide (x = y))) := fun H _ Q q => ⟨h, q⟩
theorem rs_ne (h : scal x y = true) : RVS rNe x y S (.bl (!decide (x = y))) := fun H _ Q q => ⟨h, q⟩
theorem rs_isN : RVS (fun x y H Q => y = .non ∧ Q (.bl (decide (x = .non))) H) x .non S (.bl (decide (x = .non))) := fun H _ Q q => ⟨rfl, q⟩
theorem rs_notN : RVS (fun x y H Q => y = .non ∧ Q (.bl (!decide (x = .non))) H) x .non S (.bl (!decide (x = .non))) := fun H _ Q q => ⟨rfl, q⟩
variable {K : PySem.W.Frag}
theorem rs_ixL {p : Addr} {xs : List V} {i : Int} (h : SqL K S p xs) (a : atI xs i = some v) : RVS (rIxL K) (.ref p) (.int i) S v := fun H e Q q => ⟨p, xs, i, v, rfl, rfl, ex_l e h, a, q⟩
theorem rs_ixT {p : Addr} {xs : List V} {i : Int} (h : SqT K S p xs) (a : atI xs i = some v) : RVS (rIxT K) (.ref p) (.int i) S v := fun H e Q q => ⟨p, xs, i, v, rfl, rfl, ex_t e h, a, q⟩
theorem rs_inL {neg : Bool} {p : Addr} {xs : List V} (h : SqL K S p xs) (hx : flatV x = true) (ha : xs.all flatV = true) : RVS (rIn K neg) x (.ref p) S (.bl (if neg then !inV x xs else inV x xs)) := fun H e Q q => ⟨p, xs, rfl, .inl (ex_l e h), hx, ha, q⟩
theorem rs_inT {neg : Bool} {p : Addr} {xs : List V} (h : SqT K S p xs) (hx : flatV x = true) (ha : xs.all flatV = true) : RVS (rIn K neg) x (.ref p) S (.bl (if neg then !inV x xs else inV x xs)) := fun H e Q q => ⟨p, xs, rfl, .inr (ex_t e h), hx, ha, q⟩

/-! ### tests -/
theorem tb_test {b : Bool} (h : EvV r te s S (.bl b)) : EvB r (tTest te) s S b := fun S1 H a w Q q => h S1 H a w _ fun v S2 H2 w2 s2 e => ⟨b, e, q b S2 H2 w2 s2 rfl⟩
theorem tb_B {b : Bool} (h : EvV r te s S (.bl b)) : EvB r (tB te) s S b := fun S1 H a w Q q => h S1 H a w _ fun v S2 H2 w2 s2 e => ⟨b, e, q b S2 H2 w2 s2 rfl⟩
theorem tb_and {a b : Bool} (h1 : EvB r t s S a) (h2 : a = true → EvB r u s S b) : EvB r (tAnd t u) s S (a && b) := fun S1 H e w Q q => h1 S1 H e w _ fun c S2 H2 w2 s2 ec => by
  subst ec
  cases c with
  | true =>
    show u s H2 Q
    exact h2 rfl S2 H2 (e.trans s2.ex) w2 Q fun c3 S3 H3 w3 s3 e3 => q c3 S3 H3 w3 (s2.trans s3) e3
  | false =>
    show Q false H2
    exact q false S2 H2 w2 s2 rfl
theorem tb_or {a b : Bool} (h1 : EvB r t s S a) (h2 : a = false → EvB r u s S b) : EvB r (tOr t u) s S (a || b) := fun S1 H e w Q q => h1 S1 H e w _ fun c S2 H2 w2 s2 ec => by
  subst ec
  cases c with
  | true =>
    show Q true H2
    exact q true S2 H2 w2 s2 rfl
  | false =>
    show u s H2 Q
    exact h2 rfl S2 H2 (e.trans s2.ex) w2 Q fun c3 S3 H3 w3 s3 e3 => q c3 S3 H3 w3 (s2.trans s3) e3
theorem tb_not {a : Bool} (h1 : EvB r t s S a) : EvB r (tNot t) s S (!a) := fun S1 H e w Q q => h1 S1 H e w _ fun c S2 H2 w2 s2 ec => q (!c) S2 H2 w2 s2 (by rw [ec])
theorem vv_and {a b : Bool} (h1 : EvV r ta s S (.bl a)) (h2 : a = true → EvV r tb s S (.bl b)) : EvV r (tAndV ta tb) s S (.bl (a && b)) := fun S1 H e w Q q => h1 S1 H e w _ fun c S2 H2 w2 s2 ec => ⟨a, ec, by
  cases a with
  | true =>
    show tb s H2 Q
    exact h2 rfl S2 H2 (e.trans s2.ex) w2 Q fun c3 S3 H3 w3 s3 e3 => q c3 S3 H3 w3 (s2.trans s3) e3
  | false =>
    show Q (.bl false) H2
    exact q _ S2 H2 w2 s2 rfl⟩
theorem vv_or {a b : Bool} (h1 : EvV r ta s S (.bl a)) (h2 : a = false → EvV r tb s S (.bl b)) : EvV r (tOrV ta tb) s S (.bl (a || b)) := fun S1 H e w Q q => h1 S1 H e w _ fun c S2 H2 w2 s2 ec => ⟨a, ec, by
  cases a with
  | true =>
    show Q (.bl true) H2
    exact q _ S2 H2 w2 s2 rfl
  | false =>
    show tb s H2 Q
    exact h2 rfl S2 H2 (e.trans s2.ex) w2 Q fun c3 S3 H3 w3 s3 e3 => q c3 S3 H3 w3 (s2.trans s3) e3⟩
theorem vv_not {a : Bool} (h1 : EvV r ta s S (.bl a)) : EvV r (tNotV ta) s S (.bl (!a)) := fun S1 H e w Q q => h1 S1 H e w _ fun c S2 H2 w2 s2 ec => ⟨a, ec, q _ S2 H2 w2 s2 rfl⟩
theorem ev_if {b : Bool} (h : EvB r t s S b) (h1 : b = true → EvS r ta s S R) (h2 : b = false → EvS r tb s S R) : EvS r (tIf t ta tb) s S R := fun S1 H e w Q q => h S1 H e w _ fun c S2 H2 w2 s2 ec => by
  subst ec
  cases c with
  | true =>
    show ta s H2 Q
    exact h1 rfl S2 H2 (e.trans s2.ex) w2 Q fun c3 S3 H3 w3 s3 e3 => q c3 S3 H3 w3 (s2.trans s3) e3
  | false =>
    show tb s H2 Q
    exact h2 rfl S2 H2 (e.trans s2.ex) w2 Q fun c3 S3 H3 w3 s3 e3 => q c3 S3 H3 w3 (s2.trans s3) e3
/-- a < b < c -/
theorem vv_chain {o o' : R2} {ta tb tc : TE} {k b : Bool} {z : V} (ha : EvV r ta s S x) (hb : EvV r tb s S y) (h1 : RVS o x y S (.bl k)) (hc : k = true → EvV r tc s S z) (h2 : k = true → RVS o' y z S (.bl b)) : EvV r (tChain o o' ta tb tc) s S (.bl (k && b)) := fun S1 H e w Q q =>
  ha S1 H e w _ fun x' S2 H2 w2 s2 ex => hb S2 H2 (e.trans s2.ex) w2 _ fun y' S3 H3 w3 s3 ey => by
    subst ex
    subst ey
    have e3 : Ex S S3 := (e.trans s2.ex).trans s3.ex
    refine h1 H3 (e3.trans w3.ex) _ ⟨k, rfl, ?_⟩
    cases k with
    | true =>
      refine iteT ?_
      exact hc rfl S3 H3 e3 w3 _ fun z' S4 H4 w4 s4 ez => by
        subst ez
        exact h2 rfl H4 ((e3.trans s4.ex).trans w4.ex) Q (q _ S4 H4 w4 ((s2.trans s3).trans s4) rfl)
    | false =>
      refine iteF ?_
      exact q _ S3 H3 w3 (s2.trans s3) rfl

/-! ### argument lists, calls of built-ins, displays -/
theorem va_nil : EvAV r tNil s S [] := fun S1 H _ w Q q => q [] S1 H w Stp.refl rfl
theorem va_cons {tr : TA} {vs : List V} (h : EvV r ta s S x) (hr : EvAV r tr s S vs) : EvAV r (tCons ta tr) s S (x :: vs) := fun S1 H e w Q q =>
  h S1 H e w _ fun x' S2 H2 w2 s2 ex => hr S2 H2 (e.trans s2.ex) w2 _ fun vs' S3 H3 w3 s3 ev => q _ S3 H3 w3 (s2.trans s3) (by rw [ex, ev])
theorem ea_nil : EvAS r tNil s S fun us _ => us = [] := va_nil
theorem ea_cons {tr : TA} {P : List V → Hp → Prop} (h : EvS r ta s S R) (hr : ∀ x S1, Ex S S1 → R x S1 → EvAS r tr s S1 fun us S2 => P (x :: us) S2) : EvAS r (tCons ta tr) s S P := fun S1 H e w Q q =>
  h S1 H e w _ fun x' S2 H2 w2 s2 ex => hr x' S2 (e.trans s2.ex) ex S2 H2 (Ex.refl _) w2 _ fun vs' S3 H3 w3 s3 ev => q _ S3 H3 w3 (s2.trans s3) ev
/-- a built-in called, reading at most -/
theorem vv_cb {o : List V → Hp → VK → Prop} {ta : TA} {vs : List V} (h : EvAV r ta s S vs) (ho : RCS o vs S z) : EvV r (tCB o ta) s S z := fun S1 H e w Q q =>
  h S1 H e w _ fun vs' S2 H2 w2 s2 ev => by
    subst ev
    exact ho H2 ((e.trans s2.ex).trans w2.ex) Q (q z S2 H2 w2 s2 rfl)
theorem ev_cb {o : List V → Hp → VK → Prop} {ta : TA} {P : List V → Hp → Prop} (h : EvAS r ta s S P) (ho : ∀ vs S1, Ex S S1 → P vs S1 → ∀ H, Ex S1 H → ∀ Q : VK, (∀ z, R z S1 → Q z H) → o vs H Q) : EvS r (tCB o ta) s S R := fun S1 H e w Q q =>
  h S1 H e w _ fun vs S2 H2 w2 s2 ev => ho vs S2 (e.trans s2.ex) ev H2 w2.ex Q fun z rz => q z S2 H2 w2 s2 rz
theorem en_cb {o : List V → Hp → VK → Prop} {ta : TA} {P : List V → Hp → Prop} {R : HO → Hp → Prop} (h : EvAS r ta s S P) (ho : ∀ vs S1, Ex S S1 → P vs S1 → RCN o vs S1 fun ob => R ob S1) : EvN r (tCB o ta) s S R := fun S1 H e w Q q =>
  h S1 H e w _ fun vs S2 H2 w2 s2 ev => ho vs S2 (e.trans s2.ex) ev H2 w2.ex Q fun p ob hp hr => by
    have h1 : H p = none := by
      cases e : H p with
      | none => rfl
      | some ob => exact absurd hp (s2.dm p (ne_none e))
    exact q p ob S2 _ h1 upd_same (w2.fresh hp) (w2.new hp) (s2.trans (Stp.new hp)) hr
theorem en_tup {ta : TA} {P : List V → Hp → Prop} (h : EvAS r ta s S P) (hl : ∀ vs S1, P vs S1 → vs.length ≤ 100000) : EvN r (tTup ta) s S fun o S1 => ∃ vs, o = .tup vs ∧ P vs S1 := fun S1 H e w Q q =>
  h S1 H e w _ fun vs S2 H2 w2 s2 ev => ⟨sz_of (hl vs S2 ev), fun p hp => by
    have h1 : H p = none := by
      cases e : H p with
      | none => rfl
      | some ob => exact absurd hp (s2.dm p (ne_none e))
    exact q p _ S2 _ h1 upd_same (w2.fresh hp) (w2.new hp) (s2.trans (Stp.new hp)) ⟨vs, rfl, ev⟩⟩
theorem en_lst {ta : TA} {P : List V → Hp → Prop} (h : EvAS r ta s S P) (hl : ∀ vs S1, P vs S1 → vs.length ≤ 100000) : EvN r (tLst ta) s S fun o S1 => ∃ vs, o = .lst vs ∧ P vs S1 := fun S1 H e w Q q =>
  h S1 H e w _ fun vs S2 H2 w2 s2 ev => ⟨sz_of (hl vs S2 ev), fun p hp => by
    have h1 : H p = none := by
      cases e : H p with
      | none => rfl
      | some ob => exact absurd hp (s2.dm p (ne_none e))
    exact q p _ S2 _ h1 upd_same (w2.fresh hp) (w2.new hp) (s2.trans (Stp.new hp)) ⟨vs, rfl, ev⟩⟩
/-- [] -/
theorem en_nil : EvN r (tLst tNil) s S fun o _ => o = .lst [] := (en_lst (P := fun us _ => us = []) va_nil (fun vs _ e => by
  rw [e]
  exact Nat.zero_le _)).imp fun o _ _ ⟨vs, e1, e2⟩ => by rw [e1, e2]
end

/-! ### statements -/
section
variable {r : Rs} {s : L2.St} {S H S0 H0 : Hp} {ta tb te : TE} {t : TT} {tu tw tz : TS} {D : Ends} {v : V} {R : V → Hp → Prop} {g : TG}
/-- x = e -/
theorem st_asg {i : Nat} (h : EvS r te s S R) (w : Wd r S H) (k : ∀ v S1 H1, Wd r S1 H1 → Stp r S H S1 H1 → R v S1 → D.nx (s.set i (some v)) H1) : tAsg te (gName i) D s H :=
  h S H (Ex.refl S) w _ fun v S1 H1 w1 s1 p => k v S1 H1 w1 s1 p
theorem st_asgN {i : Nat} {R : HO → Hp → Prop} (h : EvN r te s S R) (w : Wd r S H) (k : ∀ p o S1 H1, H p = none → H1 p = some o → S1 p = none → Wd r S1 H1 → Stp r S H S1 H1 → R o S1 → D.nx (s.set i (some (.ref p))) H1) : tAsg te (gName i) D s H :=
  h S H (Ex.refl S) w _ fun p o S1 H1 a b c w1 s1 q => k p o S1 H1 a b c w1 s1 q
theorem st_if {b : Bool} (h : EvB r t s S b) (w : Wd r S H) (h1 : b = true → ∀ S1 H1, Wd r S1 H1 → Stp r S H S1 H1 → tu D s H1) (h2 : b = false → ∀ S1 H1, Wd r S1 H1 → Stp r S H S1 H1 → tw D s H1) : tIfS t tu tw D s H :=
  h S H (Ex.refl S) w _ fun c S1 H1 w1 s1 p => by
    subst p
    cases c with
    | true => exact h1 rfl S1 H1 w1 s1
    | false => exact h2 rfl S1 H1 w1 s1
/-- a test whose answer is only told by a relation -/
theorem st_ifR {R : Bool → Hp → Prop} (h : EvTS r t s S R) (w : Wd r S H) (h1 : ∀ S1 H1, R true S1 → Wd r S1 H1 → Stp r S H S1 H1 → tu D s H1) (h2 : ∀ S1 H1, R false S1 → Wd r S1 H1 → Stp r S H S1 H1 → tw D s H1) : tIfS t tu tw D s H :=
  h S H (Ex.refl S) w _ fun c S1 H1 w1 s1 p => by
    cases c with
    | true => exact h1 S1 H1 p w1 s1
    | false => exact h2 S1 H1 p w1 s1
theorem st_ret (h : EvS r te s S R) (w : Wd r S H) (k : ∀ v S1 H1, Wd r S1 H1 → Stp r S H S1 H1 → R v S1 → D.rt v H1) : tRet te D s H :=
  h S H (Ex.refl S) w _ fun v S1 H1 w1 s1 p => k v S1 H1 w1 s1 p
theorem st_retN {R : HO → Hp → Prop} (h : EvN r te s S R) (w : Wd r S H) (k : ∀ p o S1 H1, H p = none → H1 p = some o → S1 p = none → Wd r S1 H1 → Stp r S H S1 H1 → R o S1 → D.rt (.ref p) H1) : tRet te D s H :=
  h S H (Ex.refl S) w _ fun p o S1 H1 a b c w1 s1 q => k p o S1 H1 a b c w1 s1 q
theorem st_drop (h : EvS r te s S R) (w : Wd r S H) (k : ∀ v S1 H1, Wd r S1 H1 → Stp r S H S1 H1 → R v S1 → D.nx s H1) : tDrop te D s H :=
  h S H (Ex.refl S) w _ fun v S1 H1 w1 s1 p => k v S1 H1 w1 s1 p
/-- the same, something behind -/
theorem sq_asg {i : Nat} (h : EvS r te s S R) (w : Wd r S H) (k : ∀ v S1 H1, Wd r S1 H1 → Stp r S H S1 H1 → R v S1 → tz D (s.set i (some v)) H1) : tSeq (tAsg te (gName i)) tz D s H := st_asg (D := { D with nx := tz D }) h w k
theorem sq_asgN {i : Nat} {R : HO → Hp → Prop} (h : EvN r te s S R) (w : Wd r S H) (k : ∀ p o S1 H1, H p = none → H1 p = some o → S1 p = none → Wd r S1 H1 → Stp r S H S1 H1 → R o S1 → tz D (s.set i (some (.ref p))) H1) : tSeq (tAsg te (gName i)) tz D s H := st_asgN (D := { D with nx := tz D }) h w k
theorem sq_if {b : Bool} (h : EvB r t s S b) (w : Wd r S H) (h1 : b = true → ∀ S1 H1, Wd r S1 H1 → Stp r S H S1 H1 → tu { D with nx := tz D } s H1) (h2 : b = false → ∀ S1 H1, Wd r S1 H1 → Stp r S H S1 H1 → tw { D with nx := tz D } s H1) : tSeq (tIfS t tu tw) tz D s H := st_if (D := { D with nx := tz D }) h w h1 h2
theorem sq_drop (h : EvS r te s S R) (w : Wd r S H) (k : ∀ v S1 H1, Wd r S1 H1 → Stp r S H S1 H1 → R v S1 → tz D s H1) : tSeq (tDrop te) tz D s H := st_drop (D := { D with nx := tz D }) h w k
/-- an if whose answer is known and whose body never comes -/
theorem sq_ifNo (h : EvB r t s S false) (w : Wd r S H) (k : ∀ S1 H1, Wd r S1 H1 → Stp r S H S1 H1 → tz D s H1) : tSeq (tIfS t tu tNext) tz D s H :=
  sq_if h w (fun e => nomatch e) fun _ S1 H1 w1 s1 => k S1 H1 w1 s1
end
end J

/-! JOps: rules in union. -/
namespace J
open PySem PySem.Spec L2 Evl
section
variable {X : Cx}
theorem CallR.or {f : Value} {r r' : List V → Hp → VK → Prop} (h : CallR X f r) (h' : CallR X f r') : CallR X f (fun xs H Q => r xs H Q ∨ r' xs H Q) := by
  intro pins s σ H xs us Q I rv q
  rcases q with q | q
  · exact h pins s σ H xs us Q I rv q
  · exact h' pins s σ H xs us Q I rv q
theorem PI.or {tg it : Expr} {w w' : TI} (h : PI X tg it w) (h' : PI X tg it w') : PI X tg it (fun σ H R => w σ H R ∨ w' σ H R) :=
  ⟨fun pins s σ H R I q => q.elim (h.run pins s σ H R I) (h'.run pins s σ H R I)⟩
theorem PE.or {e : Expr} {t t' : TE} (h : PE X e t) (h' : PE X e t') : PE X e (fun σ H Q => t σ H Q ∨ t' σ H Q) :=
  ⟨fun pins s σ H R I q => q.elim (h.run pins s σ H R I) (h'.run pins s σ H R I)⟩
/-- a constant of the module -/
def MgC (mg : Str → Option Value) (x : Str) (v : V) : Prop := ∃ u, mg x = some u ∧ RelV v u
theorem pe_const {x : Str} {v : V} {pos : Pos} (hg : Gl X x) (h : MgC X.mg x v) (hd : (x == ("__debug__" : Str)) = false := by decide) : PE X (.Name x pos) (tC v) := by
  obtain ⟨u, hm, r⟩ := h
  exact pe_glob hg hm r hd
/-! ### + * // -/
def rAddS : R2 := fun x y H Q => ∃ i j, x = .str i ∧ y = .str j ∧ i.length + j.length ≤ sizeLine ∧ Q (.str (i ++ j)) H
def rAddU (K : PySem.W.Frag) : R2 := fun x y H Q => (rI0 (fun i j => .int (i + j)) x y H Q ∨ rAddS x y H Q) ∨ (rCat x y H Q ∨ rCatA K x y H Q)
theorem op_addU : OpR X (binaryOp .Add) (rAddU X.K) := OpR.or (OpR.or op_add op_add_str) (OpR.or op_cat op_catA)
def rMulU : R2 := fun x y H Q => rI CMul (fun i j => .int (i * j)) x y H Q ∨ rRep x y H Q
theorem op_mulU : OpR X (binaryOp .Mult) rMulU := OpR.or op_mul op_rep
/-! ### == != in is -/
def rEqU (K : PySem.W.Frag) : R2 := fun x y H Q => rEq x y H Q ∨ rEqD K x y H Q
def rNeU (K : PySem.W.Frag) : R2 := fun x y H Q => rNe x y H Q ∨ rNeD K x y H Q
theorem op_eqU (hu : X.A.units + 64 < cLine) : OpR X (compareOp .Eq) (rEqU X.K) := OpR.or op_eq (op_eqD hu)
theorem op_neU (hu : X.A.units + 64 < cLine) : OpR X (compareOp .NotEq) (rNeU X.K) := OpR.or op_ne (op_neD hu)
def rInS : R2 := fun x y H Q => ∃ i j, x = .str i ∧ y = .str j ∧ Q (.bl (!(Builtin.Str.occurrences j i 0 j.length 1).isEmpty)) H
def rNotInS : R2 := fun x y H Q => ∃ i j, x = .str i ∧ y = .str j ∧ Q (.bl (!(!(Builtin.Str.occurrences j i 0 j.length 1).isEmpty))) H
def rInU (K : PySem.W.Frag) : R2 := fun x y H Q => rIn K false x y H Q ∨ rInS x y H Q
def rNotInU (K : PySem.W.Frag) : R2 := fun x y H Q => rIn K true x y H Q ∨ rNotInS x y H Q
theorem op_inU : OpR X (compareOp .In) (rInU X.K) := OpR.or op_in_seq op_in_str
theorem op_notInU : OpR X (compareOp .NotIn) (rNotInU X.K) := OpR.or op_notIn_seq op_notIn_str
def rIsNon : R2 := fun x y H Q => y = .non ∧ Q (.bl (decide (x = .non))) H
def rNotNon : R2 := fun x y H Q => y = .non ∧ Q (.bl (!decide (x = .non))) H
def rIsU : R2 := fun x y H Q => rIsNon x y H Q ∨ rIsB x y H Q
def rNotU : R2 := fun x y H Q => rNotNon x y H Q ∨ rNotB x y H Q
theorem op_isU : OpR X (compareOp .Is) rIsU := OpR.or op_isN op_isBl
theorem op_notU : OpR X (compareOp .IsNot) rNotU := OpR.or op_notN op_notBl
/-! ### a[i], a[i:j] -/
theorem ix_U : IxR X (rIx X.K) := ix_seq
def rSlU (K : PySem.W.Frag) : V → Option Int → Option Int → Hp → VK → Prop := fun x lo hi H Q => (rSlL K x lo hi H Q ∨ rSlA K x lo hi H Q) ∨ rSlS x lo hi H Q
theorem sl_U : SlR X (rSlU X.K) := SlR.or (SlR.or sl_list sl_tupA) sl_str
/-! ### what is walked -/
def iU (K : PySem.W.Frag) (te : TE) : TI := fun σ H R => (iList K te σ H R ∨ iTup K te σ H R) ∨ iStr te σ H R
theorem pi_U {tg e : Expr} {te : TE} (h : PE X e te) : PI X tg e (iU X.K te) := PI.or (PI.or (pi_list h) (pi_tup h)) (pi_str h)
/-! ### calls -/
def rIsiU (K : PySem.W.Frag) : List V → Hp → VK → Prop := fun xs H Q => rIsi K xs H Q ∨ rIsiT K xs H Q
theorem call_isiU : CallR X (.builtin "isinstance") (rIsiU X.K) := CallR.or call_isi call_isiT
def rLenD : List V → Hp → VK → Prop := fun xs H Q => ∃ a kvs, xs = [V.ref a] ∧ H a = some (.dK kvs) ∧ Q (.int kvs.length) H
def rLenV (K : PySem.W.Frag) : List V → Hp → VK → Prop := fun xs H Q => ∃ x n, xs = [x] ∧ LenV K x H n ∧ Q (.int n) H
def rLenU (K : PySem.W.Frag) : List V → Hp → VK → Prop := fun xs H Q => rLenV K xs H Q ∨ rLenD xs H Q
theorem call_lenU : CallR X (.builtin "len") (rLenU X.K) := CallR.or call_len call_lenD
def rMax2 : List V → Hp → VK → Prop := fun xs H Q => ∃ i j, xs = [.int i, .int j] ∧ Q (.int (if j > i then j else i)) H
def rMin2 : List V → Hp → VK → Prop := fun xs H Q => ∃ i j, xs = [.int i, .int j] ∧ Q (.int (if j < i then j else i)) H
def rMaxU (K : PySem.W.Frag) : List V → Hp → VK → Prop := fun xs H Q => J.rMax2 xs H Q ∨ rMax K xs H Q
def rMinU (K : PySem.W.Frag) : List V → Hp → VK → Prop := fun xs H Q => J.rMin2 xs H Q ∨ rMin K xs H Q
theorem call_maxU (hc : X.calm = true := by rfl) : CallR X (.builtin "max") (rMaxU X.K) := CallR.or (call_max2 hc) (cr_max hc)
theorem call_minU (hc : X.calm = true := by rfl) : CallR X (.builtin "min") (rMinU X.K) := CallR.or (call_min2 hc) (cr_min hc)
def rSortedU (K : PySem.W.Frag) : List V → Hp → VK → Prop := fun xs H Q => rSorted K xs H Q ∨ rSortedS K xs H Q
theorem call_sortedU : CallR X (.builtin "sorted") (rSortedU X.K) := CallR.or cr_sorted cr_sortedS
def rListU (K : PySem.W.Frag) : List V → Hp → VK → Prop := fun xs H Q => ∃ p ys, xs = [.ref p] ∧ (SqL K H p ys ∨ SqT K H p ys) ∧ ∀ l, H l = none → Q (.ref l) (upd H l (.lst ys))
theorem call_listU : CallR X (.type "list") (rListU X.K) := call_list_of
def rTupleU (K : PySem.W.Frag) : List V → Hp → VK → Prop := fun xs H Q => ∃ x, xs = [x] ∧ kTup K x H Q
theorem call_tupleU : CallR X (.type "tuple") (rTupleU X.K) := by
  intro pins s σ H xs us Q I r h
  obtain ⟨x, rfl, q⟩ := h
  obtain ⟨u, rfl, ru⟩ := vals1 r
  exact rl_tuple pins s σ H x u Q I ru q
def rStrI : List V → Hp → VK → Prop := fun xs H Q => ∃ i, xs = [.int i] ∧ i.natAbs.log2 < 1920 ∧ Q (.str (toString i)) H
theorem call_strU : CallR X (.type "str") rStrI := call_str_int
def rInsert : V → List V → Hp → VK → Prop := fun x vs H Q => ∃ (l : Addr) (xs : List V) (i : Int) (y : V), x = .ref l ∧ vs = [.int i, y] ∧ H l = some (.lst xs) ∧ xs.length < sizeLine ∧ 0 ≤ i ∧ i < 2 ^ 63 ∧ Q .non (upd H l (.lst (xs.take i.toNat ++ [y] ++ xs.drop i.toNat)))
end
end J
namespace J
open PySem PySem.Spec L2 Evl
/-! ### the same with K written -/
section
variable {X : Cx} {K : PySem.W.Frag}
theorem op_addK (hK : X.K = K := by rfl) : OpR X (binaryOp .Add) (rAddU K) := by subst hK; exact op_addU
theorem op_eqK (hu : X.A.units + 64 < cLine) (hK : X.K = K := by rfl) : OpR X (compareOp .Eq) (rEqU K) := by subst hK; exact op_eqU hu
theorem op_neK (hu : X.A.units + 64 < cLine) (hK : X.K = K := by rfl) : OpR X (compareOp .NotEq) (rNeU K) := by subst hK; exact op_neU hu
theorem op_inK (hK : X.K = K := by rfl) : OpR X (compareOp .In) (rInU K) := by subst hK; exact op_inU
theorem op_notInK (hK : X.K = K := by rfl) : OpR X (compareOp .NotIn) (rNotInU K) := by subst hK; exact op_notInU
theorem ix_K (hK : X.K = K := by rfl) : IxR X (rIx K) := by subst hK; exact ix_seq
theorem sl_K (hK : X.K = K := by rfl) : SlR X (rSlU K) := by subst hK; exact sl_U
theorem pi_K {tg e : Expr} {te : TE} (h : PE X e te) (hK : X.K = K := by rfl) : PI X tg e (iU K te) := by subst hK; exact pi_U h
theorem call_isiK2 (hK : X.K = K := by rfl) : CallR X (.builtin "isinstance") (rIsiU K) := by subst hK; exact call_isiU
theorem call_lenK (hK : X.K = K := by rfl) : CallR X (.builtin "len") (rLenU K) := by subst hK; exact call_lenU
theorem call_maxK (hc : X.calm = true := by rfl) (hK : X.K = K := by rfl) : CallR X (.builtin "max") (rMaxU K) := by subst hK; exact call_maxU hc
theorem call_minK (hc : X.calm = true := by rfl) (hK : X.K = K := by rfl) : CallR X (.builtin "min") (rMinU K) := by subst hK; exact call_minU hc
theorem call_sortedK (hK : X.K = K := by rfl) : CallR X (.builtin "sorted") (rSortedU K) := by subst hK; exact call_sortedU
theorem call_listK (hK : X.K = K := by rfl) : CallR X (.type "list") (rListU K) := by subst hK; exact call_listU
theorem call_tupleK (hK : X.K = K := by rfl) : CallR X (.type "tuple") (rTupleU K) := by subst hK; exact call_tupleU
theorem call_allK (hc : X.calm = true := by rfl) (hK : X.K = K := by rfl) : CallR X (.builtin "all") (rAll K) := by subst hK; exact cr_all hc
theorem call_anyK (hc : X.calm = true := by rfl) (hK : X.K = K := by rfl) : CallR X (.builtin "any") (rAny K) := by subst hK; exact cr_any hc
theorem call_sumK (hc : X.calm = true := by rfl) (hK : X.K = K := by rfl) : CallR X (.builtin "sum") (rSum K) := by subst hK; exact cr_sum hc
theorem pe_fldK {e : Expr} {ta : TE} {f : Str} {pos : Pos} (he : PE X e ta) (hb : attributeBase e f X.env (eval e X.env) = eval e X.env := by rfl) (hK : X.K = K := by rfl) : PE X (.Attribute e f pos) (tFld K ta f) := by subst hK; exact pe_fld he hb
theorem ps_fldK {o value : Expr} {ta tv : TE} {f : Str} {pos pos' : Pos} (ha : PE X o ta) (hv : PE X value tv) (hs : swapsWith value (some (.Attribute o f pos')) pos.line X.env = pure false := by rfl) (hK : X.K = K := by rfl) : PS X (.Assign [.Attribute o f pos'] value pos) (sFld K ta tv f) := by subst hK; exact ps_fld ha hv hs
theorem pg_tupK {es : List Expr} {k : Nat} {t : TGs} {n : Nat} {pos : Pos} (hc : X.calm = true) (h : PGs X es t) (hn : (assignEach es X.env).length = n := by rfl) (hst : (assignEach es X.env).findIdx? (·.1) = none := by rfl) (hK : X.K = K := by rfl) : PG X (.Tuple es k pos) (gTup K n t) := by subst hK; exact pg_tup hc h hn hst
theorem pi_enumK {e : Expr} {ta : TA} {p pos tpos : Pos} {elts : List Expr} {kk : Nat} (hg : Gl X "enumerate") (hm : X.mg "enumerate" = none) (ha : PA X [e] ta) (hs : starEach [e] X.env = [(false, eval e X.env)] := by rfl) (hK : X.K = K := by rfl) : PI X (.Tuple elts kk tpos) (.Call (.Name "enumerate" p) [e] [] pos) (iEnum K ta) := by subst hK; exact pi_enum hg hm ha hs
theorem pi_zipK {e e2 : Expr} {ta : TA} {p pos tpos : Pos} {elts : List Expr} {kk : Nat} (hg : Gl X "zip") (hm : X.mg "zip" = none) (ha : PA X [e, e2] ta) (hs : starEach [e, e2] X.env = (false, eval e X.env) :: starEach [e2] X.env := by rfl) (hpl : (backTo pos (starEach [e2] X.env)).any (·.1) = false := by rfl) (hK : X.K = K := by rfl) : PI X (.Tuple elts kk tpos) (.Call (.Name "zip" p) [e, e2] [] pos) (iZip K ta) := by subst hK; exact pi_zip hg hm ha hs hpl
theorem mt_indexK (hK : X.K = K := by rfl) : MtR X "list.index" (rIndex K) := by subst hK; exact mt_index
end
theorem pf0 : ([] : List (Str × V)).length ≤ 0 := Nat.le_refl _
theorem pfS {f : Str} {v : V} {fs : List (Str × V)} {n : Nat} (h : fs.length ≤ n) : (putF f v fs).length ≤ n + 1 := Nat.le_trans (length_putF f v fs) (Nat.add_le_add_right h 1)
theorem pfL {fs : List (Str × V)} {n : Nat} (h : fs.length ≤ n) (hn : n < 1000 := by decide) : fs.length < 1000 := Nat.lt_of_le_of_lt h hn
end J

/-! J3: what the rules in union give; loops, comprehensions, calls. -/
namespace J
open PySem PySem.Spec L2 Evl
section
variable {r : Rs} {s : L2.St} {S S' H : Hp} {ta tb tc te : TE} {t u : TT} {tt : TT} {x y z v : V} {R R' : V → Hp → Prop} {K : PySem.W.Frag}
/-! ### operators -/
theorem rs_add {i j : Int} : RVS (rAddU K) (.int i) (.int j) S (.int (i + j)) := fun H _ Q q => .inl (.inl ⟨i, j, rfl, rfl, q⟩)
theorem rs_adds {i j : Str} (h : i.length + j.length ≤ sizeLine) : RVS (rAddU K) (.str i) (.str j) S (.str (i ++ j)) := fun H _ Q q => .inl (.inr ⟨i, j, rfl, rfl, h, q⟩)
theorem rn_cat {l b : Addr} {xs zs : List V} (h1 : S l = some (.lst xs)) (h2 : S b = some (.lst zs)) (hz : xs.length + zs.length ≤ 100000) : RVN (rAddU K) (.ref l) (.ref b) S (.lst (xs ++ zs)) := fun H e Q q => .inr (.inl ⟨l, b, xs, zs, rfl, rfl, e _ _ h1, e _ _ h2, sz_of hz, q⟩)
theorem rs_sub {i j : Int} : RVS (rI0 fun i j => .int (i - j)) (.int i) (.int j) S (.int (i - j)) := rs_I0
theorem rs_mul {i j : Int} (h : CMul i j) : RVS rMulU (.int i) (.int j) S (.int (i * j)) := fun H _ Q q => .inl ⟨i, j, rfl, rfl, h, q⟩
theorem rn_rep {l : Addr} {k : Int} {xs : List V} (h1 : S l = some (.lst xs)) (h2 : 0 ≤ k ∧ k ≤ 100000) (hz : xs.length * k.toNat ≤ 100000) : RVN rMulU (.ref l) (.int k) S (.lst (List.replicate k.toNat xs).flatten) := fun H e Q q => .inr ⟨l, k, xs, rfl, rfl, e _ _ h1, by omega, by omega, sz_of hz, q⟩
theorem rs_eq' (h : scal x y = true) : RVS (rEqU K) x y S (.bl (decide (x = y))) := fun H _ Q q => .inl ⟨h, q⟩
theorem rs_ne' (h : scal x y = true) : RVS (rNeU K) x y S (.bl (!decide (x = y))) := fun H _ Q q => .inl ⟨h, q⟩
theorem rs_eqI {i j : Int} : RVS (rEqU K) (.int i) (.int j) S (.bl (decide (i = j))) := fun H _ Q q => .inl ⟨rfl, by
  have e : decide (V.int i = V.int j) = decide (i = j) := by simp
  rw [e]
  exact q⟩
theorem rs_neI {i j : Int} : RVS (rNeU K) (.int i) (.int j) S (.bl (!decide (i = j))) := fun H _ Q q => .inl ⟨rfl, by
  have e : decide (V.int i = V.int j) = decide (i = j) := by simp
  rw [e]
  exact q⟩
theorem rs_eqS {i j : Str} : RVS (rEqU K) (.str i) (.str j) S (.bl (decide (i = j))) := fun H _ Q q => .inl ⟨rfl, by
  have e : decide (V.str i = V.str j) = decide (i = j) := by simp
  rw [e]
  exact q⟩
theorem rs_neS {i j : Str} : RVS (rNeU K) (.str i) (.str j) S (.bl (!decide (i = j))) := fun H _ Q q => .inl ⟨rfl, by
  have e : decide (V.str i = V.str j) = decide (i = j) := by simp
  rw [e]
  exact q⟩
theorem rs_eqd {d e : PyData} (h1 : Dp K S x d) (h2 : Dp K S y e) (s1 : SeqAt.shaped d = true) (s2 : SeqAt.shaped e = true) : RVS (rEqU K) x y S (.bl (PyData.eqv d e)) := fun H ex Q q => .inr ⟨d, e, dp_up ex _ _ h1, dp_up ex _ _ h2, s1, s2, q⟩
theorem rs_ned {d e : PyData} (h1 : Dp K S x d) (h2 : Dp K S y e) (s1 : SeqAt.shaped d = true) (s2 : SeqAt.shaped e = true) : RVS (rNeU K) x y S (.bl (!PyData.eqv d e)) := fun H ex Q q => .inr ⟨d, e, dp_up ex _ _ h1, dp_up ex _ _ h2, s1, s2, q⟩
theorem rs_inL' {p : Addr} {xs : List V} (h : SqL K S p xs) (hx : flatV x = true) (ha : xs.all flatV = true) : RVS (rInU K) x (.ref p) S (.bl (inV x xs)) := fun H e Q q => .inl ⟨p, xs, rfl, .inl (ex_l e h), hx, ha, q⟩
theorem rs_inT' {p : Addr} {xs : List V} (h : SqT K S p xs) (hx : flatV x = true) (ha : xs.all flatV = true) : RVS (rInU K) x (.ref p) S (.bl (inV x xs)) := fun H e Q q => .inl ⟨p, xs, rfl, .inr (ex_t e h), hx, ha, q⟩
theorem rs_ninL' {p : Addr} {xs : List V} (h : SqL K S p xs) (hx : flatV x = true) (ha : xs.all flatV = true) : RVS (rNotInU K) x (.ref p) S (.bl (!inV x xs)) := fun H e Q q => .inl ⟨p, xs, rfl, .inl (ex_l e h), hx, ha, q⟩
theorem rs_ninT' {p : Addr} {xs : List V} (h : SqT K S p xs) (hx : flatV x = true) (ha : xs.all flatV = true) : RVS (rNotInU K) x (.ref p) S (.bl (!inV x xs)) := fun H e Q q => .inl ⟨p, xs, rfl, .inr (ex_t e h), hx, ha, q⟩
theorem rs_isN' : RVS rIsU x .non S (.bl (decide (x = .non))) := fun H _ Q q => .inl ⟨rfl, q⟩
theorem rs_notN' : RVS rNotU x .non S (.bl (!decide (x = .non))) := fun H _ Q q => .inl ⟨rfl, q⟩
theorem rs_isB {a b : Bool} : RVS rIsU (.bl a) (.bl b) S (.bl (decide (a = b))) := fun H _ Q q => .inr ⟨a, b, rfl, rfl, q⟩
theorem rs_notB {a b : Bool} : RVS rNotU (.bl a) (.bl b) S (.bl (!decide (a = b))) := fun H _ Q q => .inr ⟨a, b, rfl, rfl, q⟩
theorem rs_ixL' {p : Addr} {xs : List V} {i : Int} (h : SqL K S p xs) (a : atI xs i = some v) : RVS (rIx K) (.ref p) (.int i) S v := fun H e Q q => .inl ⟨p, xs, i, v, rfl, rfl, ex_l e h, a, q⟩
theorem rs_ixT' {p : Addr} {xs : List V} {i : Int} (h : SqT K S p xs) (a : atI xs i = some v) : RVS (rIx K) (.ref p) (.int i) S v := fun H e Q q => .inr (.inl ⟨p, xs, i, v, rfl, rfl, ex_t e h, a, q⟩)
theorem ru_neg' {i : Int} : RUS (rU fun i => .int (-i)) (.int i) S (.int (-i)) := fun H _ Q q => ⟨i, rfl, q⟩
/-! ### built-ins -/
theorem rc_lenL {p : Addr} {xs : List V} (h : SqL K S p xs) : RCS (rLenU K) [.ref p] S (.int (xs.length : Int)) := fun H e Q q => .inl ⟨_, _, rfl, .inl ⟨xs, ex_l e h, rfl⟩, q⟩
theorem rc_lenT {p : Addr} {xs : List V} (h : SqT K S p xs) : RCS (rLenU K) [.ref p] S (.int (xs.length : Int)) := fun H e Q q => .inl ⟨_, _, rfl, .inr ⟨xs, ex_t e h, rfl⟩, q⟩
theorem rc_lenS {z : Str} (h : z.length ≤ 100000) : RCS (rLenU K) [.str z] S (.int (z.length : Int)) := fun H e Q q => .inl ⟨_, _, rfl, ⟨sz_of h, rfl⟩, q⟩
theorem rc_abs {i : Int} : RCS (fun xs H Q => ∃ i, xs = [V.int i] ∧ Q (.int (if i < 0 then -i else i)) H) [.int i] S (.int (if i < 0 then -i else i)) := fun H e Q q => ⟨i, rfl, q⟩
theorem rc_int {i : Int} : RCS (fun xs H Q => (∃ i, xs = [V.int i] ∧ Q (.int i) H) ∨ ∃ k, xs = [V.bl k] ∧ Q (.int (if k then 1 else 0)) H) [.int i] S (.int i) := fun H e Q q => .inl ⟨i, rfl, q⟩
theorem rc_intB {k : Bool} : RCS (fun xs H Q => (∃ i, xs = [V.int i] ∧ Q (.int i) H) ∨ ∃ k, xs = [V.bl k] ∧ Q (.int (if k then 1 else 0)) H) [.bl k] S (.int (if k then 1 else 0)) := fun H e Q q => .inr ⟨k, rfl, q⟩
theorem rc_str {i : Int} (h : i.natAbs.log2 < 1920) : RCS rStrI [.int i] S (.str (toString i)) := fun H e Q q => ⟨i, rfl, h, q⟩
theorem rc_max2 {i j : Int} : RCS (rMaxU K) [.int i, .int j] S (.int (if j > i then j else i)) := fun H e Q q => .inl ⟨i, j, rfl, q⟩
theorem rc_min2 {i j : Int} : RCS (rMinU K) [.int i, .int j] S (.int (if j < i then j else i)) := fun H e Q q => .inl ⟨i, j, rfl, q⟩
theorem rc_all {a : Addr} {bs : List Bool} (h : SqL K S a (bs.map V.bl)) : RCS (rAll K) [.ref a] S (.bl (bs.all id)) := fun H e Q q => ⟨a, bs, rfl, ex_l e h, q⟩
theorem rc_any {a : Addr} {bs : List Bool} (h : SqL K S a (bs.map V.bl)) : RCS (rAny K) [.ref a] S (.bl (bs.any id)) := fun H e Q q => ⟨a, bs, rfl, ex_l e h, q⟩
theorem rc_sum {a : Addr} {ns : List Int} (h : SqL K S a (ns.map V.int)) : RCS (rSum K) [.ref a] S (.int ns.sum) := fun H e Q q => ⟨a, ns, rfl, ex_l e h, q⟩
/-! ### isinstance -/
theorem ex_tyof {x : V} {ty : Value} (e : Ex S S') (h : TyOf K S x ty) : TyOf K S' x ty := by
  cases h with
  | non => exact .non
  | bl b => exact .bl b
  | int i => exact .int i
  | str z => exact .str z
  | flt f => exact .flt f
  | lst h => exact .lst (e _ _ h)
  | frz h => exact .frz (e _ _ h)
  | tup h => exact .tup (e _ _ h)
  | dK h => exact .dK (e _ _ h)
  | dT h => exact .dT (e _ _ h)
  | ins h a b c d f => exact .ins (e _ _ h) a b c d f
theorem ex_tyx {x : V} {ty : Value} (e : Ex S S') (h : TyX K S x ty) : TyX K S' x ty := by
  cases h with
  | base h => exact .base (ex_tyof e h)
  | byt b => exact .byt b
  | set h => exact .set (e _ _ h)
  | kList a b => exact .kList a b
  | kTuple a b => exact .kTuple a b
  | kDict a b => exact .kDict a b
  | fTuple h => exact .fTuple (e _ _ h)
  | fDict h => exact .fDict (e _ _ h)
theorem rc_isi {c : V} {ty w : Value} {b : Bool} (k : ClsV c w) (h : TyX K S x ty) (kk : PySem.W.kitOne K ty w = some b) : RCS (rIsiU K) [x, c] S (.bl b) := fun H e Q q => .inl ⟨x, c, ty, w, b, rfl, k, ex_tyx e h, kk, q⟩
/-- isinstance(x, (c1, c2)) with the display -/
theorem rc_isiT {tp : Addr} {cs : List V} {ws : List Value} {ty : Value} {b : Bool} (ht : S tp = some (.tup cs)) (k : Paired ClsV cs ws) (h : TyX K S x ty) (kk : PySem.W.kitAny K ty ws = some b) : RCS (rIsiU K) [x, .ref tp] S (.bl b) := fun H e Q q => .inr ⟨x, tp, cs, ty, ws, b, rfl, e _ _ ht, k, ex_tyx e h, kk, q⟩
theorem vv_isiT {cs : List V} {ws : List Value} {ty : Value} {b : Bool} {tl : TA} (hx : EvV r ta s S x) (hc : EvAV r tl s S cs) (hl : cs.length ≤ 100) (k : Paired ClsV cs ws) (h : TyX K S x ty) (kk : PySem.W.kitAny K ty ws = some b) :
    EvV r (tCB (rIsiU K) (tCons ta (tCons (tTup tl) tNil))) s S (.bl b) :=
  ev_cb (P := fun vs S1 => ∃ tp, vs = [x, .ref tp] ∧ S1 tp = some (.tup cs)) (ea_cons hx fun x' S1 e1 ex => ea_cons ((en_tup (P := fun us _ => us = cs) (EvAS.mono' e1 hc) (fun vs _ e => by
    rw [e]
    omega)).stable (R' := fun v S2 => ∃ tp, v = .ref tp ∧ S2 tp = some (.tup cs)) fun p o S2 _ _ ⟨vs, e2, e3⟩ => ⟨p, rfl, by
    rw [e2, e3]
    exact upd_same⟩) fun y S2 e2 ⟨tp, e3, e4⟩ => (ea_nil.imp' fun us S3 e5 e6 => ⟨tp, by rw [ex, e3, e6], e5 _ _ e4⟩)) fun vs S1 e1 ⟨tp, e2, e3⟩ H eH Q q => by
    rw [e2]
    exact rc_isiT (ty := ty) e3 k (ex_tyx e1 h) kk H eH Q (q _ rfl)
end
end J

/-! J4: what is walked; loops, comprehensions; calls. -/
namespace J
open PySem PySem.Spec L2 Evl
/-- wi walks ys, its items told by X -/
def EvI {α : Type} (r : Rs) (wi : TI) (s : L2.St) (S : Hp) (ys : List α) (X : Rl α) : Prop := ∀ S1 H, Ex S S1 → Wd r S1 H → ∀ R : It → Hp → Prop,
  (∀ (J : It) S2 H2 (G : Hp → Prop) (Y : Nat → Hp → V → Hp → Prop), Wd r S2 H2 → Stp r S1 H S2 H2 → Walk J ys.length G Y → (∀ S' H', Ex S2 S' → Wd r S' H' → G H') →
    (∀ i S' H' v H'', i < ys.length → Ex S2 S' → Wd r S' H' → Y i H' v H'' → ∃ S'' y, ys[i]? = some y ∧ Wd r S'' H'' ∧ Stp r S' H' S'' H'' ∧ X y v S'') → R J H2) → wi s H R
section
variable {r : Rs} {s : L2.St} {S S' H : Hp} {ta tb tc te : TE} {t u : TT} {tt : TT} {x y z v : V} {R R' : V → Hp → Prop} {K : PySem.W.Frag} {α β : Type}
theorem EvI.mono {wi : TI} {ys : List α} {X : Rl α} (e : Ex S S') (h : EvI r wi s S ys X) : EvI r wi s S' ys X := fun S1 H a w R q => h S1 H (e.trans a) w R q
theorem EvI.or1 {wi wj : TI} {ys : List α} {X : Rl α} (h : EvI r wi s S ys X) : EvI r (fun σ H R => wi σ H R ∨ wj σ H R) s S ys X := fun S1 H a w R q => .inl (h S1 H a w R q)
theorem EvI.or2 {wi wj : TI} {ys : List α} {X : Rl α} (h : EvI r wj s S ys X) : EvI r (fun σ H R => wi σ H R ∨ wj σ H R) s S ys X := fun S1 H a w R q => .inr (h S1 H a w R q)
theorem ei_list0 {ys : List α} {X : Rl α} [Mono X] (h : EvS r te s S fun v S1 => ∃ a vs, v = .ref a ∧ SqL K S1 a vs ∧ All2 X S1 ys vs) : EvI r (iList K te) s S ys X := fun S1 H a w R q =>
  h S1 H a w _ fun v S2 H2 w2 s2 ⟨b, vs, e1, e2, e3⟩ => ⟨b, e1, ⟨vs, ex_l w2.ex e2⟩, q (Itl K b) S2 H2 (fun H => SqL K H b vs) (YAt vs) w2 s2 (by
    have wk := walk_list (K := K) (a := b) (xs := vs)
    rw [e3.len] at wk
    exact wk) (fun S' H' e w' => ex_l (e.trans w'.ex) e2) fun i S' H' v H'' hi e w' ⟨e4, e5⟩ => by
      obtain ⟨y, h1, h2⟩ := (e3.up e).get e5
      subst e4
      exact ⟨S', y, h1, w', Stp.refl, h2⟩⟩
theorem ei_list {ys : List α} {X : Rl α} [Mono X] (h : EvS r te s S fun v S1 => LstR X ys v S1) : EvI r (iU K te) s S ys X :=
  EvI.or1 (EvI.or1 (ei_list0 (h.imp fun v S1 _ ⟨a, vs, e1, e2, e3⟩ => ⟨a, vs, e1, SqL.of e2, e3⟩)))
theorem ei_listK {ys : List α} {X : Rl α} [Mono X] (h : EvS r te s S fun v S1 => ∃ a vs, v = .ref a ∧ SqL K S1 a vs ∧ All2 X S1 ys vs) : EvI r (iU K te) s S ys X := EvI.or1 (EvI.or1 (ei_list0 h))
theorem ei_tup {ys : List α} {X : Rl α} [Mono X] (h : EvS r te s S fun v S1 => TupR K X ys v S1) : EvI r (iU K te) s S ys X := EvI.or1 (EvI.or2 fun S1 H a w R q =>
  h S1 H a w _ fun v S2 H2 w2 s2 ⟨b, vs, e1, e2, e3⟩ => ⟨b, e1, ⟨vs, ex_t w2.ex e2⟩, q (Itt K b) S2 H2 (fun H => SqT K H b vs) (YAt vs) w2 s2 (by
    have wk := walk_tup (K := K) (a := b) (xs := vs)
    rw [e3.len] at wk
    exact wk) (fun S' H' e w' => ex_t (e.trans w'.ex) e2) fun i S' H' v H'' hi e w' ⟨e4, e5⟩ => by
      obtain ⟨y, h1, h2⟩ := (e3.up e).get e5
      subst e4
      exact ⟨S', y, h1, w', Stp.refl, h2⟩⟩)
def SignR : Rl Nat := fun c v _ => v = .str ⟨#[c]⟩
instance : Mono SignR := ⟨fun _ h => h⟩
theorem ei_str {z : Str} (h : EvV r te s S (.str z)) : EvI r (iU K te) s S z.cps.toList SignR := EvI.or2 fun S1 H a w R q =>
  h S1 H a w _ fun v S2 H2 w2 s2 e1 => ⟨z, e1, q (Its z) S2 H2 (fun _ => True) (fun i H v H' => H' = H ∧ ∃ c, z.cps[i]? = some c ∧ v = .str ⟨#[c]⟩) w2 s2 (by
    have wk := walk_str (z := z)
    rw [← Array.length_toList] at wk
    exact wk) (fun _ _ _ _ => True.intro) fun i S' H' v H'' hi e w' ⟨e4, c, e5, e6⟩ => by
      subst e4
      exact ⟨S', c, by rw [Array.getElem?_toList]; exact e5, w', Stp.refl, e6⟩⟩
/-- lo, lo + 1, .. -/
def FromR (lo : Int) : Rl Nat := fun i v _ => v = .int (lo + (i : Int))
instance {lo : Int} : Mono (FromR lo) := ⟨fun _ h => h⟩
theorem ei_rg0 {lo : Int} {n : Nat} {R : It → Hp → Prop} {S1 S2 H0 H : Hp} (w : Wd r S2 H) (q : ∀ (J : It) S2 H2 (G : Hp → Prop) (Y : Nat → Hp → V → Hp → Prop), Wd r S2 H2 → Stp r S1 H0 S2 H2 → Walk J (List.range n).length G Y → (∀ S' H', Ex S2 S' → Wd r S' H' → G H') →
    (∀ i S' H' v H'', i < (List.range n).length → Ex S2 S' → Wd r S' H' → Y i H' v H'' → ∃ S'' y, (List.range n)[i]? = some y ∧ Wd r S'' H'' ∧ Stp r S' H' S'' H'' ∧ FromR lo y v S'') → R J H2) (st : Stp r S1 H0 S2 H) : R (Itr lo n) H :=
  q (Itr lo n) S2 H (fun _ => True) (YFn fun i => .int (lo + i)) w st (by
    have wk := walk_range (lo := lo) (n := n)
    rw [← List.length_range (n := n)] at wk
    rw [List.length_range] at wk ⊢
    exact wk) (fun _ _ _ _ => True.intro) fun i S' H' v H'' hi e w' ⟨e4, e5⟩ => by
      subst e4
      rw [List.length_range] at hi
      exact ⟨S', i, by rw [List.getElem?_range hi], w', Stp.refl, e5⟩
theorem ei_range1 {ta : TA} {n : Int} (h : EvAV r ta s S [.int n]) (hn : n ≤ 1000000 ∧ -1000000 ≤ n) : EvI r (iRng1 ta) s S (List.range n.toNat) (FromR 0) := fun S1 H a w R q =>
  h S1 H a w _ fun vs S2 H2 w2 s2 e => ⟨n, e, by omega, by omega, ei_rg0 w2 q s2⟩
theorem ei_range2 {ta : TA} {lo n : Int} (h : EvAV r ta s S [.int lo, .int n]) (hn : n ≤ 1000000 ∧ -1000000 ≤ n ∧ lo ≤ 1000000 ∧ -1000000 ≤ lo) : EvI r (iRng2 ta) s S (List.range (n - lo).toNat) (FromR lo) := fun S1 H a w R q =>
  h S1 H a w _ fun vs S2 H2 w2 s2 e => ⟨lo, n, e, by omega, ei_rg0 w2 q s2⟩
/-- number and item -/
def enumL (ys : List α) : List (Int × α) := ys.zipIdx.map fun p => ((p.2 : Nat), p.1)
theorem enumL_len (ys : List α) : (enumL ys).length = ys.length := by
  unfold enumL
  rw [List.length_map, List.length_zipIdx]
theorem enumL_get {ys : List α} {i : Nat} {y : α} (h : ys[i]? = some y) : (enumL ys)[i]? = some (((i : Nat) : Int), y) := by
  unfold enumL
  rw [List.getElem?_map, List.getElem?_zipIdx, h]
  simp
theorem ei_enum {ta : TA} {ys : List α} {X : Rl α} [Mono X] (h : EvAS r ta s S fun us S1 => ∃ a vs, us = [.ref a] ∧ S1 a = some (.lst vs) ∧ All2 X S1 ys vs) : EvI r (iEnum K ta) s S (enumL ys) (PairR K IntR X) := fun S1 H a w R q =>
  h S1 H a w _ fun us S2 H2 w2 s2 ⟨b, vs, e1, e2, e3⟩ => ⟨b, vs, e1, SqL.of (w2.ex _ _ e2), q (Ite K b) S2 H2 (fun H => SqL K H b vs) (YPair (fun i => some (.int (i : Nat))) (fun i => vs[i]?)) w2 s2 (by
    have wk := walk_enum (K := K) (a := b) (xs := vs)
    rw [e3.len, ← enumL_len ys] at wk
    exact wk) (fun S' H' e w' => SqL.of (w'.ex _ _ (e _ _ e2))) fun i S' H' v H'' hi e w' ⟨T, x, y, e4, e5, e6, e7, e8⟩ => by
      obtain ⟨y', h1, h2⟩ := (e3.up e).get e8
      subst e6
      cases e7
      exact ⟨_, _, enumL_get h1, w'.newS e5, Stp.newS w' e5, T, _, _, e4, SqT.of upd_same, rfl, Mono.up (Ex.new (w'.fresh e5)) h2⟩⟩
theorem zip_get {ys : List α} {zs : List β} {i : Nat} {y : α} {z : β} (h : ys[i]? = some y) (h' : zs[i]? = some z) : (ys.zip zs)[i]? = some (y, z) := by
  rw [List.getElem?_zip_eq_some]
  exact ⟨h, h'⟩
theorem ei_zip {ta : TA} {ys : List α} {zs : List β} {X : Rl α} {X' : Rl β} [Mono X] [Mono X'] (h : EvAS r ta s S fun us S1 => ∃ a b vs ws, us = [.ref a, .ref b] ∧ S1 a = some (.lst vs) ∧ S1 b = some (.lst ws) ∧ All2 X S1 ys vs ∧ All2 X' S1 zs ws) : EvI r (iZip K ta) s S (ys.zip zs) (PairR K X X') := fun S1 H a w R q =>
  h S1 H a w _ fun us S2 H2 w2 s2 ⟨b, c, vs, ws, e1, e2, e2', e3, e3'⟩ => ⟨b, c, vs, ws, e1, SqL.of (w2.ex _ _ e2), SqL.of (w2.ex _ _ e2'), q (Itz K b c) S2 H2 (fun H => SqL K H b vs ∧ SqL K H c ws) (YPair (fun i => vs[i]?) (fun i => ws[i]?)) w2 s2 (walk_zip (K := K) (a := b) (b := c) (xs := vs) (ys := ws) (by
      rw [List.length_zip, e3.len, e3'.len])) (fun S' H' e w' => ⟨SqL.of (w'.ex _ _ (e _ _ e2)), SqL.of (w'.ex _ _ (e _ _ e2'))⟩) fun i S' H' v H'' hi e w' ⟨T, x, y, e4, e5, e6, e7, e8⟩ => by
      obtain ⟨y', h1, h2⟩ := (e3.up e).get e7
      obtain ⟨z', h1', h2'⟩ := (e3'.up e).get e8
      subst e6
      exact ⟨_, _, zip_get h1 h1', w'.newS e5, Stp.newS w' e5, T, _, _, e4, SqT.of upd_same, Mono.up (Ex.new (w'.fresh e5)) h2, Mono.up (Ex.new (w'.fresh e5)) h2'⟩⟩
/-! ### comprehensions -/
theorem en_lc {wi : TI} {g : TG} {vs : List Nat} {ys : List α} {X : Rl α} (f : α → Bool) (gf : α → β) {Yr : Rl β} [Mono Yr] (hi : EvI r wi s S ys X) (hz : ys.length ≤ 100000)
    (hb : ∀ y v S1, Ex S S1 → y ∈ ys → X y v S1 → ∃ s2, wipe s2 vs = wipe s vs ∧ (∀ H k, Ex S1 H → k s2 H → g v (wipe s vs) H k) ∧ EvB r tt s2 S1 (f y) ∧ (f y = true → EvS r te s2 S1 fun u S2 => Yr (gf y) u S2)) :
    EvN r (tLc wi g tt te vs) s S fun o S1 => ∃ ws, o = .lst ws ∧ All2 Yr S1 ((ys.filter f).map gf) ws := fun S1 H a w Q q =>
  hi S1 H a w _ fun J S2 H2 G Y w2 s2 wk hG hY D hD => by
    have hM : D ∉ r.M := w2.notM hD
    refine lc_it wk (fun i H' => ∃ S' ws, Wd r S' H' ∧ Stp r S2 H2 S' H' ∧ S' D = none ∧ H' D = some (.lst ws) ∧ All2 Yr S' (((ys.take i).filter f).map gf) ws)
      ⟨S2, [], w2.new hD, Stp.new hD, w2.fresh hD, upd_same, by
        rw [List.take_zero]
        exact .nil⟩ (fun i H' _ ⟨S', ws, w', s', _⟩ => hG S' H' s'.ex w') ?_ ?_
    · rintro i v H' H'' hlt ⟨S', ws, w', s', n', l', a'⟩ y'
      obtain ⟨S3, y, g1, w3, s3, x3⟩ := hY i S' H' v H'' hlt s'.ex w' y'
      have ey : ys.take (i + 1) = ys.take i ++ [y] := by rw [List.take_add_one, g1]; rfl
      have e3 : Ex S S3 := a.trans (s2.ex.trans (s'.ex.trans s3.ex))
      obtain ⟨sg, hw, hg, hbt, hbe⟩ := hb y v S3 e3 (List.mem_of_getElem? g1) x3
      have l3 : H'' D = some (.lst ws) := s3.kp D _ hM l'
      have n3 : S3 D = none := s3.fr D (ne_none l') n'
      refine hg H'' _ w3.ex ⟨hw, hbt S3 H'' (Ex.refl _) w3 _ fun b S4 H4 w4 s4 eb => ?_⟩
      subst eb
      have l4 : H4 D = some (.lst ws) := s4.kp D _ hM l3
      have n4 : S4 D = none := s4.fr D (ne_none l3) n3
      have s24 : Stp r S2 H2 S4 H4 := s'.trans (s3.trans s4)
      have a4 : All2 Yr S4 (((ys.take i).filter f).map gf) ws := a'.up (s3.ex.trans s4.ex)
      cases hf : f y with
      | true =>
        refine iteT ?_
        refine hbe hf S4 H4 s4.ex w4 _ fun u S5 H5 w5 s5 y5 => ⟨ws, s5.kp D _ hM l4, ?_, S5, ws ++ [u], w5.mut (s5.fr D (ne_none l4) n4) hM (nco_lst (s5.kp D _ hM l4)), (s24.trans s5).mut hD, s5.fr D (ne_none l4) n4, upd_same, ?_⟩
        · have h1 := a4.len
          rw [List.length_map] at h1
          have h2 := List.length_filter_le f (ys.take i)
          rw [List.length_take] at h2
          exact sz_lt (by omega)
        · rw [ey, List.filter_append, List.map_append, List.filter_cons, if_pos hf]
          exact (a4.up s5.ex).append (.cons y5 .nil)
      | false =>
        refine iteF ?_
        refine ⟨S4, ws, w4, s24, n4, l4, ?_⟩
        rw [ey, List.filter_append, List.map_append, List.filter_cons, if_neg (by rw [hf]; decide)]
        show All2 Yr S4 (_ ++ []) ws
        rw [List.append_nil]
        exact a4
    · rintro H' ⟨S', ws, w', s', n', l', a'⟩
      rw [List.take_length] at a'
      have h1 : H D = none := by
        cases e : H D with
        | none => rfl
        | some ob => exact absurd hD (s2.dm D (ne_none e))
      exact q D _ S' H' h1 l' n' w' (s2.trans s') ⟨ws, rfl, a'⟩
/-- the target a name, no test -/
theorem en_lcn {wi : TI} {j : Nat} {vs : List Nat} {ys : List α} {X : Rl α} (gf : α → β) {Yr : Rl β} [Mono Yr] (hi : EvI r wi s S ys X) (hz : ys.length ≤ 100000) (hw : ∀ v, wipe ((wipe s vs).set j (some v)) vs = wipe s vs)
    (hb : ∀ y v S1, Ex S S1 → y ∈ ys → X y v S1 → EvS r te ((wipe s vs).set j (some v)) S1 fun u S2 => Yr (gf y) u S2) :
    EvN r (tLc wi (gName j) tYes te vs) s S fun o S1 => ∃ ws, o = .lst ws ∧ All2 Yr S1 (ys.map gf) ws := by
  have h := en_lc (tt := tYes) (g := gName j) (vs := vs) (te := te) (fun _ => true) gf (Yr := Yr) hi hz fun y v S1 e m x => ⟨(wipe s vs).set j (some v), hw v, fun H k _ h => h, fun S2 H2 _ w2 Q q => q true S2 H2 w2 Stp.refl rfl, fun _ => hb y v S1 e m x⟩
  rw [List.filter_eq_self.mpr (fun _ _ => rfl)] at h
  exact h
/-- the target a name, a test -/
theorem en_lct {wi : TI} {j : Nat} {vs : List Nat} {ys : List α} {X : Rl α} (f : α → Bool) (gf : α → β) {Yr : Rl β} [Mono Yr] (hi : EvI r wi s S ys X) (hz : ys.length ≤ 100000) (hw : ∀ v, wipe ((wipe s vs).set j (some v)) vs = wipe s vs)
    (ht : ∀ y v S1, Ex S S1 → y ∈ ys → X y v S1 → EvB r tt ((wipe s vs).set j (some v)) S1 (f y)) (hb : ∀ y v S1, Ex S S1 → y ∈ ys → f y = true → X y v S1 → EvS r te ((wipe s vs).set j (some v)) S1 fun u S2 => Yr (gf y) u S2) :
    EvN r (tLc wi (gName j) tt te vs) s S fun o S1 => ∃ ws, o = .lst ws ∧ All2 Yr S1 ((ys.filter f).map gf) ws :=
  en_lc f gf hi hz fun y v S1 e m x => ⟨(wipe s vs).set j (some v), hw v, fun H k _ h => h, ht y v S1 e m x, fun hf => hb y v S1 e m hf x⟩
/-- the target a pair of names -/
theorem en_lc2 {γ : Type} {wi : TI} {j1 j2 : Nat} {vs : List Nat} {ys : List (α × γ)} {X : Rl α} {X' : Rl γ} (f : α × γ → Bool) (gf : α × γ → β) {Yr : Rl β} [Mono Yr] (hi : EvI r wi s S ys (PairR K X X')) (hz : ys.length ≤ 100000) (hw : ∀ v v', wipe (((wipe s vs).set j1 (some v)).set j2 (some v')) vs = wipe s vs)
    (ht : ∀ y v v' S1, Ex S S1 → y ∈ ys → X y.1 v S1 → X' y.2 v' S1 → EvB r tt (((wipe s vs).set j1 (some v)).set j2 (some v')) S1 (f y)) (hb : ∀ y v v' S1, Ex S S1 → y ∈ ys → f y = true → X y.1 v S1 → X' y.2 v' S1 → EvS r te (((wipe s vs).set j1 (some v)).set j2 (some v')) S1 fun u S2 => Yr (gf y) u S2) :
    EvN r (tLc wi (gTup K 2 (gCons (gName j1) (gCons (gName j2) gNil))) tt te vs) s S fun o S1 => ∃ ws, o = .lst ws ∧ All2 Yr S1 ((ys.filter f).map gf) ws :=
  en_lc f gf hi hz fun y v S1 e m ⟨b, v1, v2, e1, e2, e3, e4⟩ => ⟨((wipe s vs).set j1 (some v1)).set j2 (some v2), hw v1 v2, fun H k ex h => ⟨b, _, e1, ex_t ex e2, rfl, v1, _, rfl, v2, _, rfl, rfl, h⟩, ht y v1 v2 S1 e m e3 e4, fun hf => hb y v1 v2 S1 e m hf e3 e4⟩
/-- a new list is a list of data -/
theorem EvN.lst {ys : List α} {X : Rl α} [Mono X] (h : EvN r te s S fun o S1 => ∃ ws, o = .lst ws ∧ All2 X S1 ys ws) : EvS r te s S fun v S1 => LstR X ys v S1 :=
  h.stable fun p o S1 _ n ⟨ws, e1, e2⟩ => ⟨p, ws, rfl, by
    rw [e1]
    exact upd_same, e2.up (Ex.new n)⟩
theorem EvN.tup {ys : List α} {X : Rl α} [Mono X] (h : EvN r te s S fun o S1 => ∃ ws, o = .tup ws ∧ All2 X S1 ys ws) : EvS r te s S fun v S1 => TupR K X ys v S1 :=
  h.stable fun p o S1 _ n ⟨ws, e1, e2⟩ => ⟨p, ws, rfl, by
    rw [e1]
    exact SqT.of upd_same, e2.up (Ex.new n)⟩
/-- tuple(a list): a new tuple -/
theorem en_tuple {ta : TA} {ys : List α} {X : Rl α} [Mono X] (h : EvAS r ta s S fun us S1 => ∃ v, us = [v] ∧ LstR X ys v S1) : EvN r (tCB (rTupleU K) ta) s S fun o S1 => ∃ ws, o = .tup ws ∧ All2 X S1 ys ws :=
  en_cb h fun us S1 _ ⟨v, e1, a, vs, e2, e3, e4⟩ H eH Q q => by
    subst e1
    subst e2
    exact ⟨_, rfl, .inl ⟨a, vs, rfl, SqL.of (eH _ _ e3), fun p hp => q p _ hp ⟨vs, rfl, e4⟩⟩⟩
/-- list(a list or a tuple): a new list -/
theorem en_list {ta : TA} {ys : List α} {X : Rl α} [Mono X] (h : EvAS r ta s S fun us S1 => ∃ v, us = [v] ∧ SeqR K X ys v S1) : EvN r (tCB (rListU K) ta) s S fun o S1 => ∃ ws, o = .lst ws ∧ All2 X S1 ys ws :=
  en_cb h fun us S1 _ ⟨v, e1, e2⟩ H eH Q q => by
    subst e1
    rcases e2 with ⟨a, vs, e2, e3, e4⟩ | ⟨a, vs, e2, e3, e4⟩
    · subst e2
      exact ⟨a, vs, rfl, .inl (SqL.of (eH _ _ e3)), fun p hp => q p _ hp ⟨vs, rfl, e4⟩⟩
    · subst e2
      exact ⟨a, vs, rfl, .inr (ex_t eH e3), fun p hp => q p _ hp ⟨vs, rfl, e4⟩⟩
theorem ea_one {P : V → Hp → Prop} (h : EvS r te s S P) : EvAS r (tCons te tNil) s S fun us S1 => ∃ v, us = [v] ∧ P v S1 := fun S1 H a w Q q =>
  h S1 H a w _ fun v S2 H2 w2 s2 p => q _ S2 H2 w2 s2 ⟨v, rfl, p⟩
/-- all, any of a new list of answers -/
theorem vv_all {ta : TE} {bs : List Bool} (h : EvS r ta s S fun v S1 => LstR BoolR bs v S1) : EvV r (tCB (rAll K) (tCons ta tNil)) s S (.bl (bs.all id)) :=
  ev_cb (ea_one h) fun us S1 _ ⟨v, e1, a, vs, e2, e3, e4⟩ H eH Q q => by
    subst e1
    subst e2
    rw [e4.bools] at e3
    exact rc_all (SqL.of e3) H eH Q (q _ rfl)
theorem vv_any {ta : TE} {bs : List Bool} (h : EvS r ta s S fun v S1 => LstR BoolR bs v S1) : EvV r (tCB (rAny K) (tCons ta tNil)) s S (.bl (bs.any id)) :=
  ev_cb (ea_one h) fun us S1 _ ⟨v, e1, a, vs, e2, e3, e4⟩ H eH Q q => by
    subst e1
    subst e2
    rw [e4.bools] at e3
    exact rc_any (SqL.of e3) H eH Q (q _ rfl)
theorem vv_sum {ta : TE} {ns : List Int} (h : EvS r ta s S fun v S1 => LstR IntR ns v S1) : EvV r (tCB (rSum K) (tCons ta tNil)) s S (.int ns.sum) :=
  ev_cb (ea_one h) fun us S1 _ ⟨v, e1, a, vs, e2, e3, e4⟩ H eH Q q => by
    subst e1
    subst e2
    rw [e4.ints] at e3
    exact rc_sum (SqL.of e3) H eH Q (q _ rfl)
theorem vv_len {ta : TE} {ys : List α} {X : Rl α} (h : EvS r ta s S fun v S1 => SeqR K X ys v S1) : EvV r (tCB (rLenU K) (tCons ta tNil)) s S (.int (ys.length : Int)) :=
  ev_cb (ea_one h) fun us S1 _ ⟨v, e1, e2⟩ H eH Q q => by
    subst e1
    rcases e2 with ⟨a, vs, e2, e3, e4⟩ | ⟨a, vs, e2, e3, e4⟩
    · subst e2
      rw [← e4.len] at q
      exact rc_lenL (SqL.of e3) H eH Q (q _ rfl)
    · subst e2
      rw [← e4.len] at q
      exact rc_lenT e3 H eH Q (q _ rfl)
/-- sorted of ints: ascending, the same ones -/
theorem en_sorted {ta : TE} {ns : List Int} (hz : ns.length < 64) (h : EvS r ta s S fun v S1 => LstR IntR ns v S1) : EvN r (tCB (rSortedU K) (tCons ta tNil)) s S fun o S1 => ∃ ms : List Int, o = .lst (ms.map V.int) ∧ ms.Perm ns ∧ ms.Pairwise (· ≤ ·) :=
  en_cb (ea_one h) fun us S1 _ ⟨v, e1, a, vs, e2, e3, e4⟩ H eH Q q => by
    subst e1
    subst e2
    rw [e4.ints] at e3
    exact .inl ⟨a, ns, rfl, SqL.of (eH _ _ e3), hz, fun ms p h1 h2 hp => q p _ hp ⟨ms, rfl, h1, h2⟩⟩
theorem ev_max {ta : TE} {ns : List Int} (hz : 0 < ns.length) (h : EvS r ta s S fun v S1 => LstR IntR ns v S1) : EvS r (tCB (rMaxU K) (tCons ta tNil)) s S fun v _ => ∃ m, v = .int m ∧ m ∈ ns ∧ ∀ y, y ∈ ns → y ≤ m :=
  ev_cb (ea_one h) fun us S1 _ ⟨v, e1, a, vs, e2, e3, e4⟩ H eH Q q => by
    subst e1
    subst e2
    rw [e4.ints] at e3
    exact .inr ⟨a, ns, rfl, SqL.of (eH _ _ e3), hz, fun m h1 h2 => q _ ⟨m, rfl, h1, h2⟩⟩
theorem ev_min {ta : TE} {ns : List Int} (hz : 0 < ns.length) (h : EvS r ta s S fun v S1 => LstR IntR ns v S1) : EvS r (tCB (rMinU K) (tCons ta tNil)) s S fun v _ => ∃ m, v = .int m ∧ m ∈ ns ∧ ∀ y, y ∈ ns → m ≤ y :=
  ev_cb (ea_one h) fun us S1 _ ⟨v, e1, a, vs, e2, e3, e4⟩ H eH Q q => by
    subst e1
    subst e2
    rw [e4.ints] at e3
    exact .inr ⟨a, ns, rfl, SqL.of (eH _ _ e3), hz, fun m h1 h2 => q _ ⟨m, rfl, h1, h2⟩⟩
/-! ### slices -/
theorem en_slice {te : TE} {tl th : TO} {lo hi : Option Int} {a : Addr} {xs : List V} (he : EvV r te s S (.ref a)) (hx : SqL K S a xs) (hl : ∀ H Q, Q lo H → tl s H Q) (hh : ∀ H Q, Q hi H → th s H Q) : EvN r (tSl (rSlU K) te tl th) s S fun o _ => o = .lst (cutV xs lo hi) := fun S1 H e w Q q =>
  he S1 H e w _ fun v S2 H2 w2 s2 ev => by
    subst ev
    refine hl H2 _ (hh H2 _ (.inl (.inl ⟨a, xs, rfl, ex_l ((e.trans s2.ex).trans w2.ex) hx, fun p hp => ?_⟩)))
    have h1 : H p = none := by
      cases e : H p with
      | none => rfl
      | some ob => exact absurd hp (s2.dm p (ne_none e))
    exact q p _ S2 _ h1 upd_same (w2.fresh hp) (w2.new hp) (s2.trans (Stp.new hp)) rfl
/-! ### loops -/
variable {tu tw tz : TS} {D : Ends} {g : TG}
theorem st_for {wi : TI} {ys : List α} {X : Rl α} (hi : EvI r wi s S ys X) (w : Wd r S H)
    (k : ∀ S2 H2, Wd r S2 H2 → Stp r S H S2 H2 → ∃ P : Nat → L2.St → Hp → Hp → Prop, P 0 s S2 H2 ∧ (∀ i s' S' H', P i s' S' H' → Wd r S' H' ∧ Ex S2 S') ∧
      (∀ i y v s' S' H' S3 H3, ys[i]? = some y → P i s' S' H' → Wd r S3 H3 → Stp r S' H' S3 H3 → X y v S3 → g v s' H3 fun s2 H4 => tu { D with nx := fun s H => ∃ S, P (i + 1) s S H, ct := fun s H => ∃ S, P (i + 1) s S H, bk := D.nx } s2 H4) ∧
      (∀ s' S' H', P ys.length s' S' H' → D.nx s' H')) : tFor wi g tu D s H :=
  hi S H (Ex.refl _) w _ fun J S2 H2 G Y w2 s2 wk hG hY => by
    obtain ⟨P, h0, hP, hs, hd⟩ := k S2 H2 w2 s2
    refine for_it wk (fun i s H => ∃ S, P i s S H) ⟨S2, h0⟩ (fun i s' H' _ ⟨S', p⟩ => hG S' H' (hP i s' S' H' p).2 (hP i s' S' H' p).1) ?_ (fun s' H' ⟨S', p⟩ => hd s' S' H' p)
    rintro i v s' H' H'' hlt ⟨S', p⟩ y'
    obtain ⟨w', e'⟩ := hP i s' S' H' p
    obtain ⟨S3, y, g1, w3, s3, x3⟩ := hY i S' H' v H'' hlt e' w' y'
    exact hs i y v s' S' H' S3 H'' g1 p w3 s3 x3
theorem sq_for {wi : TI} {ys : List α} {X : Rl α} (hi : EvI r wi s S ys X) (w : Wd r S H)
    (k : ∀ S2 H2, Wd r S2 H2 → Stp r S H S2 H2 → ∃ P : Nat → L2.St → Hp → Hp → Prop, P 0 s S2 H2 ∧ (∀ i s' S' H', P i s' S' H' → Wd r S' H' ∧ Ex S2 S') ∧
      (∀ i y v s' S' H' S3 H3, ys[i]? = some y → P i s' S' H' → Wd r S3 H3 → Stp r S' H' S3 H3 → X y v S3 → g v s' H3 fun s2 H4 => tu { D with nx := fun s H => ∃ S, P (i + 1) s S H, ct := fun s H => ∃ S, P (i + 1) s S H, bk := tz D } s2 H4) ∧
      (∀ s' S' H', P ys.length s' S' H' → tz D s' H')) : tSeq (tFor wi g tu) tz D s H := st_for (D := { D with nx := tz D }) hi w k
/-! ### calls -/
/-- a def that changes nothing: from a, told by pre, a result told by post -/
def SpP {A : Type} (pre : A → List V → Hp → Prop) (post : A → V → Hp → Prop) : Sp := fun vs H Q _ => ∃ (a : A) (S : Hp), pre a vs S ∧ Ex S H ∧ ∀ v S1 H1, Wd Rs.nil S1 H1 → Stp Rs.nil S H S1 H1 → post a v S1 → Q v H1
theorem Wd.lift {S0 S1 H0 H1 : Hp} (w0 : Wd r S0 H0) (w : Wd Rs.nil S1 H1) (s : Stp Rs.nil S0 H0 S1 H1) : Wd r S1 H1 :=
  ⟨w.ex, r.mono H0 H1 (fun a o _ e => s.kp a o (fun z => by cases z) e) (fun a q e => s.kp a _ (fun z => by cases z) e) w0.inv, fun a ha => s.fr a (r.has H0 w0.inv a ha) (w0.dj a ha)⟩
theorem Stp.lift {S0 S1 H0 H1 : Hp} (s : Stp Rs.nil S0 H0 S1 H1) : Stp r S0 H0 S1 H1 := ⟨s.ex, fun a o _ e => s.kp a o (fun z => by cases z) e, s.fr, s.dm⟩
theorem ev_call {A : Type} {pre : A → List V → Hp → Prop} {post : A → V → Hp → Prop} {E : XK} {dvs : List V} {ta : TA} {P : List V → Hp → Prop} (h : EvAS r ta s S P) (hp : ∀ vs S1, Ex S S1 → P vs S1 → ∃ a, pre a (vs ++ dvs) S1 ∧ ∀ v S2, Ex S1 S2 → post a v S2 → R v S2) : EvS r (tCall (SpP pre post) dvs E ta) s S R := fun S1 H e w Q q =>
  h S1 H e w _ fun vs S2 H2 w2 s2 p => by
    obtain ⟨a, p1, p2⟩ := hp vs S2 (e.trans s2.ex) p
    exact ⟨a, S2, p1, w2.ex, fun v S3 H3 w3 s3 p3 => q v S3 H3 (w2.lift w3 s3) (s2.trans s3.lift) (p2 v S3 s3.ex p3)⟩
theorem vv_call {A : Type} {pre : A → List V → Hp → Prop} {post : A → V → Hp → Prop} {E : XK} {dvs : List V} {ta : TA} {vs : List V} (a : A) (h : EvAV r ta s S vs) (hp : ∀ S1, Ex S S1 → pre a (vs ++ dvs) S1) (hq : ∀ v S2, Ex S S2 → post a v S2 → R v S2) : EvS r (tCall (SpP pre post) dvs E ta) s S R :=
  ev_call h fun us S1 e eu => ⟨a, by
    rw [eu]
    exact hp S1 e, fun v S2 e2 p => hq v S2 (e.trans e2) p⟩
/-- o.f, o.m -/
theorem vv_fld {a C dx : Addr} {fs : List (Str × V)} {f : Str} (h : EvV r ta s S (.ref a)) (ha : S a = some (.ins C dx fs)) (c : Cls K C) (n : NoAttr K C f) (l : fs.lookup f = some v) : EvV r (tFld K ta f) s S v := fun S1 H e w Q q =>
  h S1 H e w _ fun u S2 H2 w2 s2 eu => ⟨a, C, dx, fs, v, eu, w2.ex _ _ (s2.ex _ _ (e _ _ ha)), c, n, l, q v S2 H2 w2 s2 rfl⟩
theorem vv_prop {a C dx : Addr} {fs : List (Str × V)} {f : Str} {E : XK} (h : EvV r ta s S (.ref a)) (ha : S a = some (.ins C dx fs)) (l : fs.lookup f = some v) : EvV r (tProp C (getSp C f) [] E ta) s S v := fun S1 H e w Q q =>
  h S1 H e w _ fun u S2 H2 w2 s2 eu => ⟨a, dx, fs, eu, w2.ex _ _ (s2.ex _ _ (e _ _ ha)), a, dx, fs, v, rfl, w2.ex _ _ (s2.ex _ _ (e _ _ ha)), l, q v S2 H2 w2 s2 rfl⟩
/-- a body's reading from its promise -/
theorem SpP.body {A : Type} {pre : A → List V → Hp → Prop} {post : A → V → Hp → Prop} {vs : List V} {Q : VK} {E : XK} (h : SpP pre post vs H Q E) : ∃ (a : A) (S : Hp), pre a vs S ∧ Wd Rs.nil S H ∧ ∀ v S1 H1, Wd Rs.nil S1 H1 → Stp Rs.nil S H S1 H1 → post a v S1 → Q v H1 := by
  obtain ⟨a, S, h1, h2, h3⟩ := h
  exact ⟨a, S, h1, ⟨h2, True.intro, fun _ z => by cases z⟩, h3⟩
end
end J

/-! J5: classes, numbers. -/
namespace J
open PySem PySem.Spec L2 Evl
/-- what isinstance asks of an own class -/
structure IsCls (K : PySem.W.Frag) (C : Addr) : Prop where
  ha : PySem.W.findIn K (.ref C) "__class__" = some (some (.builtin "object.__class__"))
  hn : PySem.W.specialIn K (.builtin "object.__class__") "__get__" = some (some (.builtin "getset_descriptor.__get__"))
  ht : PySem.W.takesIn K (.builtin "object.__class__") = some true
  hm : PySem.W.mroIn K C (.type "object") = some true
  hk : PySem.W.kitOne K (.ref C) (.ref C) = some true
theorem kit_self {K : PySem.W.Frag} {C : Addr} : PySem.W.kitOne K (.ref C) (.ref C) = some true := by
  unfold PySem.W.kitOne
  rw [if_pos (by simp)]
section
variable {r : Rs} {s : L2.St} {S S' H : Hp} {ta tb tc te : TE} {x y z v : V} {K : PySem.W.Frag}
theorem tyx_ins {a C dx : Addr} {fs : List (Str × V)} (h : S a = some (.ins C dx fs)) (c : Cls K C) (i : IsCls K C) : TyX K S (.ref a) (.ref C) := .base (.ins h c i.ha i.hn i.ht i.hm)
/-- isinstance(x, C) of an instance of C itself -/
theorem vv_isC {a C dx : Addr} {fs : List (Str × V)} (hx : EvV r ta s S (.ref a)) (hc : EvV r tb s S (.ref C)) (h : S a = some (.ins C dx fs)) (c : Cls K C) (i : IsCls K C) : EvV r (tCB (rIsiU K) (tCons ta (tCons tb tNil))) s S (.bl true) :=
  vv_cb (va_cons hx (va_cons hc va_nil)) (rc_isi (.own C) (tyx_ins h c i) i.hk)
/-- isinstance(x, T), built-in types -/
theorem vv_isT {T T' : String} {b : Bool} (hx : EvV r ta s S x) (hc : EvV r tb s S (.ty T')) (h : TyX K S x (.type T)) (k : kitB T T' = some b) : EvV r (tCB (rIsiU K) (tCons ta (tCons tb tNil))) s S (.bl b) :=
  vv_cb (va_cons hx (va_cons hc va_nil)) (rc_isi (.ty T') h (kit_ty k))
/-- isinstance(x, (list, tuple)) of a list or a tuple -/
theorem vv_isLT {α : Type} {ys : List α} {R : Rl α} (hx : EvV r ta s S x) (hc : EvV r tb s S (.ty "list")) (hc' : EvV r tc s S (.ty "tuple")) (h : SeqR K R ys x S) : EvV r (tCB (rIsiU K) (tCons ta (tCons (tTup (tCons tb (tCons tc tNil))) tNil))) s S (.bl true) := by
  rcases h with ⟨a, vs, rfl, h2, _⟩ | ⟨a, vs, rfl, h2, _⟩
  · exact vv_isiT (ty := .type "list") hx (va_cons hc (va_cons hc' va_nil)) (by decide) (.cons (.ty _) (.cons (.ty _) .nil)) (.base (.lst h2)) (kitAny_cons (b := true) (kit_ty (by decide +kernel)) (fun z => nomatch z) fun _ => rfl)
  · refine vv_isiT (ty := .type "tuple") hx (va_cons hc (va_cons hc' va_nil)) (by decide) (.cons (.ty _) (.cons (.ty _) .nil)) ?_ (kitAny_cons (b := false) (kit_ty (by decide +kernel)) (fun _ => kitAny_cons (b := true) (kit_ty (by decide +kernel)) (fun z => nomatch z) fun _ => rfl) fun z => nomatch z)
    rcases h2 with (h2 | ⟨o, h2⟩) | ⟨o, its, n, h1, h2, _⟩
    · exact .base (.tup h2)
    · exact .fTuple h2
    · exact .kTuple h1 h2
end
theorem cdiv {i j : Int} (h : 0 < j) (h2 : j < 10 ^ 100) : CDivW i j := by
  refine wide_div (b := 400) h ?_ (by decide) (by decide)
  have e : (10 : Int) ^ 100 < 2 ^ 400 := by decide
  have e2 : ((2 ^ 400 : Nat) : Int) = (2 : Int) ^ 400 := by norm_cast
  omega
theorem cmul_r {i j : Int} (h : -(2 ^ 64) < j ∧ j < 2 ^ 64) : CMul i j := .inr h
theorem cmul_l {i j : Int} (h : -(2 ^ 64) < i ∧ i < 2 ^ 64) : CMul i j := .inl h
/-- a written number within the bounds -/
theorem digits_len : ∀ (fuel n : Nat) (ds : List Char), (Nat.toDigitsCore 10 fuel n ds).length ≤ fuel + ds.length
  | 0, n, ds => by
    unfold Nat.toDigitsCore
    omega
  | f + 1, n, ds => by
    unfold Nat.toDigitsCore
    dsimp only
    split
    · rw [List.length_cons]
      omega
    · have h := digits_len f (n / 10) (Nat.digitChar (n % 10) :: ds)
      rw [List.length_cons] at h
      omega
end J

/-! J6: objects that are changed; instances made. -/
namespace J
open PySem PySem.Spec L2 Evl
/-- r, and the objects at M -/
def Rs.more (r : Rs) (M : List Addr) : Rs := ⟨M ++ r.M, fun H => r.I H ∧ ∀ a, a ∈ M → H a ≠ none, fun H H' k kc h => ⟨r.mono H H' (fun a o ha e => k a o (List.mem_append_right _ ha) e) kc h.1, fun a ha => by
  cases e : H a with
  | none => exact absurd e (h.2 a ha)
  | some o => exact ne_none (k a o (List.mem_append_left _ ha) e)⟩, fun H h a ha => by
  rcases List.mem_append.mp ha with ha | ha
  · exact h.2 a ha
  · exact r.has H h.1 a ha⟩
abbrev Rs.obj (M : List Addr) : Rs := Rs.nil.more M
section
variable {r : Rs} {S H S1 H1 S2 H2 S0 H0 : Hp} {M : List Addr}
theorem Wd.more (w : Wd r S H) (h : ∀ a, a ∈ M → S a = none ∧ H a ≠ none) : Wd (r.more M) S H :=
  ⟨w.ex, ⟨w.inv, fun a ha => (h a ha).2⟩, fun a ha => (List.mem_append.mp ha).elim (fun z => (h a z).1) (w.dj a)⟩
theorem Wd.less (w : Wd (r.more M) S H) : Wd r S H := ⟨w.ex, w.inv.1, fun a ha => w.dj a (List.mem_append_right _ ha)⟩
theorem Stp.more (s : Stp r S H S1 H1) : Stp (r.more M) S H S1 H1 := ⟨s.ex, fun a o n e => s.kp a o (fun z => n (List.mem_append_right _ z)) e, s.fr, s.dm⟩
/-- what changed was new -/
theorem Stp.drop (s0 : Stp r S0 H0 S H) (s : Stp (r.more M) S H S1 H1) (h : ∀ a, a ∈ M → H0 a = none) : Stp r S0 H0 S1 H1 :=
  ⟨s0.ex.trans s.ex, fun a o n e => s.kp a o (fun z => (List.mem_append.mp z).elim (fun z => absurd (h a z) (ne_none e)) n) (s0.kp a o n e), fun a q e => s.fr a (s0.dm a q) (s0.fr a q e), fun a q => s.dm a (s0.dm a q)⟩
theorem Wd.upd (w : Wd r S H) {a : Addr} {o : HO} (hs : S a = none) (n : a ∉ r.M) (hc : ∀ q, H a ≠ some (LamX.CodeO a q)) : Wd r S (upd H a o) := w.mut hs n hc
theorem Stp.upd1 {a : Addr} {o : HO} (h : H a ≠ none) : Stp (r.more [a]) S H S (upd H a o) :=
  ⟨Ex.refl S, fun b u n e => by
    rw [upd_ne (fun z : b = a => n (List.mem_append_left _ (z ▸ List.mem_singleton.mpr rfl)))]
    exact e, fun _ _ e => e, fun b q => by
    intro z
    by_cases e : b = a
    · rw [e, upd_same] at z
      cases z
    · rw [upd_ne e] at z
      exact q z⟩
theorem Stp.has (s : Stp r S H S1 H1) {a : Addr} (h : H a ≠ none) : H1 a ≠ none := s.dm a h
end
/-- a def that works with what rs a tells: pre and post speak of the stable part and of the heap -/
def SpR {A : Type} (rs : A → Rs) (pre : A → List V → Hp → Hp → Prop) (post : A → V → Hp → Hp → Prop) : Sp := fun vs H Q _ => ∃ (a : A) (S : Hp), pre a vs S H ∧ Wd (rs a) S H ∧ ∀ v S1 H1, Wd (rs a) S1 H1 → Stp (rs a) S H S1 H1 → post a v S1 H1 → Q v H1
/-- an __init__: x has no fields at the beginning, those that fr tells at the end -/
def SpInit {A : Type} (C : Addr) (pre : A → List V → Hp → Prop) (fr : A → List (Str × V) → Hp → Prop) : Sp := fun vs H Q _ => ∃ (a : A) (S : Hp) (x dx : Addr) (us : List V), vs = .ref x :: us ∧ pre a us S ∧ H x = some (.ins C dx []) ∧ S x = none ∧ Wd Rs.nil S H ∧
  ∀ S1 H1 fs, Wd Rs.nil S1 H1 → Stp (Rs.obj [x]) S H S1 H1 → S1 x = none → H1 x = some (.ins C dx fs) → fr a fs S1 → Q .non H1
section
variable {r : Rs} {s : L2.St} {S S' H : Hp} {ta tb tc te : TE} {x y z v : V} {K : PySem.W.Frag} {R : V → Hp → Prop} {tu tw tz : TS} {D : Ends}
theorem en_make {A : Type} {C : Addr} {pre : A → List V → Hp → Prop} {fr : A → List (Str × V) → Hp → Prop} {E : XK} {dvs : List V} {ta : TA} {P : List V → Hp → Prop} {R : HO → Hp → Prop} (h : EvAS r ta s S P)
    (hp : ∀ vs S1, Ex S S1 → P vs S1 → ∃ a, pre a (vs ++ dvs) S1 ∧ ∀ dx fs S2, Ex S1 S2 → fr a fs S2 → R (.ins C dx fs) S2) : EvN r (tMake C (SpInit C pre fr) dvs E ta) s S R := fun S1 H e w Q q =>
  h S1 H e w _ fun vs S2 H2 w2 s2 p x dx hx hdx ne => by
    obtain ⟨a, p1, p2⟩ := hp vs S2 (e.trans s2.ex) p
    have hx1 : (upd H2 dx (.own x)) x = none := by
      rw [upd_ne ne.symm]
      exact hx
    have w3 : Wd r S2 (upd (upd H2 dx (.own x)) x (.ins C dx [])) := (w2.new hdx).new hx1
    have s3 : Stp r S2 H2 S2 (upd (upd H2 dx (.own x)) x (.ins C dx [])) := (Stp.new hdx).trans (Stp.new hx1)
    have h0 : H x = none := by
      cases e : H x with
      | none => rfl
      | some ob => exact absurd hx (s2.dm x (ne_none e))
    have hM : x ∉ r.M := w2.notM hx
    refine ⟨a, S2, x, dx, _, rfl, p1, upd_same, w2.fresh hx, ⟨w3.ex, True.intro, fun b hb => by cases hb⟩, fun S4 H4 fs w4 s4 n4 g4 f4 => ⟨rfl, ?_⟩⟩
    have kp : ∀ b o, b ≠ x → (upd (upd H2 dx (.own x)) x (.ins C dx [])) b = some o → H4 b = some o := fun b o nb eb => s4.kp b o (fun z => (List.mem_append.mp z).elim (fun z => nb (List.mem_singleton.mp z)) (fun z => by cases z)) eb
    refine q x _ S4 H4 h0 g4 n4 ⟨w4.ex, r.mono _ _ (fun b o hb eb => kp b o (fun z => hM (z ▸ hb)) eb) (fun b q eb => kp b _ (fun z => nco_ins upd_same q (z ▸ eb)) eb) w3.inv, fun b hb => s4.fr b (r.has _ w3.inv b hb) (w3.dj b hb)⟩ ?_ (p2 dx fs S4 s4.ex f4)
    refine ⟨s2.ex.trans (s3.ex.trans s4.ex), fun b o nb eb => ?_, fun b hb hs => s4.fr b (s3.dm b (s2.dm b hb)) (s3.fr b (s2.dm b hb) (s2.fr b hb hs)), fun b hb => s4.dm b (s3.dm b (s2.dm b hb))⟩
    exact kp b o (ne_of_none eb h0) (s3.kp b o nb (s2.kp b o nb eb))
/-- a.f = e, a not stable -/
theorem st_fld {C dx a : Addr} {fs : List (Str × V)} {f : Str} (n : a ∉ r.M) (ho : EvV r ta s S (.ref a)) (hv : EvS r te s S R) (w : Wd r S H) (ha : H a = some (.ins C dx fs)) (hs : S a = none) (c : Cls K C) (na : NoAttr K C f) (hl : fs.length < 1000)
    (k : ∀ v S1 H1, Wd r S1 H1 → Stp (r.more [a]) S H S1 H1 → S1 a = none → H1 a = some (.ins C dx (putF f v fs)) → R v S1 → D.nx s H1) : sFld K ta te f D s H :=
  hv S H (Ex.refl _) w _ fun v S1 H1 w1 s1 p => ho S1 H1 s1.ex w1 _ fun u S2 H2 w2 s2 eu => by
    subst eu
    have s12 := s1.trans s2
    have h2 : H2 a = some (.ins C dx fs) := s12.kp a _ n ha
    have n2 : S2 a = none := s12.fr a (ne_none ha) hs
    refine ⟨a, C, dx, fs, rfl, h2, c, na, hl, ?_⟩
    have e2 : R v S1 := p
    exact k v S1 _ ⟨Ex.mut ((s2.ex).trans w2.ex) (s1.fr a (ne_none ha) hs), r.mono H2 _ (fun b o hb e => by
      rw [upd_ne (fun z : b = a => n (z ▸ hb))]
      exact e) (CoK.upd (nco_ins h2)) w2.inv, w1.dj⟩ ⟨s1.ex, fun b o nb e => by
      rw [upd_ne (fun z : b = a => nb (List.mem_append_left _ (z ▸ List.mem_singleton.mpr rfl)))]
      exact s12.kp b o (fun z => nb (List.mem_append_right _ z)) e, s1.fr, fun b hb => by
      intro z
      by_cases e : b = a
      · rw [e, upd_same] at z
        cases z
      · rw [upd_ne e] at z
        exact s12.dm b hb z⟩ (s1.fr a (ne_none ha) hs) upd_same p
theorem sq_fld {C dx a : Addr} {fs : List (Str × V)} {f : Str} (n : a ∉ r.M) (ho : EvV r ta s S (.ref a)) (hv : EvS r te s S R) (w : Wd r S H) (ha : H a = some (.ins C dx fs)) (hs : S a = none) (c : Cls K C) (na : NoAttr K C f) (hl : fs.length < 1000)
    (k : ∀ v S1 H1, Wd r S1 H1 → Stp (r.more [a]) S H S1 H1 → S1 a = none → H1 a = some (.ins C dx (putF f v fs)) → R v S1 → tz D s H1) : tSeq (sFld K ta te f) tz D s H := st_fld (D := { D with nx := tz D }) n ho hv w ha hs c na hl k
/-- a list that is not stable is changed by a method of its own, or by place -/
theorem st_append {l : Addr} {xs : List V} {te ta : TE} (n : l ∉ r.M) (ho : EvV r ta s S (.ref l)) (hv : EvS r te s S R) (w : Wd r S H) (hl : H l = some (.lst xs)) (hs : S l = none) (hz : xs.length < 100000)
    (k : ∀ v S1 H1, Wd r S1 H1 → Stp (r.more [l]) S H S1 H1 → S1 l = none → H1 l = some (.lst (xs ++ [v])) → R v S1 → D.nx s H1) : tDrop (tBM K "list" rAppend ta (tCons te tNil)) D s H :=
  ho S H (Ex.refl _) w _ fun u S1 H1 w1 s1 eu => by
    subst eu
    have h1 : H1 l = some (.lst xs) := s1.kp l _ n hl
    refine ⟨.inl ⟨rfl, _, .inl (.inl h1)⟩, hv S1 H1 s1.ex w1 _ fun v S2 H2 w2 s2 p => ?_⟩
    have s12 := s1.trans s2
    refine ⟨l, xs, v, rfl, rfl, s12.kp l _ n hl, sz_lt hz, ?_⟩
    exact k v S2 _ (w2.mut (s12.fr l (ne_none hl) hs) n (nco_lst (s12.kp l _ n hl))) ((s12.more).trans (Stp.upd1 (s12.dm l (ne_none hl)))) (s12.fr l (ne_none hl) hs) upd_same p
theorem sq_append {l : Addr} {xs : List V} {te ta : TE} (n : l ∉ r.M) (ho : EvV r ta s S (.ref l)) (hv : EvS r te s S R) (w : Wd r S H) (hl : H l = some (.lst xs)) (hs : S l = none) (hz : xs.length < 100000)
    (k : ∀ v S1 H1, Wd r S1 H1 → Stp (r.more [l]) S H S1 H1 → S1 l = none → H1 l = some (.lst (xs ++ [v])) → R v S1 → tz D s H1) : tSeq (tDrop (tBM K "list" rAppend ta (tCons te tNil))) tz D s H := st_append (D := { D with nx := tz D }) n ho hv w hl hs hz k
/-- l[i] = e -/
theorem st_set {l : Addr} {xs : List V} {i : Int} {j : Nat} {te ta ti : TE} (n : l ∉ r.M) (hv : EvS r te s S R) (ho : EvV r ta s S (.ref l)) (hi : EvV r ti s S (.int i)) (w : Wd r S H) (hl : H l = some (.lst xs)) (hs : S l = none) (hj : ixN xs.length i = some j)
    (k : ∀ v S1 H1, Wd r S1 H1 → Stp (r.more [l]) S H S1 H1 → S1 l = none → H1 l = some (.lst (xs.set j v)) → R v S1 → D.nx s H1) : tAsg te (gSub ta ti rSetL) D s H :=
  hv S H (Ex.refl _) w _ fun v S1 H1 w1 s1 p => ho S1 H1 s1.ex w1 _ fun u S2 H2 w2 s2 eu => hi S2 H2 (s1.ex.trans s2.ex) w2 _ fun u' S3 H3 w3 s3 eu' => by
    subst eu
    subst eu'
    have s13 := (s1.trans s2).trans s3
    refine ⟨l, xs, i, j, rfl, rfl, s13.kp l _ n hl, hj, ?_⟩
    refine k v S1 _ ⟨Ex.mut ((s2.ex.trans s3.ex).trans w3.ex) (s1.fr l (ne_none hl) hs), r.mono H3 _ (fun b o hb e => by
      rw [upd_ne (fun z : b = l => n (z ▸ hb))]
      exact e) (CoK.upd (nco_lst (s13.kp l _ n hl))) w3.inv, w1.dj⟩ ⟨s1.ex, fun b o nb e => ?_, s1.fr, fun b hb => ?_⟩ (s1.fr l (ne_none hl) hs) upd_same p
    · rw [upd_ne (fun z : b = l => nb (List.mem_append_left _ (z ▸ List.mem_singleton.mpr rfl)))]
      exact s13.kp b o (fun z => nb (List.mem_append_right _ z)) e
    · intro z
      by_cases e : b = l
      · rw [e, upd_same] at z
        cases z
      · rw [upd_ne e] at z
        exact s13.dm b hb z
theorem sq_set {l : Addr} {xs : List V} {i : Int} {j : Nat} {te ta ti : TE} (n : l ∉ r.M) (hv : EvS r te s S R) (ho : EvV r ta s S (.ref l)) (hi : EvV r ti s S (.int i)) (w : Wd r S H) (hl : H l = some (.lst xs)) (hs : S l = none) (hj : ixN xs.length i = some j)
    (k : ∀ v S1 H1, Wd r S1 H1 → Stp (r.more [l]) S H S1 H1 → S1 l = none → H1 l = some (.lst (xs.set j v)) → R v S1 → tz D s H1) : tSeq (tAsg te (gSub ta ti rSetL)) tz D s H := st_set (D := { D with nx := tz D }) n hv ho hi w hl hs hj k
/-- reading an item of a list that is not stable -/
theorem vu_ix {l : Addr} {xs : List V} {i : Int} {ta ti : TE} (H0 : Hp) : True := True.intro
/-- a call of a def with its own resource, from a resource that is the same -/
theorem ev_callR {A : Type} {rs : A → Rs} {pre : A → List V → Hp → Hp → Prop} {post : A → V → Hp → Hp → Prop} {E : XK} {dvs vs : List V} {ta : TA} (a : A) (hr : rs a = r) (h : EvAV r ta s S vs) (hp : ∀ S1 H1, Ex S S1 → Wd r S1 H1 → pre a (vs ++ dvs) S1 H1) (hq : ∀ v S2 H2, Ex S S2 → Wd r S2 H2 → post a v S2 H2 → R v S2) : EvS r (tCall (SpR rs pre post) dvs E ta) s S R := fun S1 H e w Q q =>
  h S1 H e w _ fun us S2 H2 w2 s2 eu => by
    subst hr
    subst eu
    exact ⟨a, S2, hp S2 H2 (e.trans s2.ex) w2, w2, fun v S3 H3 w3 s3 p3 => q v S3 H3 w3 (s2.trans s3) (hq v S3 H3 (e.trans (s2.ex.trans s3.ex)) w3 p3)⟩
/-- x = o.m(e ..), m changes objects at M that are not stable -/
theorem st_methR {A : Type} {C m : Addr} {mn : Str} {M : List Addr} {pre : A → List V → Hp → Hp → Prop} {post : A → V → Hp → Hp → Prop} {E : XK} {dvs vs : List V} {ta : TA} {i : Nat} {dx o : Addr} {fs : List (Str × V)} {rs : A → Rs} (a : A) (hr : rs a = Rs.obj M) (ho : EvV r te s S (.ref o)) (h : EvAV r ta s S vs) (w : Wd r S H) (no : o ∉ r.M) (hM : ∀ b, b ∈ M → b ∉ r.M ∧ S b = none ∧ H b ≠ none) (hco : ∀ b, b ∈ M → ∀ q, H b ≠ some (LamX.CodeO b q))
    (hx : H o = some (.ins C dx fs)) (hf : fs.lookup mn = none) (hp : ∀ S1 H1, Wd r S1 H1 → Stp r S H S1 H1 → pre a (.ref o :: (vs ++ dvs)) S1 H1)
    (k : ∀ v S1 H1, Wd r S1 H1 → Stp (r.more M) S H S1 H1 → (∀ b, b ∈ M → S1 b = none) → post a v S1 H1 → D.nx (s.set i (some v)) H1) : tAsg (tMeth C mn (SpR rs pre post) dvs E te ta) (gName i) D s H :=
  ho S H (Ex.refl _) w _ fun u S1 H1 w1 s1 eu => by
    subst eu
    refine ⟨o, dx, fs, rfl, s1.kp o _ no hx, hf, h S1 H1 s1.ex w1 _ fun us S2 H2 w2 s2 eu => ?_⟩
    subst eu
    have s12 := s1.trans s2
    have n2 : ∀ b, b ∈ M → S2 b = none ∧ H2 b ≠ none := fun b hb => ⟨s12.fr b (hM b hb).2.2 (hM b hb).2.1, s12.dm b (hM b hb).2.2⟩
    refine ⟨a, S2, hp S2 H2 w2 s12, by
      rw [hr]
      exact Wd.more ⟨w2.ex, True.intro, fun _ z => by cases z⟩ n2, fun v S3 H3 w3 s3 p3 => ?_⟩
    rw [hr] at w3 s3
    have kp : ∀ b o, b ∉ M → H2 b = some o → H3 b = some o := fun b o nb e => s3.kp b o (fun z => (List.mem_append.mp z).elim nb (fun z => by cases z)) e
    refine k v S3 H3 ⟨w3.ex, r.mono H2 H3 (fun b o hb e => kp b o (fun z => (hM b z).1 hb) e) (fun b q e => kp b _ (fun z => by
      obtain ⟨o, ho⟩ := Option.ne_none_iff_exists'.mp (hM b z).2.2
      have z2 := (s12.kp b o (hM b z).1 ho).symm.trans e
      cases z2
      exact hco b z q ho) e) w2.inv, fun b hb => s3.fr b (r.has _ w2.inv b hb) (w2.dj b hb)⟩ ?_ (fun b hb => s3.fr b (n2 b hb).2 (n2 b hb).1) p3
    exact (s12.more).trans ⟨s3.ex, fun b o nb e => kp b o (fun z => nb (List.mem_append_left _ z)) e, s3.fr, s3.dm⟩
end
end J

/-! J7: an object that may change is read for a while. -/
namespace J
open PySem PySem.Spec L2 Evl
def del (l : Addr) (S : Hp) : Hp := fun a => if a = l then none else S a
theorem del_same {l : Addr} {S : Hp} : del l S l = none := if_pos rfl
theorem del_ne {l a : Addr} {S : Hp} (h : a ≠ l) : del l S a = S a := if_neg h
section
variable {r : Rs} {s : L2.St} {S S' H : Hp} {ta tb tc te ti : TE} {t u : TT} {x y z v : V} {K : PySem.W.Frag} {R : V → Hp → Prop} {tu tw tz : TS} {D : Ends} {l : Addr} {o : HO}
theorem Wd.del {S1 H1 : Hp} (w : Wd r S1 H1) : Wd r (del l S1) H1 := ⟨fun a o e => by
  by_cases z : a = l
  · rw [z, del_same] at e
    cases e
  · rw [del_ne z] at e
    exact w.ex a o e, w.inv, fun a ha => by
  by_cases z : a = l
  · rw [z, del_same]
  · rw [del_ne z]
    exact w.dj a ha⟩
theorem Stp.del {S1 H1 : Hp} (s : Stp r (upd S l o) H S1 H1) (sl : S l = none) : Stp r S H (del l S1) H1 :=
  ⟨fun a u e => by
    have z : a ≠ l := ne_of_none e sl
    rw [del_ne z]
    exact s.ex a u (by rw [upd_ne z]; exact e), s.kp, fun a q e => by
    by_cases z : a = l
    · rw [z, del_same]
    · rw [del_ne z]
      exact s.fr a q (by rw [upd_ne z]; exact e), s.dm⟩
theorem borrow (h : EvV r te s (upd S l o) v) (w : Wd r S H) (hl : H l = some o) (n : l ∉ r.M) (sl : S l = none) {Q : VK} (q : ∀ S1 H1, Wd r S1 H1 → Stp r S H S1 H1 → S1 l = none → Q v H1) : te s H Q :=
  h _ H (Ex.refl _) (w.settle hl n) Q fun u S1 H1 w1 s1 e => by
    subst e
    exact q (del l S1) H1 w1.del (s1.del sl) del_same
theorem borrowT {b : Bool} (h : EvB r t s (upd S l o) b) (w : Wd r S H) (hl : H l = some o) (n : l ∉ r.M) (sl : S l = none) {Q : Bool → Hp → Prop} (q : ∀ S1 H1, Wd r S1 H1 → Stp r S H S1 H1 → S1 l = none → Q b H1) : t s H Q :=
  h _ H (Ex.refl _) (w.settle hl n) Q fun u S1 H1 w1 s1 e => by
    subst e
    exact q (del l S1) H1 w1.del (s1.del sl) del_same
theorem sq_asgB {i : Nat} (h : EvV r te s (upd S l o) v) (w : Wd r S H) (hl : H l = some o) (n : l ∉ r.M) (sl : S l = none) (k : ∀ S1 H1, Wd r S1 H1 → Stp r S H S1 H1 → S1 l = none → tz D (s.set i (some v)) H1) : tSeq (tAsg te (gName i)) tz D s H := borrow h w hl n sl k
theorem st_ifB {b : Bool} (h : EvB r t s (upd S l o) b) (w : Wd r S H) (hl : H l = some o) (n : l ∉ r.M) (sl : S l = none) (h1 : b = true → ∀ S1 H1, Wd r S1 H1 → Stp r S H S1 H1 → S1 l = none → tu D s H1) (h2 : b = false → ∀ S1 H1, Wd r S1 H1 → Stp r S H S1 H1 → S1 l = none → tw D s H1) : tIfS t tu tw D s H :=
  borrowT h w hl n sl fun S1 H1 w1 s1 n1 => by
    cases b with
    | true => exact h1 rfl S1 H1 w1 s1 n1
    | false => exact h2 rfl S1 H1 w1 s1 n1
theorem ex_both {S S' : Hp} {l : Addr} {o : HO} (e : Ex S S') : Ex (upd S l o) (upd S' l o) := fun a u q => by
  by_cases z : a = l
  · rw [z, upd_same] at q ⊢
    exact q
  · rw [upd_ne z] at q ⊢
    exact e a u q
/-- l[i] = e, e and i reckoned with l's own items -/
theorem st_setB {xs : List V} {i : Int} {j : Nat} (n : l ∉ r.M) (hv : EvV r te s (upd S l (.lst xs)) v) (ho : EvV r ta s S (.ref l)) (hi : EvV r ti s (upd S l (.lst xs)) (.int i)) (w : Wd r S H) (hl : H l = some (.lst xs)) (sl : S l = none) (hj : ixN xs.length i = some j)
    (k : ∀ S1 H1, Wd r S1 H1 → Stp (r.more [l]) S H S1 H1 → S1 l = none → H1 l = some (.lst (xs.set j v)) → D.nx s H1) : tAsg te (gSub ta ti rSetL) D s H :=
  borrow hv w hl n sl fun S1 H1 w1 s1 n1 => ho S1 H1 s1.ex w1 _ fun u S2 H2 w2 s2 eu => by
    subst eu
    have s12 := s1.trans s2
    have h2 : H2 l = some (.lst xs) := s12.kp l _ n hl
    have n2 : S2 l = none := s2.fr l (ne_none (s1.kp l _ n hl)) n1
    refine borrow (EvS.mono (ex_both s12.ex) hi) w2 h2 n n2 fun S3 H3 w3 s3 n3 => ?_
    have s13 := s12.trans s3
    refine ⟨l, xs, i, j, rfl, rfl, s13.kp l _ n hl, hj, ?_⟩
    exact k S3 _ (w3.mut n3 n (nco_lst (s13.kp l _ n hl))) (s13.more.trans (Stp.upd1 (s13.dm l (ne_none hl)))) n3 upd_same
theorem sq_setB {xs : List V} {i : Int} {j : Nat} (n : l ∉ r.M) (hv : EvV r te s (upd S l (.lst xs)) v) (ho : EvV r ta s S (.ref l)) (hi : EvV r ti s (upd S l (.lst xs)) (.int i)) (w : Wd r S H) (hl : H l = some (.lst xs)) (sl : S l = none) (hj : ixN xs.length i = some j)
    (k : ∀ S1 H1, Wd r S1 H1 → Stp (r.more [l]) S H S1 H1 → S1 l = none → H1 l = some (.lst (xs.set j v)) → tz D s H1) : tSeq (tAsg te (gSub ta ti rSetL)) tz D s H := st_setB (D := { D with nx := tz D }) n hv ho hi w hl sl hj k
theorem sq_methR {A : Type} {C : Addr} {mn : Str} {M : List Addr} {pre : A → List V → Hp → Hp → Prop} {post : A → V → Hp → Hp → Prop} {E : XK} {dvs vs : List V} {ta : TA} {i : Nat} {dx o : Addr} {fs : List (Str × V)} {rs : A → Rs} (a : A) (hr : rs a = Rs.obj M) (ho : EvV r te s S (.ref o)) (h : EvAV r ta s S vs) (w : Wd r S H) (no : o ∉ r.M) (hM : ∀ b, b ∈ M → b ∉ r.M ∧ S b = none ∧ H b ≠ none) (hco : ∀ b, b ∈ M → ∀ q, H b ≠ some (LamX.CodeO b q))
    (hx : H o = some (.ins C dx fs)) (hf : fs.lookup mn = none) (hp : ∀ S1 H1, Wd r S1 H1 → Stp r S H S1 H1 → pre a (.ref o :: (vs ++ dvs)) S1 H1)
    (k : ∀ v S1 H1, Wd r S1 H1 → Stp (r.more M) S H S1 H1 → (∀ b, b ∈ M → S1 b = none) → post a v S1 H1 → tz D (s.set i (some v)) H1) : tSeq (tAsg (tMeth C mn (SpR rs pre post) dvs E te ta) (gName i)) tz D s H := st_methR (m := 0) (D := { D with nx := tz D }) a hr ho h w no hM hco hx hf hp k
theorem seqIx {i n : Nat} (h : i < n) : seqIndex? (i : Int) n = some i := by
  unfold seqIndex?
  have h1 : ¬ ((i : Int) < 0) := by omega
  dsimp only
  rw [if_neg h1, decide_eq_true (show (0 : Int) ≤ (i : Int) by omega), decide_eq_true (show (i : Int) < (n : Int) by omega)]
  rfl
theorem ixN_nat {i n : Nat} (h : i < n) : ixN n (i : Int) = some i := by
  unfold ixN
  rw [if_pos (by omega), if_pos (by omega)]
  rfl
end
end J

/-! J8: lists of new lists; several objects made stable. -/
namespace J
open PySem PySem.Spec L2 Evl
/-- S, and at M what H has -/
noncomputable def sup (M : List Addr) (H S : Hp) : Hp := fun a => if a ∈ M then H a else S a
theorem sup_in {M : List Addr} {H S : Hp} {a : Addr} (h : a ∈ M) : sup M H S a = H a := if_pos h
theorem sup_out {M : List Addr} {H S : Hp} {a : Addr} (h : a ∉ M) : sup M H S a = S a := if_neg h
section
variable {r : Rs} {s : L2.St} {S S' H : Hp} {ta tb tc te ti : TE} {t u : TT} {x y z v : V} {K : PySem.W.Frag} {R : V → Hp → Prop} {tu tw tz : TS} {D : Ends} {l : Addr} {o : HO} {α β : Type}
theorem Wd.settleL (w : Wd r S H) {M : List Addr} (n : ∀ a, a ∈ M → a ∉ r.M) : Wd r (sup M H S) H :=
  ⟨fun a u e => by
    by_cases z : a ∈ M
    · rw [sup_in z] at e
      exact e
    · rw [sup_out z] at e
      exact w.ex a u e, w.inv, fun a ha => by
    have z : a ∉ M := fun z => n a z ha
    rw [sup_out z]
    exact w.dj a ha⟩
theorem ex_sup {M : List Addr} (hs : ∀ a, a ∈ M → S a = none) : Ex S (sup M H S) := fun a u e => by
  have z : a ∉ M := fun z => by
    rw [hs a z] at e
    cases e
  rw [sup_out z]
  exact e
theorem Stp.settleL {S0 H0 : Hp} (s : Stp r S0 H0 S H) {M : List Addr} (h0 : ∀ a, a ∈ M → H0 a = none) (hs : ∀ a, a ∈ M → S a = none) : Stp r S0 H0 (sup M H S) H :=
  ⟨s.ex.trans (ex_sup hs), s.kp, fun a q e => by
    have z : a ∉ M := fun z => q (h0 a z)
    rw [sup_out z]
    exact s.fr a q e, s.dm⟩
theorem pre_none {S H S1 H1 : Hp} (st : Stp r S H S1 H1) {a : Addr} (h : H1 a = none) : H a = none := by
  cases e : H a with
  | none => rfl
  | some o => exact absurd h (st.dm a (ne_none e))
theorem sq_par {i j : Nat} (h : ta s H fun x H1 => tb s H1 fun y H2 => ∃ v w, [x, y] = [v, w] ∧ tz D ((s.set i (some v)).set j (some w)) H2) : tSeq (tPar i j (tCons ta (tCons tb tNil))) tz D s H := h
/-- [[] for x in ys] -/
theorem en_empties {wi : TI} {j : Nat} {vs : List Nat} {ys : List α} {X : Rl α} (hi : EvI r wi s S ys X) (hz : ys.length ≤ 100000) (hw : ∀ v, wipe ((wipe s vs).set j (some v)) vs = wipe s vs) (w : Wd r S H) {Q : VK}
    (q : ∀ (p : Addr) (rs : List Addr) (S2 H2 : Hp), H p = none → H2 p = some (.lst (rs.map V.ref)) → S2 p = none → rs.length = ys.length → rs.Nodup → p ∉ rs → (∀ a, a ∈ rs → H a = none ∧ S2 a = none ∧ H2 a = some (.lst [])) → Wd r S2 H2 → Stp r S H S2 H2 → Q (.ref p) H2) : tLc wi (gName j) tYes (tLst tNil) vs s H Q :=
  hi S H (Ex.refl _) w _ fun J S2 H2 G Y w2 s2 wk hG hY D hD => by
    have hM : D ∉ r.M := w2.notM hD
    have h0 := pre_none s2 hD
    refine lc_it wk (fun i H' => ∃ (S' : Hp) (rs : List Addr), Wd r S' H' ∧ Stp r S H S' H' ∧ Ex S2 S' ∧ S' D = none ∧ H' D = some (.lst (rs.map V.ref)) ∧ rs.length = i ∧ rs.Nodup ∧ D ∉ rs ∧ ∀ a, a ∈ rs → H a = none ∧ S' a = none ∧ H' a = some (.lst []))
      ⟨S2, [], w2.new hD, s2.trans (Stp.new hD), Ex.refl _, w2.fresh hD, upd_same, rfl, List.nodup_nil, by simp, fun a ha => by cases ha⟩ (fun i H' _ ⟨S', rs, w', _, e', _⟩ => hG S' H' e' w') ?_ ?_
    · rintro i v H' H'' hlt ⟨S', rs, w', s', e', n', l', len, nd, nD, al⟩ y'
      obtain ⟨S3, y, g1, w3, s3, x3⟩ := hY i S' H' v H'' hlt e' w' y'
      have l3 : H'' D = some (.lst (rs.map V.ref)) := s3.kp D _ hM l'
      have n3 : S3 D = none := s3.fr D (ne_none l') n'
      have s03 := s'.trans s3
      refine ⟨hw v, ?_⟩
      unfold tYes
      dsimp only
      rw [if_pos rfl]
      refine ⟨Nat.zero_le _, fun p hp => ?_⟩
      have pD : D ≠ p := ne_of_none l3 hp
      have hp0 := pre_none s03 hp
      have al3 : ∀ a, a ∈ rs → H a = none ∧ S3 a = none ∧ H'' a = some (.lst []) := fun a ha => by
        obtain ⟨q1, q2, q3⟩ := al a ha
        have na : a ∉ r.M := fun z => r.has H w.inv a z q1
        exact ⟨q1, s3.fr a (ne_none q3) q2, s3.kp a _ na q3⟩
      refine ⟨rs.map V.ref, by rw [upd_ne pD]; exact l3, ?_, S3, rs ++ [p], (w3.new hp).mut n3 hM (nco_lst (by rw [upd_ne pD]; exact l3)), (s03.trans (Stp.new hp)).mut h0, e'.trans s3.ex, n3, by rw [upd_same, List.map_append]; rfl, by rw [List.length_append, len]; rfl, ?_, ?_, ?_⟩
      · rw [List.length_map, len]
        exact sz_lt (by omega)
      · rw [List.nodup_append]
        refine ⟨nd, by simp, fun a ha b hb => ?_⟩
        rw [List.mem_singleton.mp hb]
        rintro rfl
        rw [(al3 a ha).2.2] at hp
        cases hp
      · rw [List.mem_append, not_or]
        exact ⟨nD, fun z => pD (List.mem_singleton.mp z)⟩
      · intro a ha
        rcases List.mem_append.mp ha with ha | ha
        · obtain ⟨q1, q2, q3⟩ := al3 a ha
          have aD : a ≠ D := fun z => nD (z ▸ ha)
          refine ⟨q1, q2, ?_⟩
          rw [upd_ne aD, upd_ne (ne_of_none q3 hp)]
          exact q3
        · rw [List.mem_singleton.mp ha]
          refine ⟨hp0, w3.fresh hp, ?_⟩
          rw [upd_ne pD.symm, upd_same]
    · rintro H' ⟨S', rs, w', s', e', n', l', len, nd, nD, al⟩
      exact q D rs S' H' h0 l' n' len nd nD al w' s'
end
end J

/-! J9: several objects read for a while; the law's pool. -/
namespace J
open PySem PySem.Spec L2 Evl
noncomputable def delL (M : List Addr) (S : Hp) : Hp := fun a => if a ∈ M then none else S a
theorem delL_in {M : List Addr} {S : Hp} {a : Addr} (h : a ∈ M) : delL M S a = none := if_pos h
theorem delL_out {M : List Addr} {S : Hp} {a : Addr} (h : a ∉ M) : delL M S a = S a := if_neg h
section
variable {r r' : Rs} {s : L2.St} {S S' S1 H H1 : Hp} {ta tb tc te ti : TE} {t u : TT} {x y z v : V} {K : PySem.W.Frag} {R : V → Hp → Prop} {tu tw tz : TS} {D : Ends} {l : Addr} {o : HO} {α β : Type} {M : List Addr}
theorem Wd.toNil (w : Wd r S H) : Wd Rs.nil S H := ⟨w.ex, True.intro, fun _ z => by cases z⟩
theorem Stp.wk (s : Stp r S H S1 H1) (h : ∀ a, a ∈ r.M → a ∈ r'.M) : Stp r' S H S1 H1 := ⟨s.ex, fun a o n e => s.kp a o (fun z => n (h a z)) e, s.fr, s.dm⟩
theorem Wd.delL (w : Wd r S1 H1) : Wd r (delL M S1) H1 := ⟨fun a o e => by
  by_cases z : a ∈ M
  · rw [delL_in z] at e
    cases e
  · rw [delL_out z] at e
    exact w.ex a o e, w.inv, fun a ha => by
  by_cases z : a ∈ M
  · rw [delL_in z]
  · rw [delL_out z]
    exact w.dj a ha⟩
theorem Stp.delL (s : Stp r (sup M H S) H S1 H1) (sl : ∀ a, a ∈ M → S a = none) : Stp r S H (delL M S1) H1 :=
  ⟨fun a u e => by
    have z : a ∉ M := fun z => by
      rw [sl a z] at e
      cases e
    rw [delL_out z]
    exact s.ex a u (by rw [sup_out z]; exact e), s.kp, fun a q e => by
    by_cases z : a ∈ M
    · rw [delL_in z]
    · rw [delL_out z]
      exact s.fr a q (by rw [sup_out z]; exact e), s.dm⟩
/-- the objects at M may change, but not just now -/
def Loc (r : Rs) (M : List Addr) (S H : Hp) : Prop := ∀ a, a ∈ M → a ∉ r.M ∧ S a = none ∧ H a ≠ none
theorem Loc.step (h : Loc r M S H) (s : Stp r S H S1 H1) : Loc r M S1 H1 := fun a ha => ⟨(h a ha).1, s.fr a (h a ha).2.2 (h a ha).2.1, s.dm a (h a ha).2.2⟩
theorem Loc.stepM (h : Loc r M S H) (s : Stp (r.more M) S H S1 H1) : Loc r M S1 H1 := fun a ha => ⟨(h a ha).1, s.fr a (h a ha).2.2 (h a ha).2.1, s.dm a (h a ha).2.2⟩
theorem borrowL (h : EvV r te s (sup M H S) v) (w : Wd r S H) (hM : Loc r M S H) {Q : VK} (q : ∀ S1 H1, Wd r S1 H1 → Stp r S H S1 H1 → Q v H1) : te s H Q :=
  h _ H (Ex.refl _) (w.settleL fun a ha => (hM a ha).1) Q fun u S1 H1 w1 s1 e => by
    subst e
    exact q (J.delL M S1) H1 w1.delL (s1.delL fun a ha => (hM a ha).2.1)
theorem borrowR (h : EvS r te s (sup M H S) fun v _ => R v S) (w : Wd r S H) (hM : Loc r M S H) {Q : VK} (q : ∀ v S1 H1, Wd r S1 H1 → Stp r S H S1 H1 → R v S → Q v H1) : te s H Q :=
  h _ H (Ex.refl _) (w.settleL fun a ha => (hM a ha).1) Q fun u S1 H1 w1 s1 e => q u (J.delL M S1) H1 w1.delL (s1.delL fun a ha => (hM a ha).2.1) e
theorem borrowLT {b : Bool} (h : EvB r t s (sup M H S) b) (w : Wd r S H) (hM : Loc r M S H) {Q : Bool → Hp → Prop} (q : ∀ S1 H1, Wd r S1 H1 → Stp r S H S1 H1 → Q b H1) : t s H Q :=
  h _ H (Ex.refl _) (w.settleL fun a ha => (hM a ha).1) Q fun u S1 H1 w1 s1 e => by
    subst e
    exact q (J.delL M S1) H1 w1.delL (s1.delL fun a ha => (hM a ha).2.1)
theorem sup_mono (e : Stp r S H S1 H1) (hM : Loc r M S H) : Ex (sup M H S) (sup M H1 S1) := fun a u q => by
  by_cases z : a ∈ M
  · rw [sup_in z] at q ⊢
    exact e.kp a u (hM a z).1 q
  · rw [sup_out z] at q ⊢
    exact e.ex a u q
theorem sq_asgL {i : Nat} (M : List Addr) (h : EvV r te s (sup M H S) v) (w : Wd r S H) (hM : Loc r M S H) (k : ∀ S1 H1, Wd r S1 H1 → Stp r S H S1 H1 → tz D (s.set i (some v)) H1) : tSeq (tAsg te (gName i)) tz D s H := borrowL h w hM k
theorem st_asgL {i : Nat} (M : List Addr) (h : EvV r te s (sup M H S) v) (w : Wd r S H) (hM : Loc r M S H) (k : ∀ S1 H1, Wd r S1 H1 → Stp r S H S1 H1 → D.nx (s.set i (some v)) H1) : tAsg te (gName i) D s H := borrowL h w hM k
theorem st_ifL {b : Bool} (M : List Addr) (h : EvB r t s (sup M H S) b) (w : Wd r S H) (hM : Loc r M S H) (h1 : b = true → ∀ S1 H1, Wd r S1 H1 → Stp r S H S1 H1 → tu D s H1) (h2 : b = false → ∀ S1 H1, Wd r S1 H1 → Stp r S H S1 H1 → tw D s H1) : tIfS t tu tw D s H :=
  borrowLT h w hM fun S1 H1 w1 s1 => by
    cases b with
    | true => exact h1 rfl S1 H1 w1 s1
    | false => exact h2 rfl S1 H1 w1 s1
theorem sq_ifL {b : Bool} (M : List Addr) (h : EvB r t s (sup M H S) b) (w : Wd r S H) (hM : Loc r M S H) (h1 : b = true → ∀ S1 H1, Wd r S1 H1 → Stp r S H S1 H1 → tu { D with nx := tz D } s H1) (h2 : b = false → ∀ S1 H1, Wd r S1 H1 → Stp r S H S1 H1 → tw { D with nx := tz D } s H1) : tSeq (tIfS t tu tw) tz D s H := st_ifL (D := { D with nx := tz D }) M h w hM h1 h2
theorem st_retL (M : List Addr) (h : EvV r te s (sup M H S) v) (w : Wd r S H) (hM : Loc r M S H) (k : ∀ S1 H1, Wd r S1 H1 → Stp r S H S1 H1 → D.rt v H1) : tRet te D s H := borrowL h w hM k
/-- l[i] = e, where l is one of M -/
theorem st_setL {xs : List V} {i : Int} {j : Nat} (M : List Addr) (hv : EvV r te s (sup M H S) v) (ho : EvV r ta s (sup M H S) (.ref l)) (hi : EvV r ti s (sup M H S) (.int i)) (w : Wd r S H) (hM : Loc r M S H) (hl : l ∈ M) (hx : H l = some (.lst xs)) (hj : ixN xs.length i = some j)
    (k : ∀ S1 H1, Wd r S1 H1 → Stp (r.more M) S H S1 H1 → H1 l = some (.lst (xs.set j v)) → (∀ a o, a ≠ l → a ∉ r.M → H a = some o → H1 a = some o) → D.nx s H1) : tAsg te (gSub ta ti rSetL) D s H :=
  borrowL hv w hM fun S1 H1 w1 s1 => borrowL (EvS.mono (sup_mono s1 hM) ho) w1 (hM.step s1) fun S2 H2 w2 s2 => by
    have s12 := s1.trans s2
    refine borrowL (EvS.mono (sup_mono s12 hM) hi) w2 (hM.step s12) fun S3 H3 w3 s3 => ?_
    have s13 := s12.trans s3
    have n := (hM l hl).1
    have hx3 := s13.kp l _ n hx
    have n3 := ((hM.step s13) l hl).2.1
    refine ⟨l, xs, i, j, rfl, rfl, hx3, hj, ?_⟩
    refine k S3 _ (w3.mut n3 n (nco_lst hx3)) (s13.more.trans ((Stp.upd1 (r := r) (a := l) (ne_none hx3)).wk fun a ha => ?_)) upd_same (fun a o na nr e => ?_)
    · rcases List.mem_append.mp ha with ha | ha
      · exact List.mem_append_left _ (List.mem_singleton.mp ha ▸ hl)
      · exact List.mem_append_right _ ha
    · rw [upd_ne na]
      exact s13.kp a o nr e
theorem sq_setL {xs : List V} {i : Int} {j : Nat} (M : List Addr) (hv : EvV r te s (sup M H S) v) (ho : EvV r ta s (sup M H S) (.ref l)) (hi : EvV r ti s (sup M H S) (.int i)) (w : Wd r S H) (hM : Loc r M S H) (hl : l ∈ M) (hx : H l = some (.lst xs)) (hj : ixN xs.length i = some j)
    (k : ∀ S1 H1, Wd r S1 H1 → Stp (r.more M) S H S1 H1 → H1 l = some (.lst (xs.set j v)) → (∀ a o, a ≠ l → a ∉ r.M → H a = some o → H1 a = some o) → tz D s H1) : tSeq (tAsg te (gSub ta ti rSetL)) tz D s H := st_setL (D := { D with nx := tz D }) M hv ho hi w hM hl hx hj k
end
/-! ### the pool -/
/-- what stands at p and c: the cells, the place, three numbers -/
structure PoolAt (p c : Addr) (cs : List Int) (pos cnt seed k : Int) (H : Hp) : Prop where
  hp : H p = some (.lst [.ref c, .int pos, .int cnt, .int seed, .int k])
  hc : H c = some (.lst (cs.map V.int))
  h0 : ∀ x, x ∈ cs → 0 ≤ x
  pos0 : 0 ≤ pos
  cnt0 : 0 ≤ cnt
  seed0 : 0 ≤ seed
def PoolI (p c : Addr) (H : Hp) : Prop := ∃ cs pos cnt seed k, PoolAt p c cs pos cnt seed k H
def poolR (p c : Addr) : Rs := ⟨[p, c], PoolI p c, fun H H' k _ ⟨cs, pos, cnt, seed, q, h⟩ => ⟨cs, pos, cnt, seed, q, k p _ (by simp) h.hp, k c _ (by simp) h.hc, h.h0, h.pos0, h.cnt0, h.seed0⟩, fun H ⟨cs, pos, cnt, seed, q, h⟩ a ha => by
  rcases List.mem_cons.mp ha with rfl | ha
  · exact ne_none h.hp
  · rw [List.mem_singleton.mp ha]
    exact ne_none h.hc⟩
theorem PoolAt.ne {p c : Addr} {cs : List Int} {pos cnt seed k : Int} {H : Hp} (h : PoolAt p c cs pos cnt seed k H) : p ≠ c := by
  rintro rfl
  have e := h.hp.symm.trans h.hc
  cases cs with
  | nil => cases e
  | cons x r =>
    injection e with e
    injection e with e
    injection e with e _
    cases e
theorem poolR_nil {p c : Addr} {S H S1 H1 : Hp} (s : Stp (Rs.nil.more [p, c]) S H S1 H1) : Stp (poolR p c) S H S1 H1 := s.wk fun a ha => by
  rcases List.mem_append.mp ha with ha | ha
  · exact ha
  · cases ha
theorem Stp.pool {p c : Addr} {S H S1 H1 : Hp} (s : Stp Rs.nil S H S1 H1) : Stp (Rs.nil.more [p, c]) S H S1 H1 := s.more
end J

/-! J10: data compared; displays, slices, sums of lists told by a relation; results that are only bounded. -/
namespace J
open PySem PySem.Spec L2 Evl
/-! ### relations of data -/
class Dt (K : PySem.W.Frag) {α : Type} [DecidableEq α] (R : Rl α) where
  d : α → PyData
  dp : ∀ {a : α} {v : V} {S : Hp}, R a v S → Dp K S v (d a)
  eqv : ∀ a b : α, PyData.eqv (d a) (d b) = decide (a = b)
  lay : ∀ a : α, (d a).canLay0 = true
  dep : Nat
  dep_le : ∀ a : α, (d a).depth ≤ dep
section
variable {K : PySem.W.Frag}
instance : Dt K IntR where
  d := .int
  dp h := by
    rw [show _ = _ from h]
    exact .int _
  eqv a b := by
    simp only [PyData.eqv]
    exact PySem.W.beq_decide a b
  lay _ := rfl
  dep := 0
  dep_le _ := Nat.le_refl _
instance : Dt K BoolR where
  d := .bool
  dp h := by
    rw [show _ = _ from h]
    exact .bl _
  eqv a b := by
    simp only [PyData.eqv]
    exact PySem.W.beq_decide a b
  lay _ := rfl
  dep := 0
  dep_le _ := Nat.le_refl _
/-- an int or None -/
def OintR : Rl (Option Int) := fun o v _ => v = match o with
  | none => V.non
  | some i => .int i
instance : Mono OintR := ⟨fun _ h => h⟩
instance : Dt K OintR where
  d o := match o with
    | none => .none
    | some i => .int i
  dp {a v S} h := by
    rw [show _ = _ from h]
    cases a with
    | none => exact .non
    | some i => exact .int i
  eqv a b := by
    cases a <;> cases b <;> simp only [PyData.eqv]
    · rfl
    · rfl
    · rfl
    · rename_i i j
      rw [PySem.W.beq_decide i j]
      exact decide_eq_decide.mpr ⟨fun e => by rw [e], fun e => by injection e⟩
  lay a := by cases a <;> rfl
  dep := 0
  dep_le a := by cases a <;> exact Nat.le_refl _
section
variable {α β γ : Type} [DecidableEq α] [DecidableEq β] [DecidableEq γ] {R : Rl α} {R' : Rl β} {R'' : Rl γ}
theorem dt_all [Dt K R] {S : Hp} : ∀ {xs : List α} {vs : List V}, All2 R S xs vs → DpAll K S vs (xs.map (Dt.d K R))
  | _, _, .nil => .nil
  | _, _, .cons h t => .cons (Dt.dp h) (dt_all t)
theorem dt_eqvAll [Dt K R] : ∀ xs ys : List α, PyData.eqvAll (xs.map (Dt.d K R)) (ys.map (Dt.d K R)) = decide (xs = ys)
  | [], [] => by simp only [List.map_nil, PyData.eqvAll, decide_true]
  | [], _ :: _ => by simp [PyData.eqvAll]
  | _ :: _, [] => by simp [PyData.eqvAll]
  | x :: xs, y :: ys => by
    rw [List.map_cons, List.map_cons, PyData.eqvAll, Dt.eqv x y, dt_eqvAll xs ys, ← Bool.decide_and]
    exact decide_eq_decide.mpr (by rw [List.cons.injEq])
theorem dt_layAll [Dt K R] : ∀ xs : List α, PyData.canLayAll0 (xs.map (Dt.d K R)) = true
  | [] => rfl
  | x :: xs => by
    rw [List.map_cons, PyData.canLayAll0, Dt.lay x, dt_layAll xs]
    rfl
theorem dt_depAll [Dt K R] : ∀ xs : List α, PyData.depthAll (xs.map (Dt.d K R)) ≤ Dt.dep K R
  | [] => Nat.zero_le _
  | x :: xs => by
    rw [List.map_cons, PyData.depthAll]
    exact Nat.max_le.mpr ⟨Dt.dep_le x, dt_depAll xs⟩
instance [Dt K R] : Dt K (LstR R) where
  d xs := .list (xs.map (Dt.d K R))
  dp h := by
    obtain ⟨a, vs, e, h1, h2⟩ := h
    subst e
    exact .lst (SqL.of h1) (dt_all h2)
  eqv a b := by
    simp only [PyData.eqv]
    exact dt_eqvAll a b
  lay a := by
    simp only [PyData.canLay0]
    exact dt_layAll a
  dep := Dt.dep K R + 1
  dep_le a := by
    simp only [PyData.depth]
    exact Nat.succ_le_succ (dt_depAll a)
instance [Dt K R] : Dt K (TupR K R) where
  d xs := .tuple (xs.map (Dt.d K R))
  dp h := by
    obtain ⟨a, vs, e, h1, h2⟩ := h
    subst e
    exact .tup h1 (dt_all h2)
  eqv a b := by
    simp only [PyData.eqv]
    exact dt_eqvAll a b
  lay a := by
    simp only [PyData.canLay0]
    exact dt_layAll a
  dep := Dt.dep K R + 1
  dep_le a := by
    simp only [PyData.depth]
    exact Nat.succ_le_succ (dt_depAll a)
instance [Dt K R] [Dt K R'] : Dt K (PairR K R R') where
  d p := .tuple [Dt.d K R p.1, Dt.d K R' p.2]
  dp h := by
    obtain ⟨a, x, y, e, h1, h2, h3⟩ := h
    subst e
    exact .tup h1 (.cons (Dt.dp h2) (.cons (Dt.dp h3) .nil))
  eqv a b := by
    simp only [PyData.eqv, PyData.eqvAll]
    rw [Dt.eqv, Dt.eqv, Bool.and_true, ← Bool.decide_and]
    exact decide_eq_decide.mpr ⟨fun e => Prod.ext e.1 e.2, fun e => by rw [e]; exact ⟨rfl, rfl⟩⟩
  lay a := by
    simp only [PyData.canLay0, PyData.canLayAll0, Dt.lay, Bool.and_self]
  dep := max (Dt.dep K R) (Dt.dep K R') + 1
  dep_le p := by
    simp only [PyData.depth, PyData.depthAll]
    have h1 := Dt.dep_le (K := K) (R := R) p.1
    have h2 := Dt.dep_le (K := K) (R := R') p.2
    omega
instance [Dt K R] [Dt K R'] [Dt K R''] : Dt K (TripR K R R' R'') where
  d p := .tuple [Dt.d K R p.1, Dt.d K R' p.2.1, Dt.d K R'' p.2.2]
  dp h := by
    obtain ⟨a, x, y, z, e, h1, h2, h3, h4⟩ := h
    subst e
    exact .tup h1 (.cons (Dt.dp h2) (.cons (Dt.dp h3) (.cons (Dt.dp h4) .nil)))
  eqv a b := by
    simp only [PyData.eqv, PyData.eqvAll]
    rw [Dt.eqv, Dt.eqv, Dt.eqv, Bool.and_true, ← Bool.decide_and, ← Bool.decide_and]
    exact decide_eq_decide.mpr ⟨fun e => Prod.ext e.1 (Prod.ext e.2.1 e.2.2), fun e => by rw [e]; exact ⟨rfl, rfl, rfl⟩⟩
  lay a := by
    simp only [PyData.canLay0, PyData.canLayAll0, Dt.lay, Bool.and_self]
  dep := max (max (Dt.dep K R) (Dt.dep K R')) (Dt.dep K R'') + 1
  dep_le p := by
    simp only [PyData.depth, PyData.depthAll]
    have h1 := Dt.dep_le (K := K) (R := R) p.1
    have h2 := Dt.dep_le (K := K) (R := R') p.2.1
    have h3 := Dt.dep_le (K := K) (R := R'') p.2.2
    omega
end
section
variable {r : Rs} {s : L2.St} {S S' H : Hp} {ta tb tc te ti : TE} {t u : TT} {tt : TT} {x y z v : V} {α β γ : Type} {R : Rl α} {R' : Rl β} {R'' : Rl γ} {tu tw tz : TS} {D : Ends}
theorem dt_shaped [DecidableEq α] [Dt K R] (h : Dt.dep K R ≤ 64) (a : α) : SeqAt.shaped (Dt.d K R a) = true :=
  Bool.and_eq_true_iff.mpr ⟨Dt.lay a, decide_eq_true (Nat.le_trans (Dt.dep_le a) h)⟩
/-- a == b, a != b of data of one relation -/
theorem rs_eqD [DecidableEq α] [Dt K R] {a b : α} (h1 : R a x S) (h2 : R b y S) (h : Dt.dep K R ≤ 64) : RVS (rEqU K) x y S (.bl (decide (a = b))) := by
  rw [← Dt.eqv (K := K) (R := R)]
  exact rs_eqd (Dt.dp h1) (Dt.dp h2) (dt_shaped h a) (dt_shaped h b)
theorem rs_neD [DecidableEq α] [Dt K R] {a b : α} (h1 : R a x S) (h2 : R b y S) (h : Dt.dep K R ≤ 64) : RVS (rNeU K) x y S (.bl (!decide (a = b))) := by
  rw [← Dt.eqv (K := K) (R := R)]
  exact rs_ned (Dt.dp h1) (Dt.dp h2) (dt_shaped h a) (dt_shaped h b)
theorem vv_eqD [DecidableEq α] [Dt K R] [Mono R] {a b : α} (h1 : EvS r ta s S fun v S1 => R a v S1) (h2 : ∀ S1, Ex S S1 → EvS r tb s S1 fun v S2 => R b v S2) (h : Dt.dep K R ≤ 64 := by exact Nat.le_of_ble_eq_true rfl) : EvV r (tOp (rEqU K) ta tb) s S (.bl (decide (a = b))) :=
  ev_op2 h1 (fun _ S1 e _ => h2 S1 e) fun x y S1 S2 _ hx e hy => ⟨_, rs_eqD (Mono.up e hx) hy h, rfl⟩
theorem vv_neD [DecidableEq α] [Dt K R] [Mono R] {a b : α} (h1 : EvS r ta s S fun v S1 => R a v S1) (h2 : ∀ S1, Ex S S1 → EvS r tb s S1 fun v S2 => R b v S2) (h : Dt.dep K R ≤ 64 := by exact Nat.le_of_ble_eq_true rfl) : EvV r (tOp (rNeU K) ta tb) s S (.bl (!decide (a = b))) :=
  ev_op2 h1 (fun _ S1 e _ => h2 S1 e) fun x y S1 S2 _ hx e hy => ⟨_, rs_neD (Mono.up e hx) hy h, rfl⟩
/-! ### displays -/
theorem ev_nilL : EvS r (tLst tNil) s S fun v S1 => LstR R [] v S1 := fun S1 H e w Q q => ⟨by decide, fun p hp => q (.ref p) (upd S1 p (.lst [])) _ (w.newS hp) (Stp.newS w hp) ⟨p, [], rfl, upd_same, .nil⟩⟩
theorem ea_all {P : V → Hp → Prop} (h : EvS r ta s S P) {tr : TA} {P2 : List V → Hp → Prop} (hr : ∀ S1, Ex S S1 → EvAS r tr s S1 P2) (m : ∀ v S1 S2, Ex S1 S2 → P v S1 → P v S2) : EvAS r (tCons ta tr) s S fun us S1 => ∃ v vs, us = v :: vs ∧ P v S1 ∧ P2 vs S1 := fun S1 H e w Q q =>
  h S1 H e w _ fun x' S2 H2 w2 s2 ex => hr S2 (e.trans s2.ex) S2 H2 (Ex.refl _) w2 _ fun vs' S3 H3 w3 s3 ev => q _ S3 H3 w3 (s2.trans s3) ⟨x', vs', rfl, m _ _ _ s3.ex ex, ev⟩
theorem ev_lst1 [Mono R] {a : α} (h : EvS r ta s S fun v S1 => R a v S1) : EvS r (tLst (tCons ta tNil)) s S fun v S1 => LstR R [a] v S1 := fun S1 H e w Q q =>
  h S1 H e w _ fun v S2 H2 w2 s2 hv => ⟨sz_of (show [v].length ≤ 100000 by simp), fun p hp => q (.ref p) (upd S2 p (.lst [v])) _ (w2.newS hp) (s2.trans (Stp.newS w2 hp)) ⟨p, [v], rfl, upd_same, .cons (Mono.up (Ex.new (w2.fresh hp)) hv) .nil⟩⟩
theorem ev_tup1 [Mono R] {a : α} (h : EvS r ta s S fun v S1 => R a v S1) : EvS r (tTup (tCons ta tNil)) s S fun v S1 => TupR K R [a] v S1 := fun S1 H e w Q q =>
  h S1 H e w _ fun v S2 H2 w2 s2 hv => ⟨sz_of (show [v].length ≤ 100000 by simp), fun p hp => q (.ref p) (upd S2 p (.tup [v])) _ (w2.newS hp) (s2.trans (Stp.newS w2 hp)) ⟨p, [v], rfl, SqT.of upd_same, .cons (Mono.up (Ex.new (w2.fresh hp)) hv) .nil⟩⟩
theorem ev_pair [Mono R] [Mono R'] {a : α} {b : β} (h : EvS r ta s S fun v S1 => R a v S1) (h2 : ∀ S1, Ex S S1 → EvS r tb s S1 fun v S2 => R' b v S2) : EvS r (tTup (tCons ta (tCons tb tNil))) s S fun v S1 => PairR K R R' (a, b) v S1 := fun S1 H e w Q q =>
  h S1 H e w _ fun v S2 H2 w2 s2 hv => h2 S2 (e.trans s2.ex) S2 H2 (Ex.refl _) w2 _ fun v' S3 H3 w3 s3 hv' => ⟨sz_of (show [v, v'].length ≤ 100000 by simp), fun p hp => q (.ref p) (upd S3 p (.tup [v, v'])) _ (w3.newS hp) ((s2.trans s3).trans (Stp.newS w3 hp)) ⟨p, v, v', rfl, SqT.of upd_same, Mono.up (Ex.new (w3.fresh hp)) (Mono.up s3.ex hv), Mono.up (Ex.new (w3.fresh hp)) hv'⟩⟩
theorem ev_trip [Mono R] [Mono R'] [Mono R''] {a : α} {b : β} {c : γ} (h : EvS r ta s S fun v S1 => R a v S1) (h2 : ∀ S1, Ex S S1 → EvS r tb s S1 fun v S2 => R' b v S2) (h3 : ∀ S1, Ex S S1 → EvS r tc s S1 fun v S2 => R'' c v S2) : EvS r (tTup (tCons ta (tCons tb (tCons tc tNil)))) s S fun v S1 => TripR K R R' R'' (a, b, c) v S1 := fun S1 H e w Q q =>
  h S1 H e w _ fun v S2 H2 w2 s2 hv => h2 S2 (e.trans s2.ex) S2 H2 (Ex.refl _) w2 _ fun v' S3 H3 w3 s3 hv' => h3 S3 (e.trans (s2.ex.trans s3.ex)) S3 H3 (Ex.refl _) w3 _ fun v'' S4 H4 w4 s4 hv'' => ⟨sz_of (show [v, v', v''].length ≤ 100000 by simp), fun p hp => q (.ref p) (upd S4 p (.tup [v, v', v''])) _ (w4.newS hp) (((s2.trans s3).trans s4).trans (Stp.newS w4 hp)) ⟨p, v, v', v'', rfl, SqT.of upd_same, Mono.up (Ex.new (w4.fresh hp)) (Mono.up s4.ex (Mono.up s3.ex hv)), Mono.up (Ex.new (w4.fresh hp)) (Mono.up s4.ex hv'), Mono.up (Ex.new (w4.fresh hp)) hv''⟩⟩
/-! ### lists told by a relation -/
theorem ev_ixL [Mono R] {xs : List α} {i : Int} {j : Nat} {a : α} (h : EvS r ta s S fun v S1 => LstR R xs v S1) (hi : ∀ S1, Ex S S1 → EvV r ti s S1 (.int i)) (ha : xs[j]? = some a) (e : i = (j : Int)) : EvS r (tOp (rIx K) ta ti) s S fun v S1 => R a v S1 :=
  ev_op2 h (fun _ S1 e _ => hi S1 e) fun x y S1 S2 _ ⟨b, vs, h1, h2, h3⟩ e2 hy => by
    obtain ⟨v, g1, g2⟩ := h3.at ha
    subst h1
    subst hy
    subst e
    exact ⟨v, rs_ixL' (SqL.of (e2 _ _ h2)) (atI_nat g1), Mono.up e2 g2⟩
theorem ev_ixT [Mono R] {xs : List α} {i : Int} {j : Nat} {a : α} (h : EvS r ta s S fun v S1 => TupR K R xs v S1) (hi : ∀ S1, Ex S S1 → EvV r ti s S1 (.int i)) (ha : xs[j]? = some a) (e : i = (j : Int)) : EvS r (tOp (rIx K) ta ti) s S fun v S1 => R a v S1 :=
  ev_op2 h (fun _ S1 e _ => hi S1 e) fun x y S1 S2 _ ⟨b, vs, h1, h2, h3⟩ e2 hy => by
    obtain ⟨v, g1, g2⟩ := h3.at ha
    subst h1
    subst hy
    subst e
    exact ⟨v, rs_ixT' (ex_t e2 h2) (atI_nat g1), Mono.up e2 g2⟩
theorem ev_cat [Mono R] {xs ys : List α} (h : EvS r ta s S fun v S1 => LstR R xs v S1) (h2 : ∀ S1, Ex S S1 → EvS r tb s S1 fun v S2 => LstR R ys v S2) (hz : xs.length + ys.length ≤ 100000) : EvS r (tOp (rAddU K) ta tb) s S fun v S1 => LstR R (xs ++ ys) v S1 :=
  EvN.lst (X := R) (ev_op2N h (fun _ S1 e _ => h2 S1 e) fun x y S1 S2 _ ⟨a, vs, h1, h2, h3⟩ e2 ⟨b, ws, g1, g2, g3⟩ => by
    subst h1
    subst g1
    exact ⟨_, rn_cat (e2 _ _ h2) g2 (by rw [h3.len, g3.len]; exact hz), _, rfl, (h3.up e2).append g3⟩)
theorem All2.flat [Mono R] {xs : List α} {vs : List V} (h : All2 R S xs vs) : ∀ k, All2 R S (List.replicate k xs).flatten (List.replicate k vs).flatten
  | 0 => .nil
  | k + 1 => by
    rw [List.replicate_succ, List.replicate_succ, List.flatten_cons, List.flatten_cons]
    exact h.append (h.flat k)
theorem flat_one {a : α} : ∀ k, (List.replicate k [a]).flatten = List.replicate k a
  | 0 => rfl
  | k + 1 => by
    rw [List.replicate_succ, List.flatten_cons, flat_one k]
    rfl
theorem ev_rep [Mono R] {xs : List α} {k : Int} (h : EvS r ta s S fun v S1 => LstR R xs v S1) (h2 : ∀ S1, Ex S S1 → EvV r tb s S1 (.int k)) (hk : 0 ≤ k ∧ k ≤ 100000) (hz : xs.length * k.toNat ≤ 100000) : EvS r (tOp rMulU ta tb) s S fun v S1 => LstR R (List.replicate k.toNat xs).flatten v S1 :=
  EvN.lst (X := R) (ev_op2N h (fun _ S1 e _ => h2 S1 e) fun x y S1 S2 _ ⟨a, vs, h1, h2, h3⟩ e2 g1 => by
    subst h1
    subst g1
    exact ⟨_, rn_rep (e2 _ _ h2) hk (by rw [h3.len]; exact hz), _, rfl, (h3.up e2).flat _⟩)
theorem ev_rep1 [Mono R] {a : α} {k : Int} (h : EvS r ta s S fun v S1 => R a v S1) (h2 : ∀ S1, Ex S S1 → EvV r tb s S1 (.int k)) (hk : 0 ≤ k ∧ k ≤ 100000) : EvS r (tOp rMulU (tLst (tCons ta tNil)) tb) s S fun v S1 => LstR R (List.replicate k.toNat a) v S1 := by
  have := ev_rep (R := R) (ev_lst1 h) h2 hk (by rw [List.length_singleton]; omega)
  rw [flat_one] at this
  exact this
def cutD (xs : List α) (lo hi : Option Int) : List α := (xs.drop (HT.sIx xs.length 0 lo)).take (HT.sIx xs.length xs.length hi - HT.sIx xs.length 0 lo)
theorem All2.cut [Mono R] {xs : List α} {vs : List V} (h : All2 R S xs vs) (lo hi : Option Int) : All2 R S (cutD xs lo hi) (cutV vs lo hi) := by
  unfold cutD cutV
  rw [h.len]
  exact (h.drop _).take _
theorem cut_take {xs : List α} (k : Nat) : cutD xs none (some (k : Int)) = xs.take k := by
  unfold cutD
  rw [HT.sIx_none, HT.sIx_nat, List.drop_zero, Nat.sub_zero]
  by_cases h : k ≤ xs.length
  · rw [Nat.min_eq_left h]
  · rw [Nat.min_eq_right (by omega), List.take_of_length_le (Nat.le_refl _), List.take_of_length_le (by omega)]
theorem cut_drop {xs : List α} (k : Nat) : cutD xs (some (k : Int)) none = xs.drop k := by
  unfold cutD
  rw [HT.sIx_none, HT.sIx_nat]
  by_cases h : k ≤ xs.length
  · rw [Nat.min_eq_left h, List.take_of_length_le]
    rw [List.length_drop]
    exact Nat.le_refl _
  · rw [Nat.min_eq_right (by omega), Nat.sub_self, List.take_zero, List.drop_eq_nil_of_le (by omega)]
theorem ev_slice [Mono R] {xs : List α} {tl th : TO} {lo hi : Option Int} (h : EvS r te s S fun v S1 => LstR R xs v S1) (hl : ∀ H Q, Q lo H → tl s H Q) (hh : ∀ H Q, Q hi H → th s H Q) : EvS r (tSl (rSlU K) te tl th) s S fun v S1 => LstR R (cutD xs lo hi) v S1 := fun S1 H e w Q q =>
  h S1 H e w _ fun x S2 H2 w2 s2 ⟨a, vs, h1, h2, h3⟩ => by
    have := EvN.lst (X := R) ((en_slice (te := tC (.ref a)) (r := r) (s := s) (S := S2) vv_c (SqL.of (K := K) h2) hl hh).imp fun o S3 e3 eo => ⟨cutV vs lo hi, eo, (h3.cut lo hi).up e3⟩)
    subst h1
    exact this S2 H2 (Ex.refl _) w2 _ fun v S3 H3 w3 s3 p => q v S3 H3 w3 (s2.trans s3) p
instance {γ : Type} : Mono (fun (_ : γ) _ _ => True : Rl γ) := ⟨fun _ _ => True.intro⟩
/-! ### what is only bounded -/
theorem All2.pick {B : α → Prop} {S : Hp} : ∀ {ys : List β} {vs : List V}, All2 (fun (_ : β) v S => ∃ b, B b ∧ R b v S) S ys vs → ∃ zs : List α, zs.length = ys.length ∧ (∀ z, z ∈ zs → B z) ∧ All2 R S zs vs
  | _, _, .nil => ⟨[], rfl, (fun z h => by cases h), .nil⟩
  | _, _, .cons ⟨b, hb, h⟩ t => by
    obtain ⟨zs, h1, h2, h3⟩ := All2.pick t
    refine ⟨b :: zs, by rw [List.length_cons, List.length_cons, h1], fun z hz => ?_, .cons h h3⟩
    rcases List.mem_cons.mp hz with rfl | hz
    · exact hb
    · exact h2 z hz
instance {B : α → Prop} [Mono R] : Mono (fun (_ : β) v S => ∃ b, B b ∧ R b v S : Rl β) := ⟨fun e ⟨b, h1, h2⟩ => ⟨b, h1, Mono.up e h2⟩⟩
/-- a comprehension whose items are only bounded -/
theorem en_lcx [Mono R] {wi : TI} {j : Nat} {vs : List Nat} {ys : List β} {X : Rl β} (B : α → Prop) (hi : EvI r wi s S ys X) (hz : ys.length ≤ 100000) (hw : ∀ v, wipe ((wipe s vs).set j (some v)) vs = wipe s vs)
    (hb : ∀ y v S1, Ex S S1 → y ∈ ys → X y v S1 → EvS r te ((wipe s vs).set j (some v)) S1 fun u S2 => ∃ b, B b ∧ R b u S2) :
    EvN r (tLc wi (gName j) tYes te vs) s S fun o S1 => ∃ zs ws, o = .lst ws ∧ zs.length = ys.length ∧ (∀ z, z ∈ zs → B z) ∧ All2 R S1 zs ws :=
  (en_lcn (Yr := fun (_ : β) v S => ∃ b, B b ∧ R b v S) (fun y => y) hi hz hw hb).imp fun o S1 _ ⟨ws, e, h⟩ => by
    rw [List.map_id'] at h
    obtain ⟨zs, h1, h2, h3⟩ := h.pick
    exact ⟨zs, ws, e, h1, h2, h3⟩
theorem ev_lcx [Mono R] {wi : TI} {j : Nat} {vs : List Nat} {ys : List β} {X : Rl β} (B : α → Prop) (hi : EvI r wi s S ys X) (hz : ys.length ≤ 100000) (hw : ∀ v, wipe ((wipe s vs).set j (some v)) vs = wipe s vs)
    (hb : ∀ y v S1, Ex S S1 → y ∈ ys → X y v S1 → EvS r te ((wipe s vs).set j (some v)) S1 fun u S2 => ∃ b, B b ∧ R b u S2) :
    EvS r (tLc wi (gName j) tYes te vs) s S fun v S1 => ∃ zs, zs.length = ys.length ∧ (∀ z, z ∈ zs → B z) ∧ LstR R zs v S1 :=
  EvN.stable (en_lcx B hi hz hw hb) fun p o S e n0 ⟨zs, ws, eo, hl, hz, h2⟩ => by
    subst eo
    exact ⟨zs, hl, hz, p, ws, rfl, upd_same, h2.up (Ex.new n0)⟩
/-- range(e) of an e that is only bounded -/
theorem lc_rng1 {P : Int → Prop} {g : TG} {vs : List Nat} (h : EvS r te s S fun v _ => ∃ n, v = .int n ∧ P n) (w : Wd r S H) {Q : VK} (k : ∀ n S1 H1, P n → Wd r S1 H1 → Stp r S H S1 H1 → tLc (iRng1 (tCons (tC (.int n)) tNil)) g tt ta vs s H1 Q) : tLc (iRng1 (tCons te tNil)) g tt ta vs s H Q :=
  h S H (Ex.refl _) w _ fun v S1 H1 w1 s1 ⟨n, e, p⟩ => by
    subst e
    exact k n S1 H1 p w1 s1
/-- [e for x in range(n)], n only bounded, the items only bounded -/
theorem ev_lcr [Mono R] {P : Int → Prop} {te0 : TE} {j : Nat} {vs : List Nat} (B : α → Prop) (h : EvS r te0 s S fun v _ => ∃ n, v = .int n ∧ P n) (hP : ∀ n, P n → n ≤ 100000 ∧ -100000 ≤ n) (hw : ∀ v, wipe ((wipe s vs).set j (some v)) vs = wipe s vs)
    (hb : ∀ (i : Nat) S1, Ex S S1 → EvS r te ((wipe s vs).set j (some (.int (i : Int)))) S1 fun u S2 => ∃ b, B b ∧ R b u S2) :
    EvS r (tLc (iRng1 (tCons te0 tNil)) (gName j) tYes te vs) s S fun v S1 => ∃ zs n, P n ∧ zs.length = n.toNat ∧ (∀ z, z ∈ zs → B z) ∧ LstR R zs v S1 := fun S1 H e w Q q =>
  lc_rng1 (EvS.mono e h) w fun n S2 H2 hp w2 s2 => by
    have hn := hP n hp
    exact ev_lcx (S := S2) B (ei_range1 (va_cons vv_c va_nil) (by omega)) (by rw [List.length_range]; omega) hw (fun y v S3 e3 _ hv => by
      rw [show v = _ from hv, Int.zero_add]
      exact hb y S3 (e.trans (s2.ex.trans e3))) S2 H2 (Ex.refl _) w2 Q fun v S3 H3 w3 s3 ⟨zs, h1, h2, h3⟩ => q v S3 H3 w3 (s2.trans s3) ⟨zs, n, hp, by rw [h1, List.length_range], h2, h3⟩
theorem for_rng1 {P : Int → Prop} {g : TG} (h : EvS r te s S fun v _ => ∃ n, v = .int n ∧ P n) (w : Wd r S H) (k : ∀ n S1 H1, P n → Wd r S1 H1 → Stp r S H S1 H1 → tFor (iRng1 (tCons (tC (.int n)) tNil)) g tu D s H1) : tFor (iRng1 (tCons te tNil)) g tu D s H :=
  h S H (Ex.refl _) w _ fun v S1 H1 w1 s1 ⟨n, e, p⟩ => by
    subst e
    exact k n S1 H1 p w1 s1
/-- x, y = (e, e') -/
theorem sq_tup2 {A B : V → Hp → Prop} {i j n : Nat} (hn : n = 2) (h : EvS r ta s S A) (h2 : ∀ S1, Ex S S1 → EvS r tb s S1 B) (m : ∀ v S1 S2, Ex S1 S2 → A v S1 → A v S2) (w : Wd r S H) (k : ∀ v v' S1 H1, Wd r S1 H1 → Stp r S H S1 H1 → A v S1 → B v' S1 → tz D ((s.set i (some v)).set j (some v')) H1) : tSeq (tAsg (tTup (tCons ta (tCons tb tNil))) (gTup K n (gCons (gName i) (gCons (gName j) gNil)))) tz D s H :=
  h S H (Ex.refl _) w _ fun v S2 H2 w2 s2 hv => h2 S2 s2.ex S2 H2 (Ex.refl _) w2 _ fun v' S3 H3 w3 s3 hv' => ⟨sz_of (show [v, v'].length ≤ 100000 by simp), fun p hp => ⟨p, [v, v'], rfl, SqT.of upd_same, hn.symm, v, _, rfl, v', _, rfl, rfl, k v v' S3 _ (w3.new hp) ((s2.trans s3).trans (Stp.new hp)) (m _ _ _ s3.ex hv) hv'⟩⟩
theorem ev_v [Mono R] {i : Nat} {a : α} (h : s[i]? = some (some v)) (p : R a v S) : EvS r (tVar i) s S fun v S1 => R a v S1 := ev_var h p fun S1 e q => Mono.up e q
theorem sq_asgRun {i : Nat} (k : te s H fun v H1 => tz D (s.set i (some v)) H1) : tSeq (tAsg te (gName i)) tz D s H := k
theorem st_ifNo (h : EvB r t s S false) (w : Wd r S H) (k : ∀ S1 H1, Wd r S1 H1 → Stp r S H S1 H1 → D.nx s H1) : tIfS t tu tNext D s H :=
  st_if h w (fun e => nomatch e) fun _ S1 H1 w1 s1 => k S1 H1 w1 s1
/-- an empty list of what failed -/
theorem ev_none {wi : TI} {j : Nat} {vs : List Nat} {ys : List β} {X : Rl β} [Mono R] (hi : EvI r wi s S ys X) (hz : ys.length ≤ 100000) (hw : ∀ v, wipe ((wipe s vs).set j (some v)) vs = wipe s vs)
    (ht : ∀ y v S1, Ex S S1 → y ∈ ys → X y v S1 → EvB r tt ((wipe s vs).set j (some v)) S1 false) : EvS r (tLc wi (gName j) tt te vs) s S fun v S1 => LstR R [] v S1 :=
  EvN.lst (X := R) ((en_lct (fun _ => false) (fun y => y) (Yr := fun (_ : β) _ _ => True) hi hz hw ht fun y v S1 _ _ z => nomatch z).imp fun o S1 _ ⟨ws, e, h⟩ => by
    rw [List.filter_eq_nil_iff.mpr (fun a _ z => by cases z)] at h
    cases h
    exact ⟨[], e, .nil⟩)
/-- x = an expression that is run as it stands -/
theorem sq_run {g : TG} (h : te s H fun v H1 => g v s H1 fun s2 H2 => tz D s2 H2) : tSeq (tAsg te g) tz D s H := h
end
end
end J

/-! J11: ranges as lists, dicts, written constants, zip of tuples, while, instances made by keywords. -/
namespace J
open PySem PySem.Spec L2 Evl RZ
section
variable {r : Rs} {s : L2.St} {S S' H : Hp} {ta tb tc te ti : TE} {t u : TT} {tt : TT} {x y z v : V} {K : PySem.W.Frag} {α β γ : Type} {R : Rl α} {R' : Rl β} {tu tw tz : TS} {D : Ends} {w : World}
/-! ### list(range(..)) -/
def rgI (a b : Int) : List Int := (List.range (b - a).toNat).map fun i : Nat => a + (i : Int)
theorem rgI_V (a b : Int) : rgV a b = (rgI a b).map V.int := by
  unfold rgV rgI
  rw [List.map_map]
  rfl
theorem ev_listRg1 {n : Int} (h : EvV r ta s S (.int n)) (hn : -1000000 ≤ n ∧ n ≤ 1000000) : EvS r (tLstRg (tRg1 ta)) s S fun v S1 => LstR IntR (rgI 0 n) v S1 := fun S1 H e w0 Q q =>
  h S1 H e w0 _ fun x S2 H2 w2 s2 ex => ⟨n, ex, by unfold RgOk; omega, fun p hp => q (.ref p) (upd S2 p (.lst (rgV 0 n))) _ (w2.newS hp) (s2.trans (Stp.newS w2 hp)) ⟨p, _, rfl, upd_same, by rw [rgI_V]; exact All2.of_ints _⟩⟩
theorem ev_listRg2 {a b : Int} (h : EvV r ta s S (.int a)) (h2 : EvV r tb s S (.int b)) (hn : -1000000 ≤ a ∧ a ≤ 1000000 ∧ -1000000 ≤ b ∧ b ≤ 1000000) : EvS r (tLstRg (tRg2 ta tb)) s S fun v S1 => LstR IntR (rgI a b) v S1 := fun S1 H e w0 Q q =>
  h S1 H e w0 _ fun x S2 H2 w2 s2 ex => h2 S2 H2 (e.trans s2.ex) w2 _ fun y S3 H3 w3 s3 ey => ⟨a, b, ex, ey, by unfold RgOk; omega, fun p hp => q (.ref p) (upd S3 p (.lst (rgV a b))) _ (w3.newS hp) ((s2.trans s3).trans (Stp.newS w3 hp)) ⟨p, _, rfl, upd_same, by rw [rgI_V]; exact All2.of_ints _⟩⟩
/-! ### dicts -/
theorem vv_dget {a : Addr} {kvs : List (Key × V)} {k : Key} (h : EvV r ta s S (.ref a)) (hi : EvV r ti s S (kV k)) (ha : S a = some (.dK kvs)) (hk : valV kvs k = some v) : EvV r (tDGet ta ti) s S v := fun S1 H e w0 Q q =>
  h S1 H e w0 _ fun x S2 H2 w2 s2 ex => hi S2 H2 (e.trans s2.ex) w2 _ fun y S3 H3 w3 s3 ey => ⟨a, v, ex, .inl ⟨kvs, k, .inl (w3.ex _ _ (s3.ex _ _ (s2.ex _ _ (e _ _ ha)))), ey, hk.symm⟩, q v S3 H3 w3 (s2.trans s3) rfl⟩
/-- a text's value in a written dict -/
theorem rs_kd {a : Addr} {z : Str} (h : KDct K w a z v) : RVS (rIxD K w) (.ref a) (.str z) S v := fun H _ Q q => ⟨a, z, v, rfl, rfl, h, q⟩
theorem ix_kdK {X : Cx} (hK : X.K = K := by rfl) (hw : X.w = w := by rfl) : IxR X (rIxD K w) := by
  subst hK
  subst hw
  exact ix_kdict
/-! ### in a tuple of data -/
def rInDT (K : PySem.W.Frag) : R2 := fun x y H Q => ∃ d ds, Dp K H x d ∧ Dp K H y (.tuple ds) ∧ SeqAt.shaped d = true ∧ SeqAt.shaped (.tuple ds) = true ∧ Q (.bl (ds.any fun z => PyData.eqv z d)) H
theorem op_inDT {X : Cx} (hu : X.A.units + 65 < cLine) : OpR X (compareOp .In) (rInDT X.K) := by
  intro pins s σ H x y v u Q I rx ry h
  obtain ⟨d, ds, hd, he, sd, se, q⟩ := h
  obtain ⟨as, r1⟩ := Dp.reads I d x v hd rx
  obtain ⟨bs, r2⟩ := Dp.reads I (.tuple ds) y u he ry
  exact SeqAt.in_tuple_reads r2 r1 (by simpa [PyData.canLay0] using SeqAt.canLay_of_shaped se) (SeqAt.canLay_of_shaped sd) (PyProof.Rows.room_in_shaped sd hu) ⟨.bl _, H, I, rfl, q⟩
theorem op_inDTK {X : Cx} (hu : X.A.units + 65 < cLine) (hK : X.K = K := by rfl) : OpR X (compareOp .In) (rInDT K) := by
  subst hK
  exact op_inDT hu
theorem op_inDK {X : Cx} (hu : X.A.units + 65 < cLine) (hK : X.K = K := by rfl) : OpR X (compareOp .In) (rInD K) := by
  subst hK
  exact op_inD hu
theorem op_notInDK {X : Cx} (hu : X.A.units + 65 < cLine) (hK : X.K = K := by rfl) : OpR X (compareOp .NotIn) (rNotInD K) := by
  subst hK
  exact op_notInD hu
theorem units65 {k : Nat} {A : Around} (r : Room k A) : A.units + 65 < cLine := by
  have := r.un
  omega
theorem units1 {k : Nat} {A : Around} (r : Room k A) : A.units + 1 < cLine := by
  have := r.un
  omega
theorem rs_inDT {d : PyData} {ds : List PyData} (h1 : Dp K S x d) (h2 : Dp K S y (.tuple ds)) (s1 : SeqAt.shaped d = true) (s2 : SeqAt.shaped (.tuple ds) = true) : RVS (rInDT K) x y S (.bl (ds.any fun z => PyData.eqv z d)) := fun H ex Q q => ⟨d, ds, dp_up ex _ _ h1, dp_up ex _ _ h2, s1, s2, q⟩
theorem rs_inD {d : PyData} {ds : List PyData} (h1 : Dp K S x d) (h2 : Dp K S y (.list ds)) (s1 : SeqAt.shaped d = true) (s2 : SeqAt.shaped (.list ds) = true) : RVS (rInD K) x y S (.bl (ds.any fun z => PyData.eqv z d)) := fun H ex Q q => ⟨d, ds, dp_up ex _ _ h1, dp_up ex _ _ h2, s1, s2, q⟩
/-! ### zip -/
theorem walk_zipT {a b : Addr} {xs ys : List V} {n : Nat} (hn : n = min xs.length ys.length) : Walk (ItzT K a b) n (fun H => SqT K H a xs ∧ SqT K H b ys) (YPair (fun i => xs[i]?) (fun i => ys[i]?)) := by
  subst hn
  refine ⟨fun i _ hi q => ?_, fun _ q => ⟨xs, ys, q.1, q.2, by omega⟩, fun i H v H' _ q y => ?_⟩
  · have h1 : i < xs.length := by omega
    have h2 : i < ys.length := by omega
    exact ⟨xs, ys, xs[i], ys[i], q.1, q.2, by simp [h1], by simp [h2]⟩
  · obtain ⟨T, x, z, h1, h2, h3, h4, h5⟩ := y
    exact ⟨T, x, z, h1, h2, h3, h4 xs q.1, h5 ys q.2⟩
theorem pi_zipAK {X : Cx} {e e2 : Expr} {ta : TA} {p pos tpos : Pos} {elts : List Expr} {kk : Nat} (hg : Gl X "zip") (hm : X.mg "zip" = none) (ha : PA X [e, e2] ta) (hs : starEach [e, e2] X.env = (false, eval e X.env) :: starEach [e2] X.env := by rfl) (hpl : (backTo pos (starEach [e2] X.env)).any (·.1) = false := by rfl) (hK : X.K = K := by rfl) : PI X (.Tuple elts kk tpos) (.Call (.Name "zip" p) [e, e2] [] pos) (iZipA K ta) := by
  subst hK
  exact pi_zipA hg hm ha hs hpl
theorem ei_zipT {ta : TA} {ys : List α} {zs : List β} {X : Rl α} {X' : Rl β} [Mono X] [Mono X'] (h : EvAS r ta s S fun us S1 => ∃ a b vs ws, us = [.ref a, .ref b] ∧ SqT K S1 a vs ∧ SqT K S1 b ws ∧ All2 X S1 ys vs ∧ All2 X' S1 zs ws) : EvI r (iZipA K ta) s S (ys.zip zs) (PairR K X X') := fun S1 H a w R q =>
  h S1 H a w _ fun us S2 H2 w2 s2 ⟨b, c, vs, ws, e1, e2, e2', e3, e3'⟩ => ⟨b, c, vs, ws, e1, .inr ⟨ex_t w2.ex e2, ex_t w2.ex e2', q (ItzT K b c) S2 H2 (fun H => SqT K H b vs ∧ SqT K H c ws) (YPair (fun i => vs[i]?) (fun i => ws[i]?)) w2 s2 (walk_zipT (K := K) (a := b) (b := c) (xs := vs) (ys := ws) (by
      rw [List.length_zip, e3.len, e3'.len])) (fun S' H' e w' => ⟨ex_t w'.ex (ex_t e e2), ex_t w'.ex (ex_t e e2')⟩) fun i S' H' v H'' hi e w' ⟨T, x, y, e4, e5, e6, e7, e8⟩ => by
      obtain ⟨y', h1, h2⟩ := (e3.up e).get e7
      obtain ⟨z', h1', h2'⟩ := (e3'.up e).get e8
      subst e6
      exact ⟨_, _, zip_get h1 h1', w'.newS e5, Stp.newS w' e5, T, _, _, e4, SqT.of upd_same, Mono.up (Ex.new (w'.fresh e5)) h2, Mono.up (Ex.new (w'.fresh e5)) h2'⟩⟩⟩
theorem ei_zipL {ta : TA} {ys : List α} {zs : List β} {X : Rl α} {X' : Rl β} [Mono X] [Mono X'] (h : EvAS r ta s S fun us S1 => ∃ a b vs ws, us = [.ref a, .ref b] ∧ SqL K S1 a vs ∧ SqL K S1 b ws ∧ All2 X S1 ys vs ∧ All2 X' S1 zs ws) : EvI r (iZipA K ta) s S (ys.zip zs) (PairR K X X') := fun S1 H a w R q =>
  h S1 H a w _ fun us S2 H2 w2 s2 ⟨b, c, vs, ws, e1, e2, e2', e3, e3'⟩ => ⟨b, c, vs, ws, e1, .inl ⟨ex_l w2.ex e2, ex_l w2.ex e2', q (Itz K b c) S2 H2 (fun H => SqL K H b vs ∧ SqL K H c ws) (YPair (fun i => vs[i]?) (fun i => ws[i]?)) w2 s2 (walk_zip (K := K) (a := b) (b := c) (xs := vs) (ys := ws) (by
      rw [List.length_zip, e3.len, e3'.len])) (fun S' H' e w' => ⟨ex_l w'.ex (ex_l e e2), ex_l w'.ex (ex_l e e2')⟩) fun i S' H' v H'' hi e w' ⟨T, x, y, e4, e5, e6, e7, e8⟩ => by
      obtain ⟨y', h1, h2⟩ := (e3.up e).get e7
      obtain ⟨z', h1', h2'⟩ := (e3'.up e).get e8
      subst e6
      exact ⟨_, _, zip_get h1 h1', w'.newS e5, Stp.newS w' e5, T, _, _, e4, SqT.of upd_same, Mono.up (Ex.new (w'.fresh e5)) h2, Mono.up (Ex.new (w'.fresh e5)) h2'⟩⟩⟩
/-! ### while -/
/-- P a measure, a state -/
theorem st_while {t : TT} (P : Nat → L2.St → Hp → Hp → Prop) {m0 : Nat} (h0 : P m0 s S H)
    (hs : ∀ m s' S' H', P m s' S' H' → t s' H' fun b H1 => if b = true then ∃ N : L2.St → Hp → Prop, (∀ s2 H2, N s2 H2 → ∃ m2, m2 < m ∧ ∃ S2, P m2 s2 S2 H2) ∧ tu { D with nx := N, ct := N, bk := D.nx } s' H1 else D.nx s' H1) : tWhile t tu D s H :=
  ⟨fun m s' H' => ∃ S', P m s' S' H', ⟨m0, S, h0⟩, fun m s' H' ⟨S', p⟩ => hs m s' S' H' p⟩
theorem sq_while {t : TT} (P : Nat → L2.St → Hp → Hp → Prop) {m0 : Nat} (h0 : P m0 s S H)
    (hs : ∀ m s' S' H', P m s' S' H' → t s' H' fun b H1 => if b = true then ∃ N : L2.St → Hp → Prop, (∀ s2 H2, N s2 H2 → ∃ m2, m2 < m ∧ ∃ S2, P m2 s2 S2 H2) ∧ tu { D with nx := N, ct := N, bk := tz D } s' H1 else tz D s' H1) : tSeq (tWhile t tu) tz D s H := st_while (D := { D with nx := tz D }) P h0 hs
theorem wh_go {m : Nat} {P : Nat → L2.St → Hp → Hp → Prop} {X : Prop} (h : tu { D with nx := fun s2 H2 => ∃ m2 S2, m2 < m ∧ P m2 s2 S2 H2, ct := fun s2 H2 => ∃ m2 S2, m2 < m ∧ P m2 s2 S2 H2, bk := D.nx } s H) : if true = true then ∃ N : L2.St → Hp → Prop, (∀ s2 H2, N s2 H2 → ∃ m2, m2 < m ∧ ∃ S2, P m2 s2 S2 H2) ∧ tu { D with nx := N, ct := N, bk := D.nx } s H else X := ⟨_, fun s2 H2 ⟨m2, S2, hm, p⟩ => ⟨m2, hm, S2, p⟩, h⟩
/-! ### instances made by keywords -/
theorem make_tail {A : Type} {C : Addr} {pre : A → List V → Hp → Prop} {fr : A → List (Str × V) → Hp → Prop} {E : XK} {R : HO → Hp → Prop} {a : A} {us : List V} {S1 S2 H2 : Hp} {Q : VK} {x dx : Addr} (w2 : Wd r S2 H2) (s2 : Stp r S1 H S2 H2) (hx : H2 x = none) (hdx : H2 dx = none) (ne : dx ≠ x) (p1 : pre a us S2)
    (p2 : ∀ dx fs S3, Ex S2 S3 → fr a fs S3 → R (.ins C dx fs) S3) (q : ∀ p o S2 H2, H p = none → H2 p = some o → S2 p = none → Wd r S2 H2 → Stp r S1 H S2 H2 → R o S2 → Q (.ref p) H2) :
    SpInit C pre fr (.ref x :: us) (upd (upd H2 dx (.own x)) x (.ins C dx [])) (fun v H3 => v = .non ∧ Q (.ref x) H3) E := by
  have hx1 : (upd H2 dx (.own x)) x = none := by
    rw [upd_ne ne.symm]
    exact hx
  have w3 : Wd r S2 (upd (upd H2 dx (.own x)) x (.ins C dx [])) := (w2.new hdx).new hx1
  have s3 : Stp r S2 H2 S2 (upd (upd H2 dx (.own x)) x (.ins C dx [])) := (Stp.new hdx).trans (Stp.new hx1)
  have h0 : H x = none := pre_none s2 hx
  have hM : x ∉ r.M := w2.notM hx
  refine ⟨a, S2, x, dx, _, rfl, p1, upd_same, w2.fresh hx, ⟨w3.ex, True.intro, fun b hb => by cases hb⟩, fun S4 H4 fs w4 s4 n4 g4 f4 => ⟨rfl, ?_⟩⟩
  have kp : ∀ b o, b ≠ x → (upd (upd H2 dx (.own x)) x (.ins C dx [])) b = some o → H4 b = some o := fun b o nb eb => s4.kp b o (fun z => (List.mem_append.mp z).elim (fun z => nb (List.mem_singleton.mp z)) (fun z => by cases z)) eb
  refine q x _ S4 H4 h0 g4 n4 ⟨w4.ex, r.mono _ _ (fun b o hb eb => kp b o (fun z => hM (z ▸ hb)) eb) (fun b q eb => kp b _ (fun z => nco_ins upd_same q (z ▸ eb)) eb) w3.inv, fun b hb => s4.fr b (r.has _ w3.inv b hb) (w3.dj b hb)⟩ ?_ (p2 dx fs S4 s4.ex f4)
  refine ⟨s2.ex.trans (s3.ex.trans s4.ex), fun b o nb eb => ?_, fun b hb hs => s4.fr b (s3.dm b (s2.dm b hb)) (s3.fr b (s2.dm b hb) (s2.fr b hb hs)), fun b hb => s4.dm b (s3.dm b (s2.dm b hb))⟩
  exact kp b o (ne_of_none eb h0) (s3.kp b o nb (s2.kp b o nb eb))
/-- C(k = v, ..), keywords only -/
theorem en_makeK0 {A : Type} {C : Addr} {pre : A → List V → Hp → Prop} {fr : A → List (Str × V) → Hp → Prop} {E : XK} {m : Nat} {gV : List V → List V → List V} {tk : TA} {P : List V → Hp → Prop} {R : HO → Hp → Prop} (h : EvAS r tk s S P)
    (hp : ∀ zs S1, Ex S S1 → P zs S1 → zs.length = m ∧ ∃ a us, (∀ x, gV [.ref x] zs = .ref x :: us) ∧ pre a us S1 ∧ ∀ dx fs S2, Ex S1 S2 → fr a fs S2 → R (.ins C dx fs) S2) :
    EvN r (tMakeK C 0 m (SpInit C pre fr) gV E tNil tk) s S R := fun S1 H e w0 Q q =>
  h S1 H e w0 _ fun zs S2 H2 w2 s2 hz => by
    obtain ⟨l2, a, us, hg, p1, p2⟩ := hp zs S2 (e.trans s2.ex) hz
    refine ⟨rfl, l2, fun x dx hx hd ne => ?_⟩
    rw [hg x]
    exact make_tail w2 s2 hx hd ne p1 p2 q
/-! ### a new dict by a display -/
theorem tp_nil {Q : List (V × V) → Hp → Prop} (h : Q [] H) : tPairs [] s H Q := h
theorem en_disp {trs : List (TE × TE)} {Q : VK} (w0 : Wd r S H) {kvs : List (Key × V)} (hl : kvs.length ≤ 15) (hk : mergeK [] kvs = kvs)
    (h : ∀ p, H p = none → S p = none → ∀ Q2 : List (V × V) → Hp → Prop, (∀ S2 H2, Wd r S2 H2 → Stp r S (upd H p (.dK [])) S2 H2 → Q2 (kvs.map fun kv => (kV kv.1, kv.2)) H2) → tPairs trs s (upd H p (.dK [])) Q2)
    (q : ∀ p S2 H2, H p = none → S2 p = none → H2 p = some (.dK kvs) → Wd r S2 H2 → Stp r S H S2 H2 → Q (.ref p) H2) : tDisp trs s H Q := fun p hp =>
  h p hp (w0.fresh hp) _ fun S2 H2 w2 s2 => by
    have np : p ∉ r.M := w0.notM hp
    have h2 : H2 p = some (.dK []) := s2.kp p _ np upd_same
    have n2 : S2 p = none := s2.fr p (ne_none upd_same) (w0.fresh hp)
    refine ⟨h2, kvs, rfl, hl, ?_⟩
    rw [hk]
    exact q p S2 _ hp n2 upd_same (w2.mut n2 np) (((Stp.new hp).trans s2).mut hp)
end
end J

/-! J12: pairs of a display of a dict, tuple(..) of both kinds, methods and properties that change nothing, targets of two and three names. -/
namespace J
open PySem PySem.Spec L2 Evl RZ
section
variable {r : Rs} {s : L2.St} {S S' H : Hp} {ta tb tc te ti : TE} {t u : TT} {tt : TT} {x y z v : V} {K : PySem.W.Frag} {α β γ : Type} {R : Rl α} {R' : Rl β} {R'' : Rl γ} {tu tw tz : TS} {D : Ends} {w : World}
theorem All2.of_strs {S : Hp} : ∀ (xs : List Str), All2 StrR S xs (xs.map V.str)
  | [] => .nil
  | x :: r => .cons rfl (All2.of_strs r)
def EvP (r : Rs) (trs : List (TE × TE)) (s : L2.St) (S : Hp) (P : List (V × V) → Hp → Prop) : Prop := ∀ S1 H, Ex S S1 → Wd r S1 H → ∀ Q : List (V × V) → Hp → Prop, (∀ ps S2 H2, Wd r S2 H2 → Stp r S1 H S2 H2 → P ps S2 → Q ps H2) → tPairs trs s H Q
theorem ep_nil : EvP r [] s S fun ps _ => ps = [] := fun S1 H e w Q q => q [] S1 H w Stp.refl rfl
theorem ep_cons {tk tv : TE} {trs : List (TE × TE)} {A : V → Hp → Prop} {P : List (V × V) → Hp → Prop} (hk : EvV r tk s S x) (hv : EvS r tv s S A) (hr : ∀ v S1, Ex S S1 → A v S1 → EvP r trs s S1 fun ps S2 => P ((x, v) :: ps) S2) : EvP r ((tk, tv) :: trs) s S P := fun S1 H e w Q q =>
  hk S1 H e w _ fun x' S2 H2 w2 s2 ex => hv S2 H2 (e.trans s2.ex) w2 _ fun v S3 H3 w3 s3 hv' => hr v S3 (e.trans (s2.ex.trans s3.ex)) hv' S3 H3 (Ex.refl _) w3 _ fun ps S4 H4 w4 s4 p => by
    subst ex
    exact q _ S4 H4 w4 (s2.trans (s3.trans s4)) p
theorem en_dispP {trs : List (TE × TE)} {R : HO → Hp → Prop} (h : EvP r trs s S fun ps S1 => ∃ kvs : List (Key × V), ps = kvs.map (fun kv => (kV kv.1, kv.2)) ∧ kvs.length ≤ 15 ∧ mergeK [] kvs = kvs ∧ R (.dK kvs) S1) : EvN r (tDisp trs) s S R := fun S1 H e w Q q p hp =>
  h S1 (upd H p (.dK [])) e (w.new hp) _ fun ps S2 H2 w2 s2 ⟨kvs, e1, e2, e3, e4⟩ => by
    have np : p ∉ r.M := w.notM hp
    have h2 : H2 p = some (.dK []) := s2.kp p _ np upd_same
    have n2 : S2 p = none := s2.fr p (ne_none upd_same) (w.fresh hp)
    refine ⟨h2, kvs, e1, e2, ?_⟩
    rw [e3]
    exact q p _ S2 _ hp upd_same n2 (w2.mut n2 np) (((Stp.new hp).trans s2).mut hp) e4
/-- tuple(a list or a tuple) -/
theorem ev_tupS [Mono R] {ys : List α} (h : EvS r te s S fun v S1 => SeqR K R ys v S1) : EvS r (tCB (rTupleU K) (tCons te tNil)) s S fun v S1 => TupR K R ys v S1 := fun S1 H e w Q q =>
  h S1 H e w _ fun v S2 H2 w2 s2 hv => ⟨v, rfl, by
    rcases hv with ⟨a, vs, e1, e2, e3⟩ | ⟨a, vs, e1, e2, e3⟩
    · exact .inl ⟨a, vs, e1, SqL.of (w2.ex _ _ e2), fun p hp => q (.ref p) (upd S2 p (.tup vs)) _ (w2.newS hp) (s2.trans (Stp.newS w2 hp)) ⟨p, vs, rfl, SqT.of upd_same, e3.up (Ex.new (w2.fresh hp))⟩⟩
    · subst e1
      exact .inr ⟨a, vs, rfl, ex_t w2.ex e2, q (.ref a) S2 H2 w2 s2 ⟨a, vs, rfl, e2, e3⟩⟩⟩
/-- o.p, o.m(..) where nothing is changed -/
theorem ev_propP {A : Type} {C : Addr} {pre : A → List V → Hp → Prop} {post : A → V → Hp → Prop} {E : XK} {Q1 : V → Hp → Prop} {R : V → Hp → Prop} (h : EvS r ta s S Q1) (hp : ∀ x S1, Ex S S1 → Q1 x S1 → ∃ a dx fs, x = .ref a ∧ S1 a = some (.ins C dx fs) ∧ ∃ b, pre b [x] S1 ∧ ∀ v S2, Ex S1 S2 → post b v S2 → R v S2) : EvS r (tProp C (SpP pre post) [] E ta) s S R := fun S1 H e w Q q =>
  h S1 H e w _ fun x S2 H2 w2 s2 hx => by
    obtain ⟨a, dx, fs, e1, e2, b, p1, p2⟩ := hp x S2 (e.trans s2.ex) hx
    subst e1
    exact ⟨a, dx, fs, rfl, w2.ex _ _ e2, b, S2, p1, w2.ex, fun v S3 H3 w3 s3 p3 => q v S3 H3 (w2.lift w3 s3) (s2.trans s3.lift) (p2 v S3 s3.ex p3)⟩
theorem ev_methP {A : Type} {C : Addr} {mn : Str} {pre : A → List V → Hp → Prop} {post : A → V → Hp → Prop} {E : XK} {ts : TA} {Q1 : V → Hp → Prop} {R : V → Hp → Prop} {vs : List V} (h : EvS r ta s S Q1) (h2 : EvAV r ts s S vs)
    (hp : ∀ x S1 S2, Ex S S1 → Q1 x S1 → Ex S1 S2 → ∃ a dx fs, x = .ref a ∧ S1 a = some (.ins C dx fs) ∧ fs.lookup mn = none ∧ ∃ b, pre b (x :: vs) S2 ∧ ∀ v S3, Ex S2 S3 → post b v S3 → R v S3) : EvS r (tMeth C mn (SpP pre post) [] E ta ts) s S R := fun S1 H e w Q q =>
  h S1 H e w _ fun x S2 H2 w2 s2 hx => by
    obtain ⟨a, dx, fs, e1, e2, e3, _⟩ := hp x S2 S2 (e.trans s2.ex) hx (Ex.refl _)
    subst e1
    refine ⟨a, dx, fs, rfl, w2.ex _ _ e2, e3, h2 S2 H2 (e.trans s2.ex) w2 _ fun us S3 H3 w3 s3 eu => ?_⟩
    obtain ⟨a', dx', fs', e1', e2', e3', b, p1, p2⟩ := hp (.ref a) S2 S3 (e.trans s2.ex) hx s3.ex
    subst eu
    exact ⟨b, S3, by rw [List.append_nil]; exact p1, w3.ex, fun v S4 H4 w4 s4 p4 => q v S4 H4 (w3.lift w4 s4) ((s2.trans s3).trans s4.lift) (p2 v S4 s4.ex p4)⟩
/-! ### targets -/
theorem g_two {i j n : Nat} {p : α × β} {Q : L2.St → Hp → Prop} (hn : n = 2) (h : PairR K R R' p v S) (w0 : Wd r S H) (k : ∀ x y, R p.1 x S → R' p.2 y S → Q ((s.set i (some x)).set j (some y)) H) : gTup K n (gCons (gName i) (gCons (gName j) gNil)) v s H Q := by
  obtain ⟨T, x, y, e, hT, h1, h2⟩ := h
  exact ⟨T, _, e, ex_t w0.ex hT, hn.symm, _, _, rfl, _, _, rfl, rfl, k x y h1 h2⟩
theorem g_three {i j l n : Nat} {p : α × β × γ} {Q : L2.St → Hp → Prop} (hn : n = 3) (h : TripR K R R' R'' p v S) (w0 : Wd r S H) (k : ∀ x y z, R p.1 x S → R' p.2.1 y S → R'' p.2.2 z S → Q (((s.set i (some x)).set j (some y)).set l (some z)) H) : gTup K n (gCons (gName i) (gCons (gName j) (gCons (gName l) gNil))) v s H Q := by
  obtain ⟨T, x, y, z, e, hT, h1, h2, h3⟩ := h
  exact ⟨T, _, e, ex_t w0.ex hT, hn.symm, _, _, rfl, _, _, rfl, _, _, rfl, rfl, k x y z h1 h2 h3⟩
/-! ### arguments -/
theorem ea_two {A B : V → Hp → Prop} (h : EvS r ta s S A) (h2 : ∀ S1, Ex S S1 → EvS r tb s S1 B) (m : ∀ v S1 S2, Ex S1 S2 → A v S1 → A v S2) : EvAS r (tCons ta (tCons tb tNil)) s S fun us S1 => ∃ x y, us = [x, y] ∧ A x S1 ∧ B y S1 := fun S1 H e w Q q =>
  h S1 H e w _ fun x S2 H2 w2 s2 hx => h2 S2 (e.trans s2.ex) S2 H2 (Ex.refl _) w2 _ fun y S3 H3 w3 s3 hy => q _ S3 H3 w3 (s2.trans s3) ⟨x, y, rfl, m _ _ _ s3.ex hx, hy⟩
theorem All2.vals {S : Hp} : ∀ (vs : List V), All2 ValR S vs vs
  | [] => .nil
  | _ :: r => .cons rfl (All2.vals r)
theorem ev_tupV {ta : TA} {vs : List V} (h : EvAV r ta s S vs) (hl : vs.length ≤ 100000) : EvS r (tTup ta) s S fun v S1 => TupR K ValR vs v S1 :=
  EvN.tup (X := ValR) ((en_tup h (fun us _ e => by rw [e]; exact hl)).imp fun o S1 _ ⟨us, e1, e2⟩ => ⟨us, e1, by rw [e2]; exact All2.vals _⟩)
theorem ev_lstV {ta : TA} {vs : List V} (h : EvAV r ta s S vs) (hl : vs.length ≤ 100000) : EvS r (tLst ta) s S fun v S1 => LstR ValR vs v S1 :=
  EvN.lst (X := ValR) ((en_lst h (fun us _ e => by rw [e]; exact hl)).imp fun o S1 _ ⟨us, e1, e2⟩ => ⟨us, e1, by rw [e2]; exact All2.vals _⟩)
theorem ei_zipTT [Mono R] [Mono R'] {ys : List α} {zs : List β} (h : EvS r ta s S fun v S1 => TupR K R ys v S1) (h2 : ∀ S1, Ex S S1 → EvS r tb s S1 fun v S2 => TupR K R' zs v S2) : EvI r (iZipA K (tCons ta (tCons tb tNil))) s S (ys.zip zs) (PairR K R R') :=
  ei_zipT ((ea_two h h2 fun v S1 S2 e p => Mono.up e p).imp' fun us S1 _ ⟨x, y, e, ⟨a, vs, e1, e2, e3⟩, ⟨b, ws, e4, e5, e6⟩⟩ => ⟨a, b, vs, ws, by rw [e, e1, e4], e2, e5, e3, e6⟩)
theorem ei_zipLL [Mono R] [Mono R'] {ys : List α} {zs : List β} (h : EvS r ta s S fun v S1 => LstR R ys v S1) (h2 : ∀ S1, Ex S S1 → EvS r tb s S1 fun v S2 => LstR R' zs v S2) : EvI r (iZipA K (tCons ta (tCons tb tNil))) s S (ys.zip zs) (PairR K R R') :=
  ei_zipL ((ea_two h h2 fun v S1 S2 e p => Mono.up e p).imp' fun us S1 _ ⟨x, y, e, ⟨a, vs, e1, e2, e3⟩, ⟨b, ws, e4, e5, e6⟩⟩ => ⟨a, b, vs, ws, by rw [e, e1, e4], SqL.of e2, SqL.of e5, e3, e6⟩)
/-- a written tuple of texts -/
theorem ev_kTup {a : Addr} {zs : List Str} (h : ∀ H : Hp, SqT K H a (zs.map V.str)) : EvS r (tC (.ref a)) s S fun v S1 => TupR K StrR zs v S1 := vv_c.imp fun v S1 _ e => ⟨a, _, e, h S1, All2.of_strs zs⟩
end
end J

/-! J13: sequences of both kinds; tuples cut and joined. -/
namespace J
open PySem PySem.Spec L2 Evl RZ
section
variable {r : Rs} {s : L2.St} {S S' H : Hp} {ta tb tc te ti : TE} {t u : TT} {tt : TT} {x y z v : V} {K : PySem.W.Frag} {α β γ : Type} {R : Rl α} {R' : Rl β} {R'' : Rl γ} {tu tw tz : TS} {D : Ends} {w : World}
theorem nt {b : Bool} (h : (!b) = true) : b = false := by
  cases b
  · rfl
  · cases h
theorem nf {b : Bool} (h : (!b) = false) : b = true := by
  cases b
  · cases h
  · rfl
/-- what a name holds is walked, a list or a tuple -/
theorem ei_seqV [Mono R] {i : Nat} {ys : List α} (h : s[i]? = some (some v)) (p : SeqR K R ys v S) : EvI r (iU K (tVar i)) s S ys R := by
  rcases p with p | p
  · exact ei_list (ev_v (R := LstR R) h p)
  · exact ei_tup (ev_v (R := TupR K R) h p)
theorem len_v [Mono R] {i : Nat} {ys : List α} (h : s[i]? = some (some v)) (p : SeqR K R ys v S) : EvV r (tCB (rLenU K) (tCons (tVar i) tNil)) s S (.int (ys.length : Int)) := vv_len (X := R) (ev_v (R := SeqR K R) h p)
theorem ev_sliceT [Mono R] {xs : List α} {tl th : TO} {lo hi : Option Int} (h : EvS r te s S fun v S1 => TupR K R xs v S1) (hl : ∀ H Q, Q lo H → tl s H Q) (hh : ∀ H Q, Q hi H → th s H Q) : EvS r (tSl (rSlU K) te tl th) s S fun v S1 => TupR K R (cutD xs lo hi) v S1 := fun S1 H e w Q q =>
  h S1 H e w _ fun x S2 H2 w2 s2 ⟨a, vs, h1, h2, h3⟩ => hl _ _ (hh _ _ (.inl (.inr ⟨a, vs, h1, ex_t w2.ex h2, fun hw => by
    have e : cutD xs lo hi = xs := by
      unfold cutD
      rw [← h3.len, hw.1, hw.2, h3.len, List.drop_zero, Nat.sub_zero, List.take_of_length_le (Nat.le_refl _)]
    refine q (.ref a) S2 H2 w2 s2 ?_
    show TupR K R (cutD xs lo hi) _ _
    rw [e]
    exact ⟨a, vs, rfl, h2, h3⟩, fun _ p hp => q (.ref p) (upd S2 p (.tup (cutV vs lo hi))) _ (w2.newS hp) (s2.trans (Stp.newS w2 hp)) ⟨p, _, rfl, SqT.of upd_same, (h3.cut lo hi).up (Ex.new (w2.fresh hp))⟩⟩)))
/-- zip(a name, a slice of it), lists or tuples -/
theorem ei_zipSelf [Mono R] {i : Nat} {ys : List α} {tl th : TO} {lo hi : Option Int} (h : s[i]? = some (some v)) (p : SeqR K R ys v S) (hl : ∀ H Q, Q lo H → tl s H Q) (hh : ∀ H Q, Q hi H → th s H Q) : EvI r (iZipA K (tCons (tVar i) (tCons (tSl (rSlU K) (tVar i) tl th) tNil))) s S (ys.zip (cutD ys lo hi)) (PairR K R R) := by
  rcases p with p | p
  · exact ei_zipLL (ev_v (R := LstR R) h p) fun S1 e => ev_slice (ev_v (R := LstR R) h (Mono.up e p)) hl hh
  · exact ei_zipTT (ev_v (R := TupR K R) h p) fun S1 e => ev_sliceT (ev_v (R := TupR K R) h (Mono.up e p)) hl hh
theorem tyx_tup {p : Addr} {xs : List V} (h : SqT K S p xs) : TyX K S (.ref p) (.type "tuple") := by
  rcases h with (h2 | ⟨o, h2⟩) | ⟨o, its, n, h1, h2, _⟩
  · exact .base (.tup h2)
  · exact .fTuple h2
  · exact .kTuple h1 h2
/-- a comprehension kept by a test, then its length -/
theorem vv_lenF [Mono R] {wi : TI} {j : Nat} {vs : List Nat} {ys : List α} (f : α → Bool) (hi : EvI r wi s S ys R) (hz : ys.length ≤ 100000) (hw : ∀ v, wipe ((wipe s vs).set j (some v)) vs = wipe s vs) (hj : ∀ v, ((wipe s vs).set j (some v))[j]? = some (some v))
    (ht : ∀ y v S1, Ex S S1 → y ∈ ys → R y v S1 → EvB r tt ((wipe s vs).set j (some v)) S1 (f y)) : EvV r (tCB (rLenU K) (tCons (tLc wi (gName j) tt (tVar j) vs) tNil)) s S (.int ((ys.filter f).length : Int)) := by
  have h := EvN.lst (X := R) (en_lct f (fun y => y) hi hz hw ht fun y v S1 e m _ hy => ev_v (R := R) (hj v) hy)
  rw [List.map_id'] at h
  exact vv_len (X := R) (h.imp fun v S1 _ p => .inl p)
theorem vv_allF [Mono R] {wi : TI} {j : Nat} {vs : List Nat} {ys : List α} (f : α → Bool) (hi : EvI r wi s S ys R) (hz : ys.length ≤ 100000) (hw : ∀ v, wipe ((wipe s vs).set j (some v)) vs = wipe s vs)
    (ht : ∀ y v S1, Ex S S1 → y ∈ ys → R y v S1 → EvV r te ((wipe s vs).set j (some v)) S1 (.bl (f y))) : EvV r (tCB (rAll K) (tCons (tLc wi (gName j) tYes te vs) tNil)) s S (.bl (ys.all f)) :=
  (vv_all (bs := ys.map f) (EvN.lst (X := BoolR) (en_lcn f hi hz hw ht))).is (by rw [List.all_map]; rfl)
theorem vv_anyF [Mono R] {wi : TI} {j : Nat} {vs : List Nat} {ys : List α} (f : α → Bool) (hi : EvI r wi s S ys R) (hz : ys.length ≤ 100000) (hw : ∀ v, wipe ((wipe s vs).set j (some v)) vs = wipe s vs)
    (ht : ∀ y v S1, Ex S S1 → y ∈ ys → R y v S1 → EvV r te ((wipe s vs).set j (some v)) S1 (.bl (f y))) : EvV r (tCB (rAny K) (tCons (tLc wi (gName j) tYes te vs) tNil)) s S (.bl (ys.any f)) :=
  (vv_any (bs := ys.map f) (EvN.lst (X := BoolR) (en_lcn f hi hz hw ht))).is (by rw [List.any_map]; rfl)
/-- all([e for x, y in ..]) -/
theorem vv_allF2 [Mono R] [Mono R'] {wi : TI} {j1 j2 : Nat} {vs : List Nat} {ys : List (α × β)} (f : α × β → Bool) (hi : EvI r wi s S ys (PairR K R R')) (hz : ys.length ≤ 100000) (hw : ∀ v v', wipe (((wipe s vs).set j1 (some v)).set j2 (some v')) vs = wipe s vs)
    (ht : ∀ y v v' S1, Ex S S1 → y ∈ ys → R y.1 v S1 → R' y.2 v' S1 → EvV r te (((wipe s vs).set j1 (some v)).set j2 (some v')) S1 (.bl (f y))) : EvV r (tCB (rAll K) (tCons (tLc wi (gTup K 2 (gCons (gName j1) (gCons (gName j2) gNil))) tYes te vs) tNil)) s S (.bl (ys.all f)) := by
  have h := EvN.lst (X := BoolR) (en_lc2 (tt := tYes) (fun _ => true) f hi hz hw (fun y v v' S1 _ _ _ _ S2 H _ w2 Q q => q true S2 H w2 Stp.refl rfl) fun y v v' S1 e m _ h1 h2 => ht y v v' S1 e m h1 h2)
  rw [List.filter_eq_self.mpr (fun _ _ => rfl)] at h
  exact (vv_all (bs := ys.map f) h).is (by rw [List.all_map]; rfl)
theorem vv_anyF2 [Mono R] [Mono R'] {wi : TI} {j1 j2 : Nat} {vs : List Nat} {ys : List (α × β)} (f : α × β → Bool) (hi : EvI r wi s S ys (PairR K R R')) (hz : ys.length ≤ 100000) (hw : ∀ v v', wipe (((wipe s vs).set j1 (some v)).set j2 (some v')) vs = wipe s vs)
    (ht : ∀ y v v' S1, Ex S S1 → y ∈ ys → R y.1 v S1 → R' y.2 v' S1 → EvV r te (((wipe s vs).set j1 (some v)).set j2 (some v')) S1 (.bl (f y))) : EvV r (tCB (rAny K) (tCons (tLc wi (gTup K 2 (gCons (gName j1) (gCons (gName j2) gNil))) tYes te vs) tNil)) s S (.bl (ys.any f)) := by
  have h := EvN.lst (X := BoolR) (en_lc2 (tt := tYes) (fun _ => true) f hi hz hw (fun y v v' S1 _ _ _ _ S2 H _ w2 Q q => q true S2 H w2 Stp.refl rfl) fun y v v' S1 e m _ h1 h2 => ht y v v' S1 e m h1 h2)
  rw [List.filter_eq_self.mpr (fun _ _ => rfl)] at h
  exact (vv_any (bs := ys.map f) h).is (by rw [List.any_map]; rfl)
/-- a, b, c = e -/
theorem sq_three [Mono R] [Mono R'] [Mono R''] {i j l n : Nat} {p : α × β × γ} (hn : n = 3) (h : EvS r te s S fun v S1 => TripR K R R' R'' p v S1) (w0 : Wd r S H) (k : ∀ x y z S1 H1, Wd r S1 H1 → Stp r S H S1 H1 → R p.1 x S1 → R' p.2.1 y S1 → R'' p.2.2 z S1 → tz D (((s.set i (some x)).set j (some y)).set l (some z)) H1) : tSeq (tAsg te (gTup K n (gCons (gName i) (gCons (gName j) (gCons (gName l) gNil))))) tz D s H :=
  h S H (Ex.refl _) w0 _ fun v S1 H1 w1 s1 hv => g_three hn hv w1 fun x y z h1 h2 h3 => k x y z S1 H1 w1 s1 h1 h2 h3
theorem sq_two [Mono R] [Mono R'] {i j n : Nat} {p : α × β} (hn : n = 2) (h : EvS r te s S fun v S1 => PairR K R R' p v S1) (w0 : Wd r S H) (k : ∀ x y S1 H1, Wd r S1 H1 → Stp r S H S1 H1 → R p.1 x S1 → R' p.2 y S1 → tz D ((s.set i (some x)).set j (some y)) H1) : tSeq (tAsg te (gTup K n (gCons (gName i) (gCons (gName j) gNil)))) tz D s H :=
  h S H (Ex.refl _) w0 _ fun v S1 H1 w1 s1 hv => g_two hn hv w1 fun x y h1 h2 => k x y S1 H1 w1 s1 h1 h2
theorem sq_ifB {l : Addr} {o : HO} {b : Bool} (h : EvB r t s (upd S l o) b) (w : Wd r S H) (hl : H l = some o) (n : l ∉ r.M) (sl : S l = none) (h1 : b = true → ∀ S1 H1, Wd r S1 H1 → Stp r S H S1 H1 → S1 l = none → tu { D with nx := tz D } s H1) (h2 : b = false → ∀ S1 H1, Wd r S1 H1 → Stp r S H S1 H1 → S1 l = none → tw { D with nx := tz D } s H1) : tSeq (tIfS t tu tw) tz D s H := st_ifB (D := { D with nx := tz D }) h w hl n sl h1 h2
theorem sq_ifNoB {l : Addr} {o : HO} (h : EvB r t s (upd S l o) false) (w : Wd r S H) (hl : H l = some o) (n : l ∉ r.M) (sl : S l = none) (k : ∀ S1 H1, Wd r S1 H1 → Stp r S H S1 H1 → S1 l = none → tz D s H1) : tSeq (tIfS t tu tNext) tz D s H :=
  sq_ifB h w hl n sl (fun z => nomatch z) fun _ S1 H1 w1 s1 n1 => k S1 H1 w1 s1 n1
end
end J

/-! J14: objects made while another one is read; appended to it. -/
namespace J
open PySem PySem.Spec L2 Evl RZ
section
variable {r : Rs} {s : L2.St} {S S' H : Hp} {ta tb tc te ti : TE} {t u : TT} {tt : TT} {x y z v : V} {K : PySem.W.Frag} {α β γ : Type} {R : Rl α} {R' : Rl β} {R'' : Rl γ} {tu tw tz : TS} {D : Ends} {w : World} {l : Addr} {o c : HO}
theorem borrowN (h : EvN r te s (upd S l o) fun ob _ => ob = c) (w : Wd r S H) (hl : H l = some o) (n : l ∉ r.M) (sl : S l = none) {Q : VK} (q : ∀ p S1 H1, H p = none → H1 p = some c → S1 p = none → Wd r S1 H1 → Stp r S H S1 H1 → S1 l = none → Q (.ref p) H1) : te s H Q :=
  h _ H (Ex.refl _) (w.settle hl n) Q fun p ob S1 H1 h0 h1 h2 w1 s1 e => by
    subst e
    refine q p (del l S1) H1 h0 h1 ?_ w1.del (s1.del sl) del_same
    unfold del
    split
    · rfl
    · exact h2
/-- l.append(e), e reckoned with l's own items: a known value -/
theorem st_appendV {xs : List V} (n : l ∉ r.M) (ho : EvV r ta s S (.ref l)) (hv : EvV r te s (upd S l (.lst xs)) v) (w : Wd r S H) (hl : H l = some (.lst xs)) (hs : S l = none) (hz : xs.length < 100000)
    (k : ∀ S1 H1, Wd r S1 H1 → Stp (r.more [l]) S H S1 H1 → S1 l = none → H1 l = some (.lst (xs ++ [v])) → D.nx s H1) : tDrop (tBM K "list" rAppend ta (tCons te tNil)) D s H :=
  ho S H (Ex.refl _) w _ fun u S1 H1 w1 s1 eu => by
    subst eu
    have h1 : H1 l = some (.lst xs) := s1.kp l _ n hl
    have n1 := s1.fr l (ne_none hl) hs
    have ex1 : Ex (upd S l (.lst xs)) (upd S1 l (.lst xs)) := ex_both s1.ex
    refine ⟨.inl ⟨rfl, _, .inl (.inl h1)⟩, borrow (EvS.mono ex1 hv) w1 h1 n n1 fun S2 H2 w2 s2 n2 => ?_⟩
    have s12 := s1.trans s2
    refine ⟨l, xs, v, rfl, rfl, s12.kp l _ n hl, sz_lt hz, ?_⟩
    exact k S2 _ (w2.mut n2 n (nco_lst (s12.kp l _ n hl))) ((s12.more).trans (Stp.upd1 (s12.dm l (ne_none hl)))) n2 upd_same
/-- the same, e a new object that is known -/
theorem st_appendN {xs : List V} (n : l ∉ r.M) (ho : EvV r ta s S (.ref l)) (hv : EvN r te s (upd S l (.lst xs)) fun ob _ => ob = c) (w : Wd r S H) (hl : H l = some (.lst xs)) (hs : S l = none) (hz : xs.length < 100000)
    (k : ∀ p S1 H1, Wd r S1 H1 → Stp (r.more [l]) S H S1 H1 → S1 l = none → H1 l = some (.lst (xs ++ [.ref p])) → S1 p = some c → D.nx s H1) : tDrop (tBM K "list" rAppend ta (tCons te tNil)) D s H :=
  ho S H (Ex.refl _) w _ fun u S1 H1 w1 s1 eu => by
    subst eu
    have h1 : H1 l = some (.lst xs) := s1.kp l _ n hl
    have n1 := s1.fr l (ne_none hl) hs
    have ex1 : Ex (upd S l (.lst xs)) (upd S1 l (.lst xs)) := ex_both s1.ex
    refine ⟨.inl ⟨rfl, _, .inl (.inl h1)⟩, borrowN (EvN.mono ex1 hv) w1 h1 n n1 fun p S2 H2 p0 p1 p2 w2 s2 n2 => ?_⟩
    have s12 := s1.trans s2
    have np : p ∉ r.M := w1.notM p0
    have hp0 : H p = none := pre_none s1 p0
    have nlp : l ≠ p := fun e => by
      rw [e, p0] at h1
      cases h1
    have w3 : Wd r (upd S2 p c) H2 := w2.settle p1 np
    have s3 : Stp r S H (upd S2 p c) H2 := s12.settle hp0 p2
    have n3 : (upd S2 p c) l = none := by
      rw [upd_ne nlp]
      exact n2
    refine ⟨l, xs, .ref p, rfl, rfl, s12.kp l _ n hl, sz_lt hz, ?_⟩
    exact k p _ _ (w3.mut n3 n (nco_lst (s12.kp l _ n hl))) ((s3.more).trans (Stp.upd1 (s12.dm l (ne_none hl)))) n3 upd_same upd_same
theorem sq_appendV {xs : List V} (n : l ∉ r.M) (ho : EvV r ta s S (.ref l)) (hv : EvV r te s (upd S l (.lst xs)) v) (w : Wd r S H) (hl : H l = some (.lst xs)) (hs : S l = none) (hz : xs.length < 100000)
    (k : ∀ S1 H1, Wd r S1 H1 → Stp (r.more [l]) S H S1 H1 → S1 l = none → H1 l = some (.lst (xs ++ [v])) → tz D s H1) : tSeq (tDrop (tBM K "list" rAppend ta (tCons te tNil))) tz D s H := st_appendV (D := { D with nx := tz D }) n ho hv w hl hs hz k
theorem sq_appendN {xs : List V} (n : l ∉ r.M) (ho : EvV r ta s S (.ref l)) (hv : EvN r te s (upd S l (.lst xs)) fun ob _ => ob = c) (w : Wd r S H) (hl : H l = some (.lst xs)) (hs : S l = none) (hz : xs.length < 100000)
    (k : ∀ p S1 H1, Wd r S1 H1 → Stp (r.more [l]) S H S1 H1 → S1 l = none → H1 l = some (.lst (xs ++ [.ref p])) → S1 p = some c → tz D s H1) : tSeq (tDrop (tBM K "list" rAppend ta (tCons te tNil))) tz D s H := st_appendN (D := { D with nx := tz D }) n ho hv w hl hs hz k
/-- the last item of a list -/
theorem atI_last {xs : List V} {v : V} : atI (xs ++ [v]) (-1) = some v := by
  unfold atI
  have h1 : ixN (xs ++ [v]).length (-1) = some xs.length := by
    rw [List.length_append, List.length_singleton]
    unfold ixN
    rw [if_neg (by decide), if_pos (by omega)]
    congr 1
    omega
  rw [h1]
  simp
end
end J

/-! J15: the law's source of draws: [cells, place, a great number, a seed]. -/
namespace J
open PySem PySem.Spec L2 Evl RZ
/-- both branches of an if go on by the same rest -/
theorem sq_join {tt : TT} {tu tw tz : TS} {D : Ends} {s : L2.St} {H : Hp} (P : L2.St → Hp → Prop) (k : ∀ s' H', P s' H' → tz D s' H') (h : (∀ s' H', P s' H' → tz D s' H') → tSeq (tIfS tt tu tw) tz D s H) : tSeq (tIfS tt tu tw) tz D s H := h k
structure SrcAt (p c : Addr) (cs : List Int) (pos big seed : Int) (H : Hp) : Prop where
  hp : H p = some (.lst [.ref c, .int pos, .int big, .int seed])
  hc : H c = some (.lst (cs.map V.int))
  pos0 : 0 ≤ pos
  big0 : 0 ≤ big
  seed0 : 0 ≤ seed
def SrcI (p c : Addr) (H : Hp) : Prop := ∃ cs pos big seed, SrcAt p c cs pos big seed H
def srcR (p c : Addr) : Rs := ⟨[p, c], SrcI p c, fun H H' k _ ⟨cs, pos, big, seed, h⟩ => ⟨cs, pos, big, seed, k p _ (by simp) h.hp, k c _ (by simp) h.hc, h.pos0, h.big0, h.seed0⟩, fun H ⟨cs, pos, big, seed, h⟩ a ha => by
  rcases List.mem_cons.mp ha with rfl | ha
  · exact ne_none h.hp
  · rw [List.mem_singleton.mp ha]
    exact ne_none h.hc⟩
theorem SrcAt.ne {p c : Addr} {cs : List Int} {pos big seed : Int} {H : Hp} (h : SrcAt p c cs pos big seed H) : p ≠ c := fun e => by
  have h1 := h.hp
  have h2 := h.hc
  rw [e, h2] at h1
  cases cs with
  | nil => cases h1
  | cons x r => cases h1
theorem srcR_nil {p c : Addr} {S H S1 H1 : Hp} (s : Stp (Rs.nil.more [p, c]) S H S1 H1) : Stp (srcR p c) S H S1 H1 := s.wk (fun a ha => by simpa [Rs.more, Rs.nil, srcR] using ha)
theorem sup_p {p c : Addr} {H S : Hp} {o : HO} (h : H p = some o) : sup [p, c] H S p = some o := (sup_in (by simp)).trans h
theorem sup_c {p c : Addr} {H S : Hp} {o : HO} (h : H c = some o) : sup [p, c] H S c = some o := (sup_in (by simp)).trans h
/-- the source as it stands, and the way here -/
structure SW (p c : Addr) (S0 H0 : Hp) (cs : List Int) (pos big seed : Int) (S H : Hp) : Prop where
  w : Wd Rs.nil S H
  l : Loc Rs.nil [p, c] S H
  at_ : SrcAt p c cs pos big seed H
  st : Stp (Rs.nil.more [p, c]) S0 H0 S H
theorem nm_nil {a : Addr} : a ∉ Rs.nil.M := fun z => by cases z
theorem SW.start {p c : Addr} {cs : List Int} {pos big seed : Int} {S H : Hp} (w : Wd (srcR p c) S H) (h : SrcAt p c cs pos big seed H) : SW p c S H cs pos big seed S H :=
  ⟨w.toNil, fun a ha => ⟨nm_nil, w.dj a ha, (srcR p c).has H w.inv a ha⟩, h, Stp.refl⟩
theorem SW.step {p c : Addr} {S0 H0 : Hp} {cs : List Int} {pos big seed : Int} {S H S1 H1 : Hp} (x : SW p c S0 H0 cs pos big seed S H) (w : Wd Rs.nil S1 H1) (s : Stp Rs.nil S H S1 H1) : SW p c S0 H0 cs pos big seed S1 H1 :=
  ⟨w, x.l.step s, ⟨s.kp p _ nm_nil x.at_.hp, s.kp c _ nm_nil x.at_.hc, x.at_.pos0, x.at_.big0, x.at_.seed0⟩, x.st.trans s.more⟩
theorem SW.setp {p c : Addr} {S0 H0 : Hp} {cs : List Int} {pos big seed : Int} {S H S1 H1 : Hp} (x : SW p c S0 H0 cs pos big seed S H) (w : Wd Rs.nil S1 H1) (s : Stp (Rs.nil.more [p, c]) S H S1 H1) {pos' big' seed' : Int} (h : H1 p = some (.lst [.ref c, .int pos', .int big', .int seed'])) (kp : ∀ a o, a ≠ p → a ∉ Rs.nil.M → H a = some o → H1 a = some o)
    (h1 : 0 ≤ pos') (h2 : 0 ≤ big') (h3 : 0 ≤ seed') : SW p c S0 H0 cs pos' big' seed' S1 H1 :=
  ⟨w, x.l.stepM s, ⟨h, kp c _ x.at_.ne.symm nm_nil x.at_.hc, h1, h2, h3⟩, x.st.trans s⟩
theorem SW.done {p c : Addr} {S0 H0 : Hp} {cs : List Int} {pos big seed : Int} {S H : Hp} (x : SW p c S0 H0 cs pos big seed S H) : Wd (srcR p c) S H ∧ Stp (srcR p c) S0 H0 S H :=
  ⟨⟨x.w.ex, ⟨cs, pos, big, seed, x.at_⟩, fun a ha => (x.l a ha).2.1⟩, srcR_nil x.st⟩
end J

set_option pp.maxSteps 3000
/-! J20: defs that are only called where no repr runs (so that repr may be asked in them); the end of a law that is such a def, with tables of code objects. -/
namespace J
open PySem PySem.Spec PyProof.Rows L2 Evl RZ
/-- no repr of a list or tuple is running around here -/
def Gd (A : Around) : Prop := A.guards = some []
theorem Gd.deeper {A : Around} (g : Gd A) (env : Env) : Gd (A.deeper env) := g
/-- a def's promise, kept where Gd holds -/
structure FnG (P : Program) (w : World) (K : PySem.W.Frag) (mg : Str → Option Value) (base : Heap) (k : Nat) (f : Addr) (fd : FuncData) (ps : List Str) (sp : Sp) : Prop where
  count : ∀ {vs : List V} {H : Hp} {Q : VK} {E : XK}, sp vs H Q E → vs.length = ps.length
  runs : ∀ {A : Around} {outer : List Env} {s : Shared} {H : Hp} {args : Args} {us : List Value} {vs : List V} {Q : VK} {E : XK}, Gd A → Room k A → Env0 P w K mg base A outer s H → BindsTo s fd args (ps.zip us) → Vals vs us → sp vs H Q E → codeAny (model P w) A (.call (.ref f) args) (CR CX0 outer P w H s Q E) s
section
variable {P : Program} {w : World} {K : PySem.W.Frag} {mg : Str → Option Value} {base : Heap} {x qual : Str} {st : Stmt} {f : Addr} {fd : FuncData} {N ps : List Str} {k : Nat} {sp : Sp}
theorem FnG.of (F : FnOk P w K mg base CX0 k f fd ps sp) : FnG P w K mg base k f fd ps sp := ⟨fun h => F.len _ _ _ _ h, fun _ hr e b v h => F.run _ _ _ _ _ _ _ _ _ hr e b v h⟩
theorem FnG.up {j : Nat} (F : FnG P w K mg base j f fd ps sp) (h : j ≤ k) : FnG P w K mg base k f fd ps sp := ⟨F.count, fun g hr => F.runs g (hr.mono h)⟩
/-- a def by its body, Gd known -/
theorem ok_G (F : Fun K x qual st f fd) (S : FnScope N ps (defScope st)) (len : ∀ vs H Q E, sp vs H Q E → vs.length = ps.length)
    (body : ∀ (cdv : Value) (A : Around) (outer : List Env) (s : Shared) (H : Hp) (vs : List V) (Q : VK) (E : XK), Gd A → Room k (A.deeper (envOfC qual (defScope st) s.heap.objs.size f cdv)) → sp vs H Q E →
      ∃ t, PSs (cxOf CX0 P w K mg base N qual (defScope st) f cdv A outer s H E).nox (defBody st) t ∧ t { nx := fun _ H' => Q .non H', rt := Q } (start N vs) H) : FnG P w K mg base (k + 1) f fd ps sp := by
  obtain ⟨oc, od, kV, doc, pm, an, cdv, ct, osl, e, lk, hcd⟩ := F.ex
  subst e
  refine ⟨fun h => len _ _ _ _ h, fun {A outer s H args us vs Q E} g hr e0 hb r h => ?_⟩
  exact LamX.run_ofS lk hcd S hr e0 hb r (len _ _ _ _ h) fun hr' => by
    obtain ⟨t, ht, hq⟩ := body cdv A outer s H vs Q E g hr' h
    exact ⟨t, ht.nox, hq⟩
end
section
variable {X : Cx} {k : Nat} {f : Addr} {fd : FuncData} {ps : List Str} {sp : Sp} {dvs : List V} {ds : List Value} {x : Str} {p pos : Pos} {e : Expr} {es : List Expr} {t : TA}
theorem run_G {pins : List (Addr × Obj)} {σ : L2.St} {H : Hp} {s : Shared} {Q : VK} {us : List Value} {vs : List V} (F : FnG X.prog X.w X.K X.mg X.base k f fd ps sp) (g : Gd X.A) (hr : Room k X.A) (hb : Binds X.K fd ps ds) (hd : Vals dvs ds) (I : Inv X pins σ H s) (r : Vals vs us) (h : sp (vs ++ dvs) H Q E0) :
    wpAny (model X.prog X.w) X.A (call (.ref f) us) (EP X pins σ Q) X.xe s := by
  have rr : Vals (vs ++ dvs) (us ++ ds) := r.append hd
  have gl : (us ++ ds).length = ps.length := rr.length.symm.trans (F.count h)
  refine wpAny_call (codeAny_mono (F.runs g hr I.env0 (hb s us I.kIn gl) rr h) fun res s' hq => ?_)
  match res, hq with
  | .error _, z => exact z.elim
  | .ok (.ret _), z => exact I.after z
  | .ok .next, z => exact z.elim
  | .ok .brk, z => exact z.elim
  | .ok .cont, z => exact z.elim
theorem pe_callG (F : FnG X.prog X.w X.K X.mg X.base k f fd ps sp) (g : Gd X.A) (hr : Room k X.A) (hg : Gl X x) (hm : X.mg x = some (.ref f)) (kp : PySem.W.keepIn X.K (.ref f) = true) (hb : Binds X.K fd ps ds) (hd : Vals dvs ds)
    (ha : PA X (e :: es) t) (ndb : (x == ("__debug__" : Str)) = false := by decide) (e1 : starEach (e :: es) X.env = (false, eval e X.env) :: starEach es X.env := by rfl) (e2 : (backTo pos (starEach es X.env)).any (·.1) = false := by rfl) :
    PE X (.Call (.Name x p) (e :: es) [] pos) (tCall sp dvs E0 t) :=
  ⟨fun pins s σ H Q I h => wpAny_Call_Name_kw (ld_glob I hg hm (PySem.W.callWith_K (h₀ := X.base) I.ok.mod.kin kp (thn (ha.run pos pins s σ H _ I h) fun us s1 ⟨vs, H1, I1, r, q⟩ => ⟨I1.kIn, run_G F g hr hb hd I1 r q⟩) e1 e2) ndb)⟩
theorem pe_callG0 (F : FnG X.prog X.w X.K X.mg X.base k f fd ps sp) (g : Gd X.A) (hr : Room k X.A) (hg : Gl X x) (hm : X.mg x = some (.ref f)) (kp : PySem.W.keepIn X.K (.ref f) = true) (hb : Binds X.K fd ps ds) (hd : Vals dvs ds)
    (ndb : (x == ("__debug__" : Str)) = false := by decide) : PE X (.Call (.Name x p) [] [] pos) (tCall sp dvs E0 tNil) :=
  ⟨fun pins s σ H Q I h => wpAny_Call_Name_kw (ld_glob I hg hm (PySem.W.callWith_K0 I.kIn kp (run_G (us := []) F g hr hb hd I .nil h)) ndb)⟩
end
/-! ### repr of data -/
/-- data, or an empty dict -/
def DE (K : PySem.W.Frag) (H : Hp) (v : V) (d : PyData) : Prop := Dp K H v d ∨ (d = .dict [] ∧ ∃ a, v = .ref a ∧ H a = some (.dK []))
theorem de_up {K : PySem.W.Frag} {S S' : Hp} (e : Ex S S') {v : V} {d : PyData} (h : DE K S v d) : DE K S' v d := h.imp (dp_up e _ _) fun ⟨h1, a, h2, h3⟩ => ⟨h1, a, h2, e _ _ h3⟩
def rReprD (K : PySem.W.Frag) : List V → Hp → VK → Prop := fun xs H Q => ∃ (v : V) (d : PyData), xs = [v] ∧ DE K H v d ∧ d.showable = true ∧ d.depth ≤ 40 ∧ d.shown.length ≤ sizeLine ∧ Q (.str d.shown) H
mutual
theorem dp_nodict {K : PySem.W.Frag} {H : Hp} : ∀ (d : PyData) (v : V), Dp K H v d → d.hasDict = false
  | .none, _, _ => by simp only [PyData.hasDict]
  | .bool _, _, _ => by simp only [PyData.hasDict]
  | .int _, _, _ => by simp only [PyData.hasDict]
  | .str _, _, _ => by simp only [PyData.hasDict]
  | .list xs, _, h => by
    cases h with
    | lst _ h2 =>
      simp only [PyData.hasDict]
      exact dpa_nodict xs _ h2
  | .tuple xs, _, h => by
    cases h with
    | tup _ h2 =>
      simp only [PyData.hasDict]
      exact dpa_nodict xs _ h2
  | .dict _, _, h => by cases h
theorem dpa_nodict {K : PySem.W.Frag} {H : Hp} : ∀ (ds : List PyData) (vs : List V), DpAll K H vs ds → PyData.hasDictAll ds = false
  | [], _, _ => by simp only [PyData.hasDictAll]
  | d :: ds, _, h => by
    cases h with
    | cons h1 h2 => simp only [PyData.hasDictAll, dp_nodict d _ h1, dpa_nodict ds _ h2, Bool.or_self]
end
theorem call_reprD {X : Cx} (g : Gd X.A) (hu : X.A.units + 64 < cLine) : CallR X (.builtin "repr") (rReprD X.K) := by
  intro pins s σ H xs us Q I r h
  obtain ⟨v, d, e, hd, hs, dp, sz, q⟩ := h
  subst e
  obtain ⟨u, eu, ru⟩ := vals1 r
  subst eu
  have I' := I
  rcases hd with hd | ⟨rfl, a, rfl, ha⟩
  rotate_left
  · cases ru
    obtain ⟨_, hsm, vs, rel, ob, es, ep, hob, hcl, hdat, _, hps, _⟩ := dk_of I.hok ha
    cases rel
    have he : es.toList = [] := List.eq_nil_of_length_eq_zero (by simpa using hps.length)
    have rdz : Reads s.heap (.ref a) (.dict []) (a :: [] ++ []) := Reads.dict hob hcl.1 hdat (by rw [he]; exact .nil) (by rw [he]; exact .nil)
    exact repr_of_reads' rdz hs (fun _ hm => by
      rcases List.mem_cons.mp hm with e | hm
      · rw [← e] at hsm
        simp at hsm
      · cases hm) g (by omega) (fun _ _ z => z) (fun h' u tk hk => ⟨.str _, H, I.kept (t' := tk) hk, ⟨_, rfl⟩, q⟩) sz
  obtain ⟨as, rd⟩ := Dp.reads I d v u hd ru
  have nd := dp_nodict d v hd
  cases rd with
  | none =>
    simp only [PyData.shown] at q
    exact PySem.P.repr_of_none ⟨.str _, H, I.tok _, ⟨_, rfl⟩, q⟩
  | bool b =>
    simp only [PyData.shown] at q
    exact PySem.P.repr_of_bool ⟨.str _, H, I.tok _, ⟨_, rfl⟩, q⟩
  | int i t =>
    simp only [PyData.shown] at q
    exact PySem.P.repr_of_int (by simpa [PyData.showable] using hs) ⟨.str _, H, I.tok _, ⟨_, rfl⟩, q⟩
  | str x t =>
    simp only [PyData.shown] at q sz
    exact PySem.P.repr_of_str ⟨.str _, H, I.tok _, ⟨_, rfl⟩, q⟩ sz
  | list h1 h2 h3 h4 => exact repr_of_reads' (Reads.list h1 h2 h3 h4) hs (PyData.noDict_hsm nd) g (by omega) (fun _ _ z => z) (fun h' u tk hk => ⟨.str _, H, I.kept (t' := tk) hk, ⟨_, rfl⟩, q⟩) sz
  | tuple h1 h2 h3 h4 => exact repr_of_reads' (Reads.tuple h1 h2 h3 h4) hs (PyData.noDict_hsm nd) g (by omega) (fun _ _ z => z) (fun h' u tk hk => ⟨.str _, H, I.kept (t' := tk) hk, ⟨_, rfl⟩, q⟩) sz
  | dict h1 h2 h3 h4 h5 => simp only [PyData.hasDict] at nd; cases nd
theorem vv_reprE {r : Rs} {s : L2.St} {S : Hp} {ta : TE} {K : PySem.W.Frag} {d : PyData} (h : EvS r ta s S fun v S1 => DE K S1 v d) (hs : d.showable = true) (hd : d.depth ≤ 40) (hz : d.shown.length ≤ sizeLine) : EvV r (tCB (rReprD K) (tCons ta tNil)) s S (.str d.shown) := fun S1 H e w Q q =>
  h S1 H e w _ fun v S2 H2 w2 s2 p => ⟨v, d, rfl, de_up w2.ex p, hs, hd, hz, q _ S2 H2 w2 s2 rfl⟩
theorem vv_reprD {r : Rs} {s : L2.St} {S : Hp} {ta : TE} {K : PySem.W.Frag} {d : PyData} (h : EvS r ta s S fun v S1 => Dp K S1 v d) (hs : d.showable = true) (hd : d.depth ≤ 40) (hz : d.shown.length ≤ sizeLine) : EvV r (tCB (rReprD K) (tCons ta tNil)) s S (.str d.shown) :=
  vv_reprE (h.imp fun _ _ _ p => .inl p) hs hd hz
mutual
theorem short_of_showable : ∀ d : PyData, d.hasDict = false → d.showable = true → PyData.intsShort 1921 d = true
  | .none, _, _ => rfl
  | .bool _, _, _ => rfl
  | .str _, _, _ => rfl
  | .int i, _, h => by
    have h1 : i.natAbs.log2 < 1920 := by simpa [PyData.showable] using h
    have h2 := int_text_len_1921 h1
    simp only [PyData.intsShort, decide_eq_true_eq]
    simpa only [PyData.shown] using h2
  | .list xs, hd, h => by
    simp only [PyData.intsShort]
    exact shortAll_of_showable xs (by simpa only [PyData.hasDict] using hd) (by simpa only [PyData.showable] using h)
  | .tuple xs, hd, h => by
    simp only [PyData.intsShort]
    exact shortAll_of_showable xs (by simpa only [PyData.hasDict] using hd) (by simpa only [PyData.showable] using h)
  | .dict _, hd, _ => by simp only [PyData.hasDict] at hd; cases hd
theorem shortAll_of_showable : ∀ xs : List PyData, PyData.hasDictAll xs = false → PyData.showableAll xs = true → PyData.intsShortAll 1921 xs = true
  | [], _, _ => rfl
  | x :: xs, hd, h => by
    have hd' : x.hasDict = false ∧ PyData.hasDictAll xs = false := by simpa only [PyData.hasDictAll, Bool.or_eq_false_iff] using hd
    have h' : x.showable = true ∧ PyData.showableAll xs = true := by simpa only [PyData.showableAll, Bool.and_eq_true] using h
    simp only [PyData.intsShortAll, Bool.and_eq_true]
    exact ⟨short_of_showable x hd'.1 h'.1, shortAll_of_showable xs hd'.2 h'.2⟩
end
/-- data that repr can be asked of -/
structure Shw (d : PyData) : Prop where
  show_ : d.showable = true
  low : d.depth ≤ 40
  fits : d.shown.length ≤ sizeLine
theorem Shw.mk' {d : PyData} (lay : d.canLay0 = true) (sh : d.showable = true) (small : d.weight ≤ 8000) (low : d.depth ≤ 40) : Shw d := ⟨sh, low, by
  have nd := PyData.hasDict_of_canLay d lay
  have h1 := PyData.shown_le 1921 (by decide) d (PyData.leavesShort_of_canLay0 1921 d lay (short_of_showable d nd sh))
  have h2 : (1921 + 2) * d.weight ≤ 1923 * 8000 := Nat.mul_le_mul (Nat.le_refl _) small
  rw [sizeLine_eq]
  omega⟩
section
variable {K : PySem.W.Frag} {α : Type} [DecidableEq α] {R : Rl α} [Dt K R] {r : Rs} {s : L2.St} {S : Hp} {ta tb : TE}
theorem Shw.of {a : α} (h1 : (Dt.d K R a).showable = true) (h2 : (Dt.d K R a).weight ≤ 8000) (h3 : Dt.dep K R ≤ 40 := by exact Nat.le_of_ble_eq_true rfl) : Shw (Dt.d K R a) := .mk' (Dt.lay a) h1 h2 (Nat.le_trans (Dt.dep_le a) h3)
theorem vv_rp {d : PyData} (h : EvS r ta s S fun v S1 => Dp K S1 v d) (x : Shw d) : EvV r (tCB (rReprD K) (tCons ta tNil)) s S (.str d.shown) := vv_reprD h x.show_ x.low x.fits
theorem vv_rpD {a : α} (h : EvS r ta s S fun v S1 => R a v S1) (x : Shw (Dt.d K R a)) : EvV r (tCB (rReprD K) (tCons ta tNil)) s S (.str (Dt.d K R a).shown) := vv_rp (h.imp fun _ _ _ p => Dt.dp p) x
/-- repr(e) != repr(f) -/
theorem vv_rpNe {z1 z2 : Str} (h : EvV r ta s S (.str z1)) (h2 : EvV r tb s S (.str z2)) (e : z1 = z2) : EvV r (tOp (rNeU K) ta tb) s S (.bl false) := (vv_op h h2 rs_neS).is (by rw [decide_eq_true e]; rfl)
end
theorem int_small {i : Int} (h : -(2 ^ 62) < i ∧ i < 2 ^ 62) : i.natAbs.log2 < 62 := by
  by_cases z : i.natAbs = 0
  · rw [z]
    decide
  · exact (Nat.log2_lt z).mpr (by omega)
theorem show_int {i : Int} (h : -(2 ^ 62) < i ∧ i < 2 ^ 62) : (PyData.int i).showable = true := by
  simp only [PyData.showable, decide_eq_true_eq]
  exact Nat.lt_trans (int_small h) (by decide)
theorem weight_int {i : Int} (h : -(2 ^ 62) < i ∧ i < 2 ^ 62) : (PyData.int i).weight ≤ 62 := by
  have := int_small h
  simp only [PyData.weight]
  split <;> omega
theorem show_ints : ∀ {ns : List Int}, (∀ i ∈ ns, -(2 ^ 62) < i ∧ i < 2 ^ 62) → PyData.showableAll (ns.map PyData.int) = true
  | [], _ => rfl
  | n :: r, h => by
    simp only [List.map_cons, PyData.showableAll, Bool.and_eq_true]
    exact ⟨show_int (h n List.mem_cons_self), show_ints fun i hi => h i (List.mem_cons_of_mem _ hi)⟩
theorem weight_ints : ∀ {ns : List Int}, (∀ i ∈ ns, -(2 ^ 62) < i ∧ i < 2 ^ 62) → PyData.weightAll (ns.map PyData.int) ≤ 63 * ns.length
  | [], _ => Nat.le_refl _
  | n :: r, h => by
    have h1 := weight_ints fun i hi => h i (List.mem_cons_of_mem _ hi)
    have h2 := weight_int (h n List.mem_cons_self)
    simp only [List.map_cons, PyData.weightAll, List.length_cons]
    omega
theorem lay_ints : ∀ (ns : List Int), PyData.canLayAll0 (ns.map PyData.int) = true
  | [] => rfl
  | n :: r => by
    simp only [List.map_cons, PyData.canLayAll0, PyData.canLay0, lay_ints r, Bool.and_self]
theorem depth_ints : ∀ (ns : List Int), PyData.depthAll (ns.map PyData.int) = 0
  | [] => rfl
  | n :: r => by
    simp only [List.map_cons, PyData.depthAll, PyData.depth, depth_ints r]
    rfl
theorem shw_tup {ns : List Int} (h : ∀ i ∈ ns, -(2 ^ 62) < i ∧ i < 2 ^ 62) (hl : ns.length ≤ 120) : Shw (.tuple (ns.map PyData.int)) := .mk' (by simp only [PyData.canLay0, lay_ints]) (by simp only [PyData.showable, show_ints h]) (by
  have := weight_ints h
  simp only [PyData.weight]
  omega) (by simp only [PyData.depth, depth_ints]; decide)
theorem shw_lst {ns : List Int} (h : ∀ i ∈ ns, -(2 ^ 62) < i ∧ i < 2 ^ 62) (hl : ns.length ≤ 120) : Shw (.list (ns.map PyData.int)) := .mk' (by simp only [PyData.canLay0, lay_ints]) (by simp only [PyData.showable, show_ints h]) (by
  have := weight_ints h
  simp only [PyData.weight]
  omega) (by simp only [PyData.depth, depth_ints]; decide)
theorem shw_int {i : Int} (h : -(2 ^ 62) < i ∧ i < 2 ^ 62) : Shw (.int i) := .mk' rfl (show_int h) (Nat.le_trans (weight_int h) (by decide)) (Nat.zero_le _)
theorem shw_bool {b : Bool} : Shw (.bool b) := .mk' rfl rfl (Nat.zero_le _) (Nat.zero_le _)
theorem shw_dict : Shw (.dict []) := ⟨by decide +kernel, by decide +kernel, by decide +kernel⟩
theorem shw_none : Shw .none := .mk' rfl rfl (Nat.zero_le _) (Nat.zero_le _)
theorem shw_str {z : Str} (h : (PyData.str z).canLay0 = true) (hl : z.cps.size ≤ 8000) : Shw (.str z) := .mk' h rfl (by simp only [PyData.weight]; exact hl) (Nat.zero_le _)
/-! ### the end of a law -/
/-- what is tracked when the law is called: the tables T; the script at a, unless the written part holds it -/
def H1st (K : PySem.W.Frag) (T : List Addr) (a : Addr) (o : Obj) (xs : List V) : Hp := fun b => if b ∈ T then some (.tbl #[]) else if b = a ∧ K.lookup a = none then some (.frz o (.lst xs)) else none
section
variable {K : PySem.W.Frag} {T : List Addr} {a b : Addr} {o : Obj} {xs : List V} {u : HO}
theorem h1_some (h : H1st K T a o xs b = some u) : (b ∈ T ∧ u = .tbl #[]) ∨ (b ∉ T ∧ b = a ∧ K.lookup a = none ∧ u = .frz o (.lst xs)) := by
  unfold H1st at h
  split at h
  next q => exact .inl ⟨q, (Option.some.inj h).symm⟩
  next q =>
    split at h
    next z => exact .inr ⟨q, z.1, z.2, (Option.some.inj h).symm⟩
    next => cases h
theorem h1_tab (h : b ∈ T) : H1st K T a o xs b = some (.tbl #[]) := if_pos h
theorem h1_own (h : a ∉ T) (z : K.lookup a = none) : H1st K T a o xs a = some (.frz o (.lst xs)) := (if_neg h).trans (if_pos ⟨rfl, z⟩)
end
/-- the code objects of the makers, with their tables, as the top left them -/
structure Tabd (K : PySem.W.Frag) (h : Heap) (cs : List (Addr × Addr)) : Prop where
  empty : ∀ q ∈ cs, h.get? q.2 = some { cls := .none, data := .fields #[] }
  apart : ∀ q ∈ cs, K.lookup q.2 = none
  code : ∀ q ∈ cs, PySem.W.CodeHd h q.1 q.2
section
variable {P : Program} {w : World} {K : PySem.W.Frag} {mg mb : Str → Option Value} {k : Nat} {fa a : Addr} {cs : List (Addr × Addr)} {fd : FuncData} {x : Str} {sp : Sp} {s₁ : Shared} {vs : List Value} {ns : List Int}
theorem law_G (KX : K.In s₁.heap) (hns : s₁.heap.Ns mainGlobals mg) (hb : s₁.heap.Ns builtinsNs mb) (hbb : ∀ y : Str, y ≠ "__name__" → mb y = bootBuiltins y) (lim : s₁.heap.NoLimit) (nogen : s₁.gens = #[]) (D : Tabd K s₁.heap cs)
    (bmain : ∃ (bm : Addr) (ob : Obj), mg "__builtins__" = some (.ref bm) ∧ bm ≠ builtinsNs ∧ s₁.heap.get? bm = some ob ∧ ob.cls = .type "module" ∧ ob.dict = some builtinsNs ∧ ob.data = .plain)
    (ha : s₁.heap.get? a = some { cls := .type "list", data := .seq vs.toArray }) (hi : IntsAre vs ns) (hl : ns.length ≤ sizeLine) (room : Room k callerA)
    (F : ∀ base : Heap, K.In base → base.Ns mainGlobals mg → (∀ q ∈ cs, LamX.TabB base mg q.1 q.2) → FnG P w K mg base k fa fd [x] sp) (bd : ∀ (s : Shared) (u : Value), BindsTo s fd ⟨[u], []⟩ [(x, u)])
    (used : ∀ H : Hp, (∀ q ∈ cs, H q.2 = some (.tbl #[])) → SqL K H a (ns.map V.int) → sp [.ref a] H (fun v _ => v = .bl true) E0) :
    codeAny (model P w) callerA (.call (.ref fa) ⟨[.ref a], []⟩) (fun r s' => r = .ok (.ret (.bool true)) ∧ OldK s₁.heap s'.heap ∧ s'.os = s₁.os ∧ AllBare s'.gens) s₁ := by
  have rel : Vals (ns.map V.int) vs := vals_ints hi
  have tabAt : ∀ b ∈ cs.map Prod.snd, s₁.heap.get? b = some { cls := .none, data := .fields #[] } ∧ K.lookup b = none := by
    intro b hbm
    obtain ⟨q, hq, rfl⟩ := List.mem_map.mp hbm
    exact ⟨D.empty q hq, D.apart q hq⟩
  have mem : ∀ q ∈ cs, q.2 ∈ cs.map Prod.snd := fun q hq => List.mem_map.mpr ⟨q, hq, rfl⟩
  have noT : a ∉ cs.map Prod.snd := fun z => by
    have y := ha.symm.trans (tabAt a z).1
    cases y
  generalize eH : H1st K (cs.map Prod.snd) a { cls := .type "list", data := .seq vs.toArray } (ns.map V.int) = H
  have tr : ∀ {b : Addr} {u : HO}, H b = some u → (b ∈ cs.map Prod.snd ∧ u = .tbl #[]) ∨ (b ∉ cs.map Prod.snd ∧ b = a ∧ K.lookup a = none ∧ u = .frz { cls := .type "list", data := .seq vs.toArray } (.lst (ns.map V.int))) := fun z => h1_some (by rw [eH]; exact z)
  have ok : HOk P w H s₁.heap := fun b u z => by
    rcases tr z with ⟨h1, rfl⟩ | ⟨_, rfl, _, rfl⟩
    · exact (tabAt b h1).1
    · exact ⟨ha, by rw [List.length_map]; exact hl, vs, _, rel, ha⟩
  have seen : SqL K H a (ns.map V.int) := by
    cases e : K.lookup a with
    | none => exact .inl (.inr ⟨_, by rw [← eH]; exact h1_own noT e⟩)
    | some o =>
      have z := KX a o e
      rw [ha] at z
      cases z
      exact .inr ⟨_, vs.toArray, _, e, rfl, rfl, rfl, by rw [List.size_toArray, hi.length]; exact hl, by simpa using rel⟩
  have free : ∀ {b : Addr} {o : Obj}, s₁.heap.get? b = some o → (∀ ws n, o.data ≠ .seq ws n) → o.data ≠ .fields #[] → H b = none := fun {b o} e n1 n2 => by
    cases z : H b with
    | none => rfl
    | some u =>
      rcases tr z with ⟨h1, _⟩ | ⟨_, h1, _⟩
      · have y := e.symm.trans (tabAt b h1).1
        cases y
        exact (n2 rfl).elim
      · subst h1
        have y := e.symm.trans ha
        cases y
        exact (n1 _ _ rfl).elim
  have old : ∀ {b : Addr} {o : Obj}, s₁.heap.get? b = some o → H b = none → (hidT s₁.heap H).get? b = some o := fun e n => hidT_get e n
  have dictNs : ∀ {b : Addr} {m : Str → Option Value}, s₁.heap.Ns b m → (hidT s₁.heap H).Ns b m := fun {b m} h => by
    obtain ⟨o, es, ep, e, d, r⟩ := h
    refine ⟨o, es, ep, old e (free e (fun ws n z => ?_) fun z => ?_), d, r⟩
    · exact nomatch d.symm.trans z
    · exact nomatch d.symm.trans z
  have KB : K.In (hidT s₁.heap H) := fun b o e => by
    refine old (KX b o e) ?_
    cases z : H b with
    | none => rfl
    | some u =>
      rcases tr z with ⟨h1, _⟩ | ⟨_, h1, h2, _⟩
      · exact nomatch (tabAt b h1).2.symm.trans e
      · subst h1
        exact nomatch h2.symm.trans e
  have TB : ∀ q ∈ cs, LamX.TabB (hidT s₁.heap H) mg q.1 q.2 := fun q hq => by
    refine ⟨?_, ?_, fun z => ?_⟩
    · obtain ⟨o, us, file, tf, flags, tg, inF, text, tt, e1, r1, r2, r3, rest⟩ := D.code q hq
      refine ⟨o, us, file, tf, flags, tg, inF, text, tt, old e1 (free e1 (fun ws n z => ?_) fun z => ?_), r1, r2, r3, rest⟩
      · exact nomatch r2.symm.trans z
      · have y := r2.symm.trans z
        cases y
        simp at r3
    · obtain ⟨bm, ob, b1, b2, b3, b4, b5, b6⟩ := bmain
      refine ⟨bm, ob, b1, b2, fun z => ?_, fun z => ?_, old b3 (free b3 (fun ws n z => ?_) fun z => ?_), b4, b5, b6⟩
      · obtain ⟨o, es, ep, e, d, _⟩ := hns
        rw [z] at b3
        have y := b3.symm.trans e
        cases y
        exact nomatch b6.symm.trans d
      · rw [z] at b3
        have y := b3.symm.trans (D.empty q hq)
        cases y
        cases b6
      · exact nomatch b6.symm.trans z
      · exact nomatch b6.symm.trans z
    · obtain ⟨o, es, ep, e, d, _⟩ := hns
      rw [z] at e
      have y := e.symm.trans (D.empty q hq)
      cases y
      cases d
  have M : L2.Mod K mg (hidT s₁.heap H) := by
    obtain ⟨mc, l1, l2⟩ := lim
    exact ⟨KB, dictNs hns, ⟨mb, dictNs hb, hbb⟩, mc, dictNs l1, l2⟩
  have env : Env0 P w K mg (hidT s₁.heap H) callerA [] s₁ H := ⟨rfl, M, fun _ _ e => of_hidT e, Nat.le_of_eq (hidT_size _ _), trivial, fun _ z => (by cases z), ok, .of_eq nogen⟩
  have tabH : ∀ q ∈ cs, H q.2 = some (.tbl #[]) := fun q hq => by
    rw [← eH]
    exact h1_tab (mem q hq)
  refine codeAny_mono ((F _ KB (dictNs hns) TB).runs (args := ⟨[.ref a], []⟩) (us := [.ref a]) (vs := [.ref a]) rfl room env (bd s₁ (.ref a)) (.cons rfl .nil) (used H tabH seen)) fun r s' res => ?_
  match r, res with
  | .error _, z => exact z.elim
  | .ok .next, z => exact z.elim
  | .ok .brk, z => exact z.elim
  | .ok .cont, z => exact z.elim
  | .ok (.ret u), ⟨v, H', os, bare, un, ok', ru, q⟩ =>
    obtain rfl : v = V.bl true := q
    obtain rfl : u = Value.bool true := ru
    have more : ∀ q ∈ cs, ∃ ps : Array Value, s'.heap.get? q.2 = some { cls := .none, data := .fields ps } := fun q hq => by
      obtain ⟨ps, z⟩ := un.tbls q.2 #[] (tabH q hq)
      exact ⟨_, ok' q.2 _ z⟩
    have same : ∀ {b : Addr} {o : Obj}, b ∉ cs.map Prod.snd → s₁.heap.get? b = some o → s'.heap.get? b = some o := fun {b o} nb e => by
      cases z : H b with
      | none => exact un.keep b o e z (fun y => (by cases y)) (fun y => (by cases y))
      | some u =>
        rcases tr z with ⟨h1, _⟩ | ⟨_, _, _, h1⟩
        · exact absurd h1 nb
        · subst h1
          have z2 := (ok b _ z).1
          rw [e] at z2
          cases z2
          exact (ok' b _ (un.frzs b _ _ z)).1
    refine ⟨rfl, ⟨fun b o e => ?_, fun b o e => ?_⟩, os, bare⟩ <;> by_cases nb : b ∈ cs.map Prod.snd
    · obtain ⟨q, hq, rfl⟩ := List.mem_map.mp nb
      obtain ⟨ps, hp⟩ := more q hq
      have z := (D.empty q hq).symm.trans e
      cases z
      exact .inr (.inl ⟨((D.code q hq).tab (D.empty q hq)).isCodeTable, rfl, #[], ps, rfl, by rw [Array.empty_append]; exact hp⟩)
    · exact .inl (same nb e)
    · obtain ⟨q, hq, rfl⟩ := List.mem_map.mp nb
      obtain ⟨ps, hp⟩ := more q hq
      exact ⟨_, hp⟩
    · exact ⟨o, same nb e⟩
/-- the law's promise at the heap behind the top -/
def LawG (l : PySem.W.OpenLaw) (w : World) (K : PySem.W.Frag) (k n : Nat) (x : Str) (mg : Str → Option Value) (fa : Addr) (h : Heap) : Prop :=
  ∃ (fd : FuncData) (cs : List (Addr × Addr)) (sp : Sp), Tabd K h cs ∧ (∀ (s : Shared) (u : Value), BindsTo s fd ⟨[u], []⟩ [(x, u)]) ∧
    (∀ (H : Hp) (a : Addr) (ns : List Int), ns.length ≤ n → (∀ z ∈ ns, Builtin.Int.intBits z ≤ 1048576) → (∀ q ∈ cs, H q.2 = some (.tbl #[])) → SqL K H a (ns.map V.int) → sp [.ref a] H (fun v _ => v = .bl true) E0) ∧
    ∀ base : Heap, K.In base → base.Ns mainGlobals mg → (∀ q ∈ cs, LamX.TabB base mg q.1 q.2) → FnG l.prog w K mg base k fa fd [x] sp
theorem walk_G {l : PySem.W.OpenLaw} {n k : Nat} {q : Program} {loose : List Str} {XP : (Str → Option Value) → Heap → Prop} {YP : World → Heap → Prop} {d : DefRec} {K : Params → PySem.W.Frag} {x : Str} (hn : l.most = some n) (hn2 : n ≤ sizeLine) (nd : d.params.defaults = []) (room : Room k callerA)
    (hY : ∀ (w : World) (h : Heap), YP w h → (K w.params).In h)
    (F : ∀ (w : World) (mg : Str → Option Value) (fa : Addr) (h : Heap), (K w.params).In h → h.Ns mainGlobals mg → mg d.name = some (.ref fa) →
      (∀ (y : Str) (f : Addr), ((recsOf q).any fun e => e.name == y) = true → mg y = some (.ref f) → LamX.OwnTab (K w.params) f h) → LawG l w (K w.params) k n x mg fa h) :
    PySem.W.WalkO q loose XP YP l.row.toRowW d [] (fun f vs => PySem.call f vs) := by
  refine Att.attach_callB hn nd fun w s₀ s₁ mg mb fa o pm cd doc a vs ns G Y ho hd hcd hmg hobj hints hlen hbits hg => ?_
  have KX := hY w _ Y
  have own : ∀ (y : Str) (f : Addr), ((recsOf q).any fun e => e.name == y) = true → mg y = some (.ref f) → LamX.OwnTab (K w.params) f s₁.heap := by
    intro y f hy hf c P o1 fd1 e dd vs1 sl k1 k2 k3 k4 k5
    obtain ⟨dL, hm, en⟩ := List.any_eq_true.mp hy
    obtain ⟨f', o', fd', c', P', h1, h2, h3, h4, h5, ⟨oc, vc, e1, _, e3, e4⟩, hP⟩ := G.T.tab dL hm
    rw [beq_iff_eq.mp en, hf] at h1
    cases h1
    have z1 := (KX _ _ k1).symm.trans h2
    cases z1
    have z2 := k2.symm.trans h3
    cases z2
    have z3 := k3.symm.trans h4
    cases z3
    have z4 := (KX _ _ k4).symm.trans e1
    cases z4
    cases e3
    have z5 := k5.symm.trans e4
    cases z5
    exact hP
  obtain ⟨fd, cs, sp, D, bd, use, hF⟩ := F w mg fa _ KX G.T.g hmg own
  exact law_G KX G.T.g G.T.b G.T.builtins G.T.nolimit hg D G.T.bmain hobj hints (Nat.le_trans hlen hn2) room hF bd fun H hH hS => use H a ns hlen hbits hH hS
end
end J

set_option pp.maxSteps 3000
/-! J21: exception classes over ValueError, through a class of the program, whose __init__ says super().__init__(a text) and stores its argument. -/
namespace J
open PySem PySem.Spec PySem.Calls PyProof.Rows L2 Evl RZ
/-- the body of such an __init__ -/
abbrev xcBody (msg fld prm : Str) (j : Nat) (p0 p1 p2 p3 p4 p5 p6 p7 p8 p9 : Pos) : List Stmt :=
  [.Expr (.Call (.Attribute (.Call (.Name "super" p0) [] [] p1) "__init__" p2) [.Constant (.str msg) j p3] [] p4) p5, .Assign [.Attribute (.Name "self" p6) fld p7] (.Name prm p8) p9]
abbrev xcScope (prm : Str) : Scope := { kind := .function, names := [("self", .local), (prm, .local)], isGenerator := false, isCoroutine := false }
/-- an instance being made at a gets its field -/
def spXi (C : Addr) (fld : Str) : Sp := fun vs H Q _ => ∃ (a : Addr) (v : V), vs = [.ref a, v] ∧ H a = some (exo a C none) ∧ ∀ dx, H dx = none → dx ≠ a → Q .non (upd (upd H dx (exd dx [(fld, v)])) a (exo a C (some dx)))
/-- the facts of such a class -/
structure XcT (P : Program) (K : PySem.W.Frag) (mg : Str → Option Value) (C f : Addr) (qual fld prm : Str) (st : Stmt) (fd : FuncData) : Prop where
  cls : OexC K C
  ini : PySem.W.findIn K (.ref C) "__init__" = some (some (.ref f))
  tI : PySem.W.typeIn K (.ref f) = some (.type "function")
  fn : ∃ (oc kV doc pm ct : Value) (od an : Option Addr) (osl : Array (Option Value)) (cda cc : Addr), fd = PySem.W.ksFn "__init__" qual (defArgs st) (defBody st) (defScope st) .none kV doc pm an (.ref cda) ct cc ∧ K.lookup f = some ⟨oc, od, .func fd, osl⟩ ∧ PySem.W.codeIn K (.ref cda) qual = true ∧
    (∃ (ccl : Value) (cdd : Option Addr) (vs : Array Value) (ccs : Array (Option Value)) (file : Str) (tf : Tok), K.lookup cda = some ⟨ccl, cdd, .fields vs, ccs⟩ ∧ vs[2]? = some (.str file tf) ∧ ((P.main.file : Str) == file) = true) ∧
    ∃ (cl : Value) (cld : Option Addr) (csl : Array (Option Value)), K.lookup cc = some ⟨cl, cld, .cell (some (.ref C)), csl⟩
  sup : PySem.W.ks_superIn K C C "__init__" = some (some (.builtin "ValueError.__init__"))
  sB : PySem.W.subIn K (.ref C) (.type "ValueError") = some true
  sC : PySem.W.mroIn K C (.ref C) = some true
  fno : PySem.W.findIn K (.ref C) fld = some none
  zs : mg "super" = none
  tp : PySem.W.nsIn K cStatics "thirdparty.any" = some none
  top : (P.main.scope.names.lookup ("super" : Str)).isSome = false
  body : ∃ msg j p0 p1 p2 p3 p4 p5 p6 p7 p8 p9, defBody st = xcBody msg fld prm j p0 p1 p2 p3 p4 p5 p6 p7 p8 p9 ∧ ∀ env : Env, ∃ pl : Sem Bool, eval (.Call (.Attribute (.Call (.Name "super" p0) [] [] p1) "__init__" p2) [.Constant (.str msg) j p3] [] p4) env = (do
    let ov ← attributeBase (.Call (.Name "super" p0) [] [] p1) "__init__" env (eval (.Call (.Name "super" p0) [] [] p1) env)
    standAt p2.atName
    let (f, first) ← holding [ov] (getMethod ov "__init__" pl)
    callWith p4 f first (backTo p4 (starEach [.Constant (.str msg) j p3] env)) [])
  par : ((defArgs st).posonlyargs ++ (defArgs st).args).head?.map (fun a => a.arg) = some "self"
  sc1 : (defScope st).kind = .function
  sc2 : (defScope st).isCoroutine = false
  sc3 : (defScope st).isGenerator = false
  sc4 : ∀ x ∈ (defScope st).names, x.2 ≠ .cell
  sc5 : (defScope st).names.lookup ("self" : Str) = some .local
  sc6 : (defScope st).names.lookup prm = some .local
  sc7 : (defScope st).names.lookup ("super" : Str) = some .globalImplicit
  sc8 : (defScope st).names.lookup ("__class__" : Str) = some .free
  np : ("self" : Str) ≠ prm
  nd : (prm == ("__debug__" : Str)) = false
section
variable {P : Program} {w : World} {K : PySem.W.Frag} {mg : Str → Option Value} {base : Heap}
/-- the built-in __init__ bound to an instance a, called -/
theorem call_mw {A : Around} {E : Value → Shared → Prop} {s : Shared} {C a u t0 : Addr} {rest : List Value} {Q : Value → Shared → Prop} (T : OexC K C) (KX : K.In s.heap) (ha : s.heap.get? a = some (PySem.HandSPX.excO C t0)) (hu : s.heap.get? u = some (PySem.W.kxs_mw "ValueError.__init__" a)) (hl : rest.length ≤ sizeLine)
    (q : ∀ h' t1, (∀ b o, b ≠ a → s.heap.get? b = some o → h'.get? b = some o) → h'.get? a = some (PySem.HandSPX.excO C t1) → Q .none { s with heap := h' }) : wpAny (model P w) A (call (.ref u) rest) Q E s := by
  obtain ⟨nm, qn, N, bs, bm, sn, sub, ab, col, dd, k0, k1, k2, k3, k5, hC, hbm⟩ := T.cls
  obtain ⟨hp, g, d, t, os⟩ := s
  refine wpAny_call (codeAny_of_tree ?_)
  show wpAny _ A.in1 (callAny (.ref u) ⟨rest, []⟩) _ _ _
  simp only [callAny]
  refine wpAny_bind (wpAny_load hu ?_)
  simp only [PySem.W.kxs_mw, show (Value.type "method-wrapper" == Value.type "method" || Value.type "method-wrapper" == Value.type "builtin_function_or_method" || Value.type "method-wrapper" == Value.type "method-wrapper") = true by decide, if_true]
  refine PySem.W.KFB.if_so (by decide) (wpAny_bind (PySem.W.check_bound_init F.excBase_ValueError.toExcCallFacts (KX _ _ hC) ha rfl (wpAny_bind (wpAny_pure (wpAny_pure ⟨plainId_quiet F.excBase_ValueError.init.plain _, codeAny_builtin F.excBase_ValueError.initEntry ?_⟩)))))
  exact PySem.W.exc_init_tree (cls := .ref C) (t0 := t0) (dv := none) (c2 := .none) (c3 := .none) (b4 := .bool false) ha hl fun h' k e _ => q h' _ k e
theorem bindL_two {n0 n1 : Str} (hn : n0 ≠ n1) {v0 v1 : Value} {ko : Str → Option NameKind} (h0 : ko n0 = some .local) (h1 : ko n1 = some .local) : bindL ko [(n0, v0), (n1, v1)] (fun _ => none) = fun y => ([(n0, v0), (n1, v1)] : List (Str × Value)).reverse.lookup y := by
  funext y
  show bindL ko [(n0, v0), (n1, v1)] (fun _ => none) y = List.lookup y [(n1, v1), (n0, v0)]
  unfold bindL bindL bindL
  rw [if_pos h0, if_pos h1]
  by_cases e1 : y = n1
  · subst e1
    simp [List.lookup]
  · by_cases e0 : y = n0
    · subst e0
      have : (y == n1) = false := by simpa using e1
      simp [List.lookup, this, hn]
    · have z1 : (y == n1) = false := by simpa using e1
      have z0 : (y == n0) = false := by simpa using e0
      simp [List.lookup, z1, z0, e1, e0]
theorem scope2 {prm : Str} (h : ("self" : Str) ≠ prm) : FnScope ["self", prm] ["self", prm] (xcScope prm) := by
  refine ⟨rfl, rfl, rfl, by simpa using h, rfl, fun x hx => ?_, fun y hy => ?_⟩
  · rcases List.mem_cons.mp hx with rfl | hx
    · exact .inl (by simp [List.lookup])
    · rw [List.mem_singleton.mp hx]
      by_cases e : prm = ("self" : Str)
      · exact absurd e.symm h
      · have z : (prm == ("self" : Str)) = false := by simpa using e
        exact .inl (by simp [List.lookup, z])
  · rcases List.mem_cons.mp hy with rfl | hy
    · exact fun z => by cases z
    · rw [List.mem_singleton.mp hy]
      exact fun z => by cases z
theorem xinit_ok {C f : Addr} {qual fld prm : Str} {st : Stmt} {fd : FuncData} (T : XcT P K mg C f qual fld prm st fd) : FnOk P w K mg base CX0 1 f fd ["self", prm] (spXi C fld) := by
  refine ⟨fun vs H Q E h => ?_, fun A outer s H args us vs Q E hr e0 hb r h => ?_⟩
  · obtain ⟨a, v, rfl, _⟩ := h
    rfl
  · obtain ⟨a, v, rfl, ha, hq⟩ := h
    obtain ⟨oc, kV, doc, pm, ct, od, an, osl, cda, cc, efd, lk, hcd, ⟨ccl, cdd, vc, ccs, file, tf, k1, k2, k3⟩, ⟨cl, cld, csl, k4⟩⟩ := T.fn
    subst efd
    obtain ⟨msg, j, p0, p1, p2, p3, p4, p5, p6, p7, p8, p9, eb, mc⟩ := T.body
    have KX : K.In s.heap := e0.mod.kin.keeps fun b o e => (e0.bs b o e).1
    have lim : s.heap.NoLimit := e0.mod.nolimit.keeps fun b o e => (e0.bs b o e).1
    cases r with
    | @cons _ u0 _ us' r0 r' =>
    cases r' with
    | @cons _ u1 _ us'' r1 r'' =>
    cases r''
    obtain rfl : u0 = Value.ref a := r0
    have hs2 := scope2 T.np
    have l0 : (xcScope prm).names.lookup ("self" : Str) = some .local := by simp [List.lookup]
    have l1 : (xcScope prm).names.lookup prm = some .local := by
      have z : (prm == ("self" : Str)) = false := by simpa using T.np.symm
      simp [List.lookup, z]
    refine PySem.ks_codeAny_call_defAt (fd := PySem.W.ksFn "__init__" qual (defArgs st) (defBody st) (defScope st) .none kV doc pm an (.ref cda) ct cc) (body := defBody st) (binds := (["self", prm] : List Str).zip [.ref a, u1]) (hr.mono (Nat.zero_le 1)).depth (KX _ _ lk) rfl lim (PySem.W.codeRec_of KX hcd) rfl hb T.sc4 (fun y hy => ?_) (fun h₁ hns kp => ?_) T.sc2 T.sc3 T.sc1
    · rcases List.mem_cons.mp hy with rfl | hy
      · exact T.sc5
      · rw [List.mem_singleton.mp hy]
        exact T.sc6
    · have x : InCallC s s.heap.objs.size (bindL (envOfC qual (xcScope prm) s.heap.objs.size f (.ref cda)).kindOf ((["self", prm] : List Str).zip [.ref a, u1]) fun _ => none) (cellsFrom (s.heap.objs.size + 1) (xcScope prm).names []) (bindC (envOfC qual (xcScope prm) s.heap.objs.size f (.ref cda)).kindOf ((["self", prm] : List Str).zip [.ref a, u1]) fun _ => none) { s with heap := h₁, toks := s.toks + ((["self", prm] : List Str).zip [.ref a, u1]).length } := by
        refine ⟨⟨⟨_, _, rfl⟩, ?_, kp, Nat.le_refl _⟩, fun n c e => ?_, ?_, fun n c e => ?_⟩
        · have e2 := bindL_two (n0 := "self") (n1 := prm) (v0 := Value.ref a) (v1 := u1) (ko := (envOfC qual (xcScope prm) s.heap.objs.size f (.ref cda)).kindOf) T.np l0 l1
          show h₁.Ns _ (bindL _ [("self", Value.ref a), (prm, u1)] _)
          rw [e2]
          exact hns
        · cases e
        · exact List.Pairwise.nil
        · cases e
      have I := inv_start (CX := CX0) (w := w) (qual := qual) (f := f) (cd := .ref cda) (E := E) hs2 hr.hd e0 (show [V.ref a, v].length = (["self", prm] : List Str).length from rfl) (Paired.cons rfl (Paired.cons r1 Paired.nil) : Vals [V.ref a, v] [Value.ref a, u1]) x
      obtain ⟨ar, har, eself⟩ := Option.map_eq_some_iff.mp T.par
      obtain ⟨mb, hb1, hb2⟩ := e0.mod.blt
      have bk : ∀ b o, base.get? b = some o → h₁.get? b = some o := fun b o e => kp b o (e0.bs b o e).1
      have KX1 : K.In h₁ := e0.mod.kin.keeps bk
      obtain ⟨t1, ho1⟩ := exo_at I.hok ha
      have la : a ≠ s.heap.objs.size := fun z => by
        obtain ⟨t0, ho0⟩ := exo_at e0.hok ha
        exact Nat.lt_irrefl _ (z ▸ Heap.lt_size ho0)
      obtain ⟨nm, qn, N, bs, bm, sn, sub, ab, col, dd, q0, q1, q2, q3, q5, hC, hbm⟩ := T.cls.cls
      have hcl : PySem.W.clsIn K C = some { name := nm, bases := bs, mro := .ref C :: bm, ns := N, qualname := qn, hasDict := true, slotNames := sn, subclasses := sub, abstract := ab, collection := col, hasDel := false } := by
        unfold PySem.W.clsIn
        rw [hC]
      have hCo := KX1 _ _ hC
      have sup := T.sup
      unfold PySem.W.ks_superIn at sup
      rw [hcl] at sup
      show PySem.wpAt (model P w) (A.deeper (PySem.W.ksEnv qual (defScope st) s.heap.objs.size f (.ref cda) cc)) (.func (defBody st) (PySem.W.ksEnv qual (defScope st) s.heap.objs.size f (.ref cda) cc)) (execs (defBody st) (PySem.W.ksEnv qual (defScope st) s.heap.objs.size f (.ref cda) cc)) _ _ _
      rw [eb]
      obtain ⟨pl, hmc⟩ := mc (PySem.W.ksEnv qual (defScope st) s.heap.objs.size f (.ref cda) cc)
      have hint : interactive (PySem.W.ksEnv qual (defScope st) s.heap.objs.size f (.ref cda) cc) = false := by
        unfold interactive
        show ((defScope st).kind == ScopeKind.module && _) = false
        rw [T.sc1]
        rfl
      refine PySem.ks_wpAt_execs_cons (PySem.ks_wpAt_Expr_any (PySem.ks_wpAt_MethodCall (PySem.ks_wpAt_super_base T.sc7 T.sc8 (by decide) rfl (KX1 _ _ lk) rfl har rfl (KX1 _ _ k1) rfl k2 k3 T.top ?_) hmc) hint (by rfl))
      refine PySem.W.ks_loadName_global T.sc1 T.sc7 (PySem.Calls.loadGlobal_builtin (e0.mod.glob.keeps bk) T.zs (hb1.keeps bk) ((hb2 _ (by decide +kernel)).trans (by first | rfl | decide +kernel)) ⟨rfl, ?_⟩)
      refine wpAny_loadName_free T.sc1 T.sc8 rfl ⟨_, KX1 _ _ k4, rfl⟩ ?_
      rw [eself]
      refine wpAny_loadName_local (v := .ref a) T.sc1 T.sc5 hns (by
        have z : (("self" : Str) == prm) = false := by simpa using T.np
        simp [List.lookup, z]) ?_
      refine PySem.ks_wpAny_isType_cls hCo rfl ⟨rfl, ?_⟩
      refine PySem.ks_wpAny_call_super hCo rfl ho1 rfl (fun c e => by cases e) (PySem.W.looks_mroIn KX1 T.sC) (fun h2 e2 kp2 => ?_)
      have KX2 : K.In h2 := KX1.keeps kp2
      have hty : PySem.W.Looks (model P w) h2 (typeOf (.ref a)) (.ref C) := fun A Q E s k q => wpAny_typeOf_ref (k _ _ (kp2 _ _ ho1)) q
      have hI : PySem.W.Looks (model P w) h2 (isInstance (.ref a) (.type "ValueError")) true := PySem.W.Looks.andThen hty (PySem.W.looks_subIn KX2 T.sB)
      refine PySem.W.kxs_getMethod PySem.W.kxs_ValueError e2 (PySem.W.looks_opaque KX2 T.tp) (l₀ := .ref C :: bm) (fun A Q E s k q => wpAny_bind ((PySem.W.looks_clsIn KX2 hcl) A _ E s k (wpAny_pure q))) rfl KX2 sup hI (fun z => ?_) (by decide) ?_
      · rw [z, hCo] at ho1
        cases ho1
      refine PySem.W.kxs_callWith (i := "ValueError.__init__") (x := a) rfl (evalArgs_plain ?_)
      show wpAny _ _ (spliced ((false, eval (.Constant (.str msg) j p3) (PySem.W.ksEnv qual (defScope st) s.heap.objs.size f (.ref cda) cc)) :: backTo p4 (starEach [] (PySem.W.ksEnv qual (defScope st) s.heap.objs.size f (.ref cda) cc)))) _ _ _
      refine Calls.spliced_cons (Calls.Constant_str (Calls.spliced_nil ⟨Heap.get?_push_size _ rfl, ?_⟩))
      refine call_mw T.cls (KX2.keeps fun b o e => Heap.get?_push_of_some _ e) (Heap.get?_push_of_some _ (kp2 _ _ ho1)) (Heap.get?_push_size _ rfl) (by rw [sizeLine_eq]; exact Nat.le_of_ble_eq_true rfl) (fun h3 t3 kp3 ho3 => ?_)
      have kp13 : ∀ b o, b ≠ a → h₁.get? b = some o → h3.get? b = some o := fun b o hb e => kp3 b o hb (Heap.get?_push_of_some _ (kp2 b o e))
      have I3 := I.write (t' := s.toks + 2 + 1 + 1) (x := a) (e := a) (o := exo a C none) (by rw [ha]; exact True.intro) (.inl rfl) (h' := h3) kp13 ⟨_, ho3⟩ (exo_ok ho3)
      have eu : upd H a (exo a C none) = H := by
        funext b
        by_cases hb : b = a
        · rw [hb, upd_same, ha]
        · rw [upd_ne hb]
      rw [eu] at I3
      have hns3 : h3.Ns s.heap.objs.size fun y => (([("self", Value.ref a), (prm, u1)] : List (Str × Value)).reverse.lookup y) := by
        obtain ⟨o, es, ep, z1, z2, z3⟩ := hns
        exact ⟨o, es, ep, kp13 _ _ (Ne.symm la) z1, z2, z3⟩
      refine PySem.ks_wpAt_execs_cons (PySem.wpAt_of_wpAny (plainObj_wpAny_Assign_Attribute (wpAny_Name (wpAny_loadName_local (v := u1) T.sc1 T.sc6 hns3 (by simp [List.lookup]) ?_) T.nd) (by rfl)))
      refine wpAny_Name (wpAny_loadName_local (v := .ref a) T.sc1 T.sc5 hns3 (by
        have z : (("self" : Str) == prm) = false := by simpa using T.np
        simp [List.lookup, z]) ?_)
      refine ost_new T.cls I3 ha T.fno r1 fun dx s4 hd dne I4 => ?_
      exact PySem.wpAt_of_wpAny (wpAny_execs_nil ⟨.non, _, I4.os, I4.bare, I4.base, I4.hok, rfl, hq dx hd dne⟩)
end
section
variable {X : Cx} {C f : Addr} {qual fld prm : Str} {st : Stmt} {fd : FuncData} {x : Str} {e : Expr} {te : TE} {p pos : Pos}
/-- C(e), an exception that is made where none is handled -/
theorem pmk_xc {ta : TA} (T : XcT X.prog X.K X.mg C f qual fld prm st fd) (hr : Room 2 X.A) (hb : Binds X.K fd ["self", prm] []) (hg : Gl X x) (hm : X.mg x = some (.ref C)) (ha : PA X [e] ta)
    (ndb : (x == ("__debug__" : Str)) = false := by decide) (e1 : starEach [e] X.env = (false, eval e X.env) :: starEach [] X.env := by rfl) (e2 : (backTo pos (starEach [] X.env)).any (·.1) = false := by rfl) :
    L2N.PMk X (.Call (.Name x p) [e] [] pos) (fun σ H Q => ta σ H fun vs H1 => ∃ v, vs = [v] ∧ ∀ d, H1 d = none → Q (.ref C) (some d) (upd H1 d (.xd [(fld, v)]))) := by
  intro pins s σ H Q I h
  obtain ⟨nm, q, N, bs, bm, sn, sub, ab, col, dd, k0, k1, k2, k3, k5, hC, hbm⟩ := T.cls.cls
  refine wpAny_Call_Name_kw (ld_glob I hg hm (PySem.W.callWith_K (h₀ := X.base) I.ok.mod.kin T.cls.kC (thn (ha.run pos pins s σ H _ I h) fun us s1 ⟨vs, H1, I1, r1, q1⟩ => ⟨I1.kIn, ?_⟩) e1 e2) ndb)
  · obtain ⟨v, rfl, q1⟩ := q1
    show wpAny _ _ (call (.ref C) us) _ _ _
    obtain ⟨hp, g, dr, tk, os⟩ := s1
    have hsz : hp.objs.size ≤ hp.objs.size + 1 := Nat.le_succ _
    have na : H1 (hp.objs.size + 1) = none := I1.hok.fresh hsz
    have grow : ∀ b o, hp.get? b = some o → ((hp.push (PySem.W.kdv_tup us)).push (PySem.HandSPX.excO C hp.objs.size)).get? b = some o := fun b o z => Heap.get?_push_of_some _ (Heap.get?_push_of_some _ z)
    have made : ((hp.push (PySem.W.kdv_tup us)).push (PySem.HandSPX.excO C hp.objs.size)).get? (hp.objs.size + 1) = some (PySem.HandSPX.excO C hp.objs.size) := by heap_get
    have I2 := I1.laid (t' := tk) (a := hp.objs.size + 1) (o := exo (hp.objs.size + 1) C none) grow hsz (exo_ok made)
    have r2 : Vals [V.ref (hp.objs.size + 1), v] (Value.ref (hp.objs.size + 1) :: us) := .cons rfl r1
    have n2 : (Value.ref (hp.objs.size + 1) :: us ++ []).length = (["self", prm] : List Str).length := by
      rw [List.append_nil, ← r2.length]
      rfl
    have b2 := hb _ (Value.ref (hp.objs.size + 1) :: us) I2.kIn n2
    rw [List.append_nil] at b2
    have fits : us.length ≤ sizeLine := by
      rw [← Paired.length r1, sizeLine_eq]
      exact Nat.le_of_ble_eq_true rfl
    have want : spXi C fld [V.ref (hp.objs.size + 1), v] (upd H1 (hp.objs.size + 1) (exo (hp.objs.size + 1) C none)) (fun u H2 => u = .non ∧ ∃ d : Addr, H1 d = none ∧ H2 = upd (upd (upd H1 (hp.objs.size + 1) (exo (hp.objs.size + 1) C none)) d (exd d [(fld, v)])) (hp.objs.size + 1) (exo (hp.objs.size + 1) C (some d)) ∧ d ≠ hp.objs.size + 1) E0 :=
      ⟨_, v, rfl, upd_same, fun d hd dne => ⟨rfl, d, by rw [upd_ne dne] at hd; exact hd, rfl, dne⟩⟩
    refine wpAny_call (PySem.HandSPX.call_own F.excBase_ValueError (fun Y => PySem.HandSPX.refsVE_contains Y bm hbm) (I1.kIn _ _ hC) (PySem.W.looks_findIn I1.kIn T.ini) (fun self => PySem.W.bind_fn I1.kIn self T.tI) fits
      (codeAny_mono ((xinit_ok (w := X.w) (base := X.base) T).run _ X.stack _ _ ⟨Value.ref (hp.objs.size + 1) :: us, []⟩ _ _ _ E0 (hr.make C us []) (I2.env0.make C us []) b2 r2 want) fun r s' hq' => ?_))
    match r, hq' with
    | .error _, z => exact z.elim
    | .ok .next, z => exact z.elim
    | .ok .brk, z => exact z.elim
    | .ok .cont, z => exact z.elim
    | .ok (.ret u), ⟨_, H2, os2, bare2, un2, ok2, rv, rfl, d, hd, eH, dne⟩ =>
      obtain ⟨h2, g2, d2, t2, os'⟩ := s'
      have ea : H2 (hp.objs.size + 1) = some (exo (hp.objs.size + 1) C (some d)) := by
        rw [eH, upd_same]
      have ed : H2 d = some (exd d [(fld, v)]) := by
        rw [eH, upd_ne dne, upd_same]
      obtain ⟨t0, G, J, kG, ge, hoe, gone⟩ := mk_end0 (d2 := d2) (t2 := t2) I1 hsz grow un2 ok2 os2 bare2 ea ed hd
      have eF : upd (L2.del H2 (hp.objs.size + 1)) d (.xd [(fld, v)]) = upd H1 d (.xd [(fld, v)]) := by
        funext b
        by_cases hbd : b = d
        · rw [hbd, upd_same, upd_same]
        · rw [upd_ne hbd, upd_ne hbd]
          by_cases hba : b = hp.objs.size + 1
          · rw [hba, L2.del_same, na]
          · rw [L2.del_ne hba, eH, upd_ne hba, upd_ne hbd, upd_ne hba]
      rw [eF] at J gone
      refine ⟨rv, _, _, _, ⟨G, g2, d2, t2, os'⟩, _, .ref C, some d, rfl, J, kG, ge, hoe, ⟨rfl, rfl, fun vs hv => ?_⟩, rfl, rfl, gone, rfl, bare2, raises_own T.cls.exC T.cls.tyC, q1 d hd⟩
      cases hv
      rfl
end
end J

set_option pp.maxSteps 3000
/-! J22: defs that raise where nothing is handled; what raises, told over the stable heap. -/
namespace J
open PySem PySem.Spec PyProof.Rows L2 Evl RZ
section
variable {P : Program} {w : World} {K : PySem.W.Frag} {mg : Str → Option Value} {base : Heap} {q qual : Str} {st : Stmt} {f : Addr} {fd : FuncData} {N ps : List Str} {k : Nat} {sp : Sp} {sc : Scope} {cd : Value} {A : Around} {outer : List Env} {s0 : Shared} {H0 : Hp} {E : XK}
/-- the context of such a def's body -/
abbrev cxN (P : Program) (w : World) (K : PySem.W.Frag) (mg : Str → Option Value) (base : Heap) (N : List Str) (qual : Str) (sc : Scope) (f : Addr) (cd : Value) (A : Around) (outer : List Env) (s0 : Shared) (H0 : Hp) (E : XK) : Cx := cxOf (L2N.CX P w) P w K mg base N qual sc f cd A outer s0 H0 E
theorem takesN : L2N.Takes (cxN P w K mg base N qual sc f cd A outer s0 H0 E) (fun cls d _ H => E cls d H) := L2N.takes_of rfl rfl rfl rfl
/-- what a callee lets out flies on -/
theorem passN : Passes (L2N.CX P w) (cxN P w K mg base N qual sc f cd A outer s0 H0 E) E := L2N.passes_call takesN fun _ _ _ _ h => h
theorem ownN : PassesOwn (model P w) (cxN P w K mg base N qual sc f cd A outer s0 H0 E).A (cxN P w K mg base N qual sc f cd A outer s0 H0 E).env (cxN P w K mg base N qual sc f cd A outer s0 H0 E).xe := L2.passes_of rfl
/-- a def by its body, errors let out -/
theorem ok_N (F : Fun K q qual st f fd) (S : FnScope N ps (defScope st)) (len : ∀ vs H Q E, sp vs H Q E → vs.length = ps.length)
    (body : ∀ (cdv : Value) (A : Around) (outer : List Env) (s : Shared) (H : Hp) (vs : List V) (Q : VK) (E : XK), Room k (A.deeper (envOfC qual (defScope st) s.heap.objs.size f cdv)) → sp vs H Q E →
      ∃ t, PSs (cxN P w K mg base N qual (defScope st) f cdv A outer s H E) (defBody st) t ∧ t { nx := fun _ H' => Q .non H', rt := Q } (start N vs) H) : FnOk P w K mg base (L2N.CX P w) (k + 1) f fd ps sp := by
  obtain ⟨oc, od, kV, doc, pm, an, cdv, ct, osl, e, lk, hcd⟩ := F.ex
  subst e
  exact fn_of lk hcd S len fun A outer s H vs Q E hr h => body cdv A outer s H vs Q E hr h
/-- raise C(e) -/
def tRs (C : Addr) (fld : Str) (E : XK) (ta : TA) : TS := fun _ σ H => ta σ H fun vs H1 => ∃ v, vs = [v] ∧ ∀ d, H1 d = none → E (.ref C) (some d) (upd H1 d (.xd [(fld, v)]))
theorem ps_rs {C fx : Addr} {xq fld prm x : Str} {stx : Stmt} {fdx : FuncData} {ta : TA} {e : Expr} {p pos rpos : Pos} (T : XcT P K mg C fx xq fld prm stx fdx) (hr : Room 2 (cxN P w K mg base N qual sc f cd A outer s0 H0 E).A) (hb : Binds K fdx ["self", prm] []) (hg : Gl (cxN P w K mg base N qual sc f cd A outer s0 H0 E) x) (hm : mg x = some (.ref C))
    (ha : PA (cxN P w K mg base N qual sc f cd A outer s0 H0 E) [e] ta) (ndb : (x == ("__debug__" : Str)) = false := by decide)
    (e1 : starEach [e] (cxN P w K mg base N qual sc f cd A outer s0 H0 E).env = (false, eval e (cxN P w K mg base N qual sc f cd A outer s0 H0 E).env) :: starEach [] (cxN P w K mg base N qual sc f cd A outer s0 H0 E).env := by rfl)
    (e2 : (backTo pos (starEach [] (cxN P w K mg base N qual sc f cd A outer s0 H0 E).env)).any (·.1) = false := by rfl) :
    PS (cxN P w K mg base N qual sc f cd A outer s0 H0 E) (.Raise (some (.Call (.Name x p) [e] [] pos)) none rpos) (tRs C fld E ta) :=
  L2N.ps_raise rfl takesN (pmk_xc (X := cxN P w K mg base N qual sc f cd A outer s0 H0 E) T hr hb hg hm ha ndb e1 e2)
end
/-- one reading or another -/
def tAlt (t u : TE) : TE := fun σ H Q => t σ H Q ∨ u σ H Q
theorem pe_alt {X : Cx} {e : Expr} {t u : TE} (h1 : PE X e t) (h2 : PE X e u) : PE X e (tAlt t u) := ⟨fun pins s σ H Q I h => h.elim (h1.run pins s σ H Q I) (h2.run pins s σ H Q I)⟩
/-- the reading raises C(v), v told by R -/
def EvX (E : XK) (C : Addr) (fld : Str) (r : Rs) (te : TE) (s : L2.St) (S : Hp) (R : V → Hp → Prop) : Prop :=
  ∀ S1 H, Ex S S1 → Wd r S1 H → (∀ d v S2 H2, Wd r S2 H2 → Stp r S1 H S2 H2 → R v S2 → S2 d = some (.xd [(fld, v)]) → E (.ref C) (some d) H2) → ∀ Q, te s H Q
/-- a def that raises: from b, told by pre, an error C(v), v told by val -/
def SpX {B : Type} (C : Addr) (fld : Str) (pre : B → List V → Hp → Prop) (val : B → V → Hp → Prop) : Sp := fun vs H _ E => ∃ (b : B) (S : Hp), pre b vs S ∧ Wd Rs.nil S H ∧ ∀ d v S1 H1, Wd Rs.nil S1 H1 → Stp Rs.nil S H S1 H1 → val b v S1 → S1 d = some (.xd [(fld, v)]) → E (.ref C) (some d) H1
/-- an __init__ that raises -/
abbrev SpXi {B : Type} (C : Addr) (fld : Str) (pre : B → List V → Hp → Prop) (val : B → V → Hp → Prop) : Sp := SpX C fld (fun b vs S => ∃ x us, vs = V.ref x :: us ∧ pre b us S) val
section
variable {r : Rs} {s : L2.St} {S H : Hp} {ta tb te : TE} {t u : TE} {R : V → Hp → Prop} {E : XK} {C : Addr} {fld : Str} {B : Type} {pre : B → List V → Hp → Prop} {val : B → V → Hp → Prop} {dvs vs : List V} {ts : TA} {PA' : List V → Hp → Prop} {D : Ends}
theorem Wd.bare (w : Wd r S H) : Wd Rs.nil S H := ⟨w.ex, True.intro, fun a h => by cases h⟩
theorem EvX.mono {S' : Hp} (h : EvX E C fld r te s S R) (e : Ex S S') : EvX E C fld r te s S' R := fun S1 H e1 w k Q => h S1 H (e.trans e1) w k Q
theorem EvX.imp {R' : V → Hp → Prop} (h : EvX E C fld r te s S R) (k : ∀ v S1, Ex S S1 → R v S1 → R' v S1) : EvX E C fld r te s S R' := fun S1 H e1 w kE Q => h S1 H e1 w (fun d v S2 H2 w2 s2 hv hd => kE d v S2 H2 w2 s2 (k v S2 (e1.trans s2.ex) hv) hd) Q
theorem ex_altR (h : EvX E C fld r u s S R) : EvX E C fld r (tAlt t u) s S R := fun S1 H e w k Q => .inr (h S1 H e w k Q)
theorem ex_altL (h : EvX E C fld r t s S R) : EvX E C fld r (tAlt t u) s S R := fun S1 H e w k Q => .inl (h S1 H e w k Q)
theorem ev_altL (h : EvS r t s S R) : EvS r (tAlt t u) s S R := fun S1 H e w Q q => .inl (h S1 H e w Q q)
theorem ex_call (h : EvAS r ts s S PA') (hp : ∀ us S1, Ex S S1 → PA' us S1 → ∃ b, pre b (us ++ dvs) S1 ∧ ∀ v S2, Ex S1 S2 → val b v S2 → R v S2) : EvX E C fld r (tCall (SpX C fld pre val) dvs E ts) s S R := fun S1 H e w k Q =>
  h S1 H e w _ fun us S2 H2 w2 s2 p => by
    obtain ⟨b, p1, p2⟩ := hp us S2 (e.trans s2.ex) p
    exact ⟨b, S2, p1, w2.bare, fun d v S3 H3 w3 s3 hv hd => k d v S3 H3 (w2.lift w3 s3) (s2.trans s3.lift) (p2 v S3 s3.ex hv) hd⟩
theorem vx_call (b : B) (h : EvAV r ts s S vs) (hp : ∀ S1, Ex S S1 → pre b (vs ++ dvs) S1) (hq : ∀ v S2, Ex S S2 → val b v S2 → R v S2) : EvX E C fld r (tCall (SpX C fld pre val) dvs E ts) s S R :=
  ex_call h fun us S1 e eu => ⟨b, by rw [show us = vs from eu]; exact hp S1 e, fun v S2 e2 hv => hq v S2 (e.trans e2) hv⟩
theorem ex_make {C' : Addr} (h : EvAS r ts s S PA') (hp : ∀ us S1, Ex S S1 → PA' us S1 → ∃ b, pre b (us ++ dvs) S1 ∧ ∀ v S2, Ex S1 S2 → val b v S2 → R v S2) : EvX E C fld r (tMake C' (SpXi C fld pre val) dvs E ts) s S R := fun S1 H e w k Q =>
  h S1 H e w _ fun us S2 H2 w2 s2 p x dx hx hdx ne => by
    obtain ⟨b, p1, p2⟩ := hp us S2 (e.trans s2.ex) p
    have hx1 : (upd H2 dx (.own x)) x = none := by
      rw [upd_ne ne.symm]
      exact hx
    have w3 : Wd r S2 (upd (upd H2 dx (.own x)) x (.ins C' dx [])) := (w2.new hdx).new hx1
    have s3 : Stp r S2 H2 S2 (upd (upd H2 dx (.own x)) x (.ins C' dx [])) := (Stp.new hdx).trans (Stp.new hx1)
    exact ⟨b, S2, ⟨x, _, rfl, p1⟩, w3.bare, fun d v S4 H4 w4 s4 hv hd => k d v S4 H4 (w3.lift w4 s4) ((s2.trans s3).trans s4.lift) (p2 v S4 s4.ex hv) hd⟩
theorem ex_meth {C' : Addr} {mn : Str} {Q1 : V → Hp → Prop} (h : EvS r te s S Q1) (h2 : EvAV r ts s S vs)
    (hp : ∀ x S1 S2, Ex S S1 → Q1 x S1 → Ex S1 S2 → ∃ a dx fs, x = .ref a ∧ S1 a = some (.ins C' dx fs) ∧ fs.lookup mn = none ∧ ∃ b, pre b (x :: vs) S2 ∧ ∀ v S3, Ex S2 S3 → val b v S3 → R v S3) : EvX E C fld r (tMeth C' mn (SpX C fld pre val) [] E te ts) s S R := fun S1 H e w k Q =>
  h S1 H e w _ fun x S2 H2 w2 s2 hx => by
    obtain ⟨a, dx, fs, e1, e2, e3, _⟩ := hp x S2 S2 (e.trans s2.ex) hx (Ex.refl _)
    subst e1
    refine ⟨a, dx, fs, rfl, w2.ex _ _ e2, e3, h2 S2 H2 (e.trans s2.ex) w2 _ fun us S3 H3 w3 s3 eu => ?_⟩
    obtain ⟨a', dx', fs', e1', e2', e3', b, p1, p2⟩ := hp (.ref a) S2 S3 (e.trans s2.ex) hx s3.ex
    subst eu
    exact ⟨b, S3, by rw [List.append_nil]; exact p1, w3.bare, fun v d4 S4 H4 w4 s4 hv hd => k v d4 S4 H4 (w3.lift w4 s4) ((s2.trans s3).trans s4.lift) (p2 d4 S4 s4.ex hv) hd⟩
/-! statements -/
theorem st_rs {ts : TA} (h : EvAS r ts s S fun us S1 => ∃ v, us = [v] ∧ R v S1) (w : Wd r S H) (hR : ∀ v S1 S2, Ex S1 S2 → R v S1 → R v S2) (k : ∀ d v S1 H1, Wd r S1 H1 → Stp r S H S1 H1 → R v S1 → S1 d = some (.xd [(fld, v)]) → E (.ref C) (some d) H1) : tRs C fld E ts D s H :=
  h S H (Ex.refl S) w _ fun us S1 H1 w1 s1 ⟨v, eu, hv⟩ => ⟨v, eu, fun d hd => k d v (upd S1 d (.xd [(fld, v)])) _ (w1.newS hd) (s1.trans (Stp.newS w1 hd)) (hR v _ _ (Ex.new (w1.fresh hd)) hv) upd_same⟩
/-- raise C(x), x a known value -/
theorem st_rsV {ts : TA} {v : V} (h : EvAV r ts s S [v]) (w : Wd r S H) (k : ∀ d v' S1 H1, Wd r S1 H1 → Stp r S H S1 H1 → v' = v → S1 d = some (.xd [(fld, v')]) → E (.ref C) (some d) H1) : tRs C fld E ts D s H :=
  st_rs (R := fun v' _ => v' = v) (EvAS.imp' h fun us S1 _ e => ⟨v, e, rfl⟩) w (fun _ _ _ _ h => h) k
theorem st_retX (h : EvX E C fld r te s S R) (w : Wd r S H) (k : ∀ d v S1 H1, Wd r S1 H1 → Stp r S H S1 H1 → R v S1 → S1 d = some (.xd [(fld, v)]) → E (.ref C) (some d) H1) : tRet te D s H := h S H (Ex.refl S) w k _
theorem st_dropX (h : EvX E C fld r te s S R) (w : Wd r S H) (k : ∀ d v S1 H1, Wd r S1 H1 → Stp r S H S1 H1 → R v S1 → S1 d = some (.xd [(fld, v)]) → E (.ref C) (some d) H1) : tDrop te D s H := h S H (Ex.refl S) w k _
theorem st_asgX {g : TG} (h : EvX E C fld r te s S R) (w : Wd r S H) (k : ∀ d v S1 H1, Wd r S1 H1 → Stp r S H S1 H1 → R v S1 → S1 d = some (.xd [(fld, v)]) → E (.ref C) (some d) H1) : tAsg te g D s H := h S H (Ex.refl S) w k _
end
end J

set_option pp.maxSteps 3000
/-! J23: x(lambda: e), where e may raise, and x works where no repr runs. -/
namespace J
open PySem PySem.Spec PyProof.Rows L2 Evl RZ LamX
/-- a table grown by a new code object -/
theorem tabs_grow {T : List (Addr × Str)} {H : Hp} {P c : Addr} {q : Str} {ps : Array Value} {pos : Pos} (hT : Tabs T H) (hP : H P = some (.tbl ps)) (hu : ∀ y ∈ T, y.1 = P → y.2 = q) (hq : (P, q) ∈ T) (nc : H c = none) :
    Tabs T (upd (upd H P (.tbl (ps ++ #[rawInt pos.line, rawInt pos.col, .ref c]))) c (CodeO c q)) := by
  have kp : ∀ b o, b ≠ P → H b = some o → upd (upd H P (.tbl (ps ++ #[rawInt pos.line, rawInt pos.col, .ref c]))) c (CodeO c q) b = some o := fun b o hb e => by
    rw [upd_ne (ne_of_none e nc), upd_ne hb]
    exact e
  have atC : ∀ {b : Addr} {z : Str}, H b = some (CodeO b z) → upd (upd H P (.tbl (ps ++ #[rawInt pos.line, rawInt pos.col, .ref c]))) c (CodeO c q) b = some (CodeO b z) := fun {b z} e =>
    kp b _ (fun y => codeO_ne ps (Option.some.inj (e.symm.trans (by rw [y]; exact hP)))) e
  obtain ⟨ps0, g1, g2, g3⟩ := hT _ hq
  obtain rfl : ps0 = ps := by
    have z := g1.symm.trans hP
    cases z
    rfl
  have ls : (ps0 ++ #[rawInt pos.line, rawInt pos.col, .ref c]).toList = ps0.toList ++ [rawInt pos.line, rawInt pos.col, .ref c] := by simp
  intro y hy
  by_cases e : y.1 = P
  · rw [hu y hy e, e]
    refine ⟨_, by rw [upd_ne (ne_of_none hP nc), upd_same], by rw [ls]; exact PySem.TriplesOk_snoc _ _ _ _ g2, fun p2 cv hcv => ?_⟩
    rw [ls] at hcv
    rcases among_app _ g2 hcv with z | z
    · obtain ⟨c0, k1, k2⟩ := g3 p2 cv z
      exact ⟨c0, k1, atC k2⟩
    · exact ⟨c, z, upd_same⟩
  · obtain ⟨qs, k1, k2, k3⟩ := hT y hy
    refine ⟨qs, kp _ _ e k1, k2, fun p2 cv hcv => ?_⟩
    obtain ⟨c0, m1, m2⟩ := k3 p2 cv hcv
    exact ⟨c0, m1, atC m2⟩
section
variable {X : Cx} {pins : List (Addr × Obj)} {σ : L2.St} {H : Hp} {s : Shared}
/-- a lambda is made: of what is tracked nothing but the table at P changes -/
theorem lam_mk {T : List (Addr × Str)} {c P : Addr} {params : Arguments} {body : Expr} {sc : Scope} {pos : Pos} {E : Value → Shared → Prop} {Q : Value → Shared → Prop} (I : Inv X pins σ H s) (TB : TabB X.base X.mg c P) (hcode : X.env.code = .ref c)
    (hq : (P, X.env.qual ++ "<lambda>") ∈ T) (hu : ∀ y ∈ T, y.1 = P → y.2 = X.env.qual ++ "<lambda>") (hT : Tabs T H) (hdef : defaultsOf params X.env = ([], [])) (hfree : ∀ y ∈ sc.names, y.2 = .free → ∃ c, X.env.cells.lookup y.1 = some c)
    (k : ∀ (f c1 : Addr) (pm ctv : Value) (H1 : Hp) (s1 : Shared), Inv X pins σ H1 s1 → (∀ b o, b ≠ P → H b = some o → H1 b = some o) → Tabs T H1 → s1.heap.get? f = some (PySem.W.kla_obj "<lambda>" (X.env.qual ++ "<lambda>") params body sc (cloFrom X.env.cells sc.names []) pm c1 ctv) →
      H1 f = none → f ∉ frs X.stack → H1 c1 = some (CodeO c1 (X.env.qual ++ "<lambda>")) → Q (.ref f) s1) : wpAny (model X.prog X.w) X.A (eval (.Lambda params body sc pos) X.env) Q E s := by
  obtain ⟨ps, hP, tri, known⟩ := hT _ hq
  have atP : s.heap.get? P = some { cls := .none, data := .fields ps } := I.hok P _ hP
  have apart : ∀ f, s.heap.objs.size ≤ f → f ∉ frs X.stack := fun f hf z => (List.mem_cons.mp (I.stkSub _ z)).elim (fun e => by
    have lt := I.lt
    rw [← e] at lt
    exact Nat.lt_irrefl _ (Nat.lt_of_lt_of_le lt hf)) (I.nofs hf)
  have clo := closure_ok hfree
  have glb : X.base.Ns mainGlobals X.mg → s.heap.Ns mainGlobals X.mg := fun z => z.keeps I.bk
  have head := TB.code.keeps I.bk
  have blt : s.heap.BuiltinsAt X.mg P := TB.bm.keeps I.bk
  refine PySem.W.kla_eval hdef ?_
  match hc : codeAmong pos ps.toList with
  | some cv =>
    obtain ⟨c1, rfl, at1⟩ := known pos cv hc
    refine PySem.W.kla_makeFunctionHit (mg := X.mg) (c := c) (P := P) (ps := ps) clo I.ok.glob (glb I.mod.glob) hcode head atP tri hc blt fun ctv h1 tk kp sz => ?_
    have J1 : Inv X pins σ H { s with heap := h1.push (PySem.W.kla_obj "<lambda>" (X.env.qual ++ "<lambda>") params body sc (cloFrom X.env.cells sc.names []) ((X.mg "__name__").getD .none) c1 ctv), toks := tk } := I.kept fun b o e => Heap.get?_push_of_some _ (kp b o e)
    exact k _ _ _ _ H _ J1 (fun _ _ _ e => e) hT (Heap.get?_push_size _ rfl) (I.hok.fresh sz) (apart _ sz) at1
  | none =>
    refine PySem.W.kla_makeFunction (mg := X.mg) (c := c) (P := P) (ps := ps) clo I.ok.glob (glb I.mod.glob) hcode head atP tri hc TB.gP blt fun c1 ctv h1 tk kp ge lt rec_ tab => ?_
    obtain ⟨c2, oc, vs, t, e2, k1, k2, k3⟩ := rec_
    cases e2
    have sz : s.heap.objs.size ≤ h1.objs.size := by omega
    have nc : H c1 = none := I.hok.fresh ge
    have J1 := inv_table (t' := tk) (more := #[rawInt pos.line, rawInt pos.col, .ref c1]) (h' := h1.push (PySem.W.kla_obj "<lambda>" (X.env.qual ++ "<lambda>") params body sc (cloFrom X.env.cells sc.names []) ((X.mg "__name__").getD .none) c1 ctv)) I hP
      (fun b o hb e => Heap.get?_push_of_some _ (kp b o hb e)) (Heap.get?_push_of_some _ tab) ge ⟨oc, vs, t, Heap.get?_push_of_some _ k1, k2, k3⟩
    refine k h1.objs.size c1 _ ctv _ _ J1 (fun b o hb e => ?_) (tabs_grow hT hP hu hq nc) (Heap.get?_push_size _ rfl) ?_ (apart _ sz) upd_same
    · rw [upd_ne (ne_of_none e nc), upd_ne hb]
      exact e
    · rw [upd_ne (show h1.objs.size ≠ c1 by omega), upd_ne (show h1.objs.size ≠ P from Nat.ne_of_gt (Nat.lt_of_lt_of_le (Heap.lt_size atP) sz))]
      exact I.hok.fresh sz
end
/-- the reading of x(lambda: e): the table at P may grow -/
def tLm (P : Addr) (T : List (Addr × Str)) (TT : (XK → Hp → VK → Prop) → Hp → VK → Prop) (t : XK → TE) : TE := fun σ H Q => Tabs T H ∧ ∀ H1, (∀ b o, b ≠ P → H b = some o → H1 b = some o) → Tabs T H1 → TT (fun E H' Q' => t E σ H' Q') H1 Q
/-- where the lambda's body runs: errors let out know no context -/
abbrev lamN (X : Cx) (A : Around) (outer : List Env) (s : Shared) (H : Hp) (E : XK) (sc : Scope) (f c : Addr) : Cx :=
  (lamCx X A outer s H E sc f c).wish fun e s1 => wpAny (model X.prog X.w) (A.deeper (lamEnv X sc s.heap.objs.size f c)) (leaving (lamEnv X sc s.heap.objs.size f c) e) (fun _ s2 => L2N.CX X.prog X.w outer H s E e s2) (fun e2 s2 => L2N.CX X.prog X.w outer H s E e2 s2) s1
section
variable {X : Cx} {pins : List (Addr × Obj)} {σ : L2.St} {H HZ : Hp} {s s1 : Shared} {A : Around} {outer : List Env} {E : XK} {sc : Scope} {f c : Addr}
theorem lamN_takes : L2N.Takes (lamN X A outer s H E sc f c) (fun cls d _ H => E cls d H) := L2N.takes_of rfl rfl rfl rfl
theorem lamN_pass : Passes (L2N.CX X.prog X.w) (lamN X A outer s H E sc f c) E := L2N.passes_call lamN_takes fun _ _ _ _ h => h
theorem lamN_own : PassesOwn (model X.prog X.w) (lamN X A outer s H E sc f c).A (lamN X A outer s H E sc f c).env (lamN X A outer s H E sc f c).xe := L2.passes_of rfl
/-- the lambda made in X at s is called at s1 -/
theorem lamN_go {k : Nat} {params : Arguments} {body : Expr} {pm ctv : Value} {Q : VK} {tb : TE} (I : Inv X pins σ H s) (L : LamS X.env.scope sc) (e0 : Env0 X.prog X.w X.K X.mg X.base A outer s1 HZ) (un : Un (frs X.stack) [] H HZ s.heap s1.heap) (lim : s1.heap.NoLimit)
    (hf : s1.heap.get? f = some (PySem.W.kla_obj "<lambda>" (X.env.qual ++ "<lambda>") params body sc (cloFrom X.env.cells sc.names []) pm c ctv)) (hc : HZ c = some (CodeO c (X.env.qual ++ "<lambda>")))
    (hbind : bindArgs (PySem.W.kla_fn "<lambda>" (X.env.qual ++ "<lambda>") params body sc (cloFrom X.env.cells sc.names []) pm (.ref c) ctv) ⟨[], []⟩ = pure []) (hr : Room (k + 1) A)
    (hbody : Room k (A.deeper (lamEnv X sc s1.heap.objs.size f c)) → PE (lamN X A outer s1 HZ E sc f c) body tb) (h : tb σ HZ Q) :
    codeAny (model X.prog X.w) A (.call (.ref f) ⟨[], []⟩) (CR (L2N.CX X.prog X.w) outer X.prog X.w HZ s1 Q E) s1 := by
  obtain ⟨⟨oc, vs, tk, co, cd, cn⟩, _⟩ := e0.hok c _ hc
  refine PySem.W.kla_callFunE hr.depth hf rfl L.co L.gen rfl ⟨c, oc, vs, tk, rfl, co, cd, cn⟩ ?_
  rw [hbind]
  refine wpAny_pure (wpAny_newFunctionEnv (fun y hy => (L.own y hy).2) (fun y hy => (by cases hy)) (fun h1 hns hsb => ⟨lim.fresh _ hsb, ?_⟩) L.kind)
  have kp : ∀ b o, s1.heap.get? b = some o → h1.get? b = some o := fun b o e => hsb.extBut b o (Nat.ne_of_lt (Heap.lt_size e)) (Heap.get?_push_of_some _ e)
  have J0 := (lam_start2 (E := E) (f := f) (c' := c) (tk := s1.toks + ([] : List (Str × Value)).length) I L e0 hr.hd un hns kp).wish (lamN X A outer s1 HZ E sc f c).xe
  show codeAny _ _ (.expr body (lamEnv X sc s1.heap.objs.size f c)) _ _
  exact PySem.W.kla_codeExpr (wpAny_mono ((hbody (hr.deeper _)).run [] _ _ HZ Q J0 h) (fun v s2 ⟨u, H2, J2, rv, q2⟩ => ⟨u, H2, J2.os, J2.bare, J2.base, J2.hok, rv, q2⟩) fun _ _ hq => hq)
end
/-- the context of the def g that X hands the lambda -/
abbrev cxG (X : Cx) (N : List Str) (x : Str) (sg : Scope) (g : Addr) (cdg : Value) (s : Shared) (H : Hp) : Cx := cxOf CX0 X.prog X.w X.K X.mg X.base N x sg g cdg X.A X.stack s H E0
/-- what g does with the lambda that it gets as a: TT, of the lambda's reading -/
def Gives (X : Cx) (j : Nat) (N : List Str) (x a : Str) (sg : Scope) (g : Addr) (cdg : Value) (bg : List Stmt) (q : Str) (TT : (XK → Hp → VK → Prop) → Hp → VK → Prop) : Prop :=
  ∀ (f c : Addr) (s : Shared) (H : Hp) (Q : VK) (tl : XK → Hp → VK → Prop), Room j (X.A.deeper (envOfC x sg s.heap.objs.size g cdg)) →
    (∀ (W : WX) (pn : List (Addr × Obj)) (xe : Value → Shared → Prop) (E : XK) (p1 p2 : Pos), L2N.Takes ((cxG X N x sg g cdg s H).tr pn xe) W → (∀ cls d σ' H', E cls d H' → W cls d σ' H') →
      PE ((cxG X N x sg g cdg s H).tr pn xe) (.Call (.Name a p1) [] [] p2) (fun σ1 H1 Q1 => σ1[0]? = some (some (.ref f)) ∧ H1 c = some (CodeO c q) ∧ tl E H1 Q1)) →
    H c = some (CodeO c q) → TT tl H Q → ∃ t, PSs (cxG X N x sg g cdg s H).nox bg t ∧ t { nx := fun _ H' => Q .non H', rt := Q } (L2.start N [.ref f]) H
section
variable {X : Cx} {pins : List (Addr × Obj)} {σ : L2.St} {H : Hp} {s : Shared}
/-- a() in g -/
theorem pe_actN {N : List Str} {qg a : Str} {sg : Scope} {g f c : Addr} {cdg pm ctv : Value} {params : Arguments} {body : Expr} {sc : Scope} {k : Nat} {pn : List (Addr × Obj)} {xe : Value → Shared → Prop} {W : WX} {E : XK} {tb : TE} {p1 p2 : Pos}
    (I : Inv X pins σ H s) (L : LamS X.env.scope sc) (hf : s.heap.get? f = some (PySem.W.kla_obj "<lambda>" (X.env.qual ++ "<lambda>") params body sc (cloFrom X.env.cells sc.names []) pm c ctv)) (nf : H f = none) (ns : f ∉ frs X.stack)
    (hbind : bindArgs (PySem.W.kla_fn "<lambda>" (X.env.qual ++ "<lambda>") params body sc (cloFrom X.env.cells sc.names []) pm (.ref c) ctv) ⟨[], []⟩ = pure [])
    (tk : L2N.Takes ((cxG X N qg sg g cdg s H).tr pn xe) W) (hW : ∀ cls d σ' H', E cls d H' → W cls d σ' H') (hr : Room (k + 1) (X.A.deeper (envOfC qg sg s.heap.objs.size g cdg)))
    (hbody : ∀ (A : Around) (outer : List Env) (s : Shared) (H : Hp), Room k (A.deeper (lamEnv X sc s.heap.objs.size f c)) → PE (lamN X A outer s H E sc f c) body tb)
    (hN : N[0]? = some a) (hv : Vis sg a) (hd : (a == ("__debug__" : Str)) = false) (hcd : (a == ("__classdict__" : Str)) = false) :
    PE ((cxG X N qg sg g cdg s H).tr pn xe) (.Call (.Name a p1) [] [] p2) (fun σ1 H1 Q => σ1[0]? = some (some (.ref f)) ∧ H1 c = some (CodeO c (X.env.qual ++ "<lambda>")) ∧ tb σ H1 Q) := by
  refine ⟨fun pinsZ s1 σ1 H1 Q I1 ⟨e1, e2, ht⟩ => ?_⟩
  refine wpAny_Call_Name_kw (thn ((pe_var (pos := p1) (i := 0) hN hv hd hcd).run pinsZ s1 σ1 H1 (fun v H2 => v = .ref f ∧ H2 = H1) I1 ⟨.ref f, e1, rfl, rfl⟩) fun u s2 ⟨v, H2, I2, rv, ev, eH⟩ => ?_)
  subst ev
  subst eH
  obtain rfl : u = Value.ref f := rv
  have of2 := I2.base.keep f _ hf nf ns (fun z => nomatch (show f ∈ ([] : List Addr) from z))
  have un : Un (frs X.stack) [] H H2 s.heap s2.heap := I2.base
  have e0 : Env0 X.prog X.w X.K X.mg X.base (X.A.deeper (envOfC qg sg s.heap.objs.size g cdg)) (envOfC qg sg s.heap.objs.size g cdg :: X.stack) s2 H2 := I2.env0
  have rc : codeAny (model X.prog X.w) (X.A.deeper (envOfC qg sg s.heap.objs.size g cdg)) (.call (.ref f) ⟨[], []⟩) (CR (L2N.CX X.prog X.w) (envOfC qg sg s.heap.objs.size g cdg :: X.stack) X.prog X.w H2 s2 Q E) s2 :=
    lamN_go (X := X) (tb := tb) I L e0 un I2.nolimit of2 e2 hbind hr (hbody _ _ s2 H2) ht
  refine PySem.W.callWith_F0 ⟨_, _, _, _, of2⟩ (wpAny_call (codeAny_mono rc fun res s3 hq => ?_))
  match res, hq with
  | .error e, z => exact L2N.passes_call tk hW pinsZ σ1 H2 s2 e s3 I2 z
  | .ok (.ret _), z => exact I2.after z
  | .ok .next, z => exact z.elim
  | .ok .brk, z => exact z.elim
  | .ok .cont, z => exact z.elim
/-- x(lambda: body) -/
theorem pe_lamN {T : List (Addr × Str)} {TT : (XK → Hp → VK → Prop) → Hp → VK → Prop} {x a : Str} {g c P : Addr} {k : Nat} {st : Stmt} {fd : FuncData} {N : List Str} {params : Arguments} {body : Expr} {sc : Scope} {t : XK → TE} {p lpos pos : Pos}
    (F : Fun X.K x x st g fd) (hb : L2.Binds X.K fd [a] []) (Sg : FnScope N [a] (defScope st)) (hG : ∀ cdg, Gives X (k + 1) N x a (defScope st) g cdg (defBody st) (X.env.qual ++ "<lambda>") TT) (hr : Room (k + 2) X.A) (hg : Gl X x) (hm : X.mg x = some (.ref g))
    (TB : TabB X.base X.mg c P) (hcode : X.env.code = .ref c) (hT : (P, X.env.qual ++ "<lambda>") ∈ T) (hu : ∀ y ∈ T, y.1 = P → y.2 = X.env.qual ++ "<lambda>") (L : LamS X.env.scope sc)
    (hbody : ∀ (A : Around) (outer : List Env) (s : Shared) (H : Hp) (E : XK) (f c' : Addr), Room k (A.deeper (lamEnv X sc s.heap.objs.size f c')) → PE (lamN X A outer s H E sc f c') body (t E))
    (hbind : ∀ (q : Str) (cl : List (Str × Addr)) (pm cv ctv : Value), bindArgs (PySem.W.kla_fn "<lambda>" q params body sc cl pm cv ctv) ⟨[], []⟩ = pure [] := by exact fun _ _ _ _ _ => rfl) (hdef : defaultsOf params X.env = ([], []) := by rfl)
    (hN : N[0]? = some a := by rfl) (hv : Vis (defScope st) a := by exact Or.inl rfl) (hdb : (x == ("__debug__" : Str)) = false := by decide) (hd : (a == ("__debug__" : Str)) = false := by decide) (hcd : (a == ("__classdict__" : Str)) = false := by decide) :
    PE X (.Call (.Name x p) [.Lambda params body sc lpos] [] pos) (tLm P T TT t) := by
  have kp := F.kp
  obtain ⟨oc, od, kV, doc, pm0, an, cdv, ct, osl, e, lk, hcg⟩ := F.ex
  subst e
  refine ⟨fun pins s σ H Q I ⟨hTs, h⟩ => wpAny_Call_Name_kw (ld_glob I hg hm ?_ hdb)⟩
  refine PySem.W.callWith_K (h₀ := X.base) I.ok.mod.kin kp ?_ (by rfl) (by rfl)
  show wpAny _ _ (spliced ((false, eval (.Lambda params body sc lpos) X.env) :: backTo pos (starEach [] X.env))) _ _ s
  refine Calls.spliced_cons (lam_mk I TB hcode hT hu hTs hdef (L.has I.ok) fun f c' pm ctv H1 s1 I1 eN T1 hf nf ns hco => Calls.spliced_nil ⟨I1.kIn, ?_⟩)
  have run : codeAny (model X.prog X.w) X.A (.call (.ref g) ⟨[.ref f], []⟩) (CR CX0 X.stack X.prog X.w H1 s1 Q E0) s1 :=
    run_ofS (N := N) (ps := [a]) (us := [.ref f]) (vs := [.ref f]) lk hcg Sg hr I1.env0 (hb s1 [.ref f] I1.kIn rfl) (.cons rfl .nil) rfl fun hr1 => by
      obtain ⟨t', ht', hq'⟩ := hG cdv f c' s1 H1 Q (fun E H' Q' => t E σ H' Q') hr1 (fun W pn xe E p1 p2 tk hW => pe_actN (a := a) I1 L hf nf ns (hbind _ _ _ _ _) tk hW hr1 (fun A outer s H hr2 => hbody A outer s H E f c' hr2) hN hv hd hcd) hco (h H1 eN T1)
      exact ⟨t', ht'.nox, hq'⟩
  refine wpAny_call (codeAny_mono run fun res s2 hq => ?_)
  match res, hq with
  | .error _, z => exact z.elim
  | .ok (.ret _), z => exact I1.after z
  | .ok .next, z => exact z.elim
  | .ok .brk, z => exact z.elim
  | .ok .cont, z => exact z.elim
end
end J

set_option pp.maxSteps 3000
/-! J24: the tables of code objects as part of a resource. -/
namespace J
open PySem PySem.Spec PyProof.Rows L2 Evl RZ LamX
theorem Tabs.keep {T : List (Addr × Str)} {H H' : Hp} (t : Tabs T H) (k : ∀ y ∈ T, ∀ o, H y.1 = some o → H' y.1 = some o) (kc : CoK H H') : Tabs T H' := fun y hy => by
  obtain ⟨ps, h1, h2, h3⟩ := t y hy
  refine ⟨ps, k y hy _ h1, h2, fun pos cv h => ?_⟩
  obtain ⟨c, e1, e2⟩ := h3 pos cv h
  exact ⟨c, e1, kc _ _ e2⟩
/-- r, and the tables of T -/
def Rs.tabs (r : Rs) (T : List (Addr × Str)) : Rs := ⟨T.map Prod.fst ++ r.M, fun H => r.I H ∧ Tabs T H, fun H H' k kc h => ⟨r.mono H H' (fun a o ha e => k a o (List.mem_append_right _ ha) e) kc h.1, Tabs.keep h.2 (fun y hy o e => k y.1 o (List.mem_append_left _ (List.mem_map.mpr ⟨y, hy, rfl⟩)) e) kc⟩, fun H h a ha => by
  rcases List.mem_append.mp ha with ha | ha
  · obtain ⟨y, hy, rfl⟩ := List.mem_map.mp ha
    obtain ⟨ps, h1, _⟩ := h.2 y hy
    exact ne_none h1
  · exact r.has H h.1 a ha⟩
/-- nothing of r is a code object or a table -/
class Rs.Plain (r : Rs) : Prop where
  co : ∀ H, r.I H → ∀ a, a ∈ r.M → ∀ q, H a ≠ some (CodeO a q)
  tb : ∀ H, r.I H → ∀ a, a ∈ r.M → ∀ ps, H a ≠ some (.tbl ps)
instance : Rs.Plain Rs.nil := ⟨fun _ _ a h => (by cases h), fun _ _ a h => (by cases h)⟩
instance {p c : Addr} : Rs.Plain (srcR p c) := by
  refine ⟨fun H h a ha => ?_, fun H h a ha ps z => ?_⟩ <;> obtain ⟨cs, pos, big, seed, h⟩ := h <;> have ha : a ∈ [p, c] := ha <;> rcases List.mem_cons.mp ha with rfl | ha
  · exact nco_lst h.hp
  · rw [List.mem_singleton.mp ha]
    exact nco_lst h.hc
  · rw [h.hp] at z
    cases z
  · rw [List.mem_singleton.mp ha, h.hc] at z
    cases z
section
variable {r : Rs} {T : List (Addr × Str)} {S H S1 H1 S2 H2 : Hp} {s : L2.St} {te : TE} {ts : TA} {R : V → Hp → Prop} {RN : HO → Hp → Prop} {RA : List V → Hp → Prop}
theorem Wd.untab (w : Wd (r.tabs T) S H) : Wd r S H := ⟨w.ex, w.inv.1, fun a ha => w.dj a (List.mem_append_right _ ha)⟩
theorem Wd.tab [p : Rs.Plain r] (w : Wd (r.tabs T) S H) (w2 : Wd r S2 H2) (s2 : Stp r S H S2 H2) : Wd (r.tabs T) S2 H2 := by
  have apart : ∀ y ∈ T, y.1 ∉ r.M := fun y hy z => by
    obtain ⟨ps, h1, _⟩ := w.inv.2 y hy
    exact p.tb H w.inv.1 _ z ps h1
  refine ⟨w2.ex, ⟨w2.inv, Tabs.keep w.inv.2 (fun y hy o e => s2.kp _ o (apart y hy) e) fun a q e => s2.kp a _ (fun z => p.co H w.inv.1 a z q e) e⟩, fun a ha => ?_⟩
  rcases List.mem_append.mp ha with ha | ha
  · obtain ⟨y, hy, rfl⟩ := List.mem_map.mp ha
    obtain ⟨ps, h1, _⟩ := w.inv.2 y hy
    exact s2.fr _ (ne_none h1) (w.dj _ (List.mem_append_left _ (List.mem_map.mpr ⟨y, hy, rfl⟩)))
  · exact w2.dj a ha
theorem Stp.tab (s2 : Stp r S H S2 H2) : Stp (r.tabs T) S H S2 H2 := ⟨s2.ex, fun a o n e => s2.kp a o (fun z => n (List.mem_append_right _ z)) e, s2.fr, s2.dm⟩
/-- what works with r works with the tables beside it -/
theorem EvS.tab [Rs.Plain r] (h : EvS r te s S R) : EvS (r.tabs T) te s S R := fun S1 H e w Q q => h S1 H e w.untab Q fun v S2 H2 w2 s2 hv => q v S2 H2 (w.tab w2 s2) s2.tab hv
theorem EvN.tab [Rs.Plain r] (h : EvN r te s S RN) : EvN (r.tabs T) te s S RN := fun S1 H e w Q q => h S1 H e w.untab Q fun p o S2 H2 h1 h2 h3 w2 s2 hv => q p o S2 H2 h1 h2 h3 (w.tab w2 s2) s2.tab hv
theorem EvAS.tab [Rs.Plain r] (h : EvAS r ts s S RA) : EvAS (r.tabs T) ts s S RA := fun S1 H e w Q q => h S1 H e w.untab Q fun v S2 H2 w2 s2 hv => q v S2 H2 (w.tab w2 s2) s2.tab hv
theorem EvX.tab [Rs.Plain r] {E : XK} {C : Addr} {fld : Str} (h : EvX E C fld r te s S R) : EvX E C fld (r.tabs T) te s S R := fun S1 H e w k Q => h S1 H e w.untab (fun d v S2 H2 w2 s2 hv hd => k d v S2 H2 (w.tab w2 s2) s2.tab hv hd) Q
/-- the table at P grew -/
theorem Wd.grown [p : Rs.Plain r] {P : Addr} {q : Str} (hP : (P, q) ∈ T) (w : Wd (r.tabs T) S H) (k : ∀ b o, b ≠ P → H b = some o → H1 b = some o) (t : Tabs T H1) : Wd (r.tabs T) S H1 ∧ Stp (r.tabs T) S H S H1 := by
  have mP : P ∈ (r.tabs T).M := List.mem_append_left _ (List.mem_map.mpr ⟨_, hP, rfl⟩)
  obtain ⟨ps, h1, _⟩ := w.inv.2 _ hP
  have h1 : H P = some (.tbl ps) := h1
  obtain ⟨qs, h2, _⟩ := t _ hP
  have h2 : H1 P = some (.tbl qs) := h2
  refine ⟨⟨fun a o e => k a o (fun z => ?_) (w.ex a o e), ⟨r.mono H H1 (fun a o ha e => k a o (fun z => p.tb H w.inv.1 a ha ps (by rw [z]; exact h1)) e) (fun a q e => k a _ (fun z => ?_) e) w.inv.1, t⟩, w.dj⟩, Ex.refl S, fun a o n e => k a o (fun z => n (by rw [z]; exact mP)) e, fun _ _ e => e, fun a q z => ?_⟩
  · rw [z, w.dj P mP] at e
    cases e
  · rw [z, h1] at e
    unfold CodeO at e
    cases e
  · by_cases e : a = P
    · rw [e, h2] at z
      cases z
    · cases u : H a with
      | none => exact q u
      | some o =>
        rw [k a o e u] at z
        cases z
theorem ev_lam [Rs.Plain r] {P : Addr} {q : Str} {TT : (XK → Hp → VK → Prop) → Hp → VK → Prop} {t : XK → TE} (hP : (P, q) ∈ T)
    (h : ∀ S1 H1, Ex S S1 → Wd (r.tabs T) S1 H1 → ∀ Q : VK, (∀ v S2 H2, Wd (r.tabs T) S2 H2 → Stp (r.tabs T) S1 H1 S2 H2 → R v S2 → Q v H2) → TT (fun E H' Q' => t E s H' Q') H1 Q) : EvS (r.tabs T) (tLm P T TT t) s S R := fun S1 H e w Q q =>
  ⟨w.inv.2, fun H1 k t1 => by
    obtain ⟨w1, s1⟩ := w.grown hP k t1
    exact h S1 H1 e w1 Q fun v S2 H2 w2 s2 hv => q v S2 H2 w2 (s1.trans s2) hv⟩
end
/-- try: a() / except R as e: return [kind of e, repr of its value] / return None: kd C z: z is the kind of C -/
def TTw (K : PySem.W.Frag) (kd : Addr → Str → Prop) : (XK → Hp → VK → Prop) → Hp → VK → Prop := fun tl H Q =>
  tl (fun cls d H' => ∃ (C dd : Addr) (v : V) (D : PyData) (z : Str) (S : Hp), cls = .ref C ∧ d = some dd ∧ kd C z ∧ Ex S H' ∧ S dd = some (.xd [("value", v)]) ∧ DE K S v D ∧ Shw D ∧ ∀ u S1 H1, Wd Rs.nil S1 H1 → Stp Rs.nil S H' S1 H1 → LstR StrR [z, D.shown] u S1 → Q u H1) H fun _ H' => Q .non H'
section
variable {K : PySem.W.Frag} {r : Rs} {T : List (Addr × Str)} {S : Hp} {s : L2.St} {R : V → Hp → Prop} {kd : Addr → Str → Prop} {P : Addr} {q : Str} {t : XK → TE}
/-- the body raises -/
theorem ev_wrongE [Rs.Plain r] {C : Addr} {z : Str} {D : PyData} (hP : (P, q) ∈ T) (h : ∀ E, EvX E C "value" (r.tabs T) (t E) s S R) (hC : kd C z) (hd : ∀ v S1, Ex S S1 → R v S1 → DE K S1 v D) (hs : Shw D) : EvS (r.tabs T) (tLm P T (TTw K kd) t) s S fun u S1 => LstR StrR [z, D.shown] u S1 :=
  ev_lam hP fun S1 H1 e w Q q => h _ S1 H1 e w (fun d v S2 H2 w2 s2 hv hd2 => ⟨C, d, v, D, z, S2, rfl, rfl, hC, w2.ex, hd2, hd v S2 (e.trans s2.ex) hv, hs, fun u S3 H3 w3 s3 hl => q u S3 H3 (w2.lift w3 s3) (s2.trans s3.lift) hl⟩) _
theorem ev_wrong [Rs.Plain r] {C : Addr} {z : Str} {D : PyData} (hP : (P, q) ∈ T) (h : ∀ E, EvX E C "value" (r.tabs T) (t E) s S R) (hC : kd C z) (hd : ∀ v S1, Ex S S1 → R v S1 → Dp K S1 v D) (hs : Shw D) : EvS (r.tabs T) (tLm P T (TTw K kd) t) s S fun u S1 => LstR StrR [z, D.shown] u S1 :=
  ev_wrongE hP h hC (fun v S1 e p => .inl (hd v S1 e p)) hs
/-- the body tells something -/
theorem vv_fine [Rs.Plain r] (hP : (P, q) ∈ T) (h : ∀ E, EvS (r.tabs T) (t E) s S R) : EvV (r.tabs T) (tLm P T (TTw K kd) t) s S .non :=
  ev_lam hP fun S1 H1 e w Q q => h _ S1 H1 e w _ fun v S2 H2 w2 s2 _ => q .non S2 H2 w2 s2 rfl
end
end J

set_option pp.maxSteps 3000
/-! J25: try with several clauses, each with a name; the caught error handed to a def; its class asked. -/
namespace J
open PySem PySem.Spec PyProof.Rows L2 Evl RZ
/-- an error caught in X: it lies on the ground, sI is the state without it -/
structure Down (X : Cx) (pins : List (Addr × Obj)) (a : Addr) (B : Heap) (sI : Shared) (σ : L2.St) (H : Hp) (cls : Value) (d : Option Addr) (s : Shared) : Prop where
  inv : Inv X pins σ H sI
  gr : ∀ b o, sI.heap.get? b = some o → b ∉ frs X.stack → B.get? b = some o
  up : sI.heap.UpToSlots s.heap
  fl : HandSPX.FlyingZ B (X.env :: X.outer) a (L2N.Zn cls d) s.heap
  na : H a = none
  os : s.os = sI.os
  bare : AllBare s.gens
section
variable {X : Cx} {pins : List (Addr × Obj)} {a : Addr} {B : Heap} {sI s : Shared} {σ : L2.St} {H : Hp} {cls : Value} {d : Option Addr}
theorem Down.here (x : Down X pins a B sI σ H cls d s) : Inv X pins σ H s := x.inv.landed x.gr x.fl.1 x.up x.os x.bare
theorem Down.suite (x : Down X pins a B sI σ H cls d s) (hf : X.env.frame = some X.env.locals) : ∃ oe vs, s.heap.get? a = some oe ∧ L2N.Zn cls d oe ∧ oe.data = .fields vs ∧ Inv (X.suite a ((a, oe) :: (X.pn ++ pins))) [] σ H s := by
  obtain ⟨oe, vs, ha, hz, hd⟩ := x.fl.there
  have off : a ∉ frs (X.env :: X.outer) := fun hm => by
    obtain ⟨_, o, e, nf⟩ := x.fl.2.2.1.mem hm
    rw [ha] at e
    cases e
    exact nf _ hd
  have nL : a ≠ X.env.locals := fun z => off (List.mem_filterMap.mpr ⟨X.env, List.mem_cons_self, by rw [hf, z]⟩)
  have nF : a ∉ X.fs := fun hm => by
    obtain ⟨y, hy, q⟩ := List.mem_filterMap.mp hm
    exact off (List.mem_filterMap.mpr ⟨y, List.mem_cons_of_mem _ hy, q⟩)
  exact ⟨oe, vs, ha, hz, hd, x.here.suite ha hd x.na nL nF⟩
theorem Down.at (x : Down X pins a B sI σ H cls d s) {h : Heap} (fl : HandSPX.FlyingZ B (X.env :: X.outer) a (L2N.Zn cls d) h) (up : s.heap.UpToSlots h) : Down X pins a B sI σ H cls d { s with heap := h } :=
  ⟨x.inv, x.gr, x.up.trans up, fl, x.na, x.os, x.bare⟩
end
/-- the ends of a suite whose name, at slot i, goes behind it -/
abbrev endsC (D : Ends) (i : Nat) : Ends := { nx := fun σ H => D.nx (σ.set i none) H, rt := D.rt, bk := fun σ H => D.bk (σ.set i none) H, ct := fun σ H => D.ct (σ.set i none) H }
/-- what the clauses wish of an error of the body, one after another -/
def wNamed (K : PySem.W.Frag) (Wout : WX) (D : Ends) : List (Value × Nat × (Addr → Value → Option Addr → TS)) → WX
  | [] => Wout
  | (c, i, ts) :: l => fun cls d σ H => ∃ b, PySem.W.exmOne K cls c = some b ∧ (b = true → ∀ a, H a = none → ts a cls d (endsC D i) (σ.set i (some (.ref a))) H) ∧ (b = false → wNamed K Wout D l cls d σ H)
inductive HdsAs (X : Cx) : List ExceptHandler → List (Value × Nat × (Addr → Value → Option Addr → TS)) → Prop
  | nil : HdsAs X [] []
  | cons {x n : Str} {c : Value} {i : Nat} {ts : Addr → Value → Option Addr → TS} {b0 : Stmt} {more : List Stmt} {p1 p2 : Pos} {hds : List ExceptHandler} {l : List (Value × Nat × (Addr → Value → Option Addr → TS))} (hi : X.N[i]? = some n) (hl : X.env.kindOf n = some .local) (hc : Names X x c)
      (hsu : ∀ (a : Addr) (oe : Obj) (cls : Value) (d : Option Addr) (pn : List (Addr × Obj)), L2N.Zn cls d oe → (∃ vs, oe.data = .fields vs) → PSs (X.suite a ((a, oe) :: pn)) (b0 :: more) (ts a cls d)) (r : HdsAs X hds l) :
      HdsAs X (.ExceptHandler (some (.Name x p1)) (some n) (b0 :: more) p2 :: hds) ((c, i, ts) :: l)
section
variable {X : Cx} {pins : List (Addr × Obj)} {Wout : WX} {D : Ends}
theorem handle_nm {a : Addr} {B : Heap} {sI : Shared} {σ : L2.St} {H : Hp} {cls : Value} {d : Option Addr} (hs : X.stack = X.env :: X.outer) (hf : X.env.frame = some X.env.locals) (hN : X.N.Nodup) (tk : L2N.Takes X Wout) :
    ∀ {hds : List ExceptHandler} {l : List (Value × Nat × (Addr → Value → Option Addr → TS))}, HdsAs X hds l → ∀ {s : Shared}, Down X pins a B sI σ H cls d s → wNamed X.K Wout D l cls d σ H → wpAny (model X.prog X.w) X.A (handleBy (.ref a) X.env hds) (SP X pins D) X.xe s := by
  intro hds l hk
  induction hk with
  | nil =>
    intro s x w
    obtain ⟨_, _, _, oe, vs, T, oT, ts, ha, hz, hd, h1, _⟩ := id x.fl
    refine wpAny_handleBy_nil ?_
    unfold PySem.passOn
    refine wpAny_bind (wpAny_field ha hd h1 ?_)
    rw [if_neg (show ¬ ((Value.ref T == Value.none) = true) from by simp)]
    have out : wpAny (model X.prog X.w) X.A (setFlight (.ref a) X.env.frame) (fun _ s2 => wpAny (model X.prog X.w) X.A (throw (.ref a) : Sem Flow) (SP X pins D) X.xe s2) X.xe s := by
      rw [hf]
      refine HandSPX.setFlight_upZ x.fl fun h2 held up2 => wpAny_throw (tk _ _ ⟨a, B, sI, pins, σ, H, cls, d, rfl, x.inv, x.gr, x.up.trans up2, .inr (.inr ?_), x.na, x.os, x.bare, w⟩)
      rw [hs]
      exact held
    first
      | exact wpAny_bind (wpAny_pure (wpAny_bind out))
      | exact wpAny_bind out
  | @cons nx n c i ts b0 more p1 p2 hds l hi hl hc hsu r ih =>
    intro s x w
    obtain ⟨b, hb, yes, no⟩ := w
    obtain ⟨oe, vs, ha, hz, hd, J⟩ := x.suite hf
    have ok := x.inv.ok
    refine wpAny_handleBy_cons (codeAny_handlers_test ?_) (by intro q; cases q)
    have ty : PySem.W.Looks (model X.prog X.w) s.heap (typeOf (.ref a)) cls := fun A Q E s' k q => wpAny_typeOf_ref (k _ _ ha) (by rw [hz.1]; exact q)
    have mt := PySem.W.exm_one (M := model X.prog X.w) x.here.kIn ty hb
    have name : ∀ {Q : Value → Shared → Prop} {E : Value → Shared → Prop}, Q c s → wpAny (model X.prog X.w) (X.A.mark (some (.ref a))) (eval (.Name nx p1) X.env) Q E s := fun {Q E} q => by
      obtain ⟨hg, hdb, hm | ⟨hm, hv, hn⟩⟩ := hc
      · exact ld_glob (X := X.suite a ((a, oe) :: (X.pn ++ pins))) J hg hm q hdb
      · exact ld_blt (X := X.suite a ((a, oe) :: (X.pn ++ pins))) J hg hm hv q hn hdb
    refine name (mt.here ?_)
    cases b with
    | false =>
      show wpAny _ X.A (handleBy (.ref a) X.env hds) _ _ _
      exact ih x (no rfl)
    | true =>
      refine codeAny_handlers_suite_as (HandSPX.lands_againZ x.fl fun h2 fl2 up2 => ?_)
      have x2 := x.at fl2 up2
      obtain ⟨o2, v2, a2, z2, d2, J2⟩ := x2.suite hf
      refine store_ok (X := X.suite a ((a, o2) :: (X.pn ++ pins))) (v := .ref a) J2 hN hi (Or.inl hl) rfl (fun s3 J3 => ?_) (.inr hl)
      refine wpAny_mono ((hsu a o2 cls d (X.pn ++ pins) z2 ⟨_, d2⟩).run [] s3 _ H _ J3 (yes rfl a x.na)) (fun fl s4 res => ?_) (fun _ _ z => False.elim z)
      have goes : ∀ {σ4 : L2.St} {H4 : Hp} {Q : Shared → Prop}, Inv (X.suite a ((a, o2) :: (X.pn ++ pins))) [] σ4 H4 s4 → (∀ s5, Inv X pins (σ4.set i none) H4 s5 → Q s5) →
          wpAny (model X.prog X.w) X.A (do bindName X.env n .none; unbindBehindTheSuite X.env n p2) (fun _ s5 => Q s5) X.xe s4 := fun {σ4 H4 Q} K4 q => gone_ok (K4.unsuite ok) hN hi hl q
      match fl, res with
      | .next, ⟨σ4, H4, K4, q4⟩ => exact goes K4 fun s5 J5 => ⟨_, _, J5, q4⟩
      | .brk, ⟨σ4, H4, K4, q4⟩ => exact goes K4 fun s5 J5 => ⟨_, _, J5, q4⟩
      | .cont, ⟨σ4, H4, K4, q4⟩ => exact goes K4 fun s5 J5 => ⟨_, _, J5, q4⟩
      | .ret u, ⟨v4, σ4, H4, K4, r4, q4⟩ => exact goes K4 fun s5 J5 => ⟨_, _, _, J5, r4, q4⟩
theorem ps_try_nm {body : List Stmt} {h0 : ExceptHandler} {hds : List ExceptHandler} {l : List (Value × Nat × (Addr → Value → Option Addr → TS))} {pos : Pos} {tb : WX → TS} (hs : X.stack = X.env :: X.outer) (hf : X.env.frame = some X.env.locals) (hN : X.N.Nodup) (tk : L2N.Takes X Wout)
    (hb : ∀ (W : WX) (pn : List (Addr × Obj)) (xe : Value → Shared → Prop), L2N.Takes (X.tr pn xe) W → PassesOwn (model X.prog X.w) X.A X.env xe → PSs (X.tr pn xe) body (tb W)) (hh : HdsAs X (h0 :: hds) l) :
    PS X (.Try body (h0 :: hds) [] [] pos) (fun D σ H => tb (fun cls d σ1 H1 => σ1.length = X.N.length → wNamed X.K Wout D l cls d σ1 H1) D σ H) := by
  refine ⟨fun pins s σ H D I h => ?_⟩
  have ok := I.ok
  have fr : X.A.frames = some (X.env :: X.outer) := by rw [ok.frames, hs]
  refine wpAny_Try_except (wpAny_mono ((hb (fun cls d σ1 H1 => σ1.length = X.N.length → wNamed X.K Wout D l cls d σ1 H1) (X.pn ++ pins) _ (fun u s1 x1 => ?_) PassesOwn.looking).run [] s σ H D (I.toTry _) h) (fun fl s1 res => ?_) (fun e s1 he => he))
  · obtain ⟨a, B, sI, p2, σ2, H2, cls, d, rfl, J, gr, up, sky, na, os, bare, w⟩ := x1
    have J : Inv X pins σ2 H2 sI := J.ofTry ok
    have sky : Sky B (X.env :: X.outer) a (L2N.Zn cls d) X.env.locals s1.heap := by rw [← hs]; exact sky
    exact L2N.Sky.land L2N.Zn.steady fr hf sky fun h2 fl2 up2 => handle_nm hs hf hN tk hh ⟨J, gr, up.trans up2, fl2, na, os, bare⟩ (w J.len)
  · match fl, res with
    | .next, ⟨σ2, H2, J, q⟩ => exact wpAny_execs_nil ⟨σ2, H2, J.ofTry ok, q⟩
    | .brk, ⟨σ2, H2, J, q⟩ => exact ⟨σ2, H2, J.ofTry ok, q⟩
    | .cont, ⟨σ2, H2, J, q⟩ => exact ⟨σ2, H2, J.ofTry ok, q⟩
    | .ret u, ⟨v, σ2, H2, J, r, q⟩ => exact ⟨v, σ2, H2, J.ofTry ok, r, q⟩
end
end J

set_option pp.maxSteps 3000
/-! J26: defs that get the caught error; its class and its field asked in a suite. -/
namespace J
open PySem PySem.Spec PyProof.Rows L2 Evl RZ
theorem hot_units {k : Nat} {A : Around} (r : L2H.RoomH k A) : A.units + 64 < cLine := by
  have := r.un
  omega
theorem room_hot {k : Nat} {A : Around} {e : Option Value} (r : Room k A) : L2H.RoomH k (A.mark e) := ⟨r.dp, r.un⟩
theorem Gd.mark {A : Around} (g : Gd A) (e : Option Value) : Gd (A.mark e) := g
/-- a def's promise where p's error is handled: cls its class, d its dict -/
structure FnK (P : Program) (w : World) (K : PySem.W.Frag) (mg : Str → Option Value) (base : Heap) (k : Nat) (f : Addr) (fd : FuncData) (ps : List Str) (sp : Addr → Value → Option Addr → Sp) : Prop where
  count : ∀ {a : Addr} {cls : Value} {d : Option Addr} {vs : List V} {H : Hp} {Q : VK} {E : XK}, sp a cls d vs H Q E → vs.length = ps.length
  runs : ∀ {A : Around} {outer : List Env} {s : Shared} {H : Hp} {args : Args} {us : List Value} {vs : List V} {Q : VK} {E : XK} {p : Addr × Obj} {cls : Value} {d : Option Addr}, L2H.RoomH k A → L2H.Hot1 A p → L2H.PinOk outer H s p → L2N.Zn cls d p.2 → Env0 P w K mg base A outer s H → BindsTo s fd args (ps.zip us) → Vals vs us →
    sp p.1 cls d vs H Q E → codeAny (model P w) A (.call (.ref f) args) (CR CX0 outer P w H s Q E) s
section
variable {P : Program} {w : World} {K : PySem.W.Frag} {mg : Str → Option Value} {base : Heap} {x qual : Str} {st : Stmt} {f : Addr} {fd : FuncData} {N ps : List Str} {k : Nat} {sp : Addr → Value → Option Addr → Sp}
theorem ok_K (F : Fun K x qual st f fd) (S : FnScope N ps (defScope st)) (len : ∀ a cls d vs H Q E, sp a cls d vs H Q E → vs.length = ps.length)
    (body : ∀ (cdv : Value) (A : Around) (outer : List Env) (s : Shared) (H : Hp) (vs : List V) (Q : VK) (E : XK) (p : Addr × Obj) (cls : Value) (d : Option Addr), L2H.Hot1 A p → L2N.Zn cls d p.2 → L2H.RoomH k (A.deeper (envOfC qual (defScope st) s.heap.objs.size f cdv)) → sp p.1 cls d vs H Q E →
      ∃ t, PSs (L2H.cxH CX0 P w K mg base N qual (defScope st) f cdv A outer s H E p).nox (defBody st) t ∧ t { nx := fun _ H' => Q .non H', rt := Q } (start N vs) H) : FnK P w K mg base (k + 1) f fd ps sp := by
  obtain ⟨oc, od, kV, doc, pm, an, cdv, ct, osl, e, lk, hcd⟩ := F.ex
  subst e
  refine ⟨fun h => len _ _ _ _ _ _ _ h, fun {A outer s H args us vs Q E p cls d} hr hot pin zn e0 hb r h => ?_⟩
  have KX : K.In s.heap := e0.mod.kin.keeps fun b o e => (e0.bs b o e).1
  have lim : s.heap.NoLimit := e0.mod.nolimit.keeps fun b o e => (e0.bs b o e).1
  have kinds : ∀ y ∈ ps.zip us, (defScope st).names.lookup y.1 = some .local ∨ ((defScope st).names.lookup y.1 = some .cell ∧ ((cellsFrom (s.heap.objs.size + 1) (defScope st).names []).lookup y.1).isSome = true) := fun y hy =>
    (S.par y.1 (List.of_mem_zip (show (y.1, y.2) ∈ ps.zip us from hy)).1).imp id fun q => ⟨q, PySem.W.cellsFrom_some _ _ _ (.inl q)⟩
  obtain ⟨t, ht, hq⟩ := body cdv A outer s H vs Q E p cls d hot zn (hr.deeper _) h
  refine codeAny_call_function hr.depth (KX _ _ lk) rfl S.co S.gen rfl (PySem.W.codeRec_of KX hcd) (hb _ _ _ _ (wpAny_newFunctionEnv_cells S.kind kinds fun env he s1 ic => ?_))
  subst he
  have I := L2H.inv_startH (CX := CX0) (w := w) (qual := qual) (f := f) (cd := cdv) (E := E) S pin e0 (len _ _ _ _ _ _ _ h) r ic
  refine ⟨lim.keeps ic.toInCall.keep, codeAny_func (wpAny_mono (ht.nox.run [] s1 (L2.start N vs) H _ I hq) (fun fl s2 res => ?_) fun _ _ z => z)⟩
  match fl, res with
  | .ret u, ⟨v, σ2, H2, J2, rv, q⟩ => exact ⟨v, H2, J2.os, J2.bare, J2.base, J2.hok, rv, q⟩
  | .next, ⟨σ2, H2, J2, q⟩ => exact ⟨.non, H2, J2.os, J2.bare, J2.base, J2.hok, rfl, q⟩
  | .brk, ⟨_, _, _, q⟩ => exact q.elim
  | .cont, ⟨_, _, _, q⟩ => exact q.elim
end
section
variable {X : Cx} {p : Addr × Obj} {cls : Value} {d : Option Addr}
/-- such a def called -/
theorem pe_callK {k : Nat} {f : Addr} {fd : FuncData} {ps : List Str} {sp : Addr → Value → Option Addr → Sp} {x : Str} {q pos : Pos} {e : Expr} {es : List Expr} {t : TA} (F : FnK X.prog X.w X.K X.mg X.base k f fd ps sp) (hr : L2H.RoomH k X.A) (hot : L2H.Hot1 X.A p) (hp : p ∈ X.pn) (zn : L2N.Zn cls d p.2) (hg : Gl X x) (hm : X.mg x = some (.ref f)) (kp : PySem.W.keepIn X.K (.ref f) = true) (hb : Binds X.K fd ps [])
    (ha : PA X (e :: es) t) (ndb : (x == ("__debug__" : Str)) = false := by decide) (e1 : starEach (e :: es) X.env = (false, eval e X.env) :: starEach es X.env := by rfl) (e2 : (backTo pos (starEach es X.env)).any (·.1) = false := by rfl) :
    PE X (.Call (.Name x q) (e :: es) [] pos) (tCall (sp p.1 cls d) [] E0 t) :=
  ⟨fun pins s σ H Q I h => wpAny_Call_Name_kw (ld_glob I hg hm (PySem.W.callWith_K (h₀ := X.base) I.ok.mod.kin kp (thn (ha.run pos pins s σ H _ I h) fun us s1 ⟨vs, H1, I1, r, z⟩ => ⟨I1.kIn, by
    have z : sp p.1 cls d vs H1 Q E0 := by
      have z' : sp p.1 cls d (vs ++ []) H1 Q E0 := z
      rwa [List.append_nil] at z'
    have gl : (us ++ []).length = ps.length := by rw [List.append_nil, ← r.length]; exact F.count z
    have bt := hb s1 us I1.kIn gl
    rw [List.append_nil] at bt
    obtain ⟨g1, g2, g3, g4, g5⟩ := I1.pin p (List.mem_append_left _ hp)
    have pin : L2H.PinOk X.stack H1 s1 p := ⟨g1, g2, fun hm => (List.mem_cons.mp (I1.stkSub p.1 hm)).elim g3 g4, g5⟩
    refine wpAny_call (codeAny_mono (F.runs hr hot pin zn I1.env0 bt r z) fun res s2 hq => ?_)
    match res, hq with
    | .error _, z => exact z.elim
    | .ok (.ret _), z => exact I1.after z
    | .ok .next, z => exact z.elim
    | .ok .brk, z => exact z.elim
    | .ok .cont, z => exact z.elim⟩) e1 e2) ndb)⟩
/-- the instance as the library sees it -/
theorem inst_of {pins : List (Addr × Obj)} {σ : L2.St} {H : Hp} {s : Shared} {D dd : Addr} {fs : List (Str × V)} (I : Inv X pins σ H s) (hp : p ∈ X.pn) (zn : L2N.Zn (.ref D) (some dd) p.2) (hf : ∃ vs, p.2.data = .fields vs) (ea : H dd = some (.xd fs)) :
    ∃ od, s.heap.get? dd = some od ∧ PySem.W.InstAt s.heap p.1 p.2 D (some od) ∧ ∀ n v, fs.lookup n = some v → ∃ u : Value, PySem.W.lookIn n od = some (some u) ∧ L2.RelV v u := by
  obtain ⟨m, hns, hr⟩ := (I.hok dd _ ea : ObjOk X.prog X.w H s.heap dd (.xd fs))
  obtain ⟨od, ho, hl⟩ := lookIn_ns hns
  obtain ⟨vs, hd⟩ := hf
  refine ⟨od, ho, ⟨(I.pin p (List.mem_append_left _ hp)).1, zn.1, by unfold PySem.W.notCls; rw [hd] <;> rfl, by rw [zn.2.1]; exact ho⟩, fun n v l => ?_⟩
  obtain ⟨u, hu, ru⟩ := RelO.some_of (v := v) (o := m n) (by rw [← l]; exact hr n)
  exact ⟨u, by rw [hl n, hu], ru⟩
/-- isinstance(e, C), e the error that is handled -/
def rIsX (K : PySem.W.Frag) (a : Addr) (cls : Value) (d : Option Addr) : List V → Hp → VK → Prop := fun xs H Q => ∃ (C D dd : Addr) (b : Bool) (fs : List (Str × V)), xs = [.ref a, .ref C] ∧ cls = .ref D ∧ d = some dd ∧ L2.ExcC K D ∧ PySem.W.kitOne K (.ref D) (.ref C) = some b ∧ H dd = some (.xd fs) ∧ Q (.bl b) H
theorem call_isX (hp : p ∈ X.pn) (zn : L2N.Zn cls d p.2) (hf : ∃ vs, p.2.data = .fields vs) : CallR X (.builtin "isinstance") (rIsX X.K p.1 cls d) := by
  intro pins s σ H xs us Q I r h
  obtain ⟨C, D, dd, b, fs, rfl, rfl, rfl, T, e, ea, q⟩ := h
  cases r with
  | cons rx rr =>
    cases rr with
    | cons rt rr =>
      cases rr
      cases rx
      cases rt
      obtain ⟨od, ho, J, _⟩ := inst_of I hp zn hf ea
      have hcl : (PySem.W.clsIn X.K D).isSome = true := by
        have z := T.hd
        unfold PySem.W.hasDictIn at z
        obtain ⟨cd, hc, _⟩ := PySem.W.any_some z
        rw [hc]
        rfl
      exact PySem.W.kia_one (PySem.W.kitx_exc hcl T.hg T.hk T.hs T.ha T.hn T.ht T.hm) I.kIn J e (fun z => nomatch z) fun tk => ⟨.bl b, H, I.kept (t' := tk) fun _ _ z => z, rfl, q⟩
/-- e.f -/
def tXv (K : PySem.W.Frag) (a : Addr) (cls : Value) (d : Option Addr) (f : Str) (te : TE) : TE := fun σ H Q => te σ H fun x H1 => x = .ref a ∧ ∃ (D dd : Addr) (fs : List (Str × V)) (v : V), cls = .ref D ∧ d = some dd ∧ L2.XfC K D ∧ PySem.W.findIn K (.ref D) f = some none ∧ H1 dd = some (.xd fs) ∧ fs.lookup f = some v ∧ Q v H1
theorem pe_xv {e : Expr} {te : TE} {pos : Pos} {f : Str} (hp : p ∈ X.pn) (zn : L2N.Zn cls d p.2) (hf : ∃ vs, p.2.data = .fields vs) (he : PE X e te) (hb : attributeBase e f X.env (eval e X.env) = eval e X.env := by rfl) : PE X (.Attribute e f pos) (tXv X.K p.1 cls d f te) := by
  refine ⟨fun pins s σ H Q I h => attr_of hb (thn (he.run pins s σ H _ I h) fun u s1 ⟨x, H1, I1, rx, ex, hx⟩ => ?_)⟩
  obtain ⟨D, dd, fs, v, rfl, rfl, T, no, ea, l, q⟩ := hx
  subst ex
  obtain rfl : u = Value.ref p.1 := rx
  obtain ⟨od, ho, J, at_⟩ := inst_of I1 hp zn hf ea
  obtain ⟨u, hu, ru⟩ := at_ f v l
  exact HandSPX.exc_get I1.kIn J T.ga T.gg T.exC (PySem.W.findObj_own T.hdC no rfl hu) (handed_of ru) ⟨v, H1, I1.tok _, ru, q⟩
end
section
variable {K : PySem.W.Frag} {r : Rs} {s : L2.St} {S : Hp} {te : TE} {ta : TA} {a : Addr} {cls : Value} {d : Option Addr}
theorem vv_isX {C D dd : Addr} {b : Bool} {fs : List (Str × V)} (h : EvAV r ta s S [.ref a, .ref C]) (e1 : cls = .ref D) (e2 : d = some dd) (T : L2.ExcC K D) (k : PySem.W.kitOne K (.ref D) (.ref C) = some b) (ea : S dd = some (.xd fs)) : EvV r (tCB (rIsX K a cls d) ta) s S (.bl b) :=
  vv_cb h fun H e Q q => ⟨C, D, dd, b, fs, rfl, e1, e2, T, k, e _ _ ea, q⟩
theorem vv_xv {D dd : Addr} {f : Str} {fs : List (Str × V)} {v : V} (h : EvV r te s S (.ref a)) (e1 : cls = .ref D) (e2 : d = some dd) (T : L2.XfC K D) (no : PySem.W.findIn K (.ref D) f = some none) (ea : S dd = some (.xd fs)) (l : fs.lookup f = some v) : EvV r (tXv K a cls d f te) s S v := fun S1 H e w Q q =>
  h S1 H e w _ fun x S2 H2 w2 s2 ex => ⟨ex, D, dd, fs, v, e1, e2, T, no, w2.ex _ _ (s2.ex _ _ (e _ _ ea)), l, q v S2 H2 w2 s2 rfl⟩
end
end J

set_option pp.maxSteps 3000
/-! J27: what the end finds of error classes; a def whose code object is known; a law that begins with tables. -/
namespace J
open PySem PySem.Spec PyProof.Rows L2 Evl RZ
/-- an error class over ValueError, as it lies -/
def oexB (K : PySem.W.Frag) (C : Addr) : Bool := match K.lookup C with
  | some ⟨.type "type", _, .cls cd, sl⟩ => (match cd.mro, sl.toList with
    | .ref C1 :: bm, [_, _, _, _, some (.builtin n), _] => C1 == C && n == "ValueError.__new__" && !cd.hasDel && cd.hasDict && PySem.HandSPX.refsVE bm
    | _, _ => false)
  | _ => false
theorem oexB_ok {K : PySem.W.Frag} {C : Addr} (h : oexB K C = true) : ∃ nm q N bs bm sn sub ab col dd k0 k1 k2 k3 k5, K.lookup C = some (excClassObj nm q C N bs bm true sn sub ab col dd k0 k1 k2 k3 k5 "ValueError.__new__") ∧ PySem.HandSPX.refsVE bm = true := by
  unfold oexB at h
  split at h
  · rename_i dd cd sl ho
    split at h
    · rename_i C1 bm k0 k1 k2 k3 n k5 hm hs
      simp only [Bool.and_eq_true, beq_iff_eq, Bool.not_eq_true'] at h
      obtain ⟨⟨⟨⟨rfl, rfl⟩, hdel⟩, hdc⟩, ht⟩ := h
      obtain ⟨nm, bs, mro, ns, qn, hd, sn, sub, ab, col, del⟩ := cd
      dsimp only at hm hdel hdc
      subst hm hdel hdc
      have e : sl = #[k0, k1, k2, k3, some (.builtin "ValueError.__new__"), k5] := by
        obtain ⟨l⟩ := sl
        simp only at hs
        rw [hs]
      subst e
      exact ⟨nm, qn, ns, bs, bm, sn, sub, ab, col, dd, k0, k1, k2, k3, k5, ho, ht⟩
    · cases h
  · cases h
/-- all that is asked of such a class and its __init__ -/
def xcAll (K : PySem.W.Frag) (C f cda : Addr) (qual fld : Str) : Bool :=
  oexB K C && decide (PySem.W.findIn K (.ref C) "__setattr__" = some (some (.builtin "object.__setattr__"))) && decide (PySem.W.subIn K (.ref C) (.type "BaseException") = some true) && decide (PySem.W.typeIn K (.ref C) = some (.type "type")) && PySem.W.keepIn K (.ref C) &&
    decide (PySem.W.typeIn K (.ref f) = some (.type "function")) && PySem.W.codeIn K (.ref cda) qual && decide (PySem.W.ks_superIn K C C "__init__" = some (some (.builtin "ValueError.__init__"))) && decide (PySem.W.subIn K (.ref C) (.type "ValueError") = some true) && decide (PySem.W.mroIn K C (.ref C) = some true) &&
    decide (PySem.W.findIn K (.ref C) fld = some none) && decide (PySem.W.nsIn K cStatics "thirdparty.any" = some none)
/-- isinstance and fields of its instances -/
def xiAll (K : PySem.W.Frag) (C : Addr) : Bool :=
  decide (PySem.W.findIn K (.ref C) "__getattribute__" = some (some (.builtin "BaseException.__getattribute__"))) && decide (PySem.W.findIn K (.ref C) "__getattr__" = some none) && decide (PySem.W.subIn K (.ref C) (.type "BaseException") = some true) && PySem.W.hasDictIn K C &&
    decide (PySem.W.findIn K (.ref C) "__class__" = some (some (.builtin "object.__class__"))) && decide (PySem.W.specialIn K (.builtin "object.__class__") "__get__" = some (some (.builtin "getset_descriptor.__get__"))) && decide (PySem.W.takesIn K (.builtin "object.__class__") = some true) && decide (PySem.W.mroIn K C (.type "object") = some true)
theorem xi_ok {K : PySem.W.Frag} {C : Addr} (h : xiAll K C = true) : L2.ExcC K C ∧ L2.XfC K C := by
  unfold xiAll at h
  simp only [Bool.and_eq_true, decide_eq_true_eq] at h
  obtain ⟨⟨⟨⟨⟨⟨⟨h1, h2⟩, h3⟩, h4⟩, h5⟩, h6⟩, h7⟩, h8⟩ := h
  exact ⟨⟨h1, h2, h3, h4, h5, h6, h7, h8⟩, ⟨h1, h2, h3, h4⟩⟩
/-- which of the classes of l C is one of -/
def kitRow (K : PySem.W.Frag) (C : Addr) : List (Addr × Bool) → Bool
  | [] => true
  | (D, b) :: l => decide (PySem.W.kitOne K (.ref C) (.ref D) = some b) && kitRow K C l
theorem kitRow_cons {K : PySem.W.Frag} {C D : Addr} {b : Bool} {l : List (Addr × Bool)} (h : kitRow K C ((D, b) :: l) = true) : PySem.W.kitOne K (.ref C) (.ref D) = some b ∧ kitRow K C l = true := by
  unfold kitRow at h
  simp only [Bool.and_eq_true, decide_eq_true_eq] at h
  exact h
theorem XcT.of {P : Program} {K : PySem.W.Frag} {mg : Str → Option Value} {C f cda cc : Addr} {qual fld prm file : Str} {st : Stmt} {oc kV doc pm ct ccl cl : Value} {od an cdd cld : Option Addr} {osl ccs csl : Array (Option Value)} {vs : Array Value} {tf : Tok}
    (ini : PySem.W.findIn K (.ref C) "__init__" = some (some (.ref f))) (l : K.lookup f = some ⟨oc, od, .func (PySem.W.ksFn "__init__" qual (defArgs st) (defBody st) (defScope st) .none kV doc pm an (.ref cda) ct cc), osl⟩)
    (lc : K.lookup cda = some ⟨ccl, cdd, .fields vs, ccs⟩) (lcc : K.lookup cc = some ⟨cl, cld, .cell (some (.ref C)), csl⟩) (hv : vs[2]? = some (.str file tf)) (hfile : ((P.main.file : Str) == file) = true) (q : xcAll K C f cda qual fld = true) (zs : mg "super" = none)
    (top : (P.main.scope.names.lookup ("super" : Str)).isSome = false)
    (body : ∃ msg j p0 p1 p2 p3 p4 p5 p6 p7 p8 p9, defBody st = xcBody msg fld prm j p0 p1 p2 p3 p4 p5 p6 p7 p8 p9 ∧ ∀ env : Env, ∃ pl : Sem Bool, eval (.Call (.Attribute (.Call (.Name "super" p0) [] [] p1) "__init__" p2) [.Constant (.str msg) j p3] [] p4) env = (do
      let ov ← attributeBase (.Call (.Name "super" p0) [] [] p1) "__init__" env (eval (.Call (.Name "super" p0) [] [] p1) env)
      standAt p2.atName
      let (f, first) ← holding [ov] (getMethod ov "__init__" pl)
      callWith p4 f first (backTo p4 (starEach [.Constant (.str msg) j p3] env)) []))
    (par : ((defArgs st).posonlyargs ++ (defArgs st).args).head?.map (fun a => a.arg) = some "self") (sc1 : (defScope st).kind = .function) (sc2 : (defScope st).isCoroutine = false) (sc3 : (defScope st).isGenerator = false) (sc4 : ∀ x ∈ (defScope st).names, x.2 ≠ .cell)
    (sc5 : (defScope st).names.lookup ("self" : Str) = some .local) (sc6 : (defScope st).names.lookup prm = some .local) (sc7 : (defScope st).names.lookup ("super" : Str) = some .globalImplicit) (sc8 : (defScope st).names.lookup ("__class__" : Str) = some .free) (np : ("self" : Str) ≠ prm) (nd : (prm == ("__debug__" : Str)) = false) :
    XcT P K mg C f qual fld prm st (PySem.W.ksFn "__init__" qual (defArgs st) (defBody st) (defScope st) .none kV doc pm an (.ref cda) ct cc) := by
  unfold xcAll at q
  simp only [Bool.and_eq_true, decide_eq_true_eq] at q
  obtain ⟨⟨⟨⟨⟨⟨⟨⟨⟨⟨⟨q1, q2⟩, q3⟩, q4⟩, q5⟩, q6⟩, q7⟩, q8⟩, q9⟩, q10⟩, q11⟩, q12⟩ := q
  exact ⟨⟨oexB_ok q1, q2, q3, q4, q5⟩, ini, q6, ⟨oc, kV, doc, pm, ct, od, an, osl, cda, cc, rfl, l, q7, ⟨ccl, cdd, vs, ccs, file, tf, lc, hv, hfile⟩, ⟨cl, cld, csl, lcc⟩⟩, q8, q9, q10, q11, zs, q12, top, body, par, sc1, sc2, sc3, sc4, sc5, sc6, sc7, sc8, np, nd⟩
/-- a def whose code object lies at c -/
structure FunC (K : PySem.W.Frag) (x qual : Str) (st : Stmt) (f : Addr) (fd : FuncData) (c : Addr) : Prop where
  ex : ∃ (oc : Value) (od : Option Addr) (kV doc pm : Value) (an : Option Addr) (ct : Value) (osl : Array (Option Value)), fd = PySem.W.fnOf x qual (defArgs st) (defBody st) (defScope st) .none kV doc pm an (.ref c) ct ∧ K.lookup f = some ⟨oc, od, .func fd, osl⟩ ∧ PySem.W.codeIn K (.ref c) qual = true
section
variable {P : Program} {w : World} {K : PySem.W.Frag} {mg : Str → Option Value} {base : Heap} {x qual : Str} {st : Stmt} {f c : Addr} {fd : FuncData} {N ps : List Str} {k : Nat} {sp : Sp}
theorem ok_GC (F : FunC K x qual st f fd c) (S : FnScope N ps (defScope st)) (len : ∀ vs H Q E, sp vs H Q E → vs.length = ps.length)
    (body : ∀ (A : Around) (outer : List Env) (s : Shared) (H : Hp) (vs : List V) (Q : VK) (E : XK), Gd A → Room k (A.deeper (envOfC qual (defScope st) s.heap.objs.size f (.ref c))) → sp vs H Q E →
      ∃ t, PSs (cxOf CX0 P w K mg base N qual (defScope st) f (.ref c) A outer s H E).nox (defBody st) t ∧ t { nx := fun _ H' => Q .non H', rt := Q } (start N vs) H) : FnG P w K mg base (k + 1) f fd ps sp := by
  obtain ⟨oc, od, kV, doc, pm, an, ct, osl, e, lk, hcd⟩ := F.ex
  subst e
  refine ⟨fun h => len _ _ _ _ h, fun {A outer s H args us vs Q E} g hr e0 hb r h => ?_⟩
  exact LamX.run_ofS lk hcd S hr e0 hb r (len _ _ _ _ h) fun hr1 => by
    obtain ⟨t, ht, hq⟩ := body A outer s H vs Q E g hr1 h
    exact ⟨t, ht.nox, hq⟩
end
/-! ### the beginning -/
/-- H without the tables of T -/
def offT (T : List (Addr × Str)) (H : Hp) : Hp := fun b => if b ∈ T.map Prod.fst then none else H b
section
variable {K : PySem.W.Frag} {T : List (Addr × Str)} {H : Hp} {a : Addr} {xs : List V}
theorem offT_ex : Ex (offT T H) H := fun b o e => by
  unfold offT at e
  split at e
  · cases e
  · exact e
theorem offT_sq (t : ∀ y ∈ T, H y.1 = some (.tbl #[])) (h : SqL K H a xs) : SqL K (offT T H) a xs := by
  have at_ : ∀ o, H a = some o → (∀ ps, o ≠ .tbl ps) → offT T H a = some o := fun o e n => by
    unfold offT
    rw [if_neg fun z => ?_]
    · exact e
    · obtain ⟨y, hy, e1⟩ := List.mem_map.mp z
      have e2 := t y hy
      rw [e1, e] at e2
      exact n #[] (Option.some.inj e2)
  rcases h with (h | ⟨o, h⟩) | h
  · exact .inl (.inl (at_ _ h fun _ z => nomatch z))
  · exact .inl (.inr ⟨o, at_ _ h fun _ z => nomatch z⟩)
  · exact .inr h
theorem tabs_nil (t : ∀ y ∈ T, H y.1 = some (.tbl #[])) : LamX.Tabs T H := fun y hy => LamX.TabS.nil (t y hy)
/-- the source beside the tables -/
theorem Wd.begin {p c : Addr} {S1 H1 : Hp} (t : ∀ y ∈ T, H y.1 = some (.tbl #[])) (w : Wd (srcR p c) S1 H1) (s : Stp Rs.nil (offT T H) H S1 H1) : Wd ((srcR p c).tabs T) S1 H1 := by
  have kp : ∀ b o, H b = some o → H1 b = some o := fun b o e => s.kp b o (fun z => by cases z) e
  refine ⟨w.ex, ⟨w.inv, (tabs_nil t).ext kp⟩, fun b hb => ?_⟩
  rcases List.mem_append.mp hb with hb | hb
  · obtain ⟨y, hy, rfl⟩ := List.mem_map.mp hb
    exact s.fr _ (ne_none (t y hy)) (if_pos hb)
  · exact w.dj b hb
end
end J

namespace K63
open PySem PySem.Spec PyProof.Rows L2 Evl J
/-! ### the text by places -/
def topS (i : Nat) : Stmt := PySem.Challenge.pw_joinedrounds_k63_notes.main.body.getD i (.Pass ⟨0, 0, 0, 0⟩)
abbrev s_is_integer : Stmt := (topS 21)
abbrev N_is_integer : List Str := ["value"]
theorem sc_is_integer : FnScope N_is_integer ["value"] (defScope s_is_integer) := ⟨rfl, rfl, rfl, by decide +kernel, rfl, by decide +kernel, by decide +kernel⟩
abbrev s_is_between : Stmt := (topS 22)
abbrev N_is_between : List Str := ["value", "low", "high"]
theorem sc_is_between : FnScope N_is_between ["value", "low", "high"] (defScope s_is_between) := ⟨rfl, rfl, rfl, by decide +kernel, rfl, by decide +kernel, by decide +kernel⟩
abbrev s_is_name : Stmt := (topS 23)
abbrev N_is_name : List Str := ["value", "sign"]
theorem sc_is_name : FnScope N_is_name ["value"] (defScope s_is_name) := ⟨rfl, rfl, rfl, by decide +kernel, rfl, by decide +kernel, by decide +kernel⟩
abbrev s_are_steps : Stmt := (topS 29)
abbrev N_are_steps : List Str := ["value", "row", "state"]
theorem sc_are_steps : FnScope N_are_steps ["value"] (defScope s_are_steps) := ⟨rfl, rfl, rfl, by decide +kernel, rfl, by decide +kernel, by decide +kernel⟩
abbrev s_are_answers : Stmt := (topS 30)
abbrev N_are_answers : List Str := ["value", "many", "answer"]
theorem sc_are_answers : FnScope N_are_answers ["value", "many"] (defScope s_are_answers) := ⟨rfl, rfl, rfl, by decide +kernel, rfl, by decide +kernel, by decide +kernel⟩
abbrev s_Machine_init : Stmt := (inClass (topS 31) 0)
abbrev N_Machine_init : List Str := ["self", "steps", "answers", "start", "row"]
theorem sc_Machine_init : FnScope N_Machine_init ["self", "steps", "answers", "start"] (defScope s_Machine_init) := ⟨rfl, rfl, rfl, by decide +kernel, rfl, by decide +kernel, by decide +kernel⟩
abbrev s_Machine_steps : Stmt := (inClass (topS 31) 1)
abbrev N_Machine_steps : List Str := ["self"]
theorem sc_Machine_steps : FnScope N_Machine_steps ["self"] (defScope s_Machine_steps) := ⟨rfl, rfl, rfl, by decide +kernel, rfl, by decide +kernel, by decide +kernel⟩
abbrev s_Machine_answers : Stmt := (inClass (topS 31) 2)
abbrev N_Machine_answers : List Str := ["self"]
theorem sc_Machine_answers : FnScope N_Machine_answers ["self"] (defScope s_Machine_answers) := ⟨rfl, rfl, rfl, by decide +kernel, rfl, by decide +kernel, by decide +kernel⟩
abbrev s_Machine_start : Stmt := (inClass (topS 31) 3)
abbrev N_Machine_start : List Str := ["self"]
theorem sc_Machine_start : FnScope N_Machine_start ["self"] (defScope s_Machine_start) := ⟨rfl, rfl, rfl, by decide +kernel, rfl, by decide +kernel, by decide +kernel⟩
abbrev s_Machine_letters : Stmt := (inClass (topS 31) 4)
abbrev N_Machine_letters : List Str := ["self"]
theorem sc_Machine_letters : FnScope N_Machine_letters ["self"] (defScope s_Machine_letters) := ⟨rfl, rfl, rfl, by decide +kernel, rfl, by decide +kernel, by decide +kernel⟩
abbrev s_Machine_eq : Stmt := (inClass (topS 31) 9)
abbrev N_Machine_eq : List Str := ["self", "other"]
theorem sc_Machine_eq : FnScope N_Machine_eq ["self", "other"] (defScope s_Machine_eq) := ⟨rfl, rfl, rfl, by decide +kernel, rfl, by decide +kernel, by decide +kernel⟩
abbrev s_Machine_led : Stmt := (inClass (topS 31) 11)
abbrev N_Machine_led : List Str := ["self", "state", "word", "letter"]
theorem sc_Machine_led : FnScope N_Machine_led ["self", "state", "word"] (defScope s_Machine_led) := ⟨rfl, rfl, rfl, by decide +kernel, rfl, by decide +kernel, by decide +kernel⟩
abbrev s_Machine_last : Stmt := (inClass (topS 31) 15)
abbrev N_Machine_last : List Str := []
theorem sc_Machine_last : FnScope N_Machine_last [] (defScope s_Machine_last) := ⟨rfl, rfl, rfl, by decide +kernel, rfl, by decide +kernel, by decide +kernel⟩
abbrev s_first_pair : Stmt := (topS 33)
abbrev N_first_pair : List Str := ["machine", "letter"]
theorem sc_first_pair : FnScope N_first_pair ["machine", "letter"] (defScope s_first_pair) := ⟨rfl, rfl, rfl, by decide +kernel, rfl, by decide +kernel, by decide +kernel⟩
abbrev s_next_pairs : Stmt := (topS 34)
abbrev N_next_pairs : List Str := ["machine", "pair"]
theorem sc_next_pairs : FnScope N_next_pairs ["machine", "pair"] (defScope s_next_pairs) := ⟨rfl, rfl, rfl, by decide +kernel, rfl, by decide +kernel, by decide +kernel⟩
abbrev s_is_good : Stmt := (topS 35)
abbrev N_is_good : List Str := ["machine", "letter", "pair"]
theorem sc_is_good : FnScope N_is_good ["machine", "letter", "pair"] (defScope s_is_good) := ⟨rfl, rfl, rfl, by decide +kernel, rfl, by decide +kernel, by decide +kernel⟩
abbrev s_pairs_of : Stmt := (topS 36)
abbrev N_pairs_of : List Str := ["machine", "letter", "first", "found", "waiting", "pair"]
theorem sc_pairs_of : FnScope N_pairs_of ["machine", "letter"] (defScope s_pairs_of) := ⟨rfl, rfl, rfl, by decide +kernel, rfl, by decide +kernel, by decide +kernel⟩
abbrev s_is_turnable : Stmt := (topS 37)
abbrev N_is_turnable : List Str := ["machine", "letter", "pair"]
theorem sc_is_turnable : FnScope N_is_turnable ["machine"] (defScope s_is_turnable) := ⟨rfl, rfl, rfl, by decide +kernel, rfl, by decide +kernel, by decide +kernel⟩
abbrev s_Notes_init : Stmt := (inClass (topS 39) 0)
abbrev N_Notes_init : List Str := ["self"]
theorem sc_Notes_init : FnScope N_Notes_init ["self"] (defScope s_Notes_init) := ⟨rfl, rfl, rfl, by decide +kernel, rfl, by decide +kernel, by decide +kernel⟩
abbrev s_Notes_setitem : Stmt := (inClass (topS 39) 1)
abbrev N_Notes_setitem : List Str := ["self", "name", "machine"]
theorem sc_Notes_setitem : FnScope N_Notes_setitem ["self", "name", "machine"] (defScope s_Notes_setitem) := ⟨rfl, rfl, rfl, by decide +kernel, rfl, by decide +kernel, by decide +kernel⟩
abbrev s_Notes_getitem : Stmt := (inClass (topS 39) 2)
abbrev N_Notes_getitem : List Str := ["self", "name"]
theorem sc_Notes_getitem : FnScope N_Notes_getitem ["self", "name"] (defScope s_Notes_getitem) := ⟨rfl, rfl, rfl, by decide +kernel, rfl, by decide +kernel, by decide +kernel⟩
abbrev s_Notes_contains : Stmt := (inClass (topS 39) 3)
abbrev N_Notes_contains : List Str := ["self", "name"]
theorem sc_Notes_contains : FnScope N_Notes_contains ["self", "name"] (defScope s_Notes_contains) := ⟨rfl, rfl, rfl, by decide +kernel, rfl, by decide +kernel, by decide +kernel⟩
abbrev s_Notes_len : Stmt := (inClass (topS 39) 5)
abbrev N_Notes_len : List Str := ["self"]
theorem sc_Notes_len : FnScope N_Notes_len ["self"] (defScope s_Notes_len) := ⟨rfl, rfl, rfl, by decide +kernel, rfl, by decide +kernel, by decide +kernel⟩
abbrev s_Notes_names : Stmt := (inClass (topS 39) 6)
abbrev N_Notes_names : List Str := ["self", "name"]
theorem sc_Notes_names : FnScope N_Notes_names ["self"] (defScope s_Notes_names) := ⟨rfl, rfl, rfl, by decide +kernel, rfl, by decide +kernel, by decide +kernel⟩
abbrev s_Notes_turnable : Stmt := (inClass (topS 39) 7)
abbrev N_Notes_turnable : List Str := ["self", "name"]
theorem sc_Notes_turnable : FnScope N_Notes_turnable ["self"] (defScope s_Notes_turnable) := ⟨rfl, rfl, rfl, by decide +kernel, rfl, by decide +kernel, by decide +kernel⟩
abbrev s_L_begin : Stmt := (topS 41)
abbrev N_L_begin : List Str := ["_law_script", "_law_seed", "_law_cell"]
theorem sc_L_begin : FnScope N_L_begin ["_law_script"] (defScope s_L_begin) := ⟨rfl, rfl, rfl, by decide +kernel, rfl, by decide +kernel, by decide +kernel⟩
abbrev s_L_mixed : Stmt := (topS 42)
abbrev N_L_mixed : List Str := ["_law_pool", "_law_many", "_law_found", "_law_turn"]
theorem sc_L_mixed : FnScope N_L_mixed ["_law_pool", "_law_many"] (defScope s_L_mixed) := ⟨rfl, rfl, rfl, by decide +kernel, rfl, by decide +kernel, by decide +kernel⟩
abbrev s_L_draw : Stmt := (topS 43)
abbrev N_L_draw : List Str := ["_law_pool", "_law_many", "_law_found"]
theorem sc_L_draw : FnScope N_L_draw ["_law_pool", "_law_many"] (defScope s_L_draw) := ⟨rfl, rfl, rfl, by decide +kernel, rfl, by decide +kernel, by decide +kernel⟩
abbrev s_L_pick : Stmt := (topS 44)
abbrev N_L_pick : List Str := ["_law_pool", "_law_some"]
theorem sc_L_pick : FnScope N_L_pick ["_law_pool", "_law_some"] (defScope s_L_pick) := ⟨rfl, rfl, rfl, by decide +kernel, rfl, by decide +kernel, by decide +kernel⟩
abbrev s_L_draw_machine : Stmt := (topS 45)
abbrev N_L_draw_machine : List Str := ["_law_pool", "_law_most_states", "_law_most_letters", "_law_many", "_law_width", "_law_table", "_law_at", "_law_k"]
theorem sc_L_draw_machine : FnScope N_L_draw_machine ["_law_pool", "_law_most_states", "_law_most_letters"] (defScope s_L_draw_machine) := ⟨rfl, rfl, rfl, by decide +kernel, rfl, by decide +kernel, by decide +kernel⟩
abbrev s_L_round_pair : Stmt := (topS 46)
abbrev N_L_round_pair : List Str := ["_law_table"]
theorem sc_L_round_pair : FnScope N_L_round_pair [] (defScope s_L_round_pair) := ⟨rfl, rfl, rfl, by decide +kernel, rfl, by decide +kernel, by decide +kernel⟩
abbrev s_L_mix_machine : Stmt := (topS 47)
abbrev N_L_mix_machine : List Str := ["_law_pool", "_law_way", "_law_made"]
theorem sc_L_mix_machine : FnScope N_L_mix_machine ["_law_pool"] (defScope s_L_mix_machine) := ⟨rfl, rfl, rfl, by decide +kernel, rfl, by decide +kernel, by decide +kernel⟩
abbrev s_L_counter : Stmt := (topS 48)
abbrev N_L_counter : List Str := ["_law_modulus", "_law_letter", "_law_table", "_law_at", "_law_k"]
theorem sc_L_counter : FnScope N_L_counter ["_law_modulus", "_law_letter"] (defScope s_L_counter) := ⟨rfl, rfl, rfl, by decide +kernel, rfl, by decide +kernel, by decide +kernel⟩
abbrev s_L_commuting : Stmt := (topS 49)
abbrev N_L_commuting : List Str := ["_law_pool", "_law_many", "_law_adds", "_law_table", "_law_k", "_law_at", "_law_add"]
theorem sc_L_commuting : FnScope N_L_commuting ["_law_pool"] (defScope s_L_commuting) := ⟨rfl, rfl, rfl, by decide +kernel, rfl, by decide +kernel, by decide +kernel⟩
abbrev s_L_seen_pair : Stmt := (topS 50)
abbrev N_L_seen_pair : List Str := ["_law_table"]
theorem sc_L_seen_pair : FnScope N_L_seen_pair [] (defScope s_L_seen_pair) := ⟨rfl, rfl, rfl, by decide +kernel, rfl, by decide +kernel, by decide +kernel⟩
abbrev s_L_make_machine : Stmt := (topS 51)
abbrev N_L_make_machine : List Str := ["_law_m"]
theorem sc_L_make_machine : FnScope N_L_make_machine ["_law_m"] (defScope s_L_make_machine) := ⟨rfl, rfl, rfl, by decide +kernel, rfl, by decide +kernel, by decide +kernel⟩
abbrev s_L_which : Stmt := (topS 52)
abbrev N_L_which : List Str := ["_law_error", "_law_kinds", "_law_names"]
theorem sc_L_which : FnScope N_L_which ["_law_error"] (defScope s_L_which) := ⟨rfl, rfl, rfl, by decide +kernel, rfl, by decide +kernel, by decide +kernel⟩
abbrev s_L_caught : Stmt := (topS 53)
abbrev N_L_caught : List Str := ["_law_call", "e"]
theorem sc_L_caught : FnScope N_L_caught ["_law_call"] (defScope s_L_caught) := ⟨rfl, rfl, rfl, by decide +kernel, rfl, by decide +kernel, by decide +kernel⟩
abbrev s_L_kind : Stmt := (topS 54)
abbrev N_L_kind : List Str := ["_law_call", "_law_found"]
theorem sc_L_kind : FnScope N_L_kind ["_law_call"] (defScope s_L_kind) := ⟨rfl, rfl, rfl, by decide +kernel, rfl, by decide +kernel, by decide +kernel⟩
abbrev s_L_set : Stmt := (topS 55)
abbrev N_L_set : List Str := ["_law_table", "_law_name", "_law_thing"]
theorem sc_L_set : FnScope N_L_set ["_law_table", "_law_name", "_law_thing"] (defScope s_L_set) := ⟨rfl, rfl, rfl, by decide +kernel, rfl, by decide +kernel, by decide +kernel⟩
abbrev s_law : Stmt := (topS 56)
abbrev N_law : List Str := ["_law_script", "_law_pool", "_law_table", "_law_other", "_law_due", "_law_words", "_law_name", "_law_turn", "_law_made", "_law_odd", "_law_thing", "_law_wrong", "_law_every", "_law_one"]
theorem sc_law : FnScope N_law ["_law_script"] (defScope s_law) := ⟨rfl, rfl, rfl, by decide +kernel, rfl, by decide +kernel, by decide +kernel⟩
abbrev s_InvalidMachine_init : Stmt := (inClass (topS 10) 0)
abbrev s_InvalidName_init : Stmt := (inClass (topS 4) 0)
/-! ### what the top has written -/
end K63

set_option pp.maxSteps 3000
/-! J40: the head by one kernel run: what the end finds, as a Bool of the written part; addresses as functions of it. -/
namespace J
open PySem PySem.Spec PyProof.Rows L2 Evl RZ
/-! ### addresses -/
abbrev Ad : Type := PySem.W.Frag → Addr
def adG (x : Str) : Ad := fun K => He.ga K x
def adM (C m : Str) : Ad := fun K => He.ma K (He.ga K C) m
def adP (C m : Str) : Ad := fun K => match PySem.W.recIn K (He.ma K (He.ga K C) m) "property" with
  | some (.ref f :: _) => f
  | _ => 0
def adS (C m : Str) : Ad := fun K => He5.wf K (He.ga K C) "staticmethod" m
def adI (a : Ad) (i : Nat) : Ad := fun K => match K.lookup (a K) with
  | some ⟨_, _, .seq its _, _⟩ => (match its.toList[i]? with
    | some (.ref b) => b
    | _ => 0)
  | _ => 0
def adK (a : Ad) (x : Str) : Ad := fun K => match PySem.W.nsIn K (a K) x with
  | some (some (.ref b)) => b
  | _ => 0
def vAd : Value → Addr
  | .ref b => b
  | _ => 0
def adDf (f : Ad) : Ad := fun K => match K.lookup (f K) with
  | some ⟨_, _, .func fd, _⟩ => vAd fd.defaults
  | _ => 0
def adKw (f : Ad) : Ad := fun K => match K.lookup (f K) with
  | some ⟨_, _, .func fd, _⟩ => vAd fd.kwdefaults
  | _ => 0
def adC (f : Ad) : Ad := fun K => match K.lookup (f K) with
  | some ⟨_, _, .func fd, _⟩ => vAd fd.code
  | _ => 0
def adT (f : Ad) : Ad := fun K => He.tabOf K (adC f K)
theorem adC_eq {K : PySem.W.Frag} {f : Ad} {oc : Value} {od : Option Addr} {osl : Array (Option Value)} {fd : FuncData} {c : Addr} (lk : K.lookup (f K) = some ⟨oc, od, .func fd, osl⟩) (e : fd.code = .ref c) : adC f K = c := by
  unfold adC
  rw [lk]
  show vAd fd.code = c
  rw [e]
  rfl
/-! ### a tuple at any address -/
def tupAt (K : PySem.W.Frag) (a : Addr) (vs : List V) : Bool := match K.lookup a with
  | some ⟨.type c, _, .seq its _, _⟩ => decide (c = "tuple") && (decide (its.size ≤ sizeLine) && He.relAll vs its.toList)
  | _ => false
theorem tupAt_ok {K : PySem.W.Frag} {a : Addr} {vs : List V} (h : tupAt K a vs = true) (H : Hp) : SqT K H a vs := by
  unfold tupAt at h
  split at h
  · rename_i c o its n sl q
    rw [Bool.and_eq_true, Bool.and_eq_true] at h
    obtain ⟨h1, h2, h3⟩ := h
    exact .inr ⟨_, its, n, q, congrArg Value.type (of_decide_eq_true h1), rfl, of_decide_eq_true h2, He.relAll_ok h3⟩
  · cases h
/-- a name's value, an int or a text -/
def mgB (K : PySem.W.Frag) (x : Str) (v : V) : Bool := match PySem.W.nsIn K mainGlobals x with
  | some (some u) => He.relB v u
  | _ => false
theorem mgB_ok {K : PySem.W.Frag} {h : Heap} {mg : Str → Option Value} {x : Str} {v : V} (X : K.In h) (G : h.Ns mainGlobals mg) (e : mgB K x v = true) : MgC mg x v := by
  unfold mgB at e
  split at e
  · rename_i u q
    exact ⟨u, PySem.W.mg_of X G q, He.relB_ok e⟩
  · cases e
def ndB (K : PySem.W.Frag) (a : Addr) (x : Str) (v : V) : Bool := match PySem.W.nsIn K a x with
  | some (some u) => He.relB v u
  | _ => false
theorem ndB_ok {K : PySem.W.Frag} {w : World} {a : Addr} {x : Str} {v : V} {es : Array DictEntry} {n : Nat} (k : KDict K w a es n) (e : ndB K a x v = true) : KDct K w a x v := by
  unfold ndB at e
  split at e
  · rename_i u q
    exact ⟨es, n, u, k.at_, k.lit, q, He.relB_ok e⟩
  · cases e
/-- the facts of names: what is found is a reference, is nothing -/
def isRf : Option (Option Value) → Bool
  | some (some (.ref _)) => true
  | _ => false
def isNo : Option (Option Value) → Bool
  | some none => true
  | _ => false
theorem gloB {K : PySem.W.Frag} {x : Str} (h : isRf (PySem.W.nsIn K mainGlobals x) = true) : PySem.W.nsIn K mainGlobals x = some (some (.ref (adG x K))) := by
  unfold adG He.ga
  cases e : PySem.W.nsIn K mainGlobals x with
  | none =>
    rw [e] at h
    cases h
  | some o =>
    cases o with
    | none =>
      rw [e] at h
      cases h
    | some v =>
      cases v with
      | ref a => rfl
      | _ =>
        rw [e] at h
        cases h
theorem metB {K : PySem.W.Frag} {C m : Str} (h : isRf (PySem.W.findIn K (.ref (adG C K)) m) = true) : PySem.W.findIn K (.ref (adG C K)) m = some (some (.ref (adM C m K))) := by
  show PySem.W.findIn K (.ref (He.ga K C)) m = some (some (.ref (He.ma K (He.ga K C) m)))
  have h : isRf (PySem.W.findIn K (.ref (He.ga K C)) m) = true := h
  unfold He.ma
  cases e : PySem.W.findIn K (.ref (He.ga K C)) m with
  | none =>
    rw [e] at h
    cases h
  | some o =>
    cases o with
    | none =>
      rw [e] at h
      cases h
    | some v =>
      cases v with
      | ref a => rfl
      | _ =>
        rw [e] at h
        cases h
theorem isNo_ok {o : Option (Option Value)} (h : isNo o = true) : o = some none := by
  cases o with
  | none => cases h
  | some o =>
    cases o with
    | none => rfl
    | some v => cases h
def isBi (z : String) : Option (Option Value) → Bool
  | some (some (.builtin y)) => y == z
  | _ => false
theorem isBi_ok {z : String} {o : Option (Option Value)} (h : isBi z o = true) : o = some (some (.builtin z)) := by
  cases o with
  | none => cases h
  | some o =>
    cases o with
    | none => cases h
    | some v =>
      cases v with
      | builtin y => rw [beq_iff_eq.mp h]
      | _ => cases h
def isB (b : Bool) : Option Bool → Bool
  | some c => c == b
  | none => false
theorem isB_ok {b : Bool} {o : Option Bool} (h : isB b o = true) : o = some b := by
  cases o with
  | none => cases h
  | some c => rw [beq_iff_eq.mp h]
/-- a property: its record's rest -/
def prB (K : PySem.W.Frag) (p : Addr) : Bool := match PySem.W.recIn K p "property" with
  | some (.ref g :: _) => true
  | _ => false
theorem prB_ok {K : PySem.W.Frag} {C m : Str} (h : prB K (adM C m K) = true) : ∃ r, PySem.W.recIn K (adM C m K) "property" = some (.ref (adP C m K) :: r) := by
  unfold prB at h
  unfold adP
  show ∃ r, PySem.W.recIn K (He.ma K (He.ga K C) m) "property" = _
  have h : (match PySem.W.recIn K (He.ma K (He.ga K C) m) "property" with
    | some (.ref g :: _) => true
    | _ => false) = true := h
  split at h
  · rename_i g r q
    rw [q]
    exact ⟨r, rfl⟩
  · cases h
/-! ### the __init__ of an error class -/
abbrev FnX : Type := Option (Str × Str × Arguments × FuncBody × Scope × Addr × Addr)
def fnXa (K : PySem.W.Frag) (a : Addr) : FnX := match K.lookup a with
  | some ⟨_, _, .func fd, _⟩ => some (fd.name, fd.qualname, fd.params, fd.body, fd.scope, fd.globals, fd.builtins)
  | _ => none
structure XD where
  cls : Str
  qual : Str
  fld : Str
  params : Arguments
  body : List Stmt
  scope : Scope
def XD.at_ (d : XD) : Ad := adM d.cls "__init__"
def XD.val (d : XD) : FnX := some ("__init__", d.qual, d.params, .stmts d.body, d.scope, mainGlobals, builtinsNs)
def XD.ok (file : Str) (K : PySem.W.Frag) (d : XD) : Bool := match K.lookup (d.at_ K) with
  | some ⟨_, _, .func fd, _⟩ => (match fd.closure with
      | [(z, cx)] => decide (z = ("__class__" : Str)) && (match K.lookup cx with
        | some ⟨_, _, .cell (some (.ref C)), _⟩ => C == adG d.cls K
        | _ => false)
      | _ => false) && (match fd.defaults with
      | .none => true
      | _ => false) && (match fd.code with
      | .ref ca => (match K.lookup ca with
        | some ⟨_, _, .fields vs, _⟩ => (match (vs[2]? : Option Value) with
          | some (.str z _) => file == z
          | _ => false)
        | _ => false) && xcAll K (adG d.cls K) (d.at_ K) ca d.qual d.fld
      | _ => false)
  | _ => false
theorem XD.parts {file : Str} {K : PySem.W.Frag} {d : XD} (e : fnXa K (d.at_ K) = d.val) (c : d.ok file K = true) :
    ∃ (oc kV doc pm ct ccl cl : Value) (od an cdd cld : Option Addr) (osl ccs csl : Array (Option Value)) (vs : Array Value) (tf : Tok) (z : Str) (ca cc : Addr),
      K.lookup (d.at_ K) = some ⟨oc, od, .func (PySem.W.ksFn "__init__" d.qual d.params d.body d.scope .none kV doc pm an (.ref ca) ct cc), osl⟩ ∧ K.lookup ca = some ⟨ccl, cdd, .fields vs, ccs⟩ ∧ K.lookup cc = some ⟨cl, cld, .cell (some (.ref (adG d.cls K))), csl⟩ ∧ vs[2]? = some (.str z tf) ∧ (file == z) = true ∧ xcAll K (adG d.cls K) (d.at_ K) ca d.qual d.fld = true := by
  unfold fnXa at e
  unfold XD.ok at c
  cases q : K.lookup (d.at_ K) with
  | none =>
    rw [q] at c
    cases c
  | some o =>
    obtain ⟨oc, od, dt, osl⟩ := o
    rw [q] at c e
    cases dt with
    | func fd =>
      obtain ⟨n1, n2, n3, n4, n5, n6, n7, n8, n9, n10, n11, n12, n13, n14, n15⟩ := fd
      have e2 : (some (n1, n2, n3, n4, n5, n6, n15) : FnX) = some (("__init__" : Str), d.qual, d.params, FuncBody.stmts d.body, d.scope, mainGlobals, builtinsNs) := e
      simp only [Option.some.injEq, Prod.mk.injEq] at e2
      obtain ⟨h1, h2, h3, h4, h5, h6, h7⟩ := e2
      subst h1 h2 h3 h4 h5 h6 h7
      dsimp only at c
      rw [Bool.and_eq_true, Bool.and_eq_true] at c
      obtain ⟨⟨c1, c2⟩, c3⟩ := c
      split at c1
      · rename_i z cx
        rw [Bool.and_eq_true] at c1
        obtain ⟨c4, c5⟩ := c1
        have ez := of_decide_eq_true c4
        subst ez
        split at c2
        · split at c3
          · rename_i ca
            rw [Bool.and_eq_true] at c3
            obtain ⟨c6, c7⟩ := c3
            split at c5
            · rename_i cl cld C csl qc
              have ec := beq_iff_eq.mp c5
              subst ec
              split at c6
              · rename_i ccl cdd vs ccs qv
                split at c6
                · rename_i z tf qz
                  exact ⟨oc, _, _, _, _, ccl, cl, od, _, cdd, cld, osl, ccs, csl, vs, tf, z, ca, cx, rfl, qv, qc, qz, c6, c7⟩
                · cases c6
              · cases c6
            · cases c5
          · cases c3
        · cases c2
      · cases c1
    | _ => cases c
/-! ### what the names reach -/
/-- what an object names; st: a property's (or another wrapper's) record is followed -/
def rfs (st : Bool) (o : Obj) : List Addr := match o.data with
  | .seq its _ => its.toList.flatMap He.refV
  | .dict es _ => es.toList.flatMap fun e => He.refV e.val
  | .func fd => He.refV fd.code ++ (He.refV fd.defaults ++ (He.refV fd.kwdefaults ++ fd.closure.map (·.2)))
  | .cls cd => [cd.ns]
  | .fields vs => (match st with
    | true => vs.toList.flatMap He.refV
    | false => [])
  | _ => []
def stepL (g : Addr → Option Obj) (st : Bool) : List Addr → List Addr
  | [] => []
  | a :: l => (match g a with
    | some o => rfs st o
    | none => []) ++ stepL g st l
def stepsL (g : Addr → Option Obj) : List Bool → List Addr → List Addr
  | [], _ => []
  | b :: l, as => stepL g b as ++ stepsL g l (stepL g b as)
/-- the names; classes, defs; their namespaces, codes; methods; wrapped defs; defaults .. -/
def asJ (g : Addr → Option Obj) (n : Nat) : List Addr := mainGlobals :: cStatics :: stepsL g [false, false, false, true, false, false] [mainGlobals]
/-! ### the Hook -/
/-- what is looked at: defs, the error classes' inits, tables, makers of lambdas, the rest -/
structure HD where
  fn : List He5.DefA
  xs : List XD
  ts : List He.Tab
  tf : List Ad
  ex : PySem.W.Frag → List Bool
  file : Str
abbrev AlJ0 : Type := (Bool × List He.FnW) × (List FnX × List (Option (List (Option (Str × Int)))))
def obsJ0 (D : HD) (K : PySem.W.Frag) : AlJ0 := (((D.ex K).all id && (D.fn.all (fun d => d.ok K) && D.xs.all fun d => d.ok D.file K), D.fn.map fun d => He5.fnA K (d.at_ K)), (D.xs.map fun d => fnXa K (d.at_ K), D.ts.map fun t => He.dicW K (t.1 K)))
def valJ0 (D : HD) (w : World) : AlJ0 := ((true, D.fn.map He5.DefA.val), (D.xs.map XD.val, D.ts.map fun t => some (He.keysIn w.params t.2)))
def tabsJ (g : Addr → Option Obj) (tf : List Ad) (K : PySem.W.Frag) : Bool := tf.all fun f => PySem.W.codeHdIn K (adC f K) (adT f K) && (match g (adT f K) with
  | some o => He.emptyTab o
  | none => false)
def obsJK (D : HD) (g : Addr → Option Obj) (K : PySem.W.Frag) : AlJ0 × Bool := (obsJ0 D K, tabsJ g D.tf K)
def obsJ (n : Nat) (D : HD) (g : Addr → Option Obj) : AlJ0 × Bool := obsJK D g (He.frT g (asJ g n))
def valJ (D : HD) (w : World) : AlJ0 × Bool := (valJ0 D w, true)
structure SaysJ (D : HD) (w : World) (h : Heap) (K : PySem.W.Frag) : Prop where
  e : obsJ0 D K = valJ0 D w
  hd : ∀ f ∈ D.tf, PySem.W.codeHdIn K (adC f K) (adT f K) = true
  out : ∀ f ∈ D.tf, K.lookup (adT f K) = none
  empty : ∀ f ∈ D.tf, h.get? (adT f K) = some { cls := .none, data := .fields #[] }
theorem saysJ_of {n : Nat} {D : HD} {w : World} {h : Heap} (e : obsJ n D h.get? = valJ D w) : SaysJ D w h (He.frT h.get? (asJ h.get? n)) := by
  have e1 : obsJ0 D (He.frT h.get? (asJ h.get? n)) = valJ0 D w := congrArg (fun z : AlJ0 × Bool => z.1) e
  have e2 : tabsJ h.get? D.tf (He.frT h.get? (asJ h.get? n)) = true := congrArg (fun z : AlJ0 × Bool => z.2) e
  have key : ∀ f ∈ D.tf, PySem.W.codeHdIn (He.frT h.get? (asJ h.get? n)) (adC f (He.frT h.get? (asJ h.get? n))) (adT f (He.frT h.get? (asJ h.get? n))) = true ∧ ∃ o, h.get? (adT f (He.frT h.get? (asJ h.get? n))) = some o ∧ He.emptyTab o = true := fun f hf => by
    have z := List.all_eq_true.mp e2 f hf
    rw [Bool.and_eq_true] at z
    obtain ⟨h3, h4⟩ := z
    refine ⟨h3, ?_⟩
    split at h4
    · rename_i o q
      exact ⟨o, q, h4⟩
    · cases h4
  exact ⟨e1, fun f hf => (key f hf).1, fun f hf => by
    obtain ⟨_, o, q, z⟩ := key f hf
    exact He.frT_none q z, fun f hf => by
    obtain ⟨_, o, q, z⟩ := key f hf
    rw [q, He.emptyTab_eq z]⟩
def hookJ (n : Nat) (D : HD) : PySem.W.Hook where
  α := AlJ0 × Bool
  obs := fun s => obsJ n D s.heap.get?
  val := fun w => valJ D w
  says := fun w h => ∃ K : PySem.W.Frag, K.In h ∧ SaysJ D w h K
  of := fun _ _ e => ⟨_, He.frT_in, saysJ_of e⟩
  keeps := fun _ _ _ ⟨K, hK, c⟩ k => ⟨K, PySem.W.Frag.In.keeps hK k, ⟨c.e, c.hd, c.out, fun f hf => k _ _ (c.empty f hf)⟩⟩
theorem obsJ_eq {n : Nat} {D : HD} {g : Addr → Option Obj} {s : Shared} (h : ∀ a, g a = s.heap.get? a) : obsJ n D g = (hookJ n D).obs s := by
  have e : g = s.heap.get? := funext h
  rw [e] <;> rfl
section
variable {D : HD} {w : World} {h : Heap} {K : PySem.W.Frag}
theorem SaysJ.flag (c : SaysJ D w h K) : ((D.ex K).all id && (D.fn.all (fun d => d.ok K) && D.xs.all fun d => d.ok D.file K)) = true := congrArg (fun z : AlJ0 => z.1.1) c.e
theorem SaysJ.b (c : SaysJ D w h K) (i : Nat) {b : Bool} (e : (D.ex K)[i]? = some b := by rfl) : b = true := by
  have z := c.flag
  rw [Bool.and_eq_true] at z
  exact List.all_eq_true.mp z.1 b (List.mem_of_getElem? e)
/-- an equation among them -/
theorem SaysJ.q {p : Prop} [Decidable p] (c : SaysJ D w h K) (i : Nat) (e : (D.ex K)[i]? = some (decide p) := by rfl) : p := of_decide_eq_true (c.b i e)
theorem SaysJ.def_ (c : SaysJ D w h K) (i : Nat) {d : He5.DefA} (e : D.fn[i]? = some d := by rfl) : ∃ fd, FunD K d.name d.qual d.params d.body d.scope (d.dvs K) (d.kws K) (d.at_ K) fd := by
  have z := c.flag
  rw [Bool.and_eq_true, Bool.and_eq_true] at z
  have e1 : D.fn.map (fun d => He5.fnA K (d.at_ K)) = D.fn.map He5.DefA.val := congrArg (fun z : AlJ0 => z.1.2) c.e
  have e2 : (D.fn.map fun d => He5.fnA K (d.at_ K))[i]? = (D.fn.map He5.DefA.val)[i]? := by rw [e1]
  rw [List.getElem?_map, List.getElem?_map, e] at e2
  exact He5.DefA.funD (Option.some.inj e2) (List.all_eq_true.mp z.2.1 d (List.mem_of_getElem? e))
theorem SaysJ.xc (c : SaysJ D w h K) (i : Nat) {d : XD} (e : D.xs[i]? = some d := by rfl) : ∃ (oc kV doc pm ct ccl cl : Value) (od an cdd cld : Option Addr) (osl ccs csl : Array (Option Value)) (vs : Array Value) (tf : Tok) (z : Str) (ca cc : Addr),
      K.lookup (d.at_ K) = some ⟨oc, od, .func (PySem.W.ksFn "__init__" d.qual d.params d.body d.scope .none kV doc pm an (.ref ca) ct cc), osl⟩ ∧ K.lookup ca = some ⟨ccl, cdd, .fields vs, ccs⟩ ∧ K.lookup cc = some ⟨cl, cld, .cell (some (.ref (adG d.cls K))), csl⟩ ∧ vs[2]? = some (.str z tf) ∧ (D.file == z) = true ∧ xcAll K (adG d.cls K) (d.at_ K) ca d.qual d.fld = true := by
  have z := c.flag
  rw [Bool.and_eq_true, Bool.and_eq_true] at z
  have e1 : D.xs.map (fun d => fnXa K (d.at_ K)) = D.xs.map XD.val := congrArg (fun z : AlJ0 => z.2.1) c.e
  have e2 : (D.xs.map fun d => fnXa K (d.at_ K))[i]? = (D.xs.map XD.val)[i]? := by rw [e1]
  rw [List.getElem?_map, List.getElem?_map, e] at e2
  exact XD.parts (Option.some.inj e2) (List.all_eq_true.mp z.2.2 d (List.mem_of_getElem? e))
theorem SaysJ.tab (c : SaysJ D w h K) (i : Nat) {t : He.Tab} (e : D.ts[i]? = some t := by rfl) : ∃ es n, KDict K w (t.1 K) es n := by
  have e1 : D.ts.map (fun t => He.dicW K (t.1 K)) = D.ts.map fun t => some (He.keysIn w.params t.2) := congrArg (fun z : AlJ0 => z.2.2) c.e
  have e2 : (D.ts.map fun t => He.dicW K (t.1 K))[i]? = (D.ts.map fun t => some (He.keysIn w.params t.2))[i]? := by rw [e1]
  rw [List.getElem?_map, List.getElem?_map, e] at e2
  exact He.dicW_ok (Option.some.inj e2)
/-- a maker: its code object -/
theorem funC_of {x qual : Str} {st : Stmt} {f : Ad} {fd : FuncData} (F : Fun K x qual st (f K) fd) : FunC K x qual st (f K) fd (adC f K) := by
  obtain ⟨oc, od, kV, doc, pm, an, cdv, ct, osl, e, lk, hc⟩ := F.ex
  obtain ⟨c, rfl⟩ := He.codeIn_ref hc
  have ec : adC f K = c := adC_eq lk (by rw [e])
  rw [ec]
  exact ⟨oc, od, kV, doc, pm, an, ct, osl, e, lk, hc⟩
theorem SaysJ.tabd (c : SaysJ D w h K) (X : K.In h) : Tabd K h (D.tf.map fun f => (adC f K, adT f K)) :=
  ⟨fun q hq => by
    obtain ⟨f, hf, rfl⟩ := List.mem_map.mp hq
    exact c.empty f hf, fun q hq => by
    obtain ⟨f, hf, rfl⟩ := List.mem_map.mp hq
    exact c.out f hf, fun q hq => by
    obtain ⟨f, hf, rfl⟩ := List.mem_map.mp hq
    exact PySem.W.codeHd_of_K X (c.hd f hf)⟩
end
/-! ### the walk -/
theorem walk_GE {l : PySem.W.OpenLaw} {n k : Nat} {q : Program} {loose : List Str} {XP : (Str → Option Value) → Heap → Prop} {YP : World → Heap → Prop} {d : DefRec} {x : Str} (hn : l.most = some n) (hn2 : n ≤ sizeLine) (nd : d.params.defaults = []) (room : Room k callerA)
    (F : ∀ (w : World) (mg : Str → Option Value) (fa : Addr) (h : Heap), YP w h → h.Ns mainGlobals mg → mg d.name = some (.ref fa) → ∃ K : PySem.W.Frag, K.In h ∧ LawG l w K k n x mg fa h) :
    PySem.W.WalkO q loose XP YP l.row.toRowW d [] (fun f vs => PySem.call f vs) := by
  refine Att.attach_callB hn nd fun w s₀ s₁ mg mb fa o pm cd doc a vs ns G Y ho hd hcd hmg hobj hints hlen hbits hg => ?_
  obtain ⟨K, KX, fd, cs, sp, D, bd, use, hF⟩ := F w mg fa _ Y G.T.g hmg
  exact law_G KX G.T.g G.T.b G.T.builtins G.T.nolimit hg D G.T.bmain hobj hints (Nat.le_trans hlen hn2) room hF bd fun H hH hS => use H a ns hlen hbits hH hS
end J

set_option pp.maxSteps 400
namespace K63
open PySem PySem.Spec PyProof.Rows L2 Evl J RZ
def xd_InvalidMachine : XD := ⟨"InvalidMachine", "InvalidMachine.__init__", "value", defArgs s_InvalidMachine_init, defBody s_InvalidMachine_init, defScope s_InvalidMachine_init⟩
def xd_InvalidName : XD := ⟨"InvalidName", "InvalidName.__init__", "value", defArgs s_InvalidName_init, defBody s_InvalidName_init, defScope s_InvalidName_init⟩
def dd_is_integer : He5.DefA := ⟨(adG "is_integer"), "is_integer", "is_integer", defArgs s_is_integer, defBody s_is_integer, defScope s_is_integer, [], []⟩
def dd_is_between : He5.DefA := ⟨(adG "is_between"), "is_between", "is_between", defArgs s_is_between, defBody s_is_between, defScope s_is_between, [], []⟩
def dd_is_name : He5.DefA := ⟨(adG "is_name"), "is_name", "is_name", defArgs s_is_name, defBody s_is_name, defScope s_is_name, [], []⟩
def dd_are_steps : He5.DefA := ⟨(adG "are_steps"), "are_steps", "are_steps", defArgs s_are_steps, defBody s_are_steps, defScope s_are_steps, [], []⟩
def dd_are_answers : He5.DefA := ⟨(adG "are_answers"), "are_answers", "are_answers", defArgs s_are_answers, defBody s_are_answers, defScope s_are_answers, [], []⟩
def dd_Machine_init : He5.DefA := ⟨(adM "Machine" "__init__"), "__init__", "Machine.__init__", defArgs s_Machine_init, defBody s_Machine_init, defScope s_Machine_init, [.int 0], []⟩
def dd_Machine_steps : He5.DefA := ⟨(adP "Machine" "steps"), "steps", "Machine.steps", defArgs s_Machine_steps, defBody s_Machine_steps, defScope s_Machine_steps, [], []⟩
def dd_Machine_answers : He5.DefA := ⟨(adP "Machine" "answers"), "answers", "Machine.answers", defArgs s_Machine_answers, defBody s_Machine_answers, defScope s_Machine_answers, [], []⟩
def dd_Machine_start : He5.DefA := ⟨(adP "Machine" "start"), "start", "Machine.start", defArgs s_Machine_start, defBody s_Machine_start, defScope s_Machine_start, [], []⟩
def dd_Machine_letters : He5.DefA := ⟨(adP "Machine" "letters"), "letters", "Machine.letters", defArgs s_Machine_letters, defBody s_Machine_letters, defScope s_Machine_letters, [], []⟩
def dd_Machine_eq : He5.DefA := ⟨(adM "Machine" "__eq__"), "__eq__", "Machine.__eq__", defArgs s_Machine_eq, defBody s_Machine_eq, defScope s_Machine_eq, [], []⟩
def dd_Machine_led : He5.DefA := ⟨(adM "Machine" "led"), "led", "Machine.led", defArgs s_Machine_led, defBody s_Machine_led, defScope s_Machine_led, [], []⟩
def dd_Machine_last : He5.DefA := ⟨(adS "Machine" "last"), "last", "Machine.last", defArgs s_Machine_last, defBody s_Machine_last, defScope s_Machine_last, [], []⟩
def dd_first_pair : He5.DefA := ⟨(adG "first_pair"), "first_pair", "first_pair", defArgs s_first_pair, defBody s_first_pair, defScope s_first_pair, [], []⟩
def dd_next_pairs : He5.DefA := ⟨(adG "next_pairs"), "next_pairs", "next_pairs", defArgs s_next_pairs, defBody s_next_pairs, defScope s_next_pairs, [], []⟩
def dd_is_good : He5.DefA := ⟨(adG "is_good"), "is_good", "is_good", defArgs s_is_good, defBody s_is_good, defScope s_is_good, [], []⟩
def dd_pairs_of : He5.DefA := ⟨(adG "pairs_of"), "pairs_of", "pairs_of", defArgs s_pairs_of, defBody s_pairs_of, defScope s_pairs_of, [], []⟩
def dd_is_turnable : He5.DefA := ⟨(adG "is_turnable"), "is_turnable", "is_turnable", defArgs s_is_turnable, defBody s_is_turnable, defScope s_is_turnable, [], []⟩
def dd_Notes_init : He5.DefA := ⟨(adM "Notes" "__init__"), "__init__", "Notes.__init__", defArgs s_Notes_init, defBody s_Notes_init, defScope s_Notes_init, [], []⟩
def dd_Notes_setitem : He5.DefA := ⟨(adM "Notes" "__setitem__"), "__setitem__", "Notes.__setitem__", defArgs s_Notes_setitem, defBody s_Notes_setitem, defScope s_Notes_setitem, [], []⟩
def dd_Notes_getitem : He5.DefA := ⟨(adM "Notes" "__getitem__"), "__getitem__", "Notes.__getitem__", defArgs s_Notes_getitem, defBody s_Notes_getitem, defScope s_Notes_getitem, [], []⟩
def dd_Notes_contains : He5.DefA := ⟨(adM "Notes" "__contains__"), "__contains__", "Notes.__contains__", defArgs s_Notes_contains, defBody s_Notes_contains, defScope s_Notes_contains, [], []⟩
def dd_Notes_len : He5.DefA := ⟨(adM "Notes" "__len__"), "__len__", "Notes.__len__", defArgs s_Notes_len, defBody s_Notes_len, defScope s_Notes_len, [], []⟩
def dd_Notes_names : He5.DefA := ⟨(adM "Notes" "names"), "names", "Notes.names", defArgs s_Notes_names, defBody s_Notes_names, defScope s_Notes_names, [], []⟩
def dd_Notes_turnable : He5.DefA := ⟨(adM "Notes" "turnable"), "turnable", "Notes.turnable", defArgs s_Notes_turnable, defBody s_Notes_turnable, defScope s_Notes_turnable, [], []⟩
def dd_L_begin : He5.DefA := ⟨(adG "_law_begin"), "_law_begin", "_law_begin", defArgs s_L_begin, defBody s_L_begin, defScope s_L_begin, [], []⟩
def dd_L_mixed : He5.DefA := ⟨(adG "_law_mixed"), "_law_mixed", "_law_mixed", defArgs s_L_mixed, defBody s_L_mixed, defScope s_L_mixed, [], []⟩
def dd_L_draw : He5.DefA := ⟨(adG "_law_draw"), "_law_draw", "_law_draw", defArgs s_L_draw, defBody s_L_draw, defScope s_L_draw, [], []⟩
def dd_L_pick : He5.DefA := ⟨(adG "_law_pick"), "_law_pick", "_law_pick", defArgs s_L_pick, defBody s_L_pick, defScope s_L_pick, [], []⟩
def dd_L_draw_machine : He5.DefA := ⟨(adG "_law_draw_machine"), "_law_draw_machine", "_law_draw_machine", defArgs s_L_draw_machine, defBody s_L_draw_machine, defScope s_L_draw_machine, [], []⟩
def dd_L_round_pair : He5.DefA := ⟨(adG "_law_round_pair"), "_law_round_pair", "_law_round_pair", defArgs s_L_round_pair, defBody s_L_round_pair, defScope s_L_round_pair, [], []⟩
def dd_L_mix_machine : He5.DefA := ⟨(adG "_law_mix_machine"), "_law_mix_machine", "_law_mix_machine", defArgs s_L_mix_machine, defBody s_L_mix_machine, defScope s_L_mix_machine, [], []⟩
def dd_L_counter : He5.DefA := ⟨(adG "_law_counter"), "_law_counter", "_law_counter", defArgs s_L_counter, defBody s_L_counter, defScope s_L_counter, [], []⟩
def dd_L_commuting : He5.DefA := ⟨(adG "_law_commuting"), "_law_commuting", "_law_commuting", defArgs s_L_commuting, defBody s_L_commuting, defScope s_L_commuting, [], []⟩
def dd_L_seen_pair : He5.DefA := ⟨(adG "_law_seen_pair"), "_law_seen_pair", "_law_seen_pair", defArgs s_L_seen_pair, defBody s_L_seen_pair, defScope s_L_seen_pair, [], []⟩
def dd_L_make_machine : He5.DefA := ⟨(adG "_law_make_machine"), "_law_make_machine", "_law_make_machine", defArgs s_L_make_machine, defBody s_L_make_machine, defScope s_L_make_machine, [], []⟩
def dd_L_which : He5.DefA := ⟨(adG "_law_which"), "_law_which", "_law_which", defArgs s_L_which, defBody s_L_which, defScope s_L_which, [], []⟩
def dd_L_caught : He5.DefA := ⟨(adG "_law_caught"), "_law_caught", "_law_caught", defArgs s_L_caught, defBody s_L_caught, defScope s_L_caught, [], []⟩
def dd_L_kind : He5.DefA := ⟨(adG "_law_kind"), "_law_kind", "_law_kind", defArgs s_L_kind, defBody s_L_kind, defScope s_L_kind, [], []⟩
def dd_L_set : He5.DefA := ⟨(adG "_law_set"), "_law_set", "_law_set", defArgs s_L_set, defBody s_L_set, defScope s_L_set, [], []⟩
def dd_law : He5.DefA := ⟨(adG "law"), "law", "law", defArgs s_law, defBody s_law, defScope s_law, [], []⟩
def hdF0 : List He5.DefA := [dd_is_integer,
  dd_is_between,
  dd_is_name,
  dd_are_steps,
  dd_are_answers,
  dd_Machine_init,
  dd_Machine_steps,
  dd_Machine_answers,
  dd_Machine_start,
  dd_Machine_letters,
  dd_Machine_eq,
  dd_Machine_led,
  dd_Machine_last,
  dd_first_pair,
  dd_next_pairs,
  dd_is_good,
  dd_pairs_of,
  dd_is_turnable,
  dd_Notes_init,
  dd_Notes_setitem,
  dd_Notes_getitem,
  dd_Notes_contains,
  dd_Notes_len,
  dd_Notes_names,
  dd_Notes_turnable,
  dd_L_begin,
  dd_L_mixed,
  dd_L_draw,
  dd_L_pick,
  dd_L_draw_machine]
def hdF1 : List He5.DefA := [dd_L_round_pair,
  dd_L_mix_machine,
  dd_L_counter,
  dd_L_commuting,
  dd_L_seen_pair,
  dd_L_make_machine,
  dd_L_which,
  dd_L_caught,
  dd_L_kind,
  dd_L_set,
  dd_law]
def hdF : List He5.DefA := hdF0 ++ (hdF1)
def hdX0 : List XD := [xd_InvalidMachine,
  xd_InvalidName]
def hdX : List XD := hdX0
def hdT0 : List He.Tab := []
def hdT : List He.Tab := hdT0
def hdL0 : List Ad := [(adG "pairs_of"),
  (adG "law")]
def hdL : List Ad := hdL0
def hdE0 (K : PySem.W.Frag) : List Bool := [isNo (PySem.W.nsIn K mainGlobals "abs"),
  isNo (PySem.W.nsIn K mainGlobals "all"),
  isNo (PySem.W.nsIn K mainGlobals "bool"),
  isNo (PySem.W.nsIn K mainGlobals "int"),
  isNo (PySem.W.nsIn K mainGlobals "isinstance"),
  isNo (PySem.W.nsIn K mainGlobals "len"),
  isNo (PySem.W.nsIn K mainGlobals "list"),
  isNo (PySem.W.nsIn K mainGlobals "range"),
  isNo (PySem.W.nsIn K mainGlobals "repr"),
  isNo (PySem.W.nsIn K mainGlobals "sorted"),
  isNo (PySem.W.nsIn K mainGlobals "str"),
  isNo (PySem.W.nsIn K mainGlobals "tuple"),
  isNo (PySem.W.nsIn K mainGlobals "zip"),
  mgB K "ALL_LETTERS" (.str "abc"),
  mgB K "LETTERS" (.str "abcdefghijklmnopqrstuvwxyz"),
  mgB K "MOST_ANSWER" (.int 100),
  mgB K "MOST_LETTERS" (.int 8),
  mgB K "MOST_STATES" (.int 6),
  isRf (PySem.W.nsIn K mainGlobals "Machine"),
  PySem.W.plainGet K (adG "Machine" K) Str.empty,
  PySem.W.hasDictIn K (adG "Machine" K),
  PySem.W.plainOver K (adG "Machine" K),
  isBi "object.__setattr__" (PySem.W.findIn K (Value.ref (adG "Machine" K)) "__setattr__"),
  PySem.W.readsIn K (adG "Machine" K) (.type "type"),
  isBi "type.__getattribute__" (PySem.W.specialIn K (Value.ref (adG "Machine" K)) "__getattribute__"),
  isNo (PySem.W.findIn K (Value.ref (adG "Machine" K)) "kept_steps"),
  isNo (PySem.W.findIn K (Value.ref (adG "Machine" K)) "kept_answers"),
  isNo (PySem.W.findIn K (Value.ref (adG "Machine" K)) "kept_start"),
  isBi "object.__class__" (PySem.W.findIn K (Value.ref (adG "Machine" K)) "__class__"),
  isBi "getset_descriptor.__get__" (PySem.W.specialIn K (Value.builtin "object.__class__") "__get__")]
def hdE1 (K : PySem.W.Frag) : List Bool := [isB true (PySem.W.takesIn K (Value.builtin "object.__class__")),
  isB true (PySem.W.mroIn K (adG "Machine" K) (.type "object")),
  isB false (PySem.W.kitOne K (.type "NoneType") (Value.ref (adG "Machine" K))),
  isB false (PySem.W.kitOne K (.type "int") (Value.ref (adG "Machine" K))),
  isB false (PySem.W.kitOne K (.type "list") (Value.ref (adG "Machine" K))),
  isB false (PySem.W.kitOne K (.type "str") (Value.ref (adG "Machine" K))),
  isBi "object.__ne__" (PySem.W.findIn K (Value.ref (adG "Machine" K)) "__ne__"),
  isB true (PySem.W.mroIn K (adG "Machine" K) (.type "object")),
  isRf (PySem.W.nsIn K mainGlobals "Notes"),
  PySem.W.plainGet K (adG "Notes" K) Str.empty,
  PySem.W.hasDictIn K (adG "Notes" K),
  PySem.W.plainOver K (adG "Notes" K),
  isBi "object.__setattr__" (PySem.W.findIn K (Value.ref (adG "Notes" K)) "__setattr__"),
  isNo (PySem.W.findIn K (Value.ref (adG "Notes" K)) "by_name"),
  PySem.W.noSeq K (adG "Notes" K),
  isRf (PySem.W.nsIn K mainGlobals "InvalidBook"),
  isRf (PySem.W.nsIn K mainGlobals "InvalidCommand"),
  isRf (PySem.W.nsIn K mainGlobals "InvalidEdit"),
  isRf (PySem.W.nsIn K mainGlobals "InvalidMachine"),
  isRf (PySem.W.nsIn K mainGlobals "InvalidMove"),
  isRf (PySem.W.nsIn K mainGlobals "InvalidName"),
  isRf (PySem.W.nsIn K mainGlobals "InvalidNumber"),
  isRf (PySem.W.nsIn K mainGlobals "InvalidReader"),
  isRf (PySem.W.nsIn K mainGlobals "InvalidRule"),
  isRf (PySem.W.nsIn K mainGlobals "InvalidText"),
  isRf (PySem.W.nsIn K mainGlobals "InvalidTimes"),
  isRf (PySem.W.nsIn K mainGlobals "InvalidWays"),
  isRf (PySem.W.nsIn K mainGlobals "InvalidWord"),
  isRf (PySem.W.nsIn K mainGlobals "NothingToUndo"),
  isRf (PySem.W.nsIn K mainGlobals "RoundError")]
def hdE2 (K : PySem.W.Frag) : List Bool := [isRf (PySem.W.nsIn K mainGlobals "TooMany"),
  isNo (PySem.W.nsIn K mainGlobals "super"),
  isRf (PySem.W.findIn K (Value.ref (adG "InvalidMachine" K)) "__init__"),
  xiAll K (adG "InvalidMachine" K),
  kitRow K (adG "InvalidMachine" K) [((adG "InvalidNumber" K), false), ((adG "InvalidName" K), false), ((adG "InvalidRule" K), false), ((adG "InvalidReader" K), false), ((adG "InvalidBook" K), false), ((adG "InvalidMove" K), false), ((adG "InvalidText" K), false), ((adG "InvalidMachine" K), true), ((adG "InvalidWord" K), false), ((adG "InvalidTimes" K), false), ((adG "InvalidWays" K), false), ((adG "InvalidEdit" K), false), ((adG "InvalidCommand" K), false), ((adG "TooMany" K), false), ((adG "NothingToUndo" K), false), ((adG "RoundError" K), true)],
  isB true (PySem.W.exmOne K (Value.ref (adG "InvalidMachine" K)) (Value.ref (adG "RoundError" K))),
  isRf (PySem.W.findIn K (Value.ref (adG "InvalidName" K)) "__init__"),
  xiAll K (adG "InvalidName" K),
  kitRow K (adG "InvalidName" K) [((adG "InvalidNumber" K), false), ((adG "InvalidName" K), true), ((adG "InvalidRule" K), false), ((adG "InvalidReader" K), false), ((adG "InvalidBook" K), false), ((adG "InvalidMove" K), false), ((adG "InvalidText" K), false), ((adG "InvalidMachine" K), false), ((adG "InvalidWord" K), false), ((adG "InvalidTimes" K), false), ((adG "InvalidWays" K), false), ((adG "InvalidEdit" K), false), ((adG "InvalidCommand" K), false), ((adG "TooMany" K), false), ((adG "NothingToUndo" K), false), ((adG "RoundError" K), true)],
  isB true (PySem.W.exmOne K (Value.ref (adG "InvalidName" K)) (Value.ref (adG "RoundError" K))),
  isRf (PySem.W.nsIn K mainGlobals "is_integer"),
  isRf (PySem.W.nsIn K mainGlobals "is_between"),
  isRf (PySem.W.nsIn K mainGlobals "is_name"),
  isRf (PySem.W.nsIn K mainGlobals "are_steps"),
  isRf (PySem.W.nsIn K mainGlobals "are_answers"),
  isRf (PySem.W.findIn K (Value.ref (adG "Machine" K)) "__init__"),
  PySem.W.isFn K (Value.ref ((adM "Machine" "__init__") K)),
  PySem.W.makesIn K (adG "Machine" K),
  PySem.W.keepIn K (Value.ref (adG "Machine" K)),
  isRf (PySem.W.findIn K (Value.ref (adG "Machine" K)) "steps"),
  isBi "property.__get__" (PySem.W.specialIn K (Value.ref (adM "Machine" "steps" K)) "__get__"),
  isB true (PySem.W.takesIn K (Value.ref (adM "Machine" "steps" K))),
  prB K (adM "Machine" "steps" K),
  isRf (PySem.W.findIn K (Value.ref (adG "Machine" K)) "answers"),
  isBi "property.__get__" (PySem.W.specialIn K (Value.ref (adM "Machine" "answers" K)) "__get__"),
  isB true (PySem.W.takesIn K (Value.ref (adM "Machine" "answers" K))),
  prB K (adM "Machine" "answers" K),
  isRf (PySem.W.findIn K (Value.ref (adG "Machine" K)) "start"),
  isBi "property.__get__" (PySem.W.specialIn K (Value.ref (adM "Machine" "start" K)) "__get__"),
  isB true (PySem.W.takesIn K (Value.ref (adM "Machine" "start" K)))]
def hdE3 (K : PySem.W.Frag) : List Bool := [prB K (adM "Machine" "start" K),
  isRf (PySem.W.findIn K (Value.ref (adG "Machine" K)) "letters"),
  isBi "property.__get__" (PySem.W.specialIn K (Value.ref (adM "Machine" "letters" K)) "__get__"),
  isB true (PySem.W.takesIn K (Value.ref (adM "Machine" "letters" K))),
  prB K (adM "Machine" "letters" K),
  isRf (PySem.W.findIn K (Value.ref (adG "Machine" K)) "__eq__"),
  PySem.W.isFn K (Value.ref ((adM "Machine" "__eq__") K)),
  isRf (PySem.W.findIn K (Value.ref (adG "Machine" K)) "led"),
  PySem.W.isFn K (Value.ref ((adM "Machine" "led") K)),
  He5.wrapB K (adG "Machine" K) "staticmethod" "staticmethod.__get__" "last",
  PySem.W.keepIn K (.ref ((adS "Machine" "last") K)),
  isRf (PySem.W.nsIn K mainGlobals "first_pair"),
  isRf (PySem.W.nsIn K mainGlobals "next_pairs"),
  isRf (PySem.W.nsIn K mainGlobals "is_good"),
  isRf (PySem.W.nsIn K mainGlobals "pairs_of"),
  isRf (PySem.W.nsIn K mainGlobals "is_turnable"),
  isRf (PySem.W.findIn K (Value.ref (adG "Notes" K)) "__init__"),
  PySem.W.isFn K (Value.ref ((adM "Notes" "__init__") K)),
  PySem.W.makesIn K (adG "Notes" K),
  PySem.W.keepIn K (Value.ref (adG "Notes" K)),
  isRf (PySem.W.findIn K (Value.ref (adG "Notes" K)) "__setitem__"),
  PySem.W.isFn K (Value.ref ((adM "Notes" "__setitem__") K)),
  PySem.W.fnIn K ((adM "Notes" "__getitem__") K),
  isRf (PySem.W.findIn K (Value.ref (adG "Notes" K)) "__getitem__"),
  PySem.W.isFn K (Value.ref ((adM "Notes" "__getitem__") K)),
  isRf (PySem.W.findIn K (Value.ref (adG "Notes" K)) "__contains__"),
  PySem.W.isFn K (Value.ref ((adM "Notes" "__contains__") K)),
  isRf (PySem.W.findIn K (Value.ref (adG "Notes" K)) "__len__"),
  PySem.W.isFn K (Value.ref ((adM "Notes" "__len__") K)),
  isRf (PySem.W.findIn K (Value.ref (adG "Notes" K)) "names")]
def hdE4 (K : PySem.W.Frag) : List Bool := [PySem.W.isFn K (Value.ref ((adM "Notes" "names") K)),
  isRf (PySem.W.findIn K (Value.ref (adG "Notes" K)) "turnable"),
  PySem.W.isFn K (Value.ref ((adM "Notes" "turnable") K)),
  isRf (PySem.W.nsIn K mainGlobals "_law_begin"),
  isRf (PySem.W.nsIn K mainGlobals "_law_mixed"),
  isRf (PySem.W.nsIn K mainGlobals "_law_draw"),
  isRf (PySem.W.nsIn K mainGlobals "_law_pick"),
  isRf (PySem.W.nsIn K mainGlobals "_law_draw_machine"),
  isRf (PySem.W.nsIn K mainGlobals "_law_round_pair"),
  isRf (PySem.W.nsIn K mainGlobals "_law_mix_machine"),
  isRf (PySem.W.nsIn K mainGlobals "_law_counter"),
  isRf (PySem.W.nsIn K mainGlobals "_law_commuting"),
  isRf (PySem.W.nsIn K mainGlobals "_law_seen_pair"),
  isRf (PySem.W.nsIn K mainGlobals "_law_make_machine"),
  isRf (PySem.W.nsIn K mainGlobals "_law_which"),
  isRf (PySem.W.nsIn K mainGlobals "_law_caught"),
  isRf (PySem.W.nsIn K mainGlobals "_law_kind"),
  isRf (PySem.W.nsIn K mainGlobals "_law_set"),
  isRf (PySem.W.nsIn K mainGlobals "law"),
  decide (((adT (adG "pairs_of") K) == (adT (adG "law") K)) = false)]
def hdE (K : PySem.W.Frag) : List Bool := hdE0 K ++ (hdE1 K ++ (hdE2 K ++ (hdE3 K ++ (hdE4 K))))
def hdD : HD := ⟨hdF, hdX, hdT, hdL, hdE, PySem.Challenge.pw_joinedrounds_k63_notes.main.file⟩
end K63

set_option pp.maxSteps 400
namespace K63
open PySem PySem.W PySem.Calls PyProof.Rows J
abbrev R0 : OpenRow := OpenLaw.row PySem.Challenge.rw_joinedrounds_k63_notes
def nm0 : List PySem.Str := ["_wall", "RoundError", "InvalidNumber", "InvalidName", "InvalidRule", "InvalidReader", "InvalidBook", "InvalidMove", "InvalidText", "InvalidMachine", "InvalidWord", "InvalidTimes", "InvalidWays", "InvalidEdit", "InvalidCommand", "TooMany", "NothingToUndo", "LETTERS", "MOST_LETTERS", "is_integer", "is_between", "is_name", "MOST_STATES", "MOST_ANSWER", "MOST_WORD", "ALL_LETTERS", "are_steps", "are_answers", "Machine", "first_pair"]
def nm1 : List PySem.Str := ["next_pairs", "is_good", "pairs_of", "is_turnable", "Notes", "_law_begin", "_law_mixed", "_law_draw", "_law_pick", "_law_draw_machine", "_law_round_pair", "_law_mix_machine", "_law_counter", "_law_commuting", "_law_seen_pair", "_law_make_machine", "_law_which", "_law_caught", "_law_kind", "_law_set"]
def nms : List PySem.Str := nm0 ++ (nm1)
abbrev qv : Program := view R0.prog [56]
abbrev hk : Hook := hookJ 6 hdD
def ob (s : SharedT) : AlJ0 × Bool := obsJ 6 hdD (HandSHeadRun.getT s)
theorem ob_eq (s : SharedT) : ob s = hk.obs s.abs := obsJ_eq (HandSHeadRun.getT_eq s)
theorem run_f (w : World) : HandSHeadRun.RunEq R0 qv hk ob 20000 nms (w.withFollow "special-get-raises" false) := by
  intro os
  kernel_rfl
theorem run_t (w : World) : HandSHeadRun.RunEq R0 qv hk ob 20000 nms (w.withFollow "special-get-raises" true) := by
  intro os
  kernel_rfl
theorem run (w : World) : HandSHeadRun.RunEq R0 qv hk ob 20000 nms w := byRow2 "special-get-raises" (P := fun w => HandSHeadRun.RunEq R0 qv hk ob 20000 nms w) run_f run_t w
end K63

/-! J16: len(o), x in o, o[x], o == x by an own class's own methods. -/
namespace J
open PySem PySem.Spec PyProof.Rows L2 Evl RZ
section
variable {X : Cx} {CX : CXT} {k : Nat} {f C : Addr} {fd : FuncData} {ps : List Str} {sp : Sp} {E : XK}
/-- a call somewhere below the running body -/
theorem run_sub {A : Around} {pins : List (Addr × Obj)} {σ : L2.St} {H : Hp} {s : Shared} {Q : VK} {us : List Value} {vs : List V} (sb : Sub X k A) (F : FnOk X.prog X.w X.K X.mg X.base CX k f fd ps sp) (hb : Binds X.K fd ps []) (hx : Passes CX X E)
    (I : Inv X pins σ H s) (r : Vals vs us) (h : sp vs H Q E) : wpAny (model X.prog X.w) A (call (.ref f) us) (EP X pins σ Q) X.xe s := by
  have here : Env0 X.prog X.w X.K X.mg X.base A X.stack s H := by
    have e := I.env0
    exact ⟨by rw [sb.fr]; exact e.frames, e.mod, e.bs, e.bsz, e.funs, e.frf, e.hok, e.bare⟩
  have gLen : us.length = ps.length := by
    rw [← r.length]
    exact F.len _ _ _ _ h
  refine wpAny_call (codeAny_mono (F.run A X.stack s H ⟨us, []⟩ us vs Q E sb.room here (by
    have := hb s us I.kIn (by simpa using gLen)
    simpa using this) r h) fun r s' hq => ?_)
  cases r with
  | error e => exact hx pins σ H s e s' I hq
  | ok fl =>
    cases fl with
    | ret w => exact I.after hq
    | next => exact False.elim hq
    | brk => exact False.elim hq
    | cont => exact False.elim hq
def rLenO (C : Addr) (sp : Sp) (E : XK) : List V → Hp → VK → Prop := fun xs H Q => ∃ a dx fs, xs = [.ref a] ∧ H a = some (.ins C dx fs) ∧ sp [.ref a] H (fun v H' => ∃ n : Int, v = .int n ∧ (0 ≤ n ∧ n < 2 ^ 63) ∧ Q (.int n) H') E
theorem call_lenO (F : FnOk X.prog X.w X.K X.mg X.base CX k f fd ps sp) (M : Meth X.K C "__len__" f) (hr : Room (k + 1) X.A) (hb : Binds X.K fd ps []) (hx : Passes CX X E) : CallR X (.builtin "len") (rLenO C sp E) := by
  intro pins s σ H xs us Q I r h
  obtain ⟨a, dx, fs, rfl, ha, wants⟩ := h
  obtain ⟨u, rfl, ru⟩ := vals1 r
  cases ru
  obtain ⟨mA, J, _⟩ := ins_get I.hok ha
  obtain ⟨od, J, _⟩ := J.look
  obtain ⟨m, frame⟩ := I.fr
  refine PySem.W.len_K frame I.ok.mod.kin J M.at_ M.fn (wpAny_mono (run_sub (A := X.A.in1) (k := k) (vs := [V.ref a]) ⟨hr.in1, rfl⟩ F hb hx I (.cons rfl .nil) wants) (fun v s' back => ?_) fun _ _ z => z)
  obtain ⟨x, H', I', rx, n, rfl, hn, q⟩ := back
  obtain ⟨t, rfl⟩ := rx
  exact ⟨hn, .int n, H', I'.tok _, ⟨_, rfl⟩, q⟩
def rInO (C : Addr) (sp : Sp) (E : XK) : R2 := fun x y H Q => ∃ a dx fs, y = .ref a ∧ H a = some (.ins C dx fs) ∧ sp [.ref a, x] H (fun v H' => ∃ b, v = .bl b ∧ Q (.bl b) H') E
def rNotInO (C : Addr) (sp : Sp) (E : XK) : R2 := fun x y H Q => ∃ a dx fs, y = .ref a ∧ H a = some (.ins C dx fs) ∧ sp [.ref a, x] H (fun v H' => ∃ b, v = .bl b ∧ Q (.bl (!b)) H') E
theorem op_inO (F : FnOk X.prog X.w X.K X.mg X.base CX k f fd ps sp) (M : Meth X.K C "__contains__" f) (hr : Room k X.A) (hb : Binds X.K fd ps []) (hx : Passes CX X E) : OpR X (compareOp .In) (rInO C sp E) := by
  intro pins s σ H x y v u Q I rx ry h
  obtain ⟨a, dx, fs, rfl, ha, wants⟩ := h
  cases ry
  obtain ⟨mA, J, _⟩ := ins_get I.hok ha
  obtain ⟨od, J, _⟩ := J.look
  obtain ⟨m, frame⟩ := I.fr
  refine PySem.W.in_K frame I.ok.mod.kin J M.at_ M.fn (wpAny_mono (run_sub (A := X.A) (vs := [V.ref a, x]) ⟨hr, rfl⟩ F hb hx I (.cons rfl (.cons rx .nil)) wants) (fun v s' back => ?_) fun _ _ z => z)
  obtain ⟨x, H', I', rx, b, rfl, q⟩ := back
  cases rx
  exact wpAny_truthy_bool ⟨.bl b, H', I', rfl, q⟩
theorem op_notInO (F : FnOk X.prog X.w X.K X.mg X.base CX k f fd ps sp) (M : Meth X.K C "__contains__" f) (hr : Room k X.A) (hb : Binds X.K fd ps []) (hx : Passes CX X E) : OpR X (compareOp .NotIn) (rNotInO C sp E) := by
  intro pins s σ H x y v u Q I rx ry h
  obtain ⟨a, dx, fs, rfl, ha, wants⟩ := h
  cases ry
  obtain ⟨mA, J, _⟩ := ins_get I.hok ha
  obtain ⟨od, J, _⟩ := J.look
  obtain ⟨m, frame⟩ := I.fr
  refine PySem.W.notIn_K frame I.ok.mod.kin J M.at_ M.fn (wpAny_mono (run_sub (A := X.A) (vs := [V.ref a, x]) ⟨hr, rfl⟩ F hb hx I (.cons rfl (.cons rx .nil)) wants) (fun v s' back => ?_) fun _ _ z => z)
  obtain ⟨x, H', I', rx, b, rfl, q⟩ := back
  cases rx
  exact wpAny_truthy_bool ⟨.bl (!b), H', I', rfl, q⟩
end
section
variable {r : Rs} {s : L2.St} {S : Hp} {ta tb : TE} {v : V} {A : Type} {C : Addr} {pre : A → List V → Hp → Prop} {post : A → V → Hp → Prop} {E : XK}
/-- len(o), o told by a relation -/
theorem vv_lenO {n : Int} (a : A) (h : EvV r ta s S v) (back : ∃ x dx fs, v = .ref x ∧ S x = some (.ins C dx fs)) (hn : 0 ≤ n ∧ n < 2 ^ 63) (hp : ∀ S1, Ex S S1 → pre a [v] S1) (hq : ∀ u S1, post a u S1 → u = .int n) : EvV r (tCB (rLenO C (SpP pre post) E) (tCons ta tNil)) s S (.int n) := fun S1 H e w Q q =>
  h S1 H e w _ fun u S2 H2 w2 s2 eu => by
    subst eu
    obtain ⟨x, dx, fs, rfl, hx⟩ := back
    have e2 := e.trans s2.ex
    refine ⟨x, dx, fs, rfl, w2.ex _ _ (e2 _ _ hx), a, S2, hp S2 e2, w2.ex, fun u S3 H3 w3 s3 p3 => ⟨n, hq u S3 p3, hn, q _ S3 H3 (w2.lift w3 s3) (s2.trans s3.lift) rfl⟩⟩
theorem vv_inO {b : Bool} {x y : V} (a : A) (hx : EvV r ta s S x) (hy : EvV r tb s S y) (back : ∃ z dx fs, y = .ref z ∧ S z = some (.ins C dx fs)) (hp : ∀ S1, Ex S S1 → pre a [y, x] S1) (hq : ∀ u S1, post a u S1 → u = .bl b) : EvV r (tOp (rInO C (SpP pre post) E) ta tb) s S (.bl b) := fun S1 H e w Q q =>
  hx S1 H e w _ fun u S2 H2 w2 s2 eu => hy S2 H2 (e.trans s2.ex) w2 _ fun u' S3 H3 w3 s3 eu' => by
    subst eu
    subst eu'
    obtain ⟨z, dx, fs, rfl, hz⟩ := back
    have e3 := e.trans (s2.ex.trans s3.ex)
    exact ⟨z, dx, fs, rfl, w3.ex _ _ (e3 _ _ hz), a, S3, hp S3 e3, w3.ex, fun u S4 H4 w4 s4 p4 => ⟨b, hq u S4 p4, q _ S4 H4 (w3.lift w4 s4) ((s2.trans s3).trans s4.lift) rfl⟩⟩
theorem vv_notInO {b : Bool} {x y : V} (a : A) (hx : EvV r ta s S x) (hy : EvV r tb s S y) (back : ∃ z dx fs, y = .ref z ∧ S z = some (.ins C dx fs)) (hp : ∀ S1, Ex S S1 → pre a [y, x] S1) (hq : ∀ u S1, post a u S1 → u = .bl b) : EvV r (tOp (rNotInO C (SpP pre post) E) ta tb) s S (.bl (!b)) := fun S1 H e w Q q =>
  hx S1 H e w _ fun u S2 H2 w2 s2 eu => hy S2 H2 (e.trans s2.ex) w2 _ fun u' S3 H3 w3 s3 eu' => by
    subst eu
    subst eu'
    obtain ⟨z, dx, fs, rfl, hz⟩ := back
    have e3 := e.trans (s2.ex.trans s3.ex)
    exact ⟨z, dx, fs, rfl, w3.ex _ _ (e3 _ _ hz), a, S3, hp S3 e3, w3.ex, fun u S4 H4 w4 s4 p4 => ⟨b, hq u S4 p4, q _ S4 H4 (w3.lift w4 s4) ((s2.trans s3).trans s4.lift) rfl⟩⟩
end
end J

set_option pp.maxSteps 3000
/-! J17: C(**d): a new instance by the texts of a dict. -/
namespace J
open PySem PySem.Spec PyProof.Rows L2 Evl RZ
section
variable {prog : Program} {w : World} {κ : Type} [DecidableEq κ] {knd : KeyKind prog w κ} {A : Around} {E : Value → Shared → Prop} {s : Shared}
theorem wp_dictPut {d : Addr} {before : List (κ × Value)} {k : κ} {kv0 v : Value} {Q : Unit → Shared → Prop} (isKey : knd.is k kv0 = true) (gD : s.heap.DictOf knd d before) (gNot : k ∉ before.map (·.1))
    (goOn : ∀ h', h'.DictOf knd d (before ++ [(k, v)]) → Heap.SameBut d s.heap h' → Q () { s with heap := h' }) (gLen : before.length ≤ sizeLine) :
    wpAny (model prog w) A (dictFind d kv0 (knd.hash k) >>= fun r => if r.isSome = true then (rule "dict.merge.duplicate-key" >>= fun _ => newExc (.type "KeyError") [kv0] >>= fun e => (raiseNew e : Sem PUnit) >>= fun _ => dictPut d (knd.hash k) kv0 v) else dictPut d (knd.hash k) kv0 v) Q E s := by
  obtain ⟨ob0, ents, eno, gOb, gCls, gDat, gKs, gPs, gNd⟩ := gD
  have gSize : ents.size ≤ sizeLine := by
    have e1 := gPs.length
    have e2 : ents.toList.length = ents.size := by simp
    omega
  have gIx : (ents.findIdx? fun e => knd.is k e.key) = before.findIdx? fun kv => decide (kv.1 = k) := by
    rw [← gPs.findIdx k]; obtain ⟨l⟩ := ents; simp
  have gNone : (ents.findIdx? fun e => knd.is k e.key) = none := by
    rw [gIx, List.findIdx?_eq_none_iff]
    intro kv hkv
    exact decide_eq_false fun e => gNot (List.mem_map.mpr ⟨kv, hkv, e⟩)
  refine wpAny_bind (wpAny_dictFind_of isKey gOb gDat gKs ?_)
  rw [gNone]
  simp only [Option.isSome_none, Bool.false_eq_true, if_false]
  unfold dictPut
  refine wpAny_bind (wpAny_dictFind_of isKey gOb gDat gKs ?_)
  rw [gNone]
  refine (wpAny_updateDictKeys (hz := gSize) gOb gDat (goOn _ ⟨_, _, eno + 1, Heap.get?_update_self _ gOb (Obj.isFreed_of_dict (Obj.data_mapDictKeys gDat _)),
      gCls.mapDictKeys _, Obj.data_mapDictKeys gDat _, gKs.push isKey _, ?_, ?_⟩ (Heap.SameBut.update ..)))
  · have := gPs.append isKey (knd.hash k) v
    obtain ⟨l⟩ := ents
    simpa using this
  · rw [List.map_append, List.nodup_append]
    refine ⟨gNd, by simp, ?_⟩
    intro a ha b hb
    simp only [List.map_cons, List.map_nil, List.mem_singleton] at hb
    subst hb
    exact fun e => gNot (e ▸ ha)
theorem wp_merge {d o : Addr} {items : List (κ × Value)} {Q : Unit → Shared → Prop} (apart : d ≠ o) (noSys : (o == sysModules) = false)
    (hd : s.heap.DictOf knd d []) (ho : s.heap.DictOf knd o items)
    (goOn : ∀ h', h'.DictOf knd d items → Heap.SameBut d s.heap h' → Q () { s with heap := h' })
    (gFits : items.length ≤ sizeLine) : wpAny (model prog w) A (mergeMapping d (.ref o) true) Q E s := by
  obtain ⟨tgt, tgtEs, tgtEp, gTgt, gTgtC, gTgtD, gTgtK, gTgtP, gTgtN⟩ := id hd
  obtain ⟨src, srcEs, srcEp, gSrc, gSrcC, gSrcD, gSrcK, gSrcP, gSrcN⟩ := id ho
  have gLen : items.length = srcEs.size := by rw [← gSrcP.length]; simp
  have h0 : tgtEs = #[] := by
    have := gTgtP.length
    simp at this
    exact this
  unfold mergeMapping
  refine wpAny_bind (wpAny_isInstance ho.typeIs isSubtype_dict_dict ?_)
  simp only [if_true]
  refine wpAny_bind (wpAny_specialOf ho.typeIs F.slot_dict_iter.lookup ?_)
  simp only [beq_self_eq_true]
  refine wpAny_bind (wpAny_pure ?_)
  simp only [noSys, Bool.false_eq_true, if_false]
  refine wpAny_bind (wpAny_dictEntries gTgt gTgtD ?_)
  rw [h0]
  simp only [Array.isEmpty_empty, if_true]
  refine wpAny_bind (wpAny_dictEntries gSrc gSrcD ?_)
  have quiet : (forIn srcEs PUnit.unit fun (e : DictEntry) (_ : PUnit) => (do
      match e.key with
        | Value.ref a => do
          let __do_lift ← specialOf e.key (Str.ofString "__eq__")
          if (__do_lift != some (Value.builtin "object.__eq__")) = true then
              if (Array.filter (fun x => x.hash == e.hash) srcEs).size > 1 then do
                let _ ← (unsupported "dict.merge-into-an-empty-dict:keys-of-equal-hash" : Sem PUnit)
                pure (ForInStep.yield PUnit.unit)
              else pure (ForInStep.yield PUnit.unit)
            else pure (ForInStep.yield PUnit.unit)
        | x => pure (ForInStep.yield PUnit.unit) : Sem (ForInStep PUnit))) = pure PUnit.unit := by
    rw [← Array.forIn_toList]
    refine forIn_yield_id _ fun e he c => ?_
    obtain ⟨k, isKey, _⟩ := gSrcK e (Array.mem_toList_iff.mp he)
    have hb := knd.byValue k _ isKey
    cases hv : e.key with
    | ref a =>
      rw [hv] at hb
      exact absurd hb Bool.false_ne_true
    | _ => rfl
  refine wpAny_bind (wpAny_of_eq quiet ?_)
  refine wpAny_bind (wpAny_dictEntries gSrc gSrcD ?_)
  refine wpAny_bind (wpAny_dictEpoch gSrc gSrcD ?_)
  refine wpAny_bind ?_
  rw [List.range_eq_range']
  refine wpAny_forIn_list _
      (fun rest _ s' => ∃ h' i, s' = { s with heap := h' } ∧ rest = List.range' i (srcEs.size - i) ∧ i ≤ srcEs.size ∧ h'.DictOf knd d (items.take i) ∧ h'.get? o = some src ∧ Heap.SameBut d s.heap h')
      _ ?_ ?_ _ _ ⟨s.heap, 0, rfl, by simp, Nat.zero_le _, by simpa using hd, gSrc, Heap.SameBut.refl _ _⟩
  · rintro x rest b s' ⟨h', i, rfl, gRest, gI, nowD, nowS, nowB⟩
    have gLt : i < srcEs.size := by
      rcases Nat.lt_or_ge i srcEs.size with h | h
      · exact h
      · rw [Nat.sub_eq_zero_of_le h] at gRest; simp at gRest
    obtain ⟨rfl, gTail⟩ : x = i ∧ rest = List.range' (i + 1) (srcEs.size - (i + 1)) := by
      have e : srcEs.size - i = (srcEs.size - (i + 1)) + 1 := by omega
      rw [e, List.range'_succ] at gRest
      injection gRest with h1 h2
      exact ⟨h1, h2⟩
    refine wpAny_bind (wpAny_dictEntries nowS gSrcD ?_)
    rw [Array.getElem?_eq_getElem gLt]
    obtain ⟨kv, gAt⟩ : ∃ kv, items[x]? = some kv := ⟨items[x]'(by rw [gLen]; exact gLt), List.getElem?_eq_getElem _⟩
    obtain ⟨k, v⟩ := kv
    obtain ⟨isKey, gVal⟩ := gSrcP.get? (e := srcEs[x]) (by simp [gLt]) gAt
    obtain ⟨k', isKey2, gHash⟩ := gSrcK srcEs[x] (Array.getElem_mem gLt)
    obtain rfl : k' = k := knd.inj _ _ _ isKey2 isKey
    dsimp only
    rw [gHash, gVal]
    have gNew : k' ∉ (items.take x).map (·.1) := fun hm => by
      have hx : x < items.length := by omega
      have e1 : (items.map (·.1)) = (items.take x).map (·.1) ++ (items.drop x).map (·.1) := by rw [← List.map_append, List.take_append_drop]
      rw [e1, List.nodup_append] at gSrcN
      refine gSrcN.2.2 k' hm k' ?_ rfl
      rw [List.drop_eq_getElem_cons hx, List.map_cons, (List.getElem?_eq_some_iff.mp gAt).2]
      exact List.mem_cons_self
    refine wpAny_bind (wpAny_holding (wp_dictPut isKey nowD gNew (fun h'' thenD thenB => ?_) (by rw [List.length_take]; omega)))
    have thenS : h''.get? o = some src := (thenB.2 o (Ne.symm apart)).trans nowS
    refine wpAny_bind (wpAny_dictEpoch thenS gSrcD ?_)
    rw [if_neg (by simp)]
    refine wpAny_pure ⟨h'', x + 1, rfl, gTail, gLt, ?_, thenS, nowB.trans thenB⟩
    rw [List.take_add_one, gAt]
    exact thenD
  · rintro b s' ⟨h', i, rfl, gRest, gI, nowD, nowS, nowB⟩
    have gEnd : i = srcEs.size := by
      rcases Nat.lt_or_ge i srcEs.size with h | h
      · have e : srcEs.size - i = (srcEs.size - (i + 1)) + 1 := by omega
        rw [e, List.range'_succ] at gRest; exact nomatch gRest
      · exact Nat.le_antisymm gI h
    rw [gEnd, ← gLen, List.take_length] at nowD
    exact wpAny_pure (goOn h' nowD nowB)
end
end J

set_option pp.maxSteps 3000
/-! J18: C(**d): a new instance by the texts of a dict. -/
namespace J
open PySem PySem.Spec PyProof.Rows L2 Evl RZ
theorem forIn_kw {F : DictEntry → List (Str × Value) → Sem (ForInStep (List (Str × Value)))} (hF : ∀ h s t v kw, F ⟨h, .str s t, v⟩ kw = pure (.yield (kw ++ [(s, v)]))) : ∀ (l : List DictEntry) (ps kw : List (Str × Value)), Paired (fun (e : DictEntry) (p : Str × Value) => (∃ t, e.key = .str p.1 t) ∧ e.val = p.2) l ps → forIn l kw F = pure (kw ++ ps)
  | [], _, kw, h => by
    cases h
    rw [List.append_nil]
    rfl
  | ⟨hh, key, v⟩ :: l, _, kw, h => by
    cases h with
    | cons a t =>
      rename_i p ps
      obtain ⟨⟨tk, e1⟩, e2⟩ := a
      dsimp only at e1 e2
      subst e1
      subst e2
      rw [List.forIn_cons, hF, pure_bind]
      dsimp only
      rw [forIn_kw hF l ps _ t, List.append_assoc]
      rfl
theorem forIn_one {α β : Type} {F : α → β → Sem (ForInStep β)} {a : α} {b : β} : forIn [a] b F = F a b >>= fun r => match r with
    | .done b => pure b
    | .yield b => pure b := by
  rw [List.forIn_cons]
  congr 1
section
variable {prog : Program} {w : World} {A : Around} {E : Value → Shared → Prop} {s : Shared}
theorem pairs_kw : ∀ {es : List DictEntry} {more : List (Key × Value)}, PySem.Pairs (mixKind prog w) es more → ∀ ks : List Str, more.map (·.1) = ks.map Sum.inr → Paired (fun (e : DictEntry) (p : Str × Value) => (∃ t, e.key = .str p.1 t) ∧ e.val = p.2) es (ks.zip (more.map (·.2)))
  | _, _, .nil, ks, h => by
    cases ks with
    | nil => exact .nil
    | cons k ks => cases h
  | _, _, .cons (e := e) (kv := kv) h1 h2 t, ks, h => by
    cases ks with
    | nil => cases h
    | cons k ks =>
      rw [List.map_cons, List.map_cons] at h
      injection h with h3 h4
      refine .cons ⟨?_, h2⟩ (pairs_kw t ks h4)
      rcases keyIs_shape (show keyIs kv.1 e.key = true from h1) with ⟨i, tk, q1, q2⟩ | ⟨x, tk, q1, q2⟩
      · rw [q1] at h3
        cases h3
      · rw [q1] at h3
        injection h3 with h3
        subst h3
        exact ⟨tk, q2⟩
theorem wp_kwIn {f : Value} {d : Addr} {more : List (Key × Value)} {ks : List Str} {Q : List (Str × Value) → Shared → Prop} (hd : s.heap.DictOf (mixKind prog w) d more) (hk : more.map (·.1) = ks.map Sum.inr) (hQ : Q (ks.zip (more.map (·.2))) s) :
    wpAny (model prog w) A (keywordsIn f d) Q E s := by
  obtain ⟨o, es, ep, ho, hc, hdat, hko, hp, hno⟩ := id hd
  unfold keywordsIn
  refine wpAny_bind (wpAny_dictEntries ho hdat ?_)
  have hpr : Paired (fun (e : DictEntry) (p : Str × Value) => (∃ t, e.key = .str p.1 t) ∧ e.val = p.2) es.toList (ks.zip (more.map (·.2))) := pairs_kw hp ks hk
  rw [← Array.forIn_toList]
  refine wpAny_bind (wpAny_of_eq (forIn_kw (fun _ _ _ _ _ => rfl) _ _ _ hpr) ?_)
  exact wpAny_pure hQ
theorem wp_merged {f : Value} {x : Sem Value} {Q : Addr → Shared → Prop}
    (h : wpAny (model prog w) A x (fun v s1 => wpAny (model prog w) A (mergeMapping s.heap.objs.size v true) (fun _ s2 => Q s.heap.objs.size s2) (fun _ _ => False) s1) E { s with heap := s.heap.push { cls := .type "dict", data := .dict #[] } }) :
    wpAny (model prog w) A (mergedKeywords f [(none, x)]) Q E s := by
  unfold mergedKeywords
  refine wpAny_bind (wpAny_alloc ?_)
  dsimp only
  refine wpAny_bind (wpAny_holding ?_)
  rw [forIn_one]
  refine wpAny_bind (wpAny_bind ?_)
  refine wpAny_bind (wpAny_pure ?_)
  refine wpAny_bind (wpAny_mono h (fun v s1 h1 => ?_) fun _ _ z => z)
  refine wpAny_bind (wpAny_onRaise (wpAny_holding (wpAny_tryCatch (wpAny_onRaise (wpAny_mono h1 (fun _ s2 h2 => ?_) fun _ _ z => z.elim)))))
  refine wpAny_pure (wpAny_pure ?_)
  exact (show wpAny (model prog w) A (pure ()) _ E s2 from wpAny_pure (wpAny_pure h2))
theorem ev_args {f : Value} {x : Sem Value} {Q : Args → Shared → Prop}
    (h : wpAny (model prog w) A (mergedKeywords f [(none, x)]) (fun d s1 => wpAny (model prog w) A (keywordsIn f d) (fun kw s2 => Q ⟨[], kw⟩ s2) E s1) E s) : wpAny (model prog w) A (evalArgs f true [] [(none, x)]) Q E s := by
  unfold evalArgs
  refine wpAny_bind (wpAny_bind (wpAny_pure (wpAny_pure ?_)))
  refine wpAny_bind (wpAny_pure ?_)
  refine wpAny_holding ?_
  refine (show wpAny (model prog w) A (mergedKeywords f [(none, x)] >>= fun d => (pure [] : Sem (List Value)) >>= fun pos => holding (Value.ref d :: pos) (keywordsIn f d) >>= fun kw => pure (⟨pos, kw⟩ : Args)) _ E s from ?_)
  refine wpAny_bind (wpAny_mono h (fun d s1 h1 => ?_) fun _ _ z => z)
  exact wpAny_bind (wpAny_pure (wpAny_bind (wpAny_holding (wpAny_mono h1 (fun _ _ z => wpAny_pure z) fun _ _ z => z))))
theorem call_with {f : Value} {pos : Pos} {x : Sem Value} {Q : Value → Shared → Prop} {P : Heap → Prop}
    (keeps : ∀ h, P h → ∃ k, (k = Keeper.frame ∨ k = Keeper.machine ∨ k = Keeper.boundFrame) ∧ PySem.W.Looks (model prog w) h (keeperOf f) k)
    (h : wpAny (model prog w) A (evalArgs f true [] [(none, x)]) (fun a st1 => P st1.heap ∧ wpAny (model prog w) A (call f ([] ++ a.pos) a.kw) Q E st1) E s) : wpAny (model prog w) A (callWith pos f [] [] [(none, x)]) Q E s := by
  unfold callWith
  refine wpAny_bind (wpAny_holding (wpAny_mono h (fun a st1 got => wpAny_bind (wpAny_standAt ?_)) fun _ _ x => x))
  obtain ⟨k, kinds, look⟩ := keeps _ got.1
  refine wpAny_bind (look.here ?_)
  have closing : ∀ {t : Sem Value}, wpAny (model prog w) A t Q E st1 → wpAny (model prog w) A (t >>= fun r => holding [r] point >>= fun _ => pure r) Q E st1 :=
    fun run => wpAny_bind (wpAny_mono run (fun r st2 back => wpAny_bind (wpAny_holding (wpAny_point (wpAny_pure back)))) fun _ _ x => x)
  have byMark (mk : Value) : wpAny (model prog w) A (callMarked mk f ([] ++ a.pos) a.kw) Q E st1 := by unfold callMarked; exact Calls.wpAny_keep got.2
  rcases kinds with rfl | rfl | rfl <;> dsimp only <;> first | exact closing (byMark _) | exact closing (wpAny_operating got.2) | exact closing got.2
end
/-- C(**e): first a new dict, then e, whose items go there; then a new instance -/
def tMakeD (C : Addr) (ks : List Str) (sp : Sp) (gV : List V → List V → List V) (E : XK) (te : TE) : TE := fun σ H Q => ∀ D, H D = none → te σ (upd H D (.dK [])) fun v H1 => H1 D = some (.dK []) ∧ ∃ a kvs, v = .ref a ∧ a ≠ D ∧ H1 a = some (.dK kvs) ∧ kvs.map (·.1) = ks.map Sum.inr ∧
  ∀ x dx, (upd H1 D (.dK kvs)) x = none → (upd H1 D (.dK kvs)) dx = none → dx ≠ x → sp (gV [.ref x] (kvs.map (·.2))) (upd (upd (upd H1 D (.dK kvs)) dx (.own x)) x (.ins C dx [])) (fun v H3 => v = .non ∧ Q (.ref x) H3) E
theorem kv_vals : ∀ {kvs : List (Key × V)} {vs : List (Key × Value)}, KV kvs vs → Vals (kvs.map (·.2)) (vs.map (·.2))
  | _, _, .nil => .nil
  | _, _, .cons h t => .cons h.2 (kv_vals t)
section
variable {X : Cx} {CX : CXT} {k : Nat} {f C : Addr} {fd : FuncData} {ps ks : List Str} {sp : Sp} {E : XK} {x : Str} {p pos kpos : Pos} {e : Expr} {te : TE} {g : List Value → List Value → List Value} {gV : List V → List V → List V}
theorem pe_makeD (M : Mk X.K C f) (F : FnOk X.prog X.w X.K X.mg X.base CX k f fd ps sp) (hr : Room (k + 1) X.A) (hg : Gl X x) (hm : X.mg x = some (.ref C)) (hb : KBn X.K fd ps 1 ks g gV) (hx : Passes CX X E) (he : PE X e te)
    (hkw : backToKw pos (keywordEach [⟨none, e, kpos⟩] X.env) = [(none, do let v ← eval e X.env; standAt pos; pure v)] := by rfl) (hdb : (x == ("__debug__" : Str)) = false := by decide) :
    PE X (.Call (.Name x p) [] [⟨none, e, kpos⟩] pos) (tMakeD C ks sp gV E te) := by
  refine ⟨fun pins s σ H Q I h => ?_⟩
  have hn := I.hok.fresh (Nat.le_refl s.heap.objs.size)
  have I1 := I.laid (a := s.heap.objs.size) (o := .dK []) (h' := s.heap.push { cls := .type "dict", data := .dict #[] }) (t' := s.toks) (fun _ _ q => Heap.get?_push_of_some _ q) (Nat.le_refl _) (dk_empty s.heap I.big)
  refine wpAny_Call_Name_kw (ld_glob I hg hm ?_ hdb)
  rw [hkw]
  refine call_with (P := fun h => X.K.In h) (PySem.W.keeps_K M.kp) (ev_args (wp_merged ?_))
  refine wpAny_bind (thn (he.run pins _ σ _ _ I1 (h _ hn)) fun u s2 ⟨v, H2, I2, rv, eD, a, kvs, ev, ne, ha, hks, q2⟩ => wpAny_bind (wpAny_standAt (wpAny_pure ?_)))
  subst ev
  cases rv
  obtain ⟨z, lo, vs, rel, dd⟩ := dk_of I2.hok ha
  obtain ⟨z0, hd0, vs0, r0, dd0⟩ := dk_of I2.hok eD
  cases r0
  have hl : vs.length ≤ sizeLine := by
    rw [← rel.length]
    exact z
  refine wp_merge (knd := mixKind X.prog X.w) (Ne.symm ne) lo dd0 dd (fun h' dd' hs => ?_) hl
  have hex : ∃ q, h'.get? s.heap.objs.size = some q := let ⟨q, _, _, hq, _⟩ := dd'; ⟨q, hq⟩
  have I3 := d_write (t' := s2.toks) I2 (by rw [eD]; exact True.intro) hs hex (dk_new z hd0 rel dd')
  have hks2 : vs.map (·.1) = ks.map Sum.inr := by
    rw [← rel.keys]
    exact hks
  refine wp_kwIn dd' hks2 ⟨I3.kIn, ?_⟩
  have hlen : (kvs.map (·.2)).length = ks.length := by
    have := congrArg List.length hks
    rw [List.length_map, List.length_map] at this
    rw [List.length_map, this]
  exact run_makeK (us := []) (vs := []) M F hr hb hx I3 .nil (kv_vals rel) rfl hlen q2
end
section
variable {r : Rs} {s : L2.St} {S : Hp} {te : TE} {A : Type} {C : Addr} {ks : List Str} {pre : A → List V → Hp → Prop} {fr : A → List (Str × V) → Hp → Prop} {gV : List V → List V → List V} {E : XK} {P : List (Key × V) → Hp → Prop} {R : HO → Hp → Prop}
theorem en_makeD (h : EvS r te s S fun v S1 => ∃ a kvs, v = .ref a ∧ S1 a = some (.dK kvs) ∧ P kvs S1)
    (hp : ∀ kvs S1, Ex S S1 → P kvs S1 → kvs.map (·.1) = ks.map Sum.inr ∧ ∃ b us, (∀ x, gV [.ref x] (kvs.map (·.2)) = .ref x :: us) ∧ pre b us S1 ∧ ∀ dx fs S2, Ex S1 S2 → fr b fs S2 → R (.ins C dx fs) S2) : EvN r (tMakeD C ks (SpInit C pre fr) gV E te) s S R := fun S1 H e w Q q D hD =>
  h S1 (upd H D (.dK [])) e (w.new hD) _ fun v S2 H2 w2 s2 ⟨a, kvs, ev, ha, hpk⟩ => by
    have nD : D ∉ r.M := w.notM hD
    have h2 : H2 D = some (.dK []) := s2.kp D _ nD upd_same
    have n2 : S2 D = none := s2.fr D (ne_none upd_same) (w.fresh hD)
    obtain ⟨hk, b, us, hg, p1, p2⟩ := hp kvs S2 (e.trans s2.ex) hpk
    refine ⟨h2, a, kvs, ev, ne_of_none ha n2, w2.ex _ _ ha, hk, fun x dx hx hdx ne => ?_⟩
    rw [hg x]
    exact make_tail (w2.mut n2 nD) (((Stp.new hD).trans s2).mut hD) hx hdx ne p1 p2 q
/-- d[k] = e, d not stable -/
theorem sq_dput {r : Rs} {S H : Hp} {l : Addr} {kvs : List (Key × V)} {kk : Key} {td ty tv : TE} {tz : TS} {D : Ends} {R : V → Hp → Prop} (n : l ∉ r.M) (hv : EvS r tv s S R) (ho : EvV r td s S (.ref l)) (hk : EvV r ty s S (kV kk)) (w : Wd r S H) (hl : H l = some (.dK kvs)) (hs : S l = none) (hz : kvs.length < 100000)
    (k : ∀ v S1 H1, Wd r S1 H1 → Stp (r.more [l]) S H S1 H1 → S1 l = none → H1 l = some (.dK (putK kvs kk v)) → R v S1 → tz D s H1) : tSeq (sDPut td ty tv) tz D s H :=
  hv S H (Ex.refl _) w _ fun v S1 H1 w1 s1 p => ho S1 H1 s1.ex w1 _ fun u S2 H2 w2 s2 eu => hk S2 H2 (s1.ex.trans s2.ex) w2 _ fun u' S3 H3 w3 s3 eu' => by
    subst eu
    subst eu'
    have s13 := (s1.trans s2).trans s3
    refine ⟨l, upd H3 l (.dK (putK kvs kk v)), rfl, ?_, ?_⟩
    · exact DPut.k (s13.kp l _ n hl) (sz_lt hz)
    · refine k v S1 _ ⟨Ex.mut ((s2.ex.trans s3.ex).trans w3.ex) (s1.fr l (ne_none hl) hs), r.mono H3 _ (fun b o hb e => by
        rw [upd_ne (fun z : b = l => n (z ▸ hb))]
        exact e) (CoK.upd (nco_dK (s13.kp l _ n hl))) w3.inv, w1.dj⟩ ⟨s1.ex, fun b o nb e => ?_, s1.fr, fun b hb => ?_⟩ (s1.fr l (ne_none hl) hs) upd_same p
      · rw [upd_ne (fun z : b = l => nb (List.mem_append_left _ (z ▸ List.mem_singleton.mpr rfl)))]
        exact s13.kp b o (fun z => nb (List.mem_append_right _ z)) e
      · intro z
        by_cases e : b = l
        · rw [e, upd_same] at z
          cases z
        · rw [upd_ne e] at z
          exact s13.dm b hb z
end
end J

/-! J19: o == p of two instances of one class by its own __eq__. -/
namespace J
open PySem PySem.Spec PyProof.Rows L2 Evl RZ
section
variable {X : Cx} {CX : CXT} {k : Nat} {f C : Addr} {fd : FuncData} {ps : List Str} {sp : Sp} {E : XK}
def rEqO (C : Addr) (sp : Sp) (E : XK) : R2 := fun x y H Q => ∃ a dx fs b dy gs, x = .ref a ∧ y = .ref b ∧ H a = some (.ins C dx fs) ∧ H b = some (.ins C dy gs) ∧ sp [.ref a, .ref b] H (fun v H' => ∃ z, v = .bl z ∧ Q (.bl z) H') E
theorem op_eqO (F : FnOk X.prog X.w X.K X.mg X.base CX k f fd ps sp) (M : Meth X.K C "__eq__" f) (hr : Room k X.A) (hb : Binds X.K fd ps []) (hx : Passes CX X E) : OpR X (compareOp .Eq) (rEqO C sp E) := by
  intro pins s σ H x y v u Q I rx ry h
  obtain ⟨a, dx, fs, b, dy, gs, rfl, rfl, ha, hb2, wants⟩ := h
  cases rx
  cases ry
  obtain ⟨mA, J, _⟩ := ins_get I.hok ha
  obtain ⟨od, J, _⟩ := J.look
  obtain ⟨mB, J', _⟩ := ins_get I.hok hb2
  obtain ⟨od', J', _⟩ := J'.look
  obtain ⟨m, frame⟩ := I.fr
  refine PySem.W.cmp_ofEq (PySem.W.cmp_K (op := .Eq) (tb := .ref C) hr.units0 frame I.ok.mod.kin J J'.type (by simp [PySem.W.notFirst]) M.at_ M.fn ?_)
  refine wpAny_mono (run_sub (A := X.A) (vs := [V.ref a, V.ref b]) ⟨hr, rfl⟩ F hb hx I (.cons rfl (.cons rfl .nil)) wants) (fun w s' back => ?_) fun _ _ z => z
  obtain ⟨t, H', I', rt, z, rfl, q⟩ := back
  cases rt
  exact ⟨.bl z, H', I', rfl, q⟩
end
section
variable {r : Rs} {s : L2.St} {S : Hp} {ta tb : TE} {A : Type} {C : Addr} {pre : A → List V → Hp → Prop} {post : A → V → Hp → Prop} {E : XK}
theorem vv_eqO {b : Bool} {x y : V} (a : A) (hx : EvV r ta s S x) (hy : EvV r tb s S y) (bx : ∃ z dx fs, x = .ref z ∧ S z = some (.ins C dx fs)) (bk : ∃ z dx fs, y = .ref z ∧ S z = some (.ins C dx fs)) (hp : ∀ S1, Ex S S1 → pre a [x, y] S1) (hq : ∀ u S1, post a u S1 → u = .bl b) : EvV r (tOp (rEqO C (SpP pre post) E) ta tb) s S (.bl b) := fun S1 H e w Q q =>
  hx S1 H e w _ fun u S2 H2 w2 s2 eu => hy S2 H2 (e.trans s2.ex) w2 _ fun u' S3 H3 w3 s3 eu' => by
    subst eu
    subst eu'
    obtain ⟨z, dx, fs, rfl, hz⟩ := bx
    obtain ⟨z', dx', fs', rfl, hz'⟩ := bk
    have e3 := e.trans (s2.ex.trans s3.ex)
    exact ⟨z, dx, fs, z', dx', fs', rfl, rfl, w3.ex _ _ (e3 _ _ hz), w3.ex _ _ (e3 _ _ hz'), a, S3, hp S3 e3, w3.ex, fun u S4 H4 w4 s4 p4 => ⟨b, hq u S4 p4, q _ S4 H4 (w3.lift w4 s4) ((s2.trans s3).trans s4.lift) rfl⟩⟩
/-- (w, x, y, z) told by a relation -/
def QuadR {α β γ δ : Type} (K : PySem.W.Frag) (R : Rl α) (R' : Rl β) (R'' : Rl γ) (R3 : Rl δ) : Rl (α × β × γ × δ) := fun p v S => ∃ a x y z w, v = .ref a ∧ SqT K S a [x, y, z, w] ∧ R p.1 x S ∧ R' p.2.1 y S ∧ R'' p.2.2.1 z S ∧ R3 p.2.2.2 w S
instance {α β γ δ : Type} {K : PySem.W.Frag} {R : Rl α} {R' : Rl β} {R'' : Rl γ} {R3 : Rl δ} [Mono R] [Mono R'] [Mono R''] [Mono R3] : Mono (QuadR K R R' R'' R3) := ⟨fun e ⟨a, x, y, z, w, h1, h2, h3, h4, h5, h6⟩ => ⟨a, x, y, z, w, h1, ex_t e h2, Mono.up e h3, Mono.up e h4, Mono.up e h5, Mono.up e h6⟩⟩
instance {α β γ δ : Type} [DecidableEq α] [DecidableEq β] [DecidableEq γ] [DecidableEq δ] {K : PySem.W.Frag} {R : Rl α} {R' : Rl β} {R'' : Rl γ} {R3 : Rl δ} [Dt K R] [Dt K R'] [Dt K R''] [Dt K R3] : Dt K (QuadR K R R' R'' R3) where
  d p := .tuple [Dt.d K R p.1, Dt.d K R' p.2.1, Dt.d K R'' p.2.2.1, Dt.d K R3 p.2.2.2]
  dp h := by
    obtain ⟨a, x, y, z, w, e, h1, h2, h3, h4, h5⟩ := h
    subst e
    exact .tup h1 (.cons (Dt.dp h2) (.cons (Dt.dp h3) (.cons (Dt.dp h4) (.cons (Dt.dp h5) .nil))))
  eqv a b := by
    simp only [PyData.eqv, PyData.eqvAll]
    rw [Dt.eqv, Dt.eqv, Dt.eqv, Dt.eqv, Bool.and_true, ← Bool.decide_and, ← Bool.decide_and, ← Bool.decide_and]
    exact decide_eq_decide.mpr ⟨fun e => Prod.ext e.1 (Prod.ext e.2.1 (Prod.ext e.2.2.1 e.2.2.2)), fun e => by rw [e]; exact ⟨rfl, rfl, rfl, rfl⟩⟩
  lay a := by
    simp only [PyData.canLay0, PyData.canLayAll0, Dt.lay, Bool.and_self]
  dep := max (max (Dt.dep K R) (Dt.dep K R')) (max (Dt.dep K R'') (Dt.dep K R3)) + 1
  dep_le p := by
    simp only [PyData.depth, PyData.depthAll]
    have h1 := Dt.dep_le (K := K) (R := R) p.1
    have h2 := Dt.dep_le (K := K) (R := R') p.2.1
    have h3 := Dt.dep_le (K := K) (R := R'') p.2.2.1
    have h4 := Dt.dep_le (K := K) (R := R3) p.2.2.2
    omega
theorem ev_quad {α β γ δ : Type} {K : PySem.W.Frag} {R : Rl α} {R' : Rl β} {R'' : Rl γ} {R3 : Rl δ} [Mono R] [Mono R'] [Mono R''] [Mono R3] {a : α} {b : β} {c : γ} {d : δ} {t1 t2 t3 t4 : TE} (h1 : EvS r t1 s S fun v S1 => R a v S1) (h2 : ∀ S1, Ex S S1 → EvS r t2 s S1 fun v S2 => R' b v S2) (h3 : ∀ S1, Ex S S1 → EvS r t3 s S1 fun v S2 => R'' c v S2) (h4 : ∀ S1, Ex S S1 → EvS r t4 s S1 fun v S2 => R3 d v S2) : EvS r (tTup (tCons t1 (tCons t2 (tCons t3 (tCons t4 tNil))))) s S fun v S1 => QuadR K R R' R'' R3 (a, b, c, d) v S1 := fun S1 H e w Q q =>
  h1 S1 H e w _ fun v1 S2 H2 w2 s2 g1 => h2 S2 (e.trans s2.ex) S2 H2 (Ex.refl _) w2 _ fun v2 S3 H3 w3 s3 g2 => h3 S3 (e.trans (s2.ex.trans s3.ex)) S3 H3 (Ex.refl _) w3 _ fun v3 S4 H4 w4 s4 g3 => h4 S4 (e.trans (s2.ex.trans (s3.ex.trans s4.ex))) S4 H4 (Ex.refl _) w4 _ fun v4 S5 H5 w5 s5 g4 => ⟨sz_of (show [v1, v2, v3, v4].length ≤ 100000 by simp), fun p hp => by
    have n5 : Ex S5 (upd S5 p (.tup [v1, v2, v3, v4])) := Ex.new (w5.fresh hp)
    exact q (.ref p) (upd S5 p (.tup [v1, v2, v3, v4])) _ (w5.newS hp) ((s2.trans (s3.trans (s4.trans s5))).trans (Stp.newS w5 hp)) ⟨p, v1, v2, v3, v4, rfl, SqT.of upd_same, Mono.up (s3.ex.trans (s4.ex.trans (s5.ex.trans n5))) g1, Mono.up (s4.ex.trans (s5.ex.trans n5)) g2, Mono.up (s5.ex.trans n5) g3, Mono.up n5 g4⟩⟩
end
end J

set_option pp.maxSteps 3000
/-! J28: o != p where only __eq__ is own; == and != of an instance and anything; instances made by positions and keywords. -/
namespace J
open PySem PySem.Spec PyProof.Rows L2 Evl RZ
/-- what the class says of != -/
structure NeC (K : PySem.W.Frag) (C : Addr) : Prop where
  ne : PySem.W.findIn K (.ref C) "__ne__" = some (some (.builtin "object.__ne__"))
  ob : PySem.W.mroIn K C (.type "object") = some true
section
variable {prog : Program} {w : World} {A : Around} {E : Value → Shared → Prop} {s : Shared} {K : PySem.W.Frag} {x C L f : Addr} {h0 : Heap} {m : Str → Option Value} {ox : Obj} {od : Option Obj} {b tb : Value}
theorem ne_tree {tk : List Value} {Q : Fin → Shared → Prop} (hu : A.units < cLine) (X : K.In s.heap) (I : PySem.W.InstAt s.heap x ox C od) (hs : PySem.W.findIn K (.ref C) "__eq__" = some (some (.ref f))) (hf : PySem.W.isFn K (.ref f) = true)
    (h : wpAny (model prog w) A (call (.ref f) [.ref x, b]) (fun v s1 => ∃ t, v = .bool t ∧ Q (.done (.ret (.bool (!t)))) s1) E s) : wpAny (model prog w) A (Builtin.«object.__ne__» ⟨[.ref x, b], []⟩) Q E s := by
  unfold Builtin.«object.__ne__»
  refine wpAny_bind (wpAny_of_eq (a := ((Value.ref x : Value), [b])) (by first | rfl | (simp only [slotArgs]; rfl)) ?_)
  refine wpAny_bind (wpAny_cRoomFor hu ?_)
  refine wpAny_bind (PySem.W.ifBound_K X I hs hf (wpAny_mono h (fun v s1 hv => ?_) fun _ _ z => z))
  obtain ⟨t, rfl, q⟩ := hv
  exact wpAny_bind (wpAny_truthy_bool (wpAny_pure q))
theorem ifBound_B {M : Model} {name : Str} {id : String} {args : List Value} {Q : Option Value → Shared → Prop} (X : K.In s.heap) (I : PySem.W.InstAt s.heap x ox C od) (hs : PySem.W.findIn K (.ref C) name = some (some (.builtin id))) (hb : ∀ self, bindSpecial (.builtin id) self = pure (.builtin id, [self]))
    (h : wpAny M A (call (.builtin id) (.ref x :: args)) (fun v => Q (some v)) E s) : wpAny M A (callSpecialIfBound? (.ref x) name args) Q E s := by
  simp only [callSpecialIfBound?, bindSpecialIfBound?]
  refine wpAny_holding (wpAny_bind (wpAny_bind (wpAny_bind (I.type.here ((PySem.W.looks_findIn X hs).here ?_)))))
  simp only [hb]
  refine wpAny_bind (wpAny_askSetting (wpAny_ite ?_))
  have go : wpAny M A (call (.builtin id) ([.ref x] ++ args) >>= fun v => pure (some v)) Q E s := wpAny_bind (wpAny_mono h (fun v s1 z => wpAny_pure z) fun _ _ z => z)
  split
  · exact wpAny_bind (wpAny_pure (wpAny_pure (by exact go)))
  · exact wpAny_tryCatch (wpAny_bind (wpAny_pure (wpAny_pure (by exact go))))
theorem ne_K {Q : Value → Shared → Prop} (hu : A.units + 1 < cLine) (F : Fr h0 L s.heap m) (X0 : K.In h0) (I : PySem.W.InstAt s.heap x ox C od) (hb : PySem.W.Looks (model prog w) s.heap (typeOf b) tb) (hn : PySem.W.notFirst K C tb = true) (N : NeC K C)
    (hs : PySem.W.findIn K (.ref C) "__eq__" = some (some (.ref f))) (hf : PySem.W.isFn K (.ref f) = true)
    (h : wpAny (model prog w) A.in1 (call (.ref f) [.ref x, b]) (fun v s1 => ∃ t, v = .bool t ∧ Q (.bool (!t)) s1) E s) : wpAny (model prog w) A (richCompare .NotEq (.ref x) b) Q E s := by
  have X := X0.keeps F.keep
  have sub : PySem.W.Looks (model prog w) s.heap (isInstance (.ref x) (.type "object")) true := I.type.andThen (PySem.W.looks_mroIn X N.ob)
  have one : wpAny (model prog w) A (tryCompare (.ref x) (cmpInfo .NotEq).2.1 b) (fun r s1 => ∃ v, r = some v ∧ Q v s1) E s := by
    unfold tryCompare
    refine wpAny_bind (ifBound_B X I N.ne PySem.F.cmp_object.ne.bind (wpAny_call (codeAny_call_builtin PySem.F.cmp_object.ne.plain PySem.F.cmpEntry_ne (PySem.W.check_slot PySem.F.cmpKind_ne PySem.F.cmpSplit_ne sub (PySem.F.cmpArgs_ne _ _) (ne_tree (tk := []) (A := A.in1) hu X I hs hf (wpAny_mono h (fun v s1 hv => ?_) fun _ _ z => z))))))
    obtain ⟨t, rfl, q⟩ := hv
    exact ⟨_, rfl, wpAny_pure ⟨_, rfl, q⟩⟩
  unfold richCompare
  simp only [oneThing_ref]
  refine wpAny_holding (wpAny_bind (wpAny_cRoomFor (by omega) (wpAny_bind (I.type.here (wpAny_bind (hb.here ?_))))))
  split
  · rename_i q
    have e : PySem.W.subIn K tb (.ref C) = some false := by
      rcases Bool.or_eq_true_iff.mp hn with e | e
      · rw [beq_iff_eq.mp e] at q; simp at q
      · exact beq_iff_eq.mp e
    refine wpAny_bind ((PySem.W.looks_subIn X e).here ?_)
    simp only [Bool.false_eq_true, if_false]
    refine wpAny_bind (wpAny_mono one (fun r s1 z => ?_) fun _ _ e => e)
    obtain ⟨v, rfl, hq⟩ := z
    exact wpAny_pure hq
  · refine wpAny_bind (wpAny_pure ?_)
    simp only [Bool.false_eq_true, if_false]
    refine wpAny_bind (wpAny_mono one (fun r s1 z => ?_) fun _ _ e => e)
    obtain ⟨v, rfl, hq⟩ := z
    exact wpAny_pure hq
end
section
variable {X : Cx} {CX : CXT} {k : Nat} {f C : Addr} {fd : FuncData} {ps : List Str} {sp : Sp} {E : XK}
def rNeO (C : Addr) (sp : Sp) (E : XK) : R2 := fun x y H Q => ∃ a dx fs b dy gs, x = .ref a ∧ y = .ref b ∧ H a = some (.ins C dx fs) ∧ H b = some (.ins C dy gs) ∧ sp [.ref a, .ref b] H (fun v H' => ∃ z, v = .bl z ∧ Q (.bl (!z)) H') E
theorem op_neO (F : FnOk X.prog X.w X.K X.mg X.base CX k f fd ps sp) (M : Meth X.K C "__eq__" f) (N : NeC X.K C) (hr : Room (k + 1) X.A) (hb : Binds X.K fd ps []) (hx : Passes CX X E) : OpR X (compareOp .NotEq) (rNeO C sp E) := by
  intro pins s σ H x y v u Q I rx ry h
  obtain ⟨a, dx, fs, b, dy, gs, rfl, rfl, ha, hb2, wants⟩ := h
  cases rx
  cases ry
  obtain ⟨mA, J, _⟩ := ins_get I.hok ha
  obtain ⟨od, J, _⟩ := J.look
  obtain ⟨mB, J', _⟩ := ins_get I.hok hb2
  obtain ⟨od', J', _⟩ := J'.look
  obtain ⟨m, frame⟩ := I.fr
  refine PySem.W.cmp_ofNotEq (ne_K (tb := .ref C) (units1 hr) frame I.ok.mod.kin J J'.type (by simp [PySem.W.notFirst]) N M.at_ M.fn ?_)
  refine wpAny_mono (run_sub (A := X.A.in1) (vs := [V.ref a, V.ref b]) ⟨hr.in1, rfl⟩ F hb hx I (.cons rfl (.cons rfl .nil)) wants) (fun w s' back => ?_) fun _ _ z => z
  obtain ⟨t, H', I', rt, z, rfl, q⟩ := back
  cases rt
  exact ⟨z, rfl, .bl (!z), H', I', rfl, q⟩
/-- an instance == a tuple -/
def rEqTp (K : PySem.W.Frag) (C : Addr) (sp : Sp) (E : XK) : R2 := fun x y H Q => ∃ a dx fs b ys, x = .ref a ∧ y = .ref b ∧ H a = some (.ins C dx fs) ∧ SqT K H b ys ∧ sp [.ref a, .ref b] H (fun v H' => ∃ z, v = .bl z ∧ Q (.bl z) H') E
theorem op_eqTp (F : FnOk X.prog X.w X.K X.mg X.base CX k f fd ps sp) (M : Meth X.K C "__eq__" f) (nf : PySem.W.notFirst X.K C (.type "tuple") = true) (hr : Room k X.A) (hb : Binds X.K fd ps []) (hx : Passes CX X E) : OpR X (compareOp .Eq) (rEqTp X.K C sp E) := by
  intro pins s σ H x y v u Q I rx ry h
  obtain ⟨a, dx, fs, b, ys, rfl, rfl, ha, hb2, wants⟩ := h
  cases rx
  cases ry
  obtain ⟨mA, J, _⟩ := ins_get I.hok ha
  obtain ⟨od, J, _⟩ := J.look
  obtain ⟨its, _, ⟨ob, ho, hc, _⟩, _⟩ := I.tuple hb2
  obtain ⟨m, frame⟩ := I.fr
  have ty : PySem.W.Looks (model X.prog X.w) s.heap (typeOf (.ref b)) (.type "tuple") := fun A Q E s k q => wpAny_typeOf_ref (k _ _ ho) (by rw [hc]; exact q)
  refine PySem.W.cmp_ofEq (PySem.W.cmp_K (op := .Eq) (tb := .type "tuple") hr.units0 frame I.ok.mod.kin J ty nf M.at_ M.fn ?_)
  refine wpAny_mono (run_sub (A := X.A) (vs := [V.ref a, V.ref b]) ⟨hr, rfl⟩ F hb hx I (.cons rfl (.cons rfl .nil)) wants) (fun w s' back => ?_) fun _ _ z => z
  obtain ⟨t, H', I', rt, z, rfl, q⟩ := back
  cases rt
  exact ⟨.bl z, H', I', rfl, q⟩
end
section
variable {K : PySem.W.Frag} {r : Rs} {s : L2.St} {S : Hp} {ta tb : TE} {A : Type} {C : Addr} {pre : A → List V → Hp → Prop} {post : A → V → Hp → Prop} {E : XK} {Rx Ry : V → Hp → Prop}
/-- both sides told by relations that mean instances -/
theorem ev_neO {b : Bool} (hx : EvS r ta s S Rx) (hy : ∀ S1, Ex S S1 → EvS r tb s S1 Ry) (mx : ∀ v S1 S2, Ex S1 S2 → Rx v S1 → Rx v S2) (hp : ∀ x y S1, Ex S S1 → Rx x S1 → Ry y S1 → ∃ z dx fs z' dx' fs', x = .ref z ∧ y = .ref z' ∧ S1 z = some (.ins C dx fs) ∧ S1 z' = some (.ins C dx' fs') ∧ ∃ a, pre a [x, y] S1 ∧ ∀ u S2, Ex S1 S2 → post a u S2 → u = .bl b) : EvV r (tOp (rNeO C (SpP pre post) E) ta tb) s S (.bl (!b)) := fun S1 H e w Q q =>
  hx S1 H e w _ fun x S2 H2 w2 s2 ex => hy S2 (e.trans s2.ex) S2 H2 (Ex.refl _) w2 _ fun y S3 H3 w3 s3 ey => by
    obtain ⟨z, dx, fs, z', dx', fs', rfl, rfl, hz, hz', a, p1, p2⟩ := hp x y S3 (e.trans (s2.ex.trans s3.ex)) (mx _ _ _ s3.ex ex) ey
    exact ⟨z, dx, fs, z', dx', fs', rfl, rfl, w3.ex _ _ hz, w3.ex _ _ hz', a, S3, p1, w3.ex, fun u S4 H4 w4 s4 p4 => ⟨b, p2 u S4 s4.ex p4, q _ S4 H4 (w3.lift w4 s4) ((s2.trans s3).trans s4.lift) rfl⟩⟩
theorem ev_eqO {b : Bool} (hx : EvS r ta s S Rx) (hy : ∀ S1, Ex S S1 → EvS r tb s S1 Ry) (mx : ∀ v S1 S2, Ex S1 S2 → Rx v S1 → Rx v S2) (hp : ∀ x y S1, Ex S S1 → Rx x S1 → Ry y S1 → ∃ z dx fs z' dx' fs', x = .ref z ∧ y = .ref z' ∧ S1 z = some (.ins C dx fs) ∧ S1 z' = some (.ins C dx' fs') ∧ ∃ a, pre a [x, y] S1 ∧ ∀ u S2, Ex S1 S2 → post a u S2 → u = .bl b) : EvV r (tOp (rEqO C (SpP pre post) E) ta tb) s S (.bl b) := fun S1 H e w Q q =>
  hx S1 H e w _ fun x S2 H2 w2 s2 ex => hy S2 (e.trans s2.ex) S2 H2 (Ex.refl _) w2 _ fun y S3 H3 w3 s3 ey => by
    obtain ⟨z, dx, fs, z', dx', fs', rfl, rfl, hz, hz', a, p1, p2⟩ := hp x y S3 (e.trans (s2.ex.trans s3.ex)) (mx _ _ _ s3.ex ex) ey
    exact ⟨z, dx, fs, z', dx', fs', rfl, rfl, w3.ex _ _ hz, w3.ex _ _ hz', a, S3, p1, w3.ex, fun u S4 H4 w4 s4 p4 => ⟨b, p2 u S4 s4.ex p4, q _ S4 H4 (w3.lift w4 s4) ((s2.trans s3).trans s4.lift) rfl⟩⟩
theorem ev_eqTp {b : Bool} (hx : EvS r ta s S Rx) (hy : ∀ S1, Ex S S1 → EvS r tb s S1 Ry) (mx : ∀ v S1 S2, Ex S1 S2 → Rx v S1 → Rx v S2) (hp : ∀ x y S1, Ex S S1 → Rx x S1 → Ry y S1 → ∃ z dx fs z' ys, x = .ref z ∧ y = .ref z' ∧ S1 z = some (.ins C dx fs) ∧ SqT K S1 z' ys ∧ ∃ a, pre a [x, y] S1 ∧ ∀ u S2, Ex S1 S2 → post a u S2 → u = .bl b) : EvV r (tOp (rEqTp K C (SpP pre post) E) ta tb) s S (.bl b) := fun S1 H e w Q q =>
  hx S1 H e w _ fun x S2 H2 w2 s2 ex => hy S2 (e.trans s2.ex) S2 H2 (Ex.refl _) w2 _ fun y S3 H3 w3 s3 ey => by
    obtain ⟨z, dx, fs, z', ys, rfl, rfl, hz, hz', a, p1, p2⟩ := hp x y S3 (e.trans (s2.ex.trans s3.ex)) (mx _ _ _ s3.ex ex) ey
    exact ⟨z, dx, fs, z', ys, rfl, rfl, w3.ex _ _ hz, ex_t w3.ex hz', a, S3, p1, w3.ex, fun u S4 H4 w4 s4 p4 => ⟨b, p2 u S4 s4.ex p4, q _ S4 H4 (w3.lift w4 s4) ((s2.trans s3).trans s4.lift) rfl⟩⟩
/-- C(e .., k = e, ..) -/
theorem en_makeK {fr : A → List (Str × V) → Hp → Prop} {n m : Nat} {gV : List V → List V → List V} {ts tk : TA} {us zs : List V} {R : HO → Hp → Prop} (h : EvAV r ts s S us) (h2 : EvAV r tk s S zs) (l1 : us.length = n) (l2 : zs.length = m)
    (hp : ∀ S1, Ex S S1 → ∃ a ws, (∀ x, gV (.ref x :: us) zs = .ref x :: ws) ∧ pre a ws S1 ∧ ∀ dx fs S2, Ex S1 S2 → fr a fs S2 → R (.ins C dx fs) S2) : EvN r (tMakeK C n m (SpInit C pre fr) gV E ts tk) s S R := fun S1 H e w0 Q q =>
  h S1 H e w0 _ fun us' S2 H2 w2 s2 e1 => h2 S2 H2 (e.trans s2.ex) w2 _ fun zs' S3 H3 w3 s3 e2 => by
    subst e1
    subst e2
    obtain ⟨a, ws, hg, p1, p2⟩ := hp S3 (e.trans (s2.ex.trans s3.ex))
    refine ⟨l1, l2, fun x dx hx hd ne => ?_⟩
    rw [hg x]
    exact make_tail w3 (s2.trans s3) hx hd ne p1 p2 q
end
end J

set_option pp.maxSteps 3000
/-! J29: l.count(x) of flat values; l.index(x). -/
namespace J
open PySem PySem.Spec PyProof.Rows L2 Evl RZ
def rCntF (K : PySem.W.Frag) : V → List V → Hp → VK → Prop := fun x xs H Q => ∃ (p : Addr) (ys : List V) (y : V), x = .ref p ∧ xs = [y] ∧ SqL K H p ys ∧ flatV y = true ∧ ys.all flatV = true ∧ Q (.int (ys.countP (fun z => eqV z y) : Nat)) H
theorem countU {y : V} : ∀ {ys : List V} {us : List Value}, Vals ys us → ys.all flatV = true → us.countP (eqU y) = ys.countP fun z => eqV z y
  | _, _, .nil, _ => rfl
  | _ :: _, _ :: _, .cons h t, f => by
    simp only [List.all_cons, Bool.and_eq_true] at f
    rw [List.countP_cons, List.countP_cons, countU t f.2, eqU_of h f.1]
theorem mt_countF {X : Cx} {K : PySem.W.Frag} (hK : X.K = K := by rfl) : MtR X "list.count" (rCntF K) := by
  subst hK
  intro pins s σ H x xs v us Q I rx rxs h
  obtain ⟨a, ys, y, rfl, rfl, hs, fy, fys, q⟩ := h
  cases rx
  obtain ⟨u, rfl, ru⟩ := rxs.one
  obtain ⟨its, rv, ⟨⟨cls, dd, data, sl⟩, n, ho, hc, hdn, hd⟩, hlen⟩ := I.list hs
  simp only at hc hd
  subst hc hd
  refine call_meets PySem.F.slot_list_count ⟨_, ho, rfl⟩ PySem.F.entry_list_count (PySem.F.args_list_count_2 _ _)
    (SeqAt.list_countAt a its.toArray n dd sl u (eqU y)) ⟨ho, fun w hw => mem_eqAt ru fy rv fys w (by simpa using hw), ?_⟩
  refine ⟨.int (ys.countP (fun z => eqV z y) : Nat), H, I.tok _, ⟨s.toks, ?_⟩, q⟩
  have e : its.toArray.toList.countP (eqU y) = ys.countP fun z => eqV z y := countU rv fys
  show Value.int ((its.toArray.toList.countP (eqU y) : Nat) : Int) s.toks = _
  rw [e]
section
variable {r : Rs} {s : L2.St} {S : Hp} {ta te : TE} {K : PySem.W.Frag}
/-- l.index(True), l.count(True) of a list that holds True once -/
theorem vv_bm1 {o : V → List V → Hp → VK → Prop} {a : Addr} {xs : List V} {y z : V} {ts : TA} (h : EvV r ta s S (.ref a)) (h2 : EvAV r ts s S [y]) (ha : S a = some (.lst xs)) (ho : ∀ H, H a = some (.lst xs) → ∀ Q : VK, Q z H → o (.ref a) [y] H Q) : EvV r (tBM K "list" o ta ts) s S z := fun S1 H e w Q q =>
  h S1 H e w _ fun v S2 H2 w2 s2 ev => by
    subst ev
    exact ⟨.inl ⟨rfl, _, .inl (.inl (w2.ex _ _ (s2.ex _ _ (e _ _ ha))))⟩, h2 S2 H2 (e.trans s2.ex) w2 _ fun vs S3 H3 w3 s3 evs => by
      subst evs
      exact ho H3 (w3.ex _ _ (s3.ex _ _ (s2.ex _ _ (e _ _ ha)))) Q (q z S3 H3 w3 (s2.trans s3) rfl)⟩
theorem vv_count1 {a : Addr} {xs : List V} {y : V} {n : Nat} {ts : TA} (h : EvV r ta s S (.ref a)) (h2 : EvAV r ts s S [y]) (ha : S a = some (.lst xs)) (fy : flatV y = true) (fx : xs.all flatV = true) (e : xs.countP (fun z => eqV z y) = n) : EvV r (tBM K "list" (rCntF K) ta ts) s S (.int (n : Nat)) :=
  vv_bm1 h h2 ha fun H hH Q q => ⟨a, xs, y, rfl, rfl, SqL.of hH, fy, fx, by rw [e]; exact q⟩
theorem vv_index1 {a : Addr} {xs : List V} {y z : V} {j : Nat} {ts : TA} (h : EvV r ta s S (.ref a)) (h2 : EvAV r ts s S [y]) (ha : S a = some (.lst xs)) (fy : flatV y = true) (fx : xs.all flatV = true) (hz : xs[j]? = some z) (hzj : eqV z y = true) (hno : ∀ (m : Nat) (z' : V), m < j → xs[m]? = some z' → eqV z' y = false) : EvV r (tBM K "list" (rIndex K) ta ts) s S (.int (j : Nat)) :=
  vv_bm1 h h2 ha fun H hH Q q => ⟨a, xs, y, j, z, rfl, rfl, SqL.of hH, fy, fx, hz, hzj, hno, q⟩
end
/-! a != b, a == b of data with any texts -/
def rNeP (K : PySem.W.Frag) : R2 := fun x y H Q => ∃ d e, Dp K H x d ∧ Dp K H y e ∧ d.plain = true ∧ e.plain = true ∧ d.depth ≤ 40 ∧ Q (.bl (!PyData.eqv d e)) H
def rEqP (K : PySem.W.Frag) : R2 := fun x y H Q => ∃ d e, Dp K H x d ∧ Dp K H y e ∧ d.plain = true ∧ e.plain = true ∧ d.depth ≤ 40 ∧ Q (.bl (PyData.eqv d e)) H
theorem op_neP {X : Cx} {K : PySem.W.Frag} (hu : X.A.units + 64 < cLine) (hK : X.K = K := by rfl) : OpR X (compareOp .NotEq) (rNeP K) := by
  subst hK
  intro pins s σ H x y v u Q I rx ry h
  obtain ⟨d, e, hd, he, sd, se, dp, q⟩ := h
  obtain ⟨as, r1⟩ := Dp.reads I d x v hd rx
  obtain ⟨bs, r2⟩ := Dp.reads I e y u he ry
  exact PySem.SeqAt.ne_plain r1 r2 sd se (by omega) ⟨.bl _, H, I, rfl, q⟩
theorem op_eqP {X : Cx} {K : PySem.W.Frag} (hu : X.A.units + 64 < cLine) (hK : X.K = K := by rfl) : OpR X (compareOp .Eq) (rEqP K) := by
  subst hK
  intro pins s σ H x y v u Q I rx ry h
  obtain ⟨d, e, hd, he, sd, se, dp, q⟩ := h
  obtain ⟨as, r1⟩ := Dp.reads I d x v hd rx
  obtain ⟨bs, r2⟩ := Dp.reads I e y u he ry
  exact PySem.SeqAt.eq_plain r1 r2 sd se (by omega) ⟨.bl _, H, I, rfl, q⟩
section
variable {r : Rs} {s : L2.St} {S : Hp} {ta tb : TE} {K : PySem.W.Frag} {d e : PyData}
theorem ev_neP (h1 : EvS r ta s S fun v S1 => Dp K S1 v d) (h2 : ∀ S1, Ex S S1 → EvS r tb s S1 fun v S2 => Dp K S2 v e) (pd : d.plain = true) (pe : e.plain = true) (dp : d.depth ≤ 40) : EvV r (tOp (rNeP K) ta tb) s S (.bl (!PyData.eqv d e)) :=
  ev_op2 h1 (fun _ S1 e _ => h2 S1 e) fun x y S1 S2 _ hx e hy => ⟨_, fun H eH Q q => ⟨_, _, dp_up (e.trans eH) _ _ hx, dp_up eH _ _ hy, pd, pe, dp, q⟩, rfl⟩
theorem ev_eqP (h1 : EvS r ta s S fun v S1 => Dp K S1 v d) (h2 : ∀ S1, Ex S S1 → EvS r tb s S1 fun v S2 => Dp K S2 v e) (pd : d.plain = true) (pe : e.plain = true) (dp : d.depth ≤ 40) : EvV r (tOp (rEqP K) ta tb) s S (.bl (PyData.eqv d e)) :=
  ev_op2 h1 (fun _ S1 e _ => h2 S1 e) fun x y S1 S2 _ hx e hy => ⟨_, fun H eH Q q => ⟨_, _, dp_up (e.trans eH) _ _ hx, dp_up eH _ _ hy, pd, pe, dp, q⟩, rfl⟩
end
section
variable {K : PySem.W.Frag}
theorem dp_strs {S : Hp} : ∀ {zs : List Str} {vs : List V}, All2 StrR S zs vs → DpAll K S vs (zs.map PyData.str)
  | _, _, .nil => .nil
  | _, _, .cons h t => by
    rw [show _ = _ from h]
    exact .cons (.str _) (dp_strs t)
theorem dp_strL {S : Hp} {zs : List Str} {v : V} (h : LstR StrR zs v S) : Dp K S v (.list (zs.map PyData.str)) := by
  obtain ⟨a, vs, rfl, h1, h2⟩ := h
  exact .lst (SqL.of h1) (dp_strs h2)
theorem plain_strs : ∀ zs : List Str, PyData.plainAll (zs.map PyData.str) = true
  | [] => rfl
  | z :: r => by simp only [List.map_cons, PyData.plainAll, PyData.plain, plain_strs r, Bool.and_self]
theorem depth_strs : ∀ zs : List Str, PyData.depthAll (zs.map PyData.str) = 0
  | [] => rfl
  | z :: r => by
    simp only [List.map_cons, PyData.depthAll, PyData.depth, depth_strs r]
    rfl
theorem eqv_strs : ∀ zs : List Str, PyData.eqvAll (zs.map PyData.str) (zs.map PyData.str) = true
  | [] => rfl
  | z :: r => by simp [List.map_cons, PyData.eqvAll, PyData.eqv, eqv_strs r]
variable {r : Rs} {s : L2.St} {S : Hp} {ta tb : TE} {zs : List Str}
/-- the same texts in two lists -/
theorem vv_neT (h1 : EvS r ta s S fun v S1 => LstR StrR zs v S1) (h2 : ∀ S1, Ex S S1 → EvS r tb s S1 fun v S2 => LstR StrR zs v S2) : EvV r (tOp (rNeP K) ta tb) s S (.bl false) :=
  EvV.is (ev_neP (d := .list (zs.map PyData.str)) (e := .list (zs.map PyData.str)) (h1.imp fun _ _ _ h => dp_strL h) (fun S1 e => (h2 S1 e).imp fun _ _ _ h => dp_strL h) (by simp only [PyData.plain, plain_strs]) (by simp only [PyData.plain, plain_strs]) (by simp only [PyData.depth, depth_strs]; decide)) (by
    simp only [PyData.eqv, eqv_strs]
    rfl)
theorem vv_eqT (h1 : EvS r ta s S fun v S1 => LstR StrR zs v S1) (h2 : ∀ S1, Ex S S1 → EvS r tb s S1 fun v S2 => LstR StrR zs v S2) : EvV r (tOp (rEqP K) ta tb) s S (.bl true) :=
  EvV.is (ev_eqP (d := .list (zs.map PyData.str)) (e := .list (zs.map PyData.str)) (h1.imp fun _ _ _ h => dp_strL h) (fun S1 e => (h2 S1 e).imp fun _ _ _ h => dp_strL h) (by simp only [PyData.plain, plain_strs]) (by simp only [PyData.plain, plain_strs]) (by simp only [PyData.depth, depth_strs]; decide)) (by
    simp only [PyData.eqv, eqv_strs])
end
end J

set_option pp.maxSteps 3000
/-! J30: o[i] by an own __getitem__. -/
namespace J
open PySem PySem.Spec PyProof.Rows L2 Evl RZ
def rIxO (C : Addr) (sp : Sp) (E : XK) : R2 := fun x y H Q => ∃ p dx fs, x = .ref p ∧ H p = some (.ins C dx fs) ∧ sp [x, y] H Q E
theorem pe_ixO {X : Cx} {CX : CXT} {k : Nat} {f C : Addr} {fd : FuncData} {ps : List Str} {sp : Sp} {E : XK} {a b : Expr} {ta tb : TE} {pos : Pos} (F : FnOk X.prog X.w X.K X.mg X.base CX k f fd ps sp) (M : Meth X.K C "__getitem__" f) (hfn : PySem.W.fnIn X.K f = true) (hr : Room (k + 1) X.A) (hb : Binds X.K fd ps []) (hx : Passes CX X E)
    (h1 : PE X a ta) (h2 : PE X b tb) (hsl : ∀ x i, subscripted b true (.ref x) i = runValue (.builtin "lifetime.subscript" ⟨[.ref x, i], []⟩) := by intro _ _; with_unfolding_all rfl) : PE X (.Subscript a b pos) (tOp (rIxO C sp E) ta tb) := by
  refine ⟨fun pins s σ H Q I h => Subscript_ (binT h1 h2 I h fun v u s2 x y H2 I2 rx ry q => ?_)⟩
  obtain ⟨p, dx, fs, rfl, hp, wants⟩ := q
  cases rx
  obtain ⟨mA, J, _⟩ := ins_get I2.hok hp
  obtain ⟨od, J, _⟩ := J.look
  obtain ⟨m, frame⟩ := I2.fr
  exact PySem.W.sub_K frame I2.ok.mod.kin J M.at_ hfn M.fn (run_sub (A := X.A.in1) (vs := [V.ref p, y]) ⟨hr.in1, rfl⟩ F hb hx I2 (.cons rfl (.cons ry .nil)) wants) (hsl _ _)
section
variable {r : Rs} {s : L2.St} {S : Hp} {ta tb : TE} {A : Type} {C CE : Addr} {fld : Str} {pre : A → List V → Hp → Prop} {post : A → V → Hp → Prop} {E : XK} {R : V → Hp → Prop} {x y : V}
theorem ev_ixO (a : A) (hx : EvV r ta s S x) (hy : EvV r tb s S y) (back : ∃ z dx fs, x = .ref z ∧ S z = some (.ins C dx fs)) (hp : ∀ S1, Ex S S1 → pre a [x, y] S1) (hq : ∀ u S1, Ex S S1 → post a u S1 → R u S1) : EvS r (tOp (rIxO C (SpP pre post) E) ta tb) s S R := fun S1 H e w Q q =>
  hx S1 H e w _ fun v S2 H2 w2 s2 ev => hy S2 H2 (e.trans s2.ex) w2 _ fun u S3 H3 w3 s3 eu => by
    subst ev
    subst eu
    obtain ⟨z, dx, fs, rfl, hz⟩ := back
    have e3 := e.trans (s2.ex.trans s3.ex)
    exact ⟨z, dx, fs, rfl, w3.ex _ _ (e3 _ _ hz), a, S3, hp S3 e3, w3.ex, fun u S4 H4 w4 s4 p4 => q u S4 H4 (w3.lift w4 s4) ((s2.trans s3).trans s4.lift) (hq u S4 (e3.trans s4.ex) p4)⟩
theorem ex_ixO (a : A) (hx : EvV r ta s S x) (hy : EvV r tb s S y) (back : ∃ z dx fs, x = .ref z ∧ S z = some (.ins C dx fs)) (hp : ∀ S1, Ex S S1 → pre a [x, y] S1) (hq : ∀ u S1, Ex S S1 → post a u S1 → R u S1) : EvX E CE fld r (tOp (rIxO C (SpX CE fld pre post) E) ta tb) s S R := fun S1 H e w k Q =>
  hx S1 H e w _ fun v S2 H2 w2 s2 ev => hy S2 H2 (e.trans s2.ex) w2 _ fun u S3 H3 w3 s3 eu => by
    subst ev
    subst eu
    obtain ⟨z, dx, fs, rfl, hz⟩ := back
    have e3 := e.trans (s2.ex.trans s3.ex)
    exact ⟨z, dx, fs, rfl, w3.ex _ _ (e3 _ _ hz), a, S3, hp S3 e3, w3.bare, fun d v S4 H4 w4 s4 p4 hd => k d v S4 H4 (w3.lift w4 s4) ((s2.trans s3).trans s4.lift) (hq v S4 (e3.trans s4.ex) p4) hd⟩
end
end J

set_option pp.maxSteps 3000
/-! J31: == of two dicts of data; an instance == a list; {}. -/
namespace J
open PySem PySem.Spec PyProof.Rows L2 Evl RZ
theorem ne_beq {a b : Addr} (h : (a == b) = false) : a ≠ b := by simpa using h
/-- the values of ks against those of ls at the same keys, all data -/
inductive HitsD (K : PySem.W.Frag) (H : Hp) (ls : List (Key × V)) : List (Key × V) → Bool → Prop
  | nil : HitsD K H ls [] true
  | hit {k : Key} {v u : V} {d e : PyData} {r : List (Key × V)} {b : Bool} : valV ls k = some u → Dp K H v d → Dp K H u e → SeqAt.shaped d = true → SeqAt.shaped e = true → HitsD K H ls r b → HitsD K H ls ((k, v) :: r) (PyData.eqv d e && b)
theorem HitsD.up {K : PySem.W.Frag} {S S' : Hp} (x : Ex S S') {ls ks : List (Key × V)} {b : Bool} (h : HitsD K S ls ks b) : HitsD K S' ls ks b := by
  induction h with
  | nil => exact .nil
  | hit h1 h2 h3 h4 h5 _ ih => exact .hit h1 (dp_up x _ _ h2) (dp_up x _ _ h3) h4 h5 ih
def rEqKD (K : PySem.W.Frag) : R2 := fun x y H Q => ∃ a b ks ls r, x = .ref a ∧ y = .ref b ∧ H a = some (.dK ks) ∧ H b = some (.dK ls) ∧ ks.length = ls.length ∧ HitsD K H ls ks r ∧ Q (.bl r) H
section
variable {X : Cx}
theorem keq_hits {pins : List (Addr × Obj)} {σ : L2.St} {H : Hp} {s : Shared} (I : Inv X pins σ H s) {A : Around} (hu : A.units + 64 < cLine) {ls : List (Key × V)} {vb : List (Key × Value)} (rb : KV ls vb) {ks : List (Key × V)} {r : Bool} (h : HitsD X.K H ls ks r) : ∀ {va : List (Key × Value)}, KV ks va → PySem.W.KeqHits A s vb va r := by
  induction h with
  | nil =>
    intro va ra
    unfold KV at ra
    cases ra
    exact .nil
  | @hit k v u d e r b h1 h2 h3 h4 h5 h6 ih =>
    intro va ra
    unfold KV at ra
    cases ra with
    | @cons p q ps qs hpq t =>
      obtain ⟨k1, k2⟩ := hpq
      obtain ⟨key, val⟩ := q
      obtain rfl : k = key := k1
      have rr : RelO (some u) (valueAt vb k) := by rw [← h1]; exact rb.val k
      obtain ⟨y, hy, ry⟩ := rr.some_of
      obtain ⟨as, r1⟩ := Dp.reads I d v val h2 k2
      obtain ⟨bs, r2⟩ := Dp.reads I e u y h3 ry
      exact .hit hy (SeqAt.eqAt_reads d e A s val y as bs r1 r2 (SeqAt.canLay_of_shaped h4) (SeqAt.canLay_of_shaped h5) (SeqAt.room_of_shaped h4 hu)) (ih t)
theorem op_eqKD (hu : X.A.units + 65 < cLine) : OpR X (compareOp .Eq) (rEqKD X.K) := by
  intro pins s σ H x y v u Q I rx ry h
  obtain ⟨a, b, ks, ls, r, rfl, rfl, ea, eb, hlen, hh, q⟩ := h
  obtain rfl : v = Value.ref a := rx
  obtain rfl : u = Value.ref b := ry
  obtain ⟨_, ya, va, ra, da⟩ := (show ObjOk X.prog X.w H s.heap a (.dK ks) from I.hok a _ ea)
  obtain ⟨_, yb, vb, rb, db⟩ := (show ObjOk X.prog X.w H s.heap b (.dK ls) from I.hok b _ eb)
  have hl : va.length = vb.length := by rw [← ra.length, ← rb.length]; exact hlen
  exact PySem.W.keq_eq (knd := mixKind X.prog X.w) (r := r) ya yb da db (by omega) (fun _ => keq_hits I (A := X.A.in1) (by show X.A.units + 1 + 64 < cLine; omega) rb hh ra) (fin_bl I q (by simp [hl]))
theorem op_eqKDK {K : PySem.W.Frag} (hu : X.A.units + 65 < cLine) (hK : X.K = K := by rfl) : OpR X (compareOp .Eq) (rEqKD K) := by
  subst hK
  exact op_eqKD hu
end
section
variable {r : Rs} {s : L2.St} {S : Hp} {ta tb : TE} {K : PySem.W.Frag}
theorem vv_eqKD {a b : Addr} {ks ls : List (Key × V)} {e : Bool} (h1 : EvV r ta s S (.ref a)) (h2 : EvV r tb s S (.ref b)) (ha : S a = some (.dK ks)) (hb : S b = some (.dK ls)) (hl : ks.length = ls.length) (hh : HitsD K S ls ks e) : EvV r (tOp (rEqKD K) ta tb) s S (.bl e) :=
  vv_op h1 h2 fun H eH Q q => ⟨a, b, ks, ls, e, rfl, rfl, eH _ _ ha, eH _ _ hb, hl, hh.up eH, q⟩
theorem ev_dnew : EvS r tDNewK s S fun v S1 => ∃ a, v = .ref a ∧ S1 a = some (.dK []) := fun S1 H e w Q q p hp => q (.ref p) (upd S1 p (.dK [])) _ (w.newS hp) (Stp.newS w hp) ⟨p, rfl, upd_same⟩
end
/-! an instance == a list -/
section
variable {X : Cx} {CX : CXT} {k : Nat} {f C : Addr} {fd : FuncData} {ps : List Str} {sp : Sp} {E : XK}
def rEqLs (C : Addr) (sp : Sp) (E : XK) : R2 := fun x y H Q => ∃ a dx fs b ys, x = .ref a ∧ y = .ref b ∧ H a = some (.ins C dx fs) ∧ H b = some (.lst ys) ∧ sp [.ref a, .ref b] H (fun v H' => ∃ z, v = .bl z ∧ Q (.bl z) H') E
theorem op_eqLs (F : FnOk X.prog X.w X.K X.mg X.base CX k f fd ps sp) (M : Meth X.K C "__eq__" f) (nf : PySem.W.notFirst X.K C (.type "list") = true) (hr : Room k X.A) (hb : Binds X.K fd ps []) (hx : Passes CX X E) : OpR X (compareOp .Eq) (rEqLs C sp E) := by
  intro pins s σ H x y v u Q I rx ry h
  obtain ⟨a, dx, fs, b, ys, rfl, rfl, ha, hb2, wants⟩ := h
  cases rx
  cases ry
  obtain ⟨mA, J, _⟩ := ins_get I.hok ha
  obtain ⟨od, J, _⟩ := J.look
  obtain ⟨its, _, ⟨ob, nob, ho, hc, _⟩, _⟩ := I.list (SqL.of (K := X.K) hb2)
  obtain ⟨m, frame⟩ := I.fr
  have ty : PySem.W.Looks (model X.prog X.w) s.heap (typeOf (.ref b)) (.type "list") := fun A Q E s k q => wpAny_typeOf_ref (k _ _ ho) (by rw [hc]; exact q)
  refine PySem.W.cmp_ofEq (PySem.W.cmp_K (op := .Eq) (tb := .type "list") hr.units0 frame I.ok.mod.kin J ty nf M.at_ M.fn ?_)
  refine wpAny_mono (run_sub (A := X.A) (vs := [V.ref a, V.ref b]) ⟨hr, rfl⟩ F hb hx I (.cons rfl (.cons rfl .nil)) wants) (fun w s' back => ?_) fun _ _ z => z
  obtain ⟨t, H', I', rt, z, rfl, q⟩ := back
  cases rt
  exact ⟨.bl z, H', I', rfl, q⟩
end
section
variable {K : PySem.W.Frag} {r : Rs} {s : L2.St} {S : Hp} {ta tb : TE} {A : Type} {C : Addr} {pre : A → List V → Hp → Prop} {post : A → V → Hp → Prop} {E : XK} {Rx : V → Hp → Prop}
theorem ev_eqLs {b : Bool} (hx : EvS r ta s S Rx) (hy : ∀ S1, Ex S S1 → EvS r tb s S1 fun y S2 => ∃ l ys, y = .ref l ∧ S2 l = some (.lst ys)) (mx : ∀ v S1 S2, Ex S1 S2 → Rx v S1 → Rx v S2) (hp : ∀ x l ys S1, Ex S S1 → Rx x S1 → S1 l = some (.lst ys) → ∃ z dx fs, x = .ref z ∧ S1 z = some (.ins C dx fs) ∧ ∃ a, pre a [x, .ref l] S1 ∧ ∀ u S2, Ex S1 S2 → post a u S2 → u = .bl b) : EvV r (tOp (rEqLs C (SpP pre post) E) ta tb) s S (.bl b) := fun S1 H e w Q q =>
  hx S1 H e w _ fun x S2 H2 w2 s2 ex => hy S2 (e.trans s2.ex) S2 H2 (Ex.refl _) w2 _ fun y S3 H3 w3 s3 ⟨l, ys, ey, hl⟩ => by
    subst ey
    obtain ⟨z, dx, fs, rfl, hz, a, p1, p2⟩ := hp x l ys S3 (e.trans (s2.ex.trans s3.ex)) (mx _ _ _ s3.ex ex) hl
    exact ⟨z, dx, fs, l, ys, rfl, rfl, w3.ex _ _ hz, w3.ex _ _ hl, a, S3, p1, w3.ex, fun u S4 H4 w4 s4 p4 => ⟨b, p2 u S4 s4.ex p4, q _ S4 H4 (w3.lift w4 s4) ((s2.trans s3).trans s4.lift) rfl⟩⟩
end
/-! C(k = v, ..) that raises; what is lent while something is made -/
section
variable {r : Rs} {s : L2.St} {S H : Hp} {te : TE} {R : V → Hp → Prop} {E : XK} {C : Addr} {fld : Str} {B : Type} {pre : B → List V → Hp → Prop} {val : B → V → Hp → Prop} {P : List V → Hp → Prop} {tk : TA} {gV : List V → List V → List V} {m : Nat} {l : Addr} {o : HO}
theorem ex_makeK0 {C' : Addr} (h : EvAS r tk s S P) (hp : ∀ zs S1, Ex S S1 → P zs S1 → zs.length = m ∧ ∃ b us, (∀ x, gV [.ref x] zs = .ref x :: us) ∧ pre b us S1 ∧ ∀ v S2, Ex S1 S2 → val b v S2 → R v S2) : EvX E C fld r (tMakeK C' 0 m (SpXi C fld pre val) gV E tNil tk) s S R := fun S1 H e w k Q =>
  h S1 H e w _ fun zs S2 H2 w2 s2 hz => by
    obtain ⟨l2, b, us, hg, p1, p2⟩ := hp zs S2 (e.trans s2.ex) hz
    refine ⟨rfl, l2, fun x dx hx hdx ne => ?_⟩
    rw [hg x]
    have hx1 : (upd H2 dx (.own x)) x = none := by
      rw [upd_ne ne.symm]
      exact hx
    have w3 : Wd r S2 (upd (upd H2 dx (.own x)) x (.ins C' dx [])) := (w2.new hdx).new hx1
    have s3 : Stp r S2 H2 S2 (upd (upd H2 dx (.own x)) x (.ins C' dx [])) := (Stp.new hdx).trans (Stp.new hx1)
    exact ⟨b, S2, ⟨x, _, rfl, p1⟩, w3.bare, fun d v S4 H4 w4 s4 hv hd => k d v S4 H4 (w3.lift w4 s4) ((s2.trans s3).trans s4.lift) (p2 v S4 s4.ex hv) hd⟩
theorem borrowS (h : EvS r te s (upd S l o) R) (w : Wd r S H) (hl : H l = some o) (n : l ∉ r.M) (sl : S l = none) {Q : VK} (q : ∀ v S1 S2 H1, Wd r S1 H1 → Stp r S H S1 H1 → S1 l = none → S1 = del l S2 → S2 l = some o → R v S2 → Q v H1) : te s H Q :=
  h _ H (Ex.refl _) (w.settle hl n) Q fun v S2 H1 w1 s1 e => q v (del l S2) S2 H1 w1.del (s1.del sl) del_same rfl (s1.ex _ _ upd_same) e
theorem del_t {K : PySem.W.Frag} {S2 : Hp} {a : Addr} {xs ys : List V} (hl : S2 l = some (.lst xs)) (h : SqT K S2 a ys) : SqT K (del l S2) a ys := by
  have at_ : ∀ o, S2 a = some o → (∀ zs, o ≠ .lst zs) → del l S2 a = some o := fun o e n => by
    rw [del_ne (fun z => ?_)]
    · exact e
    · rw [z, hl] at e
      exact n xs (Option.some.inj e).symm
  rcases h with (h | ⟨o, h⟩) | h
  · exact .inl (.inl (at_ _ h fun _ z => nomatch z))
  · exact .inl (.inr ⟨o, at_ _ h fun _ z => nomatch z⟩)
  · exact .inr h
theorem del_o {S2 : Hp} {a : Addr} {xs : List V} {o : HO} (hl : S2 l = some (.lst xs)) (h : S2 a = some o) (n : ∀ zs, o ≠ .lst zs) : del l S2 a = some o := by
  rw [del_ne (fun z => ?_)]
  · exact h
  · rw [z, hl] at h
    exact n xs (Option.some.inj h).symm
end
end J

set_option pp.maxSteps 3000
/-! J41: try with one clause of two names, except (A, B):. -/
namespace J
open PySem PySem.Spec PyProof.Rows L2 Evl RZ
theorem flying_push {B h : Heap} {l : List Env} {a : Addr} {Z : Obj → Prop} (x : HandSPX.FlyingZ B l a Z h) (o : Obj) : HandSPX.FlyingZ B l a Z (h.push o) := by
  obtain ⟨st, bn, ff, oe, vs, T, oT, ts, he, hz, hd, h1, bT, ne, hT, hTd, h3⟩ := x
  exact ⟨fun b o' e => Heap.get?_push_of_some _ (st b o' e), bn, Heap.FunFrames.of_keeps (fun b o' e _ => ⟨o', Heap.get?_push_of_some _ e, rfl⟩) ff, oe, vs, T, oT, ts, Heap.get?_push_of_some _ he, hz, hd, h1, bT, ne, Heap.get?_push_of_some _ hT, hTd, h3⟩
theorem upTo_push {h : Heap} (o : Obj) : h.UpToSlots (h.push o) := fun b o' e _ => ⟨o'.slots, Heap.get?_push_of_some _ e⟩
/-- what the clause wishes of an error of the body -/
def wT2 (K : PySem.W.Frag) (Wout : WX) (D : Ends) (c1 c2 : Value) (ts : Addr → Value → Option Addr → TS) : WX := fun cls d σ H => ∃ b, PySem.W.exmAny K cls [c1, c2] = some b ∧ (b = true → ∀ a, H a = none → ts a cls d D σ H) ∧ (b = false → Wout cls d σ H)
theorem exm_two {K : PySem.W.Frag} {cls c1 c2 : Value} {b1 b2 : Bool} (h1 : PySem.W.exmOne K cls c1 = some b1) (h2 : PySem.W.exmOne K cls c2 = some b2) : PySem.W.exmAny K cls [c1, c2] = some (b1 || b2) := by
  unfold PySem.W.exmAny
  rw [h1]
  unfold PySem.W.exmAny
  rw [h2]
  unfold PySem.W.exmAny
  simp
section
variable {X : Cx} {pins : List (Addr × Obj)} {Wout : WX} {D : Ends} {x1 x2 : Str} {c1 c2 : Value} {p1 p2 p3 tp : Pos} {kk : Nat} {b0 : Stmt} {more : List Stmt} {ts : Addr → Value → Option Addr → TS}
theorem handle_t2 {a : Addr} {B : Heap} {sI : Shared} {σ : L2.St} {H : Hp} {cls : Value} {d : Option Addr} {s : Shared} (hs : X.stack = X.env :: X.outer) (hf : X.env.frame = some X.env.locals) (hN : X.N.Nodup) (tk : L2N.Takes X Wout) (n1 : Names X x1 c1) (n2 : Names X x2 c2)
    (hsu : ∀ (a : Addr) (oe : Obj) (cls : Value) (d : Option Addr) (pn : List (Addr × Obj)), L2N.Zn cls d oe → (∃ vs, oe.data = .fields vs) → PSs (X.suite a ((a, oe) :: pn)) (b0 :: more) (ts a cls d))
    (x : Down X pins a B sI σ H cls d s) (w : wT2 X.K Wout D c1 c2 ts cls d σ H) : wpAny (model X.prog X.w) X.A (handleBy (.ref a) X.env [.ExceptHandler (some (.Tuple [.Name x1 p1, .Name x2 p2] kk tp)) none (b0 :: more) p3]) (SP X pins D) X.xe s := by
  obtain ⟨b, hb, yes, no⟩ := w
  obtain ⟨oe, vs, ha, hz, hd, J⟩ := x.suite hf
  have ok := x.inv.ok
  refine wpAny_handleBy_cons (codeAny_handlers_test ?_) (by intro q; cases q)
  have ty : PySem.W.Looks (model X.prog X.w) s.heap (typeOf (.ref a)) cls := fun A Q E s' k q => wpAny_typeOf_ref (k _ _ ha) (by rw [hz.1]; exact q)
  have name : ∀ {nx : Str} {c : Value} {p1 : Pos} {Q : Value → Shared → Prop} {E : Value → Shared → Prop}, Names X nx c → Q c s → wpAny (model X.prog X.w) (X.A.mark (some (.ref a))) (eval (.Name nx p1) X.env) Q E s := fun {nx c p1 Q E} hc q => by
    obtain ⟨hg, hdb, hm | ⟨hm, hv, hn⟩⟩ := hc
    · exact ld_glob (X := X.suite a ((a, oe) :: (X.pn ++ pins))) J hg hm q hdb
    · exact ld_blt (X := X.suite a ((a, oe) :: (X.pn ++ pins))) J hg hm hv q hn hdb
  refine wpAny_Tuple ?_
  refine wpAny_items_cons (name n1 ?_)
  refine wpAny_items_cons (name n2 ?_)
  refine wpAny_items_nil ⟨by size_fits, ?_⟩
  have kp : ∀ q o, s.heap.get? q = some o → (s.heap.push { cls := .type "tuple", data := .seq [c1, c2].toArray }).get? q = some o := fun _ _ z => Heap.get?_push_of_some _ z
  have x' : Down X pins a B sI σ H cls d { s with heap := s.heap.push { cls := .type "tuple", data := .seq [c1, c2].toArray } } := x.at (flying_push x.fl _) (upTo_push _)
  have mt := PySem.W.exm_tup2 (M := model X.prog X.w) (x.here.kIn.keeps kp) (ty.keeps kp) (Heap.get?_push_size s.heap rfl) hb
  refine mt.here ?_
  cases b with
  | false =>
    show wpAny _ X.A (handleBy (.ref a) X.env []) _ _ _
    exact handle_nm hs hf hN tk HdsAs.nil x' (no rfl)
  | true =>
    refine codeAny_handlers_suite (HandSPX.lands_againZ x'.fl fun h2 fl2 up2 => ?_)
    have x2 := x'.at fl2 up2
    obtain ⟨o2, v2, a2, z2, d2, J2⟩ := x2.suite hf
    refine wpAny_mono ((hsu a o2 cls d (X.pn ++ pins) z2 ⟨_, d2⟩).run [] _ _ H _ J2 (yes rfl a x.na)) (fun fl s4 res => ?_) (fun _ _ z => False.elim z)
    match fl, res with
    | .next, ⟨σ4, H4, K4, q4⟩ => exact ⟨_, _, K4.unsuite ok, q4⟩
    | .brk, ⟨σ4, H4, K4, q4⟩ => exact ⟨_, _, K4.unsuite ok, q4⟩
    | .cont, ⟨σ4, H4, K4, q4⟩ => exact ⟨_, _, K4.unsuite ok, q4⟩
    | .ret u, ⟨v4, σ4, H4, K4, r4, q4⟩ => exact ⟨_, _, _, K4.unsuite ok, r4, q4⟩
theorem ps_try_t2 {body : List Stmt} {pos : Pos} {tb : WX → TS} (hs : X.stack = X.env :: X.outer) (hf : X.env.frame = some X.env.locals) (hN : X.N.Nodup) (tk : L2N.Takes X Wout) (n1 : Names X x1 c1) (n2 : Names X x2 c2)
    (hb : ∀ (W : WX) (pn : List (Addr × Obj)) (xe : Value → Shared → Prop), L2N.Takes (X.tr pn xe) W → PassesOwn (model X.prog X.w) X.A X.env xe → PSs (X.tr pn xe) body (tb W))
    (hsu : ∀ (a : Addr) (oe : Obj) (cls : Value) (d : Option Addr) (pn : List (Addr × Obj)), L2N.Zn cls d oe → (∃ vs, oe.data = .fields vs) → PSs (X.suite a ((a, oe) :: pn)) (b0 :: more) (ts a cls d)) :
    PS X (.Try body [.ExceptHandler (some (.Tuple [.Name x1 p1, .Name x2 p2] kk tp)) none (b0 :: more) p3] [] [] pos) (fun D σ H => tb (wT2 X.K Wout D c1 c2 ts) D σ H) := by
  refine ⟨fun pins s σ H D I h => ?_⟩
  have ok := I.ok
  have fr : X.A.frames = some (X.env :: X.outer) := by rw [ok.frames, hs]
  refine wpAny_Try_except (wpAny_mono ((hb (wT2 X.K Wout D c1 c2 ts) (X.pn ++ pins) _ (fun u s1 x1 => ?_) PassesOwn.looking).run [] s σ H D (I.toTry _) h) (fun fl s1 res => ?_) (fun e s1 he => he))
  · obtain ⟨a, B, sI, p2, σ2, H2, cls, d, rfl, J, gr, up, sky, na, os, bare, w⟩ := x1
    have J : Inv X pins σ2 H2 sI := J.ofTry ok
    have sky : Sky B (X.env :: X.outer) a (L2N.Zn cls d) X.env.locals s1.heap := by rw [← hs]; exact sky
    exact L2N.Sky.land L2N.Zn.steady fr hf sky fun h2 fl2 up2 => handle_t2 hs hf hN tk n1 n2 hsu ⟨J, gr, up.trans up2, fl2, na, os, bare⟩ w
  · match fl, res with
    | .next, ⟨σ2, H2, J, q⟩ => exact wpAny_execs_nil ⟨σ2, H2, J.ofTry ok, q⟩
    | .brk, ⟨σ2, H2, J, q⟩ => exact ⟨σ2, H2, J.ofTry ok, q⟩
    | .cont, ⟨σ2, H2, J, q⟩ => exact ⟨σ2, H2, J.ofTry ok, q⟩
    | .ret u, ⟨v, σ2, H2, J, r, q⟩ => exact ⟨v, σ2, H2, J.ofTry ok, r, q⟩
end
end J

set_option pp.maxSteps 3000
/-! J42: for i, x in enumerate(tuple). -/
namespace PySem
open Sem (wp)
open Builtin
set_option maxHeartbeats 1000000 in
theorem meets_enumerate_newB1 {v : Value} {o : Obj} {H : Heap → Prop} (B : Begins v o H) :
    Meets (Builtin.«enumerate.__new__» ⟨[.type "enumerate", v], []⟩) (fun _ R s => H s.heap ∧
      R (.ok (.ret (.ref (s.heap.push o).objs.size))) { s with heap := (s.heap.push o).push { cls := .type "enumerate", data := .fields #[.none, .bool false, .ref s.heap.objs.size, rawInt 0, .none, .none] } }) :=
  .of_wp fun prog w A R s h => by
    obtain ⟨hp, g, d, tk, os⟩ := s; obtain ⟨h1, h⟩ := h
    have hsub := sub_enumerate
    have q1 : ∀ {A' : Around} {E : Value → Shared → Prop} {Q : Value → Shared → Prop}, Q (.ref hp.objs.size) ⟨hp.push o, g, d, tk, os⟩ → wpAny (model prog w) A' (pyIter v) Q E ⟨hp, g, d, tk, os⟩ :=
      fun q => B.iter prog w _ _ ⟨hp, g, d, tk, os⟩ _ h1 q
    wp_walk using q1
    refine wpAny_stack_any fun st => wpAny_pure ?_
    split
    · rename_i c _ _ _ _ _
      cases (c == Value.type "enumerate")
      · wp_walk using q1
        exact ⟨_, rfl, h⟩
      · wp_walk using q1
        exact ⟨_, rfl, h⟩
    · wp_walk using q1
      exact ⟨_, rfl, h⟩
section
variable {prog : Program} {w : World} {A : Around} {E : Value → Shared → Prop} {s : Shared}
theorem enum_begins1 {v : Value} {o : Obj} {H : Heap → Prop} {Q : Value → Shared → Prop} (B : Begins v o H) (h1 : H s.heap)
    (h : ∀ h', IsEnum h' (s.heap.objs.size + 1) s.heap.objs.size 0 .none → h'.get? s.heap.objs.size = some o → h'.objs.size = s.heap.objs.size + 2 →
      (∀ b o, s.heap.get? b = some o → h'.get? b = some o) → Q (.ref (s.heap.objs.size + 1)) { s with heap := h' }) :
    wpAny (model prog w) A (call (.type "enumerate") [v]) Q E s := by
  refine callType_new F.called_enumerate (by decide) (F.typeCall_enumerate_1 _) (F.newCall_enumerate_1 _) (fun obj => F.args_object_init_2 obj _) F.entry_enumerate_new
    (meets_enumerate_newB1 B) ⟨h1, ?_⟩
  have hz : (s.heap.push o).objs.size = s.heap.objs.size + 1 := Heap.size_push ..
  show _ ∧ _
  rw [hz]
  have he : IsEnum ((s.heap.push o).push { cls := .type "enumerate", data := .fields #[.none, .bool false, .ref s.heap.objs.size, rawInt 0, .none, .none] }) (s.heap.objs.size + 1) s.heap.objs.size 0 .none := by
    have := Heap.get?_push_size (s.heap.push o) (o := { cls := .type "enumerate", data := .fields #[.none, .bool false, .ref s.heap.objs.size, rawInt 0, .none, .none] }) rfl
    rw [hz] at this; exact this
  refine ⟨⟨_, he, rfl⟩, h _ he (Heap.get?_push_of_some _ (Heap.get?_push_size _ B.free)) (by rw [Heap.size_push, hz]) fun b o x => Heap.get?_push_of_some _ (Heap.get?_push_of_some _ x)⟩
theorem wpAny_pyNext_enum_endT {e it t : Addr} {i : Nat} {items : Array Value} {old : Value} {Q : Option Value → Shared → Prop} (hh : A.handled = none)
    (he : IsEnum s.heap e it i old) (hit : s.heap.IsTupleIter it t i) (hl : s.heap.IsTuple t items) (hx : items[i]? = none)
    (hQ : ∀ h', Heap.ExtBut it s.heap h' → Q none { s with heap := h' }) : wpAny (model prog w) A (pyNext (.ref e)) Q E s := by
  have hT : s.TypeIs (.ref e) "enumerate" := ⟨_, he, rfl⟩
  unfold pyNext
  refine wpAny_bind (wpAny_attempt (wpAny_callSpecial?_slot (name := Str.ofString "__next__") hT F.slot_enumerate_next
    (wpAny_call_entry F.slot_enumerate_next hT F.entry_enumerate_next ?_ (F.args_enumerate_next_1 _))))
  show wpAny _ _ (field (.ref e) 2 >>= _) _ _ _
  refine wpAny_bind (wpAny_field he rfl (x := .ref it) rfl ?_)
  refine wpAny_bind (wpAny_nextOf_tuple_end (show A.in1.handled = none from hh) hit hl hx fun h' x he' hx' => ?_)
  obtain ⟨o, ho, hc⟩ := hx'
  refine wpAny_bind (wpAny_isInstance (T := "StopIteration") (b := true) ⟨o, ho, hc⟩ isSubtype_stop ?_)
  exact wpAny_pure (hQ _ he')
end
end PySem
namespace J
open PySem PySem.Spec PyProof.Rows L2 Evl
/-- the tuple at a, each item in a new pair -/
def IteT (K : PySem.W.Frag) (a : Addr) : It :=
  ⟨fun i H => ∃ (xs : List V) (x : V), SqT K H a xs ∧ xs[i]? = some x, fun i H v H' => ∃ T x, v = .ref T ∧ H T = none ∧ H' = upd H T (.tup [.int (i : Nat), x]) ∧ ∀ xs, SqT K H a xs → xs[i]? = some x, fun i H => ∃ xs : List V, SqT K H a xs ∧ xs.length ≤ i⟩
theorem turn_enumT {P : Program} {w : World} {K : PySem.W.Frag} {elts : List PySem.Expr} {kk : Nat} {tpos : Pos} (a e it : Addr) (hae : a ≠ e) (hai : a ≠ it) :
    Turn P w K (.Tuple elts kk tpos) (IteT K a) [e, it] e (fun i h => (∃ old, IsEnum h e it ((i : Nat) : Int) old) ∧ h.IsTupleIter it a i ∧ e ≠ it) where
  mem := by simp
  obj := fun i h st b hb => by
    obtain ⟨⟨old, he⟩, ⟨o, ho, hc, hd⟩, _⟩ := st
    have e' : b = e ∨ b = it := by simpa using hb
    rcases e' with z | z
    · rw [z]; exact ⟨_, he, fun v q => nomatch q⟩
    · rw [z]; exact ⟨o, ho, fun v q => by rw [hd] at q; cases q⟩
  keep := fun i h h' st k => let ⟨⟨old, he⟩, hi, hne⟩ := st; ⟨⟨old, k e (by simp) _ he⟩, hi.at fun o q => k it (by simp) o q, hne⟩
  item := by
    intro X hP hw hK hc i pins s σ H E I hf st hg
    subst hP hw hK
    obtain ⟨⟨old, he⟩, hit, hne⟩ := st
    obtain ⟨xs, x, hq, hx⟩ := hg
    obtain ⟨its, rv, p, hz⟩ := I.tuple hq
    obtain ⟨u, hu, ru⟩ := rv.get hx
    have hel : e < s.heap.objs.size := Heap.lt_size he
    have hil : it < s.heap.objs.size := by obtain ⟨_, q, _⟩ := hit; exact Heap.lt_size q
    have lt : i < its.toArray.size := by
      have := (List.getElem?_eq_some_iff.mp hu).1
      simpa using this
    have D : Draws X.prog X.w X.A.in1 it [it, a] its.toArray.size (fun i v => its.toArray[i]? = some v) (fun i h => h.IsTupleIter it a i ∧ h.IsTuple a its.toArray) := Draws.tuple (show X.A.in1.handled = none from I.ok.hd hc) it a hai its.toArray
    refine wpAny_pyNext_enum_itemD D he ⟨hit, p⟩ lt hne (by simp only [List.mem_cons, List.not_mem_nil, or_false, not_or]; exact ⟨hne, Ne.symm hae⟩) fun y h' tk hy ho hst hT hsz hk => ?_
    have ey : y = u := by
      rw [show its.toArray[i]? = its[i]? from by simp, hu] at hy
      exact (Option.some.inj hy).symm
    subst ey
    refine ⟨_, rfl, wpAny_letOwnedTupleGo_enum (s := { s with heap := h', toks := tk + 1 }) ho fun h'' he' sb => ?_⟩
    have hT2 : h''.get? s.heap.objs.size = some { cls := .type "tuple", data := .seq #[.int i tk, y] } := (sb.2 _ (Nat.ne_of_gt hel)).trans hT
    have new : ObjOk X.prog X.w (upd H s.heap.objs.size (.tup [.int (i : Nat), x])) h'' s.heap.objs.size (.tup [.int (i : Nat), x]) :=
      ⟨by show 2 ≤ sizeLine; decide, [.int i tk, y], .cons ⟨_, rfl⟩ (.cons ru .nil), ⟨_, hT2, rfl, _, rfl⟩⟩
    have I1 : Inv X pins σ (upd H s.heap.objs.size (.tup [.int (i : Nat), x])) { s with heap := h'', toks := tk + 1 } :=
      I.turnedNew (ch := [e, it]) (fun b ob hb q => (sb.2 b (fun z => hb (by simp [z]))).trans (hk b ob (fun z => hb (by simp [z])) (fun z => hb (by simp [z])) q)) hf (Nat.le_refl _) new
    refine ⟨.ref s.heap.objs.size, _, I1, rfl, ⟨_, x, rfl, I.hok.fresh (Nat.le_refl _), rfl, fun ys hy => by rw [I.tuple_inj hy hq]; exact hx⟩, ⟨⟨y, ?_⟩, hst.1.at fun o q => (sb.2 it (Ne.symm hne)).trans q, hne⟩, fun b hb => ?_⟩
    · have e1 : ((i + 1 : Nat) : Int) = (i : Int) + 1 := by omega
      rw [e1]; exact he'
    · have hb' : b < s.heap.objs.size := by
        have e' : b = e ∨ b = it := by simpa using hb
        rcases e' with z | z
        · rw [z]; exact hel
        · rw [z]; exact hil
      rw [upd_ne (Nat.ne_of_lt hb')]
      exact (hf b hb).1
  done := by
    intro X hP hw hK hc i pins s σ H E I hf st hg
    subst hP hw hK
    obtain ⟨⟨old, he⟩, hit, hne⟩ := st
    obtain ⟨xs, hq, hx⟩ := hg
    obtain ⟨its, rv, p, hz⟩ := I.tuple hq
    obtain ⟨f0, f1, f2, f3, f4, f5⟩ := hf it (by simp)
    have hl := rv.length
    exact wpAny_pyNext_enum_endT (I.ok.hd hc) he hit (show s.heap.IsTuple a its.toArray from p) (by simp; omega) fun h' eb => ⟨rfl, I.turned (t' := s.toks) (fun b o hb q => eb b o hb q) f0 f1 f3 f4 f5⟩
  self := fun A i s Q E st h => let ⟨⟨_, he⟩, _⟩ := st; wpAny_pyIter_enum he h
def iEnumT (K : PySem.W.Frag) (ta : TA) : TI := fun σ H R => ta σ H fun vs H1 => ∃ a xs, vs = [.ref a] ∧ SqT K H1 a xs ∧ R (IteT K a) H1
theorem pi_enumT {X : Cx} {e : PySem.Expr} {ta : TA} {p pos tpos : Pos} {elts : List PySem.Expr} {kk : Nat} (hg : Gl X "enumerate") (hm : X.mg "enumerate" = none) (ha : PA X [e] ta) (hs : starEach [e] X.env = [(false, eval e X.env)] := by rfl) :
    PI X (.Tuple elts kk tpos) (.Call (.Name "enumerate" p) [e] [] pos) (iEnumT X.K ta) := by
  refine ⟨fun pins s σ H R I h => ?_⟩
  refine Call_ (ld_blt I hg hm boot_enumerate (PyProof.Rows.callWith_type1 (thn (ha.run pos pins s σ H _ I h) fun us s1 ⟨vs, H1, I1, r1, q1⟩ => ?_) hs rfl))
  obtain ⟨a, xs, ex, hq, q⟩ := q1
  subst ex
  cases r1 with
  | cons r rr =>
    cases rr
    cases r
    obtain ⟨its, rv, p', hz⟩ := I1.tuple hq
    have hlt : a < s1.heap.objs.size := by
      obtain ⟨o, ho, _⟩ := (show s1.heap.IsTuple a its.toArray from p')
      exact Heap.lt_size ho
    refine enum_begins1 (begins_tuple a its.toArray) p' fun h' he hit hsz hk => wpAny_pyIter_enum he ?_
    have I2 : Inv X pins σ H1 { s1 with heap := h' } := I1.kept (t' := s1.toks) hk
    refine ⟨s1.heap.objs.size + 1, [s1.heap.objs.size + 1, s1.heap.objs.size], _, _, H1, rfl, I2, turn_enumT a (s1.heap.objs.size + 1) s1.heap.objs.size (Nat.ne_of_lt (Nat.lt_succ_of_lt hlt)) (Nat.ne_of_lt hlt), ⟨⟨.none, he⟩, ⟨_, hit, rfl, rfl⟩, Nat.succ_ne_self _⟩, fun b hb => ?_, q⟩
    have e' : b = s1.heap.objs.size + 1 ∨ b = s1.heap.objs.size := by simpa using hb
    have hle : s1.heap.objs.size ≤ b := by
      rcases e' with z | z
      · rw [z]; exact Nat.le_add_right _ _
      · rw [z]; exact Nat.le_refl _
    exact I1.fpOk hle (I1.hok.fresh hle)
/-- enumerate(list or tuple) -/
def iEnumU (K : PySem.W.Frag) (ta : TA) : TI := fun σ H R => iEnum K ta σ H R ∨ iEnumT K ta σ H R
theorem pi_enumUK {K : PySem.W.Frag} {X : Cx} {e : PySem.Expr} {ta : TA} {p pos tpos : Pos} {elts : List PySem.Expr} {kk : Nat} (hg : Gl X "enumerate") (hm : X.mg "enumerate" = none) (ha : PA X [e] ta) (hs : starEach [e] X.env = [(false, eval e X.env)] := by rfl) (hK : X.K = K := by rfl) :
    PI X (.Tuple elts kk tpos) (.Call (.Name "enumerate" p) [e] [] pos) (iEnumU K ta) := by
  subst hK
  exact PI.or (pi_enum hg hm ha hs) (pi_enumT hg hm ha hs)
section
variable {α : Type} {r : Rs} {s : L2.St} {S : Hp} {K : PySem.W.Frag}
theorem walk_enumT {a : Addr} {xs : List V} : Walk (IteT K a) xs.length (fun H => SqT K H a xs) (YPair (fun i => some (.int (i : Nat))) (fun i => xs[i]?)) := by
  refine ⟨fun i _ hi q => ⟨xs, xs[i], q, by simp [hi]⟩, fun _ q => ⟨xs, q, Nat.le_refl _⟩, fun i H v H' _ q y => ?_⟩
  obtain ⟨T, x, h1, h2, h3, h4⟩ := y
  exact ⟨T, _, x, h1, h2, h3, rfl, h4 xs q⟩
theorem ei_enumT {ta : TA} {ys : List α} {X : Rl α} [Mono X] (h : EvAS r ta s S fun us S1 => ∃ a vs, us = [.ref a] ∧ SqT K S1 a vs ∧ All2 X S1 ys vs) : EvI r (iEnumT K ta) s S (enumL ys) (PairR K IntR X) := fun S1 H a w R q =>
  h S1 H a w _ fun us S2 H2 w2 s2 ⟨b, vs, e1, e2, e3⟩ => ⟨b, vs, e1, ex_t w2.ex e2, q (IteT K b) S2 H2 (fun H => SqT K H b vs) (YPair (fun i => some (.int (i : Nat))) (fun i => vs[i]?)) w2 s2 (by
    have wk := walk_enumT (K := K) (a := b) (xs := vs)
    rw [e3.len, ← enumL_len ys] at wk
    exact wk) (fun S' H' e w' => ex_t w'.ex (ex_t e e2)) fun i S' H' v H'' hi e w' ⟨T, x, y, e4, e5, e6, e7, e8⟩ => by
      obtain ⟨y', h1, h2⟩ := (e3.up e).get e8
      subst e6
      cases e7
      exact ⟨_, _, enumL_get h1, w'.newS e5, Stp.newS w' e5, T, _, _, e4, SqT.of upd_same, rfl, Mono.up (Ex.new (w'.fresh e5)) h2⟩⟩
/-- for i, x in enumerate(e), e known -/
theorem ei_enumU {ta : TE} {ys : List α} {X : Rl α} [Mono X] {v : V} (h : EvV r ta s S v) (hv : SeqR K X ys v S) : EvI r (iEnumU K (tCons ta tNil)) s S (enumL ys) (PairR K IntR X) := by
  rcases hv with ⟨a, vs, rfl, g1, g2⟩ | ⟨a, vs, rfl, g1, g2⟩
  · exact EvI.or1 (ei_enum (EvAS.imp' (va_cons h va_nil) fun us S1 e eu => ⟨a, vs, eu, e _ _ g1, g2.up e⟩))
  · exact EvI.or2 (ei_enumT (EvAS.imp' (va_cons h va_nil) fun us S1 e eu => ⟨a, vs, eu, ex_t e g1, g2.up e⟩))
end
end J

set_option pp.maxSteps 3000
/-! J43: C(**d) that raises; xs[::-1]. -/
namespace J
open PySem PySem.Spec PyProof.Rows L2 Evl RZ
theorem pe_revK {K : PySem.W.Frag} {X : Cx} {e : PySem.Expr} {te : TE} {k : Nat} {p1 p2 p3 pos : Pos} (he : PE X e te) (hK : X.K = K := by rfl) : PE X (.Subscript e (.Slice none none (some (.UnaryOp .USub (.Constant (.int 1) k p1) p2)) p3) pos) (tRevL K te) := by
  subst hK
  exact pe_revL he
section
variable {r : Rs} {s : L2.St} {S : Hp} {te : TE} {C C' : Addr} {fld : Str} {ks : List Str} {B : Type} {pre : B → List V → Hp → Prop} {val : B → V → Hp → Prop} {gV : List V → List V → List V} {E : XK} {P : List (Key × V) → Hp → Prop} {R : V → Hp → Prop} {K : PySem.W.Frag} {α : Type} {Rx : Rl α}
theorem ex_makeD (h : EvS r te s S fun v S1 => ∃ a kvs, v = .ref a ∧ S1 a = some (.dK kvs) ∧ P kvs S1)
    (hp : ∀ kvs S1, Ex S S1 → P kvs S1 → kvs.map (·.1) = ks.map Sum.inr ∧ ∃ b us, (∀ x, gV [.ref x] (kvs.map (·.2)) = .ref x :: us) ∧ pre b us S1 ∧ ∀ v S2, Ex S1 S2 → val b v S2 → R v S2) : EvX E C fld r (tMakeD C' ks (SpXi C fld pre val) gV E te) s S R := fun S1 H e w k Q D hD =>
  h S1 (upd H D (.dK [])) e (w.new hD) _ fun v S2 H2 w2 s2 ⟨a, kvs, ev, ha, hpk⟩ => by
    have nD : D ∉ r.M := w.notM hD
    have h2 : H2 D = some (.dK []) := s2.kp D _ nD upd_same
    have n2 : S2 D = none := s2.fr D (ne_none upd_same) (w.fresh hD)
    obtain ⟨hk, b, us, hg, p1, p2⟩ := hp kvs S2 (e.trans s2.ex) hpk
    refine ⟨h2, a, kvs, ev, ne_of_none ha n2, w2.ex _ _ ha, hk, fun x dx hx hdx ne => ?_⟩
    rw [hg x]
    have w2' := w2.mut (o := .dK kvs) n2 nD
    have s2' := ((Stp.new hD).trans s2).mut (o := .dK kvs) hD
    have hx1 : (upd (upd H2 D (.dK kvs)) dx (.own x)) x = none := by
      rw [upd_ne ne.symm]
      exact hx
    have w3 := (w2'.new (o := .own x) hdx).new (o := .ins C' dx []) hx1
    have s3 := (Stp.new (r := r) (S := S2) (o := .own x) hdx).trans (Stp.new (o := .ins C' dx []) hx1)
    exact ⟨b, S2, ⟨x, _, rfl, p1⟩, w3.bare, fun d v S4 H4 w4 s4 hv hd => k d v S4 H4 (w3.lift w4 s4) ((s2'.trans s3).trans s4.lift) (p2 v S4 s4.ex hv) hd⟩
/-- xs[::-1] -/
theorem ev_rev [Mono Rx] {xs : List α} (h : EvS r te s S fun v S1 => LstR Rx xs v S1) : EvS r (tRevL K te) s S fun v S1 => LstR Rx xs.reverse v S1 := fun S1 H e w Q q =>
  h S1 H e w _ fun v S2 H2 w2 s2 ⟨a, vs, ev, ha, hv⟩ => ⟨a, vs, ev, SqL.of (w2.ex _ _ ha), fun p hp => q (.ref p) (upd S2 p (.lst vs.reverse)) _ (w2.newS hp) (s2.trans (Stp.newS w2 hp)) ⟨p, vs.reverse, rfl, upd_same, (all2_rev hv).up (Ex.new (w2.fresh hp))⟩⟩
where
  all2_rev {S : Hp} : ∀ {xs : List α} {vs : List V}, All2 Rx S xs vs → All2 Rx S xs.reverse vs.reverse
    | _, _, .nil => .nil
    | _, _, .cons h t => by
      rw [List.reverse_cons, List.reverse_cons]
      exact (all2_rev t).snoc h
end
end J

/-! J44: C.m(..) where m is a staticmethod of the program's class C; o <= p by an own __le__. -/
namespace J
open PySem PySem.Spec PyProof.Rows L2 Evl RZ
/-- C.m is a staticmethod: its record at p, its def at g -/
structure SMet (K : PySem.W.Frag) (C : Addr) (mc : Value) (m : Str) (p g : Addr) : Prop where
  at_ : PySem.W.findCls K (.ref C) mc m = some (.get (.builtin "staticmethod.__get__") (.ref p) .none (.ref C))
  rc : ∃ rest, PySem.W.recIn K p "staticmethod" = some (.ref g :: rest)
  kp : PySem.W.keepIn K (.ref g) = true
section
variable {X : Cx} {pins : List (Addr × Obj)} {σ : L2.St} {H : Hp} {s : Shared} {C p g : Addr} {mc : Value} {m : Str} {A : Around} {E : Value → Shared → Prop}
theorem getsm_ok {b : Bool} {Q : Value → Shared → Prop} (I : Inv X pins σ H s) (r : ClX.CRead X.K C mc) (c : SMet X.K C mc m p g) (h : ∀ s', Inv X pins σ H s' → Q (.ref g) s') : wpAny (model X.prog X.w) A (getAttr (.ref C) m b) Q E s := by
  obtain ⟨rest, hp⟩ := c.rc
  refine PySem.W.cls_bind I.kIn r.rd c.at_ ?_
  refine wpAny_call (PySem.W.sm_get (s := { s with toks := s.toks + 1 }) I.kIn hp (PySem.W.handed_on rfl ?_))
  exact h _ (I.tok _)
theorem getmethsm_ok {pl : Sem Bool} {Q : Value × List Value → Shared → Prop} (I : Inv X pins σ H s) (r : ClX.CRead X.K C mc) (c : SMet X.K C mc m p g) (h : ∀ s', Inv X pins σ H s' → Q (.ref g, []) s') : wpAny (model X.prog X.w) A (getMethod (.ref C) m pl) Q E s :=
  PySem.W.method_cls I.kIn r.ga (getsm_ok I r c h)
end
section
variable {X : Cx} {CX : CXT} {k : Nat} {E : XK} {C p g : Addr} {fd : FuncData} {ps : List Str} {ds : List Value} {dvs : List V} {mc : Value} {sp : Sp} {x m : Str} {e : Expr} {es : List Expr} {pos apos np : Pos} {t : TA} {pl : Sem Bool}
theorem pe_static (F : FnOk X.prog X.w X.K X.mg X.base CX k g fd ps sp) (hr : Room k X.A) (hg : Gl X x) (hm : X.mg x = some (.ref C)) (r : ClX.CRead X.K C mc) (c : SMet X.K C mc m p g) (hb : Binds X.K fd ps ds) (hd : Vals dvs ds) (hx : Passes CX X E)
    (ha : PA X (e :: es) t) (ndb : (x == ("__debug__" : Str)) = false := by decide) (e1 : starEach (e :: es) X.env = (false, eval e X.env) :: starEach es X.env := by rfl) (e2 : (backTo pos (starEach es X.env)).any (·.1) = false := by rfl)
    (ht : eval (.Call (.Attribute (.Name x np) m apos) (e :: es) [] pos) X.env = (do
      let ov ← eval (.Name x np) X.env
      standAt apos.atName
      let (f, first) ← holding [ov] (getMethod ov m pl)
      callWith pos f first (backTo pos (starEach (e :: es) X.env)) (backToKw pos (keywordEach [] X.env))) := by rfl) :
    PE X (.Call (.Attribute (.Name x np) m apos) (e :: es) [] pos) (tCall sp dvs E t) := by
  refine ⟨fun pins s σ H Q I h => ?_⟩
  refine PySem.W.methodCall_KW (pl := pl) (ld_glob I hg hm ?_ ndb) ht
  refine getmethsm_ok I r c fun s2 I2 => ?_
  exact PySem.W.callWith_K (h₀ := X.base) I2.ok.mod.kin c.kp (thn (ha.run pos pins s2 σ H _ I2 h) fun us s1 ⟨vs, H1, I1, r, q⟩ => ⟨I1.kIn, run_fn F hr hb hd hx I1 r q⟩) e1 e2
theorem pe_static0 (F : FnOk X.prog X.w X.K X.mg X.base CX k g fd ps sp) (hr : Room k X.A) (hg : Gl X x) (hm : X.mg x = some (.ref C)) (r : ClX.CRead X.K C mc) (c : SMet X.K C mc m p g) (hb : Binds X.K fd ps ds) (hd : Vals dvs ds) (hx : Passes CX X E)
    (ndb : (x == ("__debug__" : Str)) = false := by decide)
    (ht : eval (.Call (.Attribute (.Name x np) m apos) [] [] pos) X.env = (do
      let ov ← eval (.Name x np) X.env
      standAt apos.atName
      let (f, first) ← holding [ov] (getMethod ov m pl)
      callWith pos f first (backTo pos (starEach [] X.env)) (backToKw pos (keywordEach [] X.env))) := by rfl) :
    PE X (.Call (.Attribute (.Name x np) m apos) [] [] pos) (tCall sp dvs E tNil) := by
  refine ⟨fun pins s σ H Q I h => ?_⟩
  refine PySem.W.methodCall_KW (pl := pl) (ld_glob I hg hm ?_ ndb) ht
  refine getmethsm_ok I r c fun s2 I2 => ?_
  exact PySem.W.callWith_K0 I2.kIn c.kp (run_fn (us := []) F hr hb hd hx I2 .nil h)
end
section
variable {X : Cx} {CX : CXT} {k : Nat} {f C : Addr} {fd : FuncData} {ps : List Str} {sp : Sp} {E : XK}
/-- o <= p by an own __le__ -/
theorem op_leO (F : FnOk X.prog X.w X.K X.mg X.base CX k f fd ps sp) (M : Meth X.K C "__le__" f) (hr : Room k X.A) (hb : Binds X.K fd ps []) (hx : Passes CX X E) : OpR X (compareOp .LtE) (rEqO C sp E) := by
  intro pins s σ H x y v u Q I rx ry h
  obtain ⟨a, dx, fs, b, dy, gs, rfl, rfl, ha, hb2, wants⟩ := h
  cases rx
  cases ry
  obtain ⟨mA, J, _⟩ := ins_get I.hok ha
  obtain ⟨od, J, _⟩ := J.look
  obtain ⟨mB, J', _⟩ := ins_get I.hok hb2
  obtain ⟨od', J', _⟩ := J'.look
  obtain ⟨m, frame⟩ := I.fr
  refine PySem.W.cmp_ofLtE (PySem.W.cmp_K (op := .LtE) (tb := .ref C) hr.units0 frame I.ok.mod.kin J J'.type (by simp [PySem.W.notFirst]) M.at_ M.fn ?_)
  refine wpAny_mono (run_sub (A := X.A) (vs := [V.ref a, V.ref b]) ⟨hr, rfl⟩ F hb hx I (.cons rfl (.cons rfl .nil)) wants) (fun w s' back => ?_) fun _ _ z => z
  obtain ⟨t, H', I', rt, z, rfl, q⟩ := back
  cases rt
  exact ⟨.bl z, H', I', rfl, q⟩
end
theorem sm_of {K : PySem.W.Frag} {C : Addr} {m : Str} (h : He5.wrapB K C "staticmethod" "staticmethod.__get__" m = true) (kp : PySem.W.keepIn K (.ref (He5.wf K C "staticmethod" m)) = true) : SMet K C (.type "type") m (He.ma K C m) (He5.wf K C "staticmethod" m) := ⟨(He5.wrapB_ok h).1, (He5.wrapB_ok h).2, kp⟩
/-- a reading that is never reached -/
def tNo : TE := fun _ _ _ => False
theorem pe_no {X : Cx} {e : Expr} : PE X e tNo := ⟨fun _ _ _ _ _ _ h => h.elim⟩
end J

/-! J45: a list of own objects != a list of own objects, item by item equal. -/
namespace J
open PySem PySem.Spec PyProof.Rows L2 Evl RZ GQ PySem.Calls Builtin PySem.MeetsSeq3
section
variable {prog : Program} {w : World} {A : Around} {R : Result → Shared → Prop}
theorem ne_loopG (l b : Addr) (N : Nat) (I : Nat → Shared → Prop) (hl : ListI prog w A (fun e s' => R (.error e) s') l b N I) (fin : ∀ s, I N s → R (.ok (.ret (.bool false))) s) (k : Nat) :
    ∀ i : Nat, N - i = k → i ≤ N → ∀ s, I i s → wpAny (model prog w) A.in1 (Builtin.«list.__eq__.loop» ⟨[.ref l, .ref b, rawInt i, rawInt 3], []⟩) (FinOf prog w A R) (fun e s' => R (.error e) s') s := by
  induction k with
  | zero =>
    intro i hk hi s h
    obtain ⟨xs, ys, n, n2, h1, h2, z1, z2, _⟩ := hl _ _ h
    obtain rfl : i = N := by omega
    have done := fin s h
    obtain ⟨hp, g, d, tk, os⟩ := s
    wp_walk using wpAny_loadPart' h1, wpAny_loadPart' h2
    rw [show xs[((i : Nat) : Int).toNat]? = none by simp; omega, show ys[((i : Nat) : Int).toNat]? = none by simp; omega]
    wp_walk using wpAny_loadPart' h1, wpAny_loadPart' h2
    show R (.ok (.ret (.bool (xs.size != ys.size)))) _
    rw [z1, z2]
    simpa using done
  | succ k ih =>
    intro i hk hi s h
    obtain ⟨xs, ys, n, n2, h1, h2, z1, z2, turn⟩ := hl _ _ h
    have l1 : i < xs.size := by omega
    have l2 : i < ys.size := by omega
    have t := turn l1 l2
    obtain ⟨hp, g, d, tk, os⟩ := s
    wp_walk using wpAny_loadPart' h1, wpAny_loadPart' h2
    rw [show xs[((i : Nat) : Int).toNat]? = some xs[i] by simp [l1], show ys[((i : Nat) : Int).toNat]? = some ys[i] by simp [l2]]
    refine wpAny_bind (wpAny_mono t (fun r s2 q => ?_) fun _ _ x => x)
    obtain ⟨rfl, q⟩ := q
    have next := ih (i + 1) (by omega) (by omega) s2 q
    obtain ⟨hp2, g2, d2, tk2, os2⟩ := s2
    wp_walk
    rw [show ((i : Int) + 1) = ((i + 1 : Nat) : Int) by omega]
    exact ⟨plainId_quiet plain_eq_loop _, codeAny_builtin entry_eq_loop (by
      rw [Around.under_plainId plain_eq_loop _]
      exact next)⟩
theorem list_neG (l b : Addr) (N : Nat) (I : Nat → Shared → Prop) (hl : ListI prog w A (fun e s' => R (.error e) s') l b N I) (fin : ∀ s, I N s → R (.ok (.ret (.bool false))) s) {s : Shared} (h : I 0 s) :
    wpAny (model prog w) A.in1 (Builtin.«list.__ne__» ⟨[.ref l, .ref b], []⟩) (FinOf prog w A R) (fun e s' => R (.error e) s') s := by
  obtain ⟨xs, ys, n, n2, h1, h2, z1, z2, _⟩ := hl _ _ h
  have next := ne_loopG (A := A) (R := R) l b N I hl fin _ 0 rfl (Nat.zero_le _) s h
  obtain ⟨hp, g, d, tk, os⟩ := s
  have f3 := AutoSeq1.sub_list_list
  have hne : ¬ (xs.size != ys.size) = true := by simp [z1, z2]
  wp_walk using wpAny_loadPart' h1, wpAny_loadPart' h2
  exact ⟨plainId_quiet plain_eq_loop _, codeAny_builtin entry_eq_loop (by
    rw [Around.under_plainId plain_eq_loop _]
    exact next)⟩
end
section
variable {prog : Program} {w : World} {A : Around} {E : Value → Shared → Prop} {s : Shared}
theorem rc_listNeG {l b : Addr} {N : Nat} {Q : Value → Shared → Prop} (hu : A.units < cLine) (I : Nat → Shared → Prop) (hl : ListI prog w A E l b N I) (fin : ∀ s, I N s → Q (.bool false) s) (h : I 0 s) : wpAny (model prog w) A (richCompare .NotEq (.ref l) (.ref b)) Q E s := by
  obtain ⟨xs, ys, n, n2, h1, h2, _, _, _⟩ := hl _ _ h
  refine wpAny_richCompare_same_room (op := .NotEq) ⟨_, h1, rfl⟩ ⟨_, h2, rfl⟩ F.slot_list_ne (call_here F.slot_list_ne ⟨_, h1, rfl⟩ F.entry_list_ne (F.args_list_ne_2 _ _) ?_) hu
  exact list_neG (R := wants (fun v s' => v ≠ .notImplemented ∧ Q v s') E) l b N I hl (fun s' q => ⟨(fun x => nomatch x), fin s' q⟩) h
end
section
variable {X : Cx} {n : Nat} {D : Eqv}
/-- two lists, item by item equal: != gives False -/
def rNeLG (D : Eqv) : R2 := fun x y H Q => DList D x y H ∧ ∀ H', Ext H H' → Q (.bl false) H'
theorem op_neLG (hD : Mon D) (h : EqG X n D) (hr : Room (n + 1) X.A) : OpR X (compareOp .NotEq) (rNeLG D) := by
  intro pins s σ H x y v u Q I rx ry hq
  obtain ⟨⟨a, b, xs, ys, rfl, rfl, ha, hb, p⟩, q⟩ := hq
  cases rx
  cases ry
  show wpAny (model X.prog X.w) X.A (richCompare .NotEq (.ref a) (.ref b)) (EP X pins σ Q) X.xe s
  refine rc_listNeG (N := xs.length) hr.units0 (fun _ s' => LoopI X pins σ H s') (fun i s' l => ?_) (fun s' l => ?_) ⟨H, I, Ext.rfl'⟩
  · obtain ⟨H1, I1, e1⟩ := id l
    obtain ⟨z, its, k, r, e⟩ := I1.hok a _ (e1 _ _ ha)
    obtain ⟨z2, its2, k2, r2, e2⟩ := I1.hok b _ (e1 _ _ hb)
    exact ⟨its.toArray, its2.toArray, k, k2, e, e2, by rw [List.size_toArray, ← r.length], by rw [List.size_toArray, ← r2.length, ← p.1], fun h1 h2 => turnG hD h ⟨hr, rfl⟩ p r r2 i h1 h2 s' l⟩
  · obtain ⟨H', I', e⟩ := l
    exact ⟨.bl false, H', I', rfl, q H' e⟩
end
section
variable {X : Cx} {CX : CXT} {n : Nat} {f C : Addr} {fd : FuncData} {ps : List Str} {sp : Sp} {E : XK} {D : Eqv}
/-- items of one class, equal by its own __eq__ -/
theorem rcG_own (F : FnOk X.prog X.w X.K X.mg X.base CX n f fd ps sp) (M : Meth X.K C "__eq__" f) (hb : Binds X.K fd ps []) (hx : Passes CX X E)
    (hi : ∀ x y H, D x y H → ∃ a b dx dy fs gs, x = .ref a ∧ y = .ref b ∧ H a = some (.ins C dx fs) ∧ H b = some (.ins C dy gs)) (hsp : ∀ x y H Q, D x y H → (∀ H', Ext H H' → Q (.bl true) H') → sp [x, y] H Q E) : RcG X n D := by
  intro A pins s σ H x y u v sb I rx ry d
  obtain ⟨a, b, dx, dy, fs, gs, rfl, rfl, ha, hb2⟩ := hi _ _ _ d
  cases rx
  cases ry
  obtain ⟨mA, J, _⟩ := ins_get I.hok ha
  obtain ⟨od, J, _⟩ := J.look
  obtain ⟨mB, J', _⟩ := ins_get I.hok hb2
  obtain ⟨od', J', _⟩ := J'.look
  obtain ⟨m, frame⟩ := I.fr
  refine PySem.W.cmp_K (op := .Eq) (tb := .ref C) sb.room.units0 frame I.ok.mod.kin J J'.type (by simp [PySem.W.notFirst]) M.at_ M.fn ?_
  refine wpAny_mono (run_sub (A := A) (vs := [V.ref a, V.ref b]) sb F hb hx I (.cons rfl (.cons rfl .nil)) (hsp _ _ _ (fun v H' => v = .bl true ∧ Ext H H') d fun H' e => ⟨rfl, e⟩)) (fun w s' back => ?_) fun _ _ z => z
  obtain ⟨t, H', I', rt, rfl, e⟩ := back
  cases rt
  exact ⟨rfl, H', I', e⟩
theorem eqG_own (F : FnOk X.prog X.w X.K X.mg X.base CX n f fd ps sp) (M : Meth X.K C "__eq__" f) (hb : Binds X.K fd ps []) (hx : Passes CX X E)
    (hi : ∀ x y H, D x y H → ∃ a b dx dy fs gs, x = .ref a ∧ y = .ref b ∧ H a = some (.ins C dx fs) ∧ H b = some (.ins C dy gs)) (hsp : ∀ x y H Q, D x y H → (∀ H', Ext H H' → Q (.bl true) H') → sp [x, y] H Q E) : EqG X n D :=
  (rcG_own F M hb hx hi hsp).eqG fun x y H d => by
    obtain ⟨a, b, _, _, _, _, h1, h2, _⟩ := hi x y H d
    exact ⟨a, b, h1, h2⟩
end
/-- two values of one datum -/
def DRel {α : Type} (R : Rl α) : Eqv := fun x y H => ∃ a S, Ex S H ∧ R a x S ∧ R a y S
theorem mon_rel {α : Type} {R : Rl α} : Mon (DRel R) := fun x y H H' e ⟨a, S, h, h1, h2⟩ => ⟨a, S, fun b o q => e b o (h b o q), h1, h2⟩
theorem prs_rel {α : Type} {R : Rl α} {S H : Hp} (e : Ex S H) : ∀ {xs : List α} {vs ws : List V}, All2 R S xs vs → All2 R S xs ws → Prs (DRel R) vs ws H
  | _, _, _, .nil, .nil => .nil
  | _, _, _, .cons h t, .cons h' t' => .cons ⟨_, S, e, h, h'⟩ (prs_rel e t t')
theorem Wd.ext {r : Rs} {S H H' : Hp} (w : Wd r S H) (x : Ext H H') : Wd r S H' := ⟨fun a o h => x _ _ (w.ex a o h), r.mono H H' (fun a o _ e => x a o e) (fun a q e => x a _ e) w.inv, w.dj⟩
theorem Stp.ext {r : Rs} {S H H' : Hp} (x : Ext H H') : Stp r S H S H' := ⟨Ex.refl S, fun a o _ h => x a o h, fun _ _ h => h, fun a h z => by
  cases q : H a with
  | none => exact h q
  | some o =>
    rw [x a o q] at z
    cases z⟩
section
variable {r : Rs} {s : L2.St} {S : Hp} {ta tb : TE} {α : Type} {R : Rl α}
theorem vv_neLG [Mono R] {xs : List α} (h1 : EvS r ta s S fun v S1 => LstR R xs v S1) (h2 : ∀ S1, Ex S S1 → EvS r tb s S1 fun v S2 => LstR R xs v S2) : EvV r (tOp (rNeLG (DRel R)) ta tb) s S (.bl false) := fun S1 H e w Q q =>
  h1 S1 H e w _ fun v S2 H2 w2 s2 p => h2 S2 (e.trans s2.ex) S2 H2 (Ex.refl _) w2 _ fun v' S3 H3 w3 s3 p' => by
    obtain ⟨a, vs, rfl, ha, hv⟩ := Mono.up s3.ex p
    obtain ⟨b, ws, rfl, hb, hw⟩ := p'
    exact ⟨⟨a, b, vs, ws, rfl, rfl, w3.ex _ _ ha, w3.ex _ _ hb, prs_rel w3.ex hv hw⟩, fun H' x => q _ S3 H' (w3.ext x) ((s2.trans s3).trans (Stp.ext x)) rfl⟩
end
/-- the own __eq__ of a class that is told by a relation -/
theorem spP_rel {A : Type} {pre : A → List V → Hp → Prop} {post : A → V → Hp → Prop} {α : Type} {R : Rl α} {E : XK} (hp : ∀ a x y S, R a x S → R a y S → ∃ z, pre z [x, y] S ∧ ∀ v S1, post z v S1 → v = .bl true) (x y : V) (H : Hp) (Q : VK) (d : DRel R x y H) (q : ∀ H', Ext H H' → Q (.bl true) H') : SpP pre post [x, y] H Q E := by
  obtain ⟨a, S, e, h1, h2⟩ := d
  obtain ⟨z, p, hv⟩ := hp a x y S h1 h2
  exact ⟨z, S, p, e, fun v S1 H1 w s u => by
    rw [hv v S1 u]
    exact q H1 fun b o h => s.kp b o (fun m => nomatch m) h⟩
end J

/-! J46: some keywords given, the others by defaults; loops that append to one list; l.extend(e). -/
namespace J
open PySem PySem.Spec PyProof.Rows L2 Evl RZ
/-- us, then the values of keywords and defaults by their places in ws ++ mv -/
def selG {α : Type} (l : List Nat) (us mv ws : List α) : List α := us ++ l.filterMap fun i => (ws ++ mv)[i]?
theorem vals_get : ∀ {vs : List V} {us : List Value} (i : Nat), Vals vs us → (vs[i]? = none ∧ us[i]? = none) ∨ ∃ v u, vs[i]? = some v ∧ us[i]? = some u ∧ RelV v u
  | _, _, i, .nil => .inl ⟨by simp, by simp⟩
  | _, _, 0, .cons h _ => .inr ⟨_, _, rfl, rfl, h⟩
  | _, _, i + 1, .cons _ t => by
    rw [List.getElem?_cons_succ, List.getElem?_cons_succ]
    exact vals_get i t
theorem vals_sel {vs : List V} {us : List Value} (h : Vals vs us) : ∀ l : List Nat, Vals (l.filterMap fun i => vs[i]?) (l.filterMap fun i => us[i]?)
  | [] => .nil
  | i :: l => by
    rcases vals_get i h with ⟨e1, e2⟩ | ⟨v, u, e1, e2, r⟩
    · rw [List.filterMap_cons_none e1, List.filterMap_cons_none e2]
      exact vals_sel h l
    · rw [List.filterMap_cons_some e1, List.filterMap_cons_some e2]
      exact .cons r (vals_sel h l)
theorem selG_rel (l : List Nat) {vs mz zs : List V} {us mv ws : List Value} (h1 : Vals vs us) (h2 : Vals mz mv) (h3 : Vals zs ws) : Vals (selG l vs mz zs) (selG l us mv ws) := h1.append (vals_sel (h3.append h2) l)
/-! ### what is appended to -/
section
variable {α β : Type} {Y : Rl β} {l : Addr}
/-- at l a list, not stable, of zs -/
def AccS (l : Addr) (Y : Rl β) (zs : List β) (S H : Hp) : Prop := ∃ vs, H l = some (.lst vs) ∧ S l = none ∧ All2 Y S zs vs
variable {r : Rs} {s : L2.St} {S S' H H' : Hp} {ta te : TE} {tu tz : TS} {D : Ends} {zs : List β} {K : PySem.W.Frag}
theorem AccS.step [Mono Y] (n : l ∉ r.M) (a : AccS l Y zs S H) (st : Stp r S H S' H') : AccS l Y zs S' H' := by
  obtain ⟨vs, h1, h2, h3⟩ := a
  exact ⟨vs, st.kp _ _ n h1, st.fr _ (ne_none h1) h2, h3.up st.ex⟩
theorem st_appendA [Mono Y] {y : β} (n : l ∉ r.M) (ho : EvV r ta s S (.ref l)) (hv : EvS r te s S fun v S1 => Y y v S1) (w : Wd r S H) (a : AccS l Y zs S H) (hz : zs.length < 100000)
    (k : ∀ S1 H1, Wd r S1 H1 → Stp (r.more [l]) S H S1 H1 → AccS l Y (zs ++ [y]) S1 H1 → D.nx s H1) : tDrop (tBM K "list" rAppend ta (tCons te tNil)) D s H := by
  obtain ⟨vs, h1, h2, h3⟩ := a
  exact st_append n ho hv w h1 h2 (by rw [h3.len]; exact hz) fun v S1 H1 w1 s1 n1 e1 p => k S1 H1 w1 s1 ⟨_, e1, n1, (h3.up s1.ex).snoc p⟩
theorem sq_appendA [Mono Y] {y : β} (n : l ∉ r.M) (ho : EvV r ta s S (.ref l)) (hv : EvS r te s S fun v S1 => Y y v S1) (w : Wd r S H) (a : AccS l Y zs S H) (hz : zs.length < 100000)
    (k : ∀ S1 H1, Wd r S1 H1 → Stp (r.more [l]) S H S1 H1 → AccS l Y (zs ++ [y]) S1 H1 → tz D s H1) : tSeq (tDrop (tBM K "list" rAppend ta (tCons te tNil))) tz D s H := st_appendA (D := { D with nx := tz D }) n ho hv w a hz k
/-- l.extend(e) -/
theorem st_extendA [Mono Y] {ys : List β} (n : l ∉ r.M) (ho : EvV r ta s S (.ref l)) (hv : EvS r te s S fun v S1 => LstR Y ys v S1) (w : Wd r S H) (a : AccS l Y zs S H) (hz : zs.length + ys.length ≤ 100000)
    (k : ∀ S1 H1, Wd r S1 H1 → Stp (r.more [l]) S H S1 H1 → AccS l Y (zs ++ ys) S1 H1 → D.nx s H1) : tDrop (tBM K "list" rExtend ta (tCons te tNil)) D s H := by
  obtain ⟨vs, hl, hs, h3⟩ := a
  refine ho S H (Ex.refl _) w _ fun u S1 H1 w1 s1 eu => ?_
  subst eu
  have h1 : H1 l = some (.lst vs) := s1.kp l _ n hl
  refine ⟨.inl ⟨rfl, _, .inl (.inl h1)⟩, hv S1 H1 s1.ex w1 _ fun v S2 H2 w2 s2 ⟨b, ws, ev, hb, hws⟩ => ?_⟩
  subst ev
  have s12 := s1.trans s2
  have h2 := s12.kp l _ n hl
  have n2 := s12.fr l (ne_none hl) hs
  refine ⟨l, b, vs, ws, rfl, rfl, h2, w2.ex _ _ hb, sz_of (by rw [h3.len, hws.len]; exact hz), ?_⟩
  exact k S2 _ (w2.mut n2 n (nco_lst h2)) ((s12.more).trans (Stp.upd1 (s12.dm l (ne_none hl)))) ⟨_, upd_same, n2, (h3.up s12.ex).append hws⟩
theorem sq_extendA [Mono Y] {ys : List β} (n : l ∉ r.M) (ho : EvV r ta s S (.ref l)) (hv : EvS r te s S fun v S1 => LstR Y ys v S1) (w : Wd r S H) (a : AccS l Y zs S H) (hz : zs.length + ys.length ≤ 100000)
    (k : ∀ S1 H1, Wd r S1 H1 → Stp (r.more [l]) S H S1 H1 → AccS l Y (zs ++ ys) S1 H1 → tz D s H1) : tSeq (tDrop (tBM K "list" rExtend ta (tCons te tNil))) tz D s H := st_extendA (D := { D with nx := tz D }) n ho hv w a hz k
theorem take_flat {ys : List α} {f : α → List β} {i : Nat} {y : α} (h : ys[i]? = some y) : (ys.take (i + 1)).flatMap f = (ys.take i).flatMap f ++ f y := by
  rw [List.take_add_one, h, Option.toList_some, List.flatMap_append, List.flatMap_singleton]
theorem flat_len {ys : List α} {f : α → List β} {m : Nat} (h : ∀ y, y ∈ ys → (f y).length ≤ m) : (ys.flatMap f).length ≤ ys.length * m := by
  induction ys with
  | nil => simp
  | cons y ys ih =>
    rw [List.flatMap_cons, List.length_append, List.length_cons, Nat.succ_mul]
    have := ih fun z hz => h z (List.mem_cons_of_mem _ hz)
    have := h y List.mem_cons_self
    omega
theorem take_len {ys : List α} {f : α → List β} {m i : Nat} (h : ∀ y, y ∈ ys → (f y).length ≤ m) : ((ys.take i).flatMap f).length ≤ ys.length * m :=
  Nat.le_trans (flat_len fun y hy => h y (List.mem_of_mem_take hy)) (Nat.mul_le_mul_right _ (by rw [List.length_take]; omega))
/-- for x in ys: what f tells of each is appended at l; Sh: how the row of names looks -/
theorem st_forA [Mono Y] {wi : TI} {g : TG} {ys : List α} {X : Rl α} (f : α → List β) (m : Nat) (Sh : L2.St → Prop) (hm : ∀ y, y ∈ ys → (f y).length ≤ m) (n : l ∉ r.M) (hi : EvI r wi s S ys X) (w : Wd r S H) (a : AccS l Y zs S H) (hs : Sh s)
    (body : ∀ y v s' S' H' zs', y ∈ ys → X y v S' → Sh s' → Wd r S' H' → Ex S S' → AccS l Y zs' S' H' → zs'.length ≤ zs.length + ys.length * m → ∀ D' : Ends, (∀ s2 S2 H2, Sh s2 → Wd r S2 H2 → Stp (r.more [l]) S' H' S2 H2 → AccS l Y (zs' ++ f y) S2 H2 → D'.nx s2 H2) → g v s' H' fun s1 H1 => tu D' s1 H1)
    (k : ∀ s2 S2 H2, Sh s2 → Wd r S2 H2 → Stp (r.more [l]) S H S2 H2 → AccS l Y (zs ++ ys.flatMap f) S2 H2 → D.nx s2 H2) : tFor wi g tu D s H := by
  refine st_for hi w fun S2 H2 w2 s2 => ⟨fun i s' S' H' => Wd r S' H' ∧ Ex S2 S' ∧ Stp (r.more [l]) S H S' H' ∧ Sh s' ∧ AccS l Y (zs ++ (ys.take i).flatMap f) S' H', ⟨w2, Ex.refl _, s2.more, hs, ?_⟩, fun i s' S' H' p => ⟨p.1, p.2.1⟩, ?_, ?_⟩
  · rw [List.take_zero, List.flatMap_nil, List.append_nil]
    exact a.step n s2
  · rintro i y v s' S' H' S3 H3 hy ⟨w', e', st', hs', a'⟩ w3 s3 hx
    refine body y v s' S3 H3 (zs ++ (ys.take i).flatMap f) (List.mem_of_getElem? hy) hx hs' w3 (s2.ex.trans (e'.trans s3.ex)) (a'.step n s3) (by
      rw [List.length_append]
      have := take_len (i := i) hm
      omega) _ fun s4 S4 H4 hs4 w4 s4' a4 => ⟨S4, w4, e'.trans (s3.ex.trans s4'.ex), st'.trans (s3.more.trans s4'), hs4, ?_⟩
    rw [take_flat hy, ← List.append_assoc]
    exact a4
  · rintro s' S' H' ⟨w', e', st', hs', a'⟩
    rw [List.take_length] at a'
    exact k s' S' H' hs' w' st' a'
theorem sq_forA [Mono Y] {wi : TI} {g : TG} {ys : List α} {X : Rl α} (f : α → List β) (m : Nat) (Sh : L2.St → Prop) (hm : ∀ y, y ∈ ys → (f y).length ≤ m) (n : l ∉ r.M) (hi : EvI r wi s S ys X) (w : Wd r S H) (a : AccS l Y zs S H) (hs : Sh s)
    (body : ∀ y v s' S' H' zs', y ∈ ys → X y v S' → Sh s' → Wd r S' H' → Ex S S' → AccS l Y zs' S' H' → zs'.length ≤ zs.length + ys.length * m → ∀ D' : Ends, (∀ s2 S2 H2, Sh s2 → Wd r S2 H2 → Stp (r.more [l]) S' H' S2 H2 → AccS l Y (zs' ++ f y) S2 H2 → D'.nx s2 H2) → g v s' H' fun s1 H1 => tu D' s1 H1)
    (k : ∀ s2 S2 H2, Sh s2 → Wd r S2 H2 → Stp (r.more [l]) S H S2 H2 → AccS l Y (zs ++ ys.flatMap f) S2 H2 → tz D s2 H2) : tSeq (tFor wi g tu) tz D s H := st_forA (D := { D with nx := tz D }) f m Sh hm n hi w a hs body k
/-- it is done: the list is stable from here on -/
theorem AccS.settle [Mono Y] (n : l ∉ r.M) (a : AccS l Y zs S H) (w : Wd r S H) {S0 H0 : Hp} (h0 : H0 l = none) (st : Stp (r.more [l]) S0 H0 S H) (st0 : Stp r S0 H0 S0 H0) : ∃ S1, Wd r S1 H ∧ Stp r S0 H0 S1 H ∧ LstR Y zs (.ref l) S1 := by
  obtain ⟨vs, h1, h2, h3⟩ := a
  refine ⟨L2.upd S l (.lst vs), w.settle h1 n, (Stp.drop st0 st fun b hb => by rw [List.mem_singleton.mp hb]; exact h0).settle h0 h2, l, vs, rfl, upd_same, h3.up (Ex.new h2)⟩
end
end J

/-! J47: comprehensions of two clauses. -/
namespace J
open PySem PySem.Spec PyProof.Rows L2 Evl RZ
/-- the inner walk of such a one: Pv by the turn and the heap (the list that is made at D within) -/
theorem lc_in {J : It} {n : Nat} {G : Hp → Prop} {Y : Nat → Hp → V → Hp → Prop} (w : Walk J n G Y) {g : TG} {tt : TT} {te : TE} {vs : List Nat} {σ : L2.St} {H0 : Hp} {D : Addr} {Qd : Hp → Prop} (Pv : Nat → Hp → Prop) (h0 : Pv 0 H0) (hG : ∀ i H, i ≤ n → Pv i H → G H)
    (hs : ∀ i x H H', i < n → Pv i H → Y i H x H' → g x (wipe σ vs) H' fun σ2 H2 => wipe σ2 vs = wipe σ vs ∧ tt σ2 H2 fun b H3 =>
      if b = true then te σ2 H3 fun y H4 => ∃ acc, H4 D = some (.lst acc) ∧ acc.length < sizeLine ∧ Pv (i + 1) (upd H4 D (.lst (acc ++ [y]))) else Pv (i + 1) H3) (hd : ∀ H, Pv n H → Qd H) :
    ∃ W : Nat → Nat → Hp → Prop, (∃ m, W 0 m H0) ∧ ∀ i m H, W i m H →
      (J.stop i H ∧ Qd H) ∨ (J.go i H ∧ ∃ Nx : Hp → Prop, (∀ H', Nx H' → ∃ m', m' < m ∧ W (i + 1) m' H') ∧ ∀ x H', J.yld i H x H' → g x (wipe σ vs) H' fun σ2 H2 => wipe σ2 vs = wipe σ vs ∧ tt σ2 H2 fun b H3 =>
        if b = true then te σ2 H3 fun y H4 => ∃ acc, H4 D = some (.lst acc) ∧ acc.length < sizeLine ∧ Nx (upd H4 D (.lst (acc ++ [y]))) else Nx H3) := by
  refine ⟨fun i m H => m = n - i ∧ i ≤ n ∧ Pv i H, ⟨n, by simp, Nat.zero_le _, h0⟩, ?_⟩
  rintro i m H ⟨rfl, hi, p⟩
  have q := hG i H hi p
  by_cases hlt : i < n
  · refine .inr ⟨w.goes i H hlt q, Pv (i + 1), fun H' p' => ⟨n - (i + 1), by omega, rfl, hlt, p'⟩, fun x H' y => hs i x H H' hlt p (w.yields i H x H' hlt q y)⟩
  · have e : i = n := by omega
    subst e
    exact .inl ⟨w.stops H q, hd H p⟩
section
variable {r : Rs} {s : L2.St} {S S' H : Hp} {te : TE} {tt tt1 : TT} {α β γ : Type}
/-- what such a one gives -/
def twoL (ys : List α) (zs : α → List γ) (f : α → Bool) (f1 : α → γ → Bool) (gf : α → γ → β) : List β := (ys.filter f).flatMap fun y => ((zs y).filter (f1 y)).map (gf y)
theorem two_take {ys : List α} {zs : α → List γ} {f : α → Bool} {f1 : α → γ → Bool} {gf : α → γ → β} {i : Nat} {y : α} (h : ys[i]? = some y) : twoL (ys.take (i + 1)) zs f f1 gf = twoL (ys.take i) zs f f1 gf ++ if f y = true then ((zs y).filter (f1 y)).map (gf y) else [] := by
  unfold twoL
  rw [List.take_add_one, h, Option.toList_some, List.filter_append, List.flatMap_append]
  congr 1
  by_cases e : f y = true
  · rw [if_pos e, List.filter_cons, if_pos e, List.filter_nil, List.flatMap_singleton]
  · rw [if_neg e, List.filter_cons, if_neg e, List.filter_nil, List.flatMap_nil]
theorem two_len {ys : List α} {zs : α → List γ} {f : α → Bool} {f1 : α → γ → Bool} {gf : α → γ → β} {m : Nat} (h : ∀ y, y ∈ ys → (zs y).length ≤ m) : (twoL ys zs f f1 gf).length ≤ ys.length * m := by
  refine Nat.le_trans (flat_len (m := m) fun y hy => ?_) (Nat.mul_le_mul_right _ (List.length_filter_le _ _))
  rw [List.length_map]
  exact Nat.le_trans (List.length_filter_le _ _) (h y (List.mem_filter.mp hy).1)
theorem en_lcc {wi wi1 : TI} {g g1 : TG} {vs vs1 : List Nat} {ys : List α} (zs : α → List γ) {X : Rl α} {X1 : Rl γ} (f : α → Bool) (f1 : α → γ → Bool) (gf : α → γ → β) {Yr : Rl β} [Mono Yr] (m : Nat) (hm : ∀ y, y ∈ ys → (zs y).length ≤ m) (hz : ys.length * m ≤ 100000) (hi : EvI r wi s S ys X)
    (hb : ∀ y v S1, Ex S S1 → y ∈ ys → X y v S1 → ∃ s2, wipe s2 vs = wipe s vs ∧ (∀ H k, Ex S1 H → k s2 H → g v (wipe s vs) H k) ∧ EvB r tt s2 S1 (f y) ∧ (f y = true → EvI r wi1 s2 S1 (zs y) X1 ∧
      ∀ z v1 S2, Ex S1 S2 → z ∈ zs y → X1 z v1 S2 → ∃ s3, wipe s3 vs1 = wipe s2 vs1 ∧ (∀ H k, Ex S2 H → k s3 H → g1 v1 (wipe s2 vs1) H k) ∧ EvB r tt1 s3 S2 (f1 y z) ∧ (f1 y z = true → EvS r te s3 S2 fun u S3 => Yr (gf y z) u S3))) :
    EvN r (tLc2 wi g tt wi1 g1 tt1 te vs vs1) s S fun o S1 => ∃ ws, o = .lst ws ∧ All2 Yr S1 (twoL ys zs f f1 gf) ws := fun S1 H a w Q q =>
  hi S1 H a w _ fun J S2 H2 G Y w2 s2 wk hG hY D hD => by
    have hM : D ∉ r.M := w2.notM hD
    have ht : ∀ i, (twoL (ys.take i) zs f f1 gf).length ≤ 100000 := fun i => Nat.le_trans (two_len (m := m) fun y hy => hm y (List.mem_of_mem_take hy)) (Nat.le_trans (Nat.mul_le_mul_right _ (by rw [List.length_take]; omega)) hz)
    have main : ∃ W : Nat → Nat → Hp → Prop, (∃ m, W 0 m (upd H2 D (.lst []))) ∧ ∀ i m H, W i m H →
        (J.stop i H ∧ Q (.ref D) H) ∨ (J.go i H ∧ ∃ Nx : Hp → Prop, (∀ H', Nx H' → ∃ m', m' < m ∧ W (i + 1) m' H') ∧ ∀ x H', J.yld i H x H' → g x (wipe s vs) H' fun σ2 H2 => wipe σ2 vs = wipe s vs ∧ tt σ2 H2 fun b H3 =>
          if b = true then wi1 σ2 H3 fun J1 H4 => ∃ W1 : Nat → Nat → Hp → Prop, (∃ m, W1 0 m H4) ∧ ∀ j k H, W1 j k H →
            (J1.stop j H ∧ Nx H) ∨ (J1.go j H ∧ ∃ Nx1 : Hp → Prop, (∀ H', Nx1 H' → ∃ k', k' < k ∧ W1 (j + 1) k' H') ∧ ∀ x H', J1.yld j H x H' → g1 x (wipe σ2 vs1) H' fun σ3 H5 => wipe σ3 vs1 = wipe σ2 vs1 ∧ tt1 σ3 H5 fun b H6 =>
              if b = true then te σ3 H6 fun y H7 => ∃ acc, H7 D = some (.lst acc) ∧ acc.length < sizeLine ∧ Nx1 (upd H7 D (.lst (acc ++ [y]))) else Nx1 H6)
          else Nx H3) := by
      let Pv : Nat → Hp → Prop := fun i H' => ∃ S' ws, Wd r S' H' ∧ Stp r S2 H2 S' H' ∧ S' D = none ∧ H' D = some (.lst ws) ∧ All2 Yr S' (twoL (ys.take i) zs f f1 gf) ws
      refine ⟨fun i m H => m = ys.length - i ∧ i ≤ ys.length ∧ Pv i H, ⟨ys.length, by simp, Nat.zero_le _, S2, [], w2.new hD, Stp.new hD, w2.fresh hD, upd_same, .nil⟩, ?_⟩
      rintro i mm H' ⟨rfl, hi', p⟩
      obtain ⟨S', ws, w', s', n', l', a'⟩ := p
      have q' := hG S' H' s'.ex w'
      by_cases hlt : i < ys.length
      · refine .inr ⟨wk.goes i H' hlt q', Pv (i + 1), fun H'' p' => ⟨ys.length - (i + 1), by omega, rfl, hlt, p'⟩, fun v H'' y' => ?_⟩
        obtain ⟨S3, y, gy, w3, s3, x3⟩ := hY i S' H' v H'' hlt s'.ex w' (wk.yields i H' v H'' hlt q' y')
        have e3 : Ex S S3 := a.trans (s2.ex.trans (s'.ex.trans s3.ex))
        obtain ⟨sg, hw, hg, hbt, hbe⟩ := hb y v S3 e3 (List.mem_of_getElem? gy) x3
        have l3 : H'' D = some (.lst ws) := s3.kp D _ hM l'
        have n3 : S3 D = none := s3.fr D (ne_none l') n'
        refine hg H'' _ w3.ex ⟨hw, hbt S3 H'' (Ex.refl _) w3 _ fun b S4 H4 w4 s4 eb => ?_⟩
        subst eb
        have l4 : H4 D = some (.lst ws) := s4.kp D _ hM l3
        have n4 : S4 D = none := s4.fr D (ne_none l3) n3
        have s24 : Stp r S2 H2 S4 H4 := s'.trans (s3.trans s4)
        have a4 : All2 Yr S4 (twoL (ys.take i) zs f f1 gf) ws := a'.up (s3.ex.trans s4.ex)
        have et := two_take (zs := zs) (f := f) (f1 := f1) (gf := gf) gy
        cases hf : f y with
        | false =>
          refine iteF ⟨S4, ws, w4, s24, n4, l4, ?_⟩
          rw [et, hf, if_neg (by decide), List.append_nil]
          exact a4
        | true =>
          rw [hf, if_pos rfl] at et
          obtain ⟨hi1, hb1⟩ := hbe hf
          refine iteT (hi1 S4 H4 s4.ex w4 _ fun J1 S5 H5 G1 Y1 w5 s5 wk1 hG1 hY1 => ?_)
          refine lc_in wk1 (fun j Hj => ∃ S' ws, Wd r S' Hj ∧ Ex S5 S' ∧ Stp r S2 H2 S' Hj ∧ S' D = none ∧ Hj D = some (.lst ws) ∧ All2 Yr S' (twoL (ys.take i) zs f f1 gf ++ (((zs y).take j).filter (f1 y)).map (gf y)) ws) ⟨S5, ws, w5, Ex.refl _, s24.trans s5, s5.fr D (ne_none l4) n4, s5.kp D _ hM l4, by
            rw [List.take_zero, List.filter_nil, List.map_nil, List.append_nil]
            exact a4.up s5.ex⟩ (fun j Hj _ ⟨S', ws, w', e', _⟩ => hG1 S' Hj e' w') ?_ ?_
          · rintro j v1 Hj Hj' hltj ⟨Sj, wsj, wj, ej, sj, nj, lj, aj⟩ yj
            obtain ⟨S6, z, gz, w6, s6, x6⟩ := hY1 j Sj Hj v1 Hj' hltj ej wj yj
            obtain ⟨sz, hwz, hgz, hbz, hez⟩ := hb1 z v1 S6 (s4.ex.trans (s5.ex.trans (ej.trans s6.ex))) (List.mem_of_getElem? gz) x6
            have l6 : Hj' D = some (.lst wsj) := s6.kp D _ hM lj
            have n6 : S6 D = none := s6.fr D (ne_none lj) nj
            have ez : (zs y).take (j + 1) = (zs y).take j ++ [z] := by rw [List.take_add_one, gz]; rfl
            refine hgz Hj' _ w6.ex ⟨hwz, hbz S6 Hj' (Ex.refl _) w6 _ fun b S7 H7 w7 s7 eb => ?_⟩
            subst eb
            have l7 : H7 D = some (.lst wsj) := s7.kp D _ hM l6
            have n7 : S7 D = none := s7.fr D (ne_none l6) n6
            have s27 : Stp r S2 H2 S7 H7 := sj.trans (s6.trans s7)
            have a7 := aj.up (s6.ex.trans s7.ex)
            have e57 := ej.trans (s6.ex.trans s7.ex)
            cases hf1 : f1 y z with
            | true =>
              refine iteT (hez hf1 S7 H7 s7.ex w7 _ fun u S8 H8 w8 s8 y8 => ⟨wsj, s8.kp D _ hM l7, ?_, S8, wsj ++ [u], w8.mut (s8.fr D (ne_none l7) n7) hM (nco_lst (s8.kp D _ hM l7)), e57.trans s8.ex, (s27.trans s8).mut hD, s8.fr D (ne_none l7) n7, upd_same, ?_⟩)
              · have h1 := a7.len
                have h2 : (twoL (ys.take i) zs f f1 gf).length ≤ i * m := by
                  refine Nat.le_trans (two_len (m := m) fun y hy => hm y (List.mem_of_mem_take hy)) (Nat.mul_le_mul_right _ ?_)
                  rw [List.length_take]
                  omega
                have h3 := List.length_filter_le (f1 y) ((zs y).take j)
                rw [List.length_append, List.length_map] at h1
                rw [List.length_take] at h3
                have h4 := hm y (List.mem_of_getElem? gy)
                have h5 : (i + 1) * m ≤ ys.length * m := Nat.mul_le_mul_right _ hlt
                rw [Nat.succ_mul] at h5
                exact sz_lt (by omega)
              · rw [ez, List.filter_append, List.map_append, List.filter_cons, if_pos hf1, ← List.append_assoc]
                exact (a7.up s8.ex).append (.cons y8 .nil)
            | false =>
              refine iteF ⟨S7, wsj, w7, e57, s27, n7, l7, ?_⟩
              rw [ez, List.filter_append, List.map_append, List.filter_cons, if_neg (by rw [hf1]; decide), ← List.append_assoc]
              show All2 Yr S7 (_ ++ []) wsj
              rw [List.append_nil]
              exact a7
          · rintro Hj ⟨Sj, wsj, wj, ej, sj, nj, lj, aj⟩
            rw [List.take_length, ← et] at aj
            exact ⟨Sj, wsj, wj, sj, nj, lj, aj⟩
      · have e : i = ys.length := by omega
        subst e
        rw [List.take_length] at a'
        have h1 : H D = none := by
          cases e : H D with
          | none => rfl
          | some ob => exact absurd hD (s2.dm D (ne_none e))
        exact .inl ⟨wk.stops H' q', q D _ S' H' h1 l' n' w' (s2.trans s') ⟨ws, rfl, a'⟩⟩
    exact main
end
end J

/-! J48: a def that hands the lambda that it got on to another one; sorted ints, any number of them. -/
namespace J
open PySem PySem.Spec PyProof.Rows L2 Evl LamX
/-! ### heaps behind two calls -/
theorem un_two {fs fs' : List Addr} {H H1 H2 : Hp} {h h1 h2 : Heap} (a : Un fs [] H H1 h h1) (b : Un fs' [] H1 H2 h1 h2) (k : ∀ x o, h.get? x = some o → x ∈ fs' → x ∈ fs) : Un fs [] H H2 h h2 where
  keep := fun c ob q n hc hx => b.keep c ob (a.keep c ob q n hc hx) (a.free c ob q n hx) (fun z => hc (k c ob q z)) hx
  slot := fun c ob q n hc hx => by
    obtain ⟨sl, e1⟩ := a.slot c ob q n hc hx
    obtain ⟨sl', e2⟩ := b.any e1 (a.free c ob q n hx) hx
    exact ⟨sl', e2⟩
  free := fun c ob q n hx => by
    obtain ⟨o', e1⟩ := a.there c ob q hx
    exact b.free c o' e1 (a.free c ob q n hx) hx
  there := fun c ob q hx => by
    obtain ⟨o', e1⟩ := a.there c ob q hx
    exact b.there c o' e1 hx
  tups := fun c xs q => b.tups c xs (a.tups c xs q)
  frzs := fun c ob xs q => b.frzs c ob xs (a.frzs c ob xs q)
  tbls := fun c ps q => by
    obtain ⟨m1, e1⟩ := a.tbls c ps q
    obtain ⟨m2, e2⟩ := b.tbls c _ e1
    exact ⟨m1 ++ m2, by rw [e2, Array.append_assoc]⟩
/-- the def g gets the lambda as its only argument, and may hand it on: TT, of the lambda's reading -/
def GivesK (X : Cx) (k : Nat) (N : List Str) (x : Str) (sg : Scope) (g : Addr) (cdg : Value) (bg : List Stmt) (q : Str) (TT : (XK → Hp → VK → Prop) → Hp → VK → Prop) : Prop :=
  ∀ (f c : Addr) (s : Shared) (H : Hp) (Q : VK) (tl : XK → Hp → VK → Prop), Room (k + 2) (X.A.deeper (envOfC x sg s.heap.objs.size g cdg)) →
    (∀ (pins1 : List (Addr × Obj)) (σ1 : L2.St) (H1 : Hp) (s1 : Shared), Inv (cxG X N x sg g cdg s H).nox pins1 σ1 H1 s1 → ∀ (N2 : List Str) (x2 a2 : Str) (sg2 : Scope) (g2 : Addr) (cdg2 : Value), N2[0]? = some a2 → Vis sg2 a2 → (a2 == ("__debug__" : Str)) = false → (a2 == ("__classdict__" : Str)) = false →
      Room (k + 1) ((cxG X N x sg g cdg s H).nox.A.deeper (envOfC x2 sg2 s1.heap.objs.size g2 cdg2)) →
      ∀ (W : WX) (pn : List (Addr × Obj)) (xe : Value → Shared → Prop) (E : XK) (p1 p2 : Pos), L2N.Takes ((cxG (cxG X N x sg g cdg s H).nox N2 x2 sg2 g2 cdg2 s1 H1).tr pn xe) W → (∀ cls d σ' H', E cls d H' → W cls d σ' H') →
        PE ((cxG (cxG X N x sg g cdg s H).nox N2 x2 sg2 g2 cdg2 s1 H1).tr pn xe) (.Call (.Name a2 p1) [] [] p2) (fun σ2 H2 Q2 => σ2[0]? = some (some (.ref f)) ∧ H2 c = some (CodeO c q) ∧ tl E H2 Q2)) →
    H c = some (CodeO c q) → TT tl H Q → ∃ t, PSs (cxG X N x sg g cdg s H).nox bg t ∧ t { nx := fun _ H' => Q .non H', rt := Q } (L2.start N [.ref f]) H
section
variable {X : Cx} {pins : List (Addr × Obj)} {σ : L2.St} {H : Hp} {s : Shared}
/-- the lambda called in the second def -/
theorem pe_actK {N1 N : List Str} {q1 qg a : Str} {sg1 sg : Scope} {g1 g f c : Addr} {cd1 cdg pm ctv : Value} {params : Arguments} {body : Expr} {sc : Scope} {k : Nat} {pins1 pn : List (Addr × Obj)} {σ1 : L2.St} {H1 : Hp} {s1 : Shared} {xe : Value → Shared → Prop} {W : WX} {E : XK} {tb : TE} {p1 p2 : Pos}
    (I : Inv X pins σ H s) (L : LamS X.env.scope sc) (hf : s.heap.get? f = some (PySem.W.kla_obj "<lambda>" (X.env.qual ++ "<lambda>") params body sc (cloFrom X.env.cells sc.names []) pm c ctv)) (nf : H f = none) (ns : f ∉ frs X.stack)
    (hbind : bindArgs (PySem.W.kla_fn "<lambda>" (X.env.qual ++ "<lambda>") params body sc (cloFrom X.env.cells sc.names []) pm (.ref c) ctv) ⟨[], []⟩ = pure [])
    (I1 : Inv (cxG X N1 q1 sg1 g1 cd1 s H).nox pins1 σ1 H1 s1)
    (tk : L2N.Takes ((cxG (cxG X N1 q1 sg1 g1 cd1 s H).nox N qg sg g cdg s1 H1).tr pn xe) W) (hW : ∀ cls d σ' H', E cls d H' → W cls d σ' H') (hr : Room (k + 1) ((cxG X N1 q1 sg1 g1 cd1 s H).nox.A.deeper (envOfC qg sg s1.heap.objs.size g cdg)))
    (hbody : ∀ (A : Around) (outer : List Env) (s : Shared) (H : Hp), Room k (A.deeper (lamEnv X sc s.heap.objs.size f c)) → PE (lamN X A outer s H E sc f c) body tb)
    (hN : N[0]? = some a) (hv : Vis sg a) (hd : (a == ("__debug__" : Str)) = false) (hcd : (a == ("__classdict__" : Str)) = false) :
    PE ((cxG (cxG X N1 q1 sg1 g1 cd1 s H).nox N qg sg g cdg s1 H1).tr pn xe) (.Call (.Name a p1) [] [] p2) (fun σ2 H2 Q => σ2[0]? = some (some (.ref f)) ∧ H2 c = some (CodeO c (X.env.qual ++ "<lambda>")) ∧ tb σ H2 Q) := by
  have un1 : Un (frs X.stack) [] H H1 s.heap s1.heap := I1.base
  have of1 := un1.keep f _ hf nf ns (fun z => nomatch (show f ∈ ([] : List Addr) from z))
  have nf1 : H1 f = none := un1.free f _ hf nf (fun z => nomatch (show f ∈ ([] : List Addr) from z))
  have hfs : ∀ x o, s.heap.get? x = some o → x ∈ frs (cxG X N1 q1 sg1 g1 cd1 s H).nox.stack → x ∈ frs X.stack := fun x o e z => by
    have z' : x ∈ frs (envOfC q1 sg1 s.heap.objs.size g1 cd1 :: X.stack) := z
    unfold frs at z' ⊢
    rw [List.filterMap_cons] at z'
    split at z'
    · exact z'
    · rename_i b hb
      rcases List.mem_cons.mp z' with rfl | z'
      · have : (envOfC q1 sg1 s.heap.objs.size g1 cd1).frame = some s.heap.objs.size := rfl
        rw [this] at hb
        cases hb
        exact absurd (Heap.lt_size e) (Nat.lt_irrefl _)
      · exact z'
  have ns1 : f ∉ frs (cxG X N1 q1 sg1 g1 cd1 s H).nox.stack := fun z => ns (hfs f _ hf z)
  refine ⟨fun pinsZ s2 σ2 H2 Q I2 ⟨e1, e2, ht⟩ => ?_⟩
  refine wpAny_Call_Name_kw (thn ((pe_var (pos := p1) (i := 0) hN hv hd hcd).run pinsZ s2 σ2 H2 (fun v H3 => v = .ref f ∧ H3 = H2) I2 ⟨.ref f, e1, rfl, rfl⟩) fun u s3 ⟨v, H3, I3, rv, ev, eH⟩ => ?_)
  subst ev
  subst eH
  obtain rfl : u = Value.ref f := rv
  have of2 := I3.base.keep f _ of1 nf1 ns1 (fun z => nomatch (show f ∈ ([] : List Addr) from z))
  have un2 : Un (frs (cxG X N1 q1 sg1 g1 cd1 s H).nox.stack) [] H1 H3 s1.heap s3.heap := I3.base
  have un : Un (frs X.stack) [] H H3 s.heap s3.heap := un_two un1 un2 hfs
  have e0 : Env0 X.prog X.w X.K X.mg X.base ((cxG X N1 q1 sg1 g1 cd1 s H).nox.A.deeper (envOfC qg sg s1.heap.objs.size g cdg)) (envOfC qg sg s1.heap.objs.size g cdg :: (cxG X N1 q1 sg1 g1 cd1 s H).nox.stack) s3 H3 := I3.env0
  have rc : codeAny (model X.prog X.w) ((cxG X N1 q1 sg1 g1 cd1 s H).nox.A.deeper (envOfC qg sg s1.heap.objs.size g cdg)) (.call (.ref f) ⟨[], []⟩) (CR (L2N.CX X.prog X.w) (envOfC qg sg s1.heap.objs.size g cdg :: (cxG X N1 q1 sg1 g1 cd1 s H).nox.stack) X.prog X.w H3 s3 Q E) s3 :=
    lamN_go (X := X) (tb := tb) I L e0 un I3.nolimit of2 e2 hbind hr (hbody _ _ s3 H3) ht
  refine PySem.W.callWith_F0 ⟨_, _, _, _, of2⟩ (wpAny_call (codeAny_mono rc fun res s4 hq => ?_))
  match res, hq with
  | .error e, z => exact L2N.passes_call tk hW pinsZ σ2 H3 s3 e s4 I3 z
  | .ok (.ret _), z => exact I3.after z
  | .ok .next, z => exact z.elim
  | .ok .brk, z => exact z.elim
  | .ok .cont, z => exact z.elim
/-- x(lambda: body), x hands it on -/
theorem pe_lamK {T : List (Addr × Str)} {TT : (XK → Hp → VK → Prop) → Hp → VK → Prop} {x a : Str} {g c P : Addr} {k : Nat} {st : Stmt} {fd : FuncData} {N : List Str} {params : Arguments} {body : Expr} {sc : Scope} {t : XK → TE} {p lpos pos : Pos}
    (F : Fun X.K x x st g fd) (hb : L2.Binds X.K fd [a] []) (Sg : FnScope N [a] (defScope st)) (hG : ∀ cdg, GivesK X k N x (defScope st) g cdg (defBody st) (X.env.qual ++ "<lambda>") TT) (hr : Room (k + 3) X.A) (hg : Gl X x) (hm : X.mg x = some (.ref g))
    (TB : TabB X.base X.mg c P) (hcode : X.env.code = .ref c) (hT : (P, X.env.qual ++ "<lambda>") ∈ T) (hu : ∀ y ∈ T, y.1 = P → y.2 = X.env.qual ++ "<lambda>") (L : LamS X.env.scope sc)
    (hbody : ∀ (A : Around) (outer : List Env) (s : Shared) (H : Hp) (E : XK) (f c' : Addr), Room k (A.deeper (lamEnv X sc s.heap.objs.size f c')) → PE (lamN X A outer s H E sc f c') body (t E))
    (hbind : ∀ (q : Str) (cl : List (Str × Addr)) (pm cv ctv : Value), bindArgs (PySem.W.kla_fn "<lambda>" q params body sc cl pm cv ctv) ⟨[], []⟩ = pure [] := by exact fun _ _ _ _ _ => rfl) (hdef : defaultsOf params X.env = ([], []) := by rfl)
    (hdb : (x == ("__debug__" : Str)) = false := by decide) :
    PE X (.Call (.Name x p) [.Lambda params body sc lpos] [] pos) (tLm P T TT t) := by
  have kp := F.kp
  obtain ⟨oc, od, kV, doc, pm0, an, cdv, ct, osl, e, lk, hcg⟩ := F.ex
  subst e
  refine ⟨fun pins s σ H Q I ⟨hTs, h⟩ => wpAny_Call_Name_kw (ld_glob I hg hm ?_ hdb)⟩
  refine PySem.W.callWith_K (h₀ := X.base) I.ok.mod.kin kp ?_ (by rfl) (by rfl)
  show wpAny _ _ (spliced ((false, eval (.Lambda params body sc lpos) X.env) :: backTo pos (starEach [] X.env))) _ _ s
  refine Calls.spliced_cons (lam_mk I TB hcode hT hu hTs hdef (L.has I.ok) fun f c' pm ctv H1 s1 I1 eN T1 hf nf ns hco => Calls.spliced_nil ⟨I1.kIn, ?_⟩)
  have run : codeAny (model X.prog X.w) X.A (.call (.ref g) ⟨[.ref f], []⟩) (CR CX0 X.stack X.prog X.w H1 s1 Q E0) s1 :=
    run_ofS (N := N) (ps := [a]) (us := [.ref f]) (vs := [.ref f]) lk hcg Sg hr I1.env0 (hb s1 [.ref f] I1.kIn rfl) (.cons rfl .nil) rfl fun hr1 => by
      obtain ⟨t', ht', hq'⟩ := hG cdv f c' s1 H1 Q (fun E H' Q' => t E σ H' Q') hr1 (fun pins1 σ1 H2 s2 I2 N2 x2 a2 sg2 g2 cdg2 b1 b2 b3 b4 hr2 W pn xe E p1 p2 tk hW => pe_actK (a := a2) I1 L hf nf ns (hbind _ _ _ _ _) I2 tk hW hr2 (fun A outer s H hr3 => hbody A outer s H E f c' hr3) b1 b2 b3 b4) hco (h H1 eN T1)
      exact ⟨t', ht'.nox, hq'⟩
  refine wpAny_call (codeAny_mono run fun res s2 hq => ?_)
  match res, hq with
  | .error _, z => exact z.elim
  | .ok (.ret _), z => exact I1.after z
  | .ok .next, z => exact z.elim
  | .ok .brk, z => exact z.elim
  | .ok .cont, z => exact z.elim
end
section
variable {Y : Cx}
/-- x(e), e the lambda f, which x calls -/
theorem pe_passK {TT : (XK → Hp → VK → Prop) → Hp → VK → Prop} {tl : XK → Hp → VK → Prop} {x a q : Str} {g f c : Addr} {k : Nat} {st : Stmt} {fd : FuncData} {N : List Str} {e : Expr} {p pos : Pos}
    (F : Fun Y.K x x st g fd) (hb : L2.Binds Y.K fd [a] []) (Sg : FnScope N [a] (defScope st)) (hG : ∀ cdg, Gives Y (k + 1) N x a (defScope st) g cdg (defBody st) q TT) (hr : Room (k + 2) Y.A) (hg : Gl Y x) (hm : Y.mg x = some (.ref g)) (ha : PA Y [e] (tCons (tVar 0) tNil))
    (act : ∀ (pins1 : List (Addr × Obj)) (σ1 : L2.St) (H1 : Hp) (s1 : Shared), Inv Y pins1 σ1 H1 s1 → ∀ (cdg : Value), Room (k + 1) (Y.A.deeper (envOfC x (defScope st) s1.heap.objs.size g cdg)) →
      ∀ (W : WX) (pn : List (Addr × Obj)) (xe : Value → Shared → Prop) (E : XK) (p1 p2 : Pos), L2N.Takes ((cxG Y N x (defScope st) g cdg s1 H1).tr pn xe) W → (∀ cls d σ' H', E cls d H' → W cls d σ' H') →
        PE ((cxG Y N x (defScope st) g cdg s1 H1).tr pn xe) (.Call (.Name a p1) [] [] p2) (fun σ2 H2 Q2 => σ2[0]? = some (some (.ref f)) ∧ H2 c = some (CodeO c q) ∧ tl E H2 Q2))
    (e1 : starEach [e] Y.env = (false, eval e Y.env) :: starEach [] Y.env := by rfl) (e2 : (backTo pos (starEach [] Y.env)).any (·.1) = false := by rfl) (hdb : (x == ("__debug__" : Str)) = false := by decide) :
    PE Y (.Call (.Name x p) [e] [] pos) (fun σ H Q => σ[0]? = some (some (.ref f)) ∧ H c = some (CodeO c q) ∧ TT tl H Q) := by
  have kp := F.kp
  obtain ⟨oc, od, kV, doc, pm0, an, cdv, ct, osl, eq, lk, hcg⟩ := F.ex
  subst eq
  refine ⟨fun pins s σ H Q I ⟨h0, hc, h⟩ => wpAny_Call_Name_kw (ld_glob I hg hm ?_ hdb)⟩
  refine PySem.W.callWith_K (h₀ := Y.base) I.ok.mod.kin kp (thn (ha.run pos pins s σ H (fun vs H' => vs = [V.ref f] ∧ H' = H) I ⟨.ref f, h0, rfl, rfl⟩) fun us s1 ⟨vs, H1, I1, r, ev, eH⟩ => ⟨I1.kIn, ?_⟩) e1 e2
  subst ev
  subst eH
  obtain ⟨u, rfl, ru⟩ := r.one
  obtain rfl : u = Value.ref f := ru
  have run : codeAny (model Y.prog Y.w) Y.A (.call (.ref g) ⟨[.ref f], []⟩) (CR CX0 Y.stack Y.prog Y.w H1 s1 Q E0) s1 :=
    run_ofS (N := N) (ps := [a]) (us := [.ref f]) (vs := [.ref f]) lk hcg Sg hr I1.env0 (hb s1 [.ref f] I1.kIn rfl) (.cons rfl .nil) rfl fun hr1 => by
      obtain ⟨t', ht', hq'⟩ := hG cdv f c s1 H1 Q tl hr1 (fun W pn xe E p1 p2 tk hW => act pins σ H1 s1 I1 cdv hr1 W pn xe E p1 p2 tk hW) hc h
      exact ⟨t', ht'.nox, hq'⟩
  refine wpAny_call (codeAny_mono run fun res s2 hq => ?_)
  match res, hq with
  | .error _, z => exact z.elim
  | .ok (.ret _), z => exact I1.after z
  | .ok .next, z => exact z.elim
  | .ok .brk, z => exact z.elim
  | .ok .cont, z => exact z.elim
end
/-- found = g(call): 'none' if found is None else found[0] -/
def kRest (K : PySem.W.Frag) (f : Addr) (Q : VK) (v : V) (H : Hp) : Prop := (tRet (tIf (tTest (tOp rIsU (tVar 1) (tC .non))) (tC (.str ("none" : Str))) (tOp (rIx K) (tVar 1) (tC (.int 0))))) { nx := fun _ H' => Q .non H', rt := Q } [some (.ref f), some v] H
def TTk (K : PySem.W.Frag) (kd : Addr → Str → Prop) : (XK → Hp → VK → Prop) → Hp → VK → Prop := fun tl H Q => ∀ f : Addr, TTw K kd tl H (kRest K f Q)
section
variable {K : PySem.W.Frag} {r : Rs} {T : List (Addr × Str)} {S : Hp} {s : L2.St} {R : V → Hp → Prop} {kd : Addr → Str → Prop} {P : Addr} {q : Str} {t : XK → TE}
theorem ev_kindE [Rs.Plain r] {C : Addr} {z : Str} {D : PyData} (hP : (P, q) ∈ T) (h : ∀ E, EvX E C "value" (r.tabs T) (t E) s S R) (hC : kd C z) (hd : ∀ v S1, Ex S S1 → R v S1 → DE K S1 v D) (hs : Shw D) : EvV (r.tabs T) (tLm P T (TTk K kd) t) s S (.str z) :=
  ev_lam hP fun S1 H1 e w Q q f => h _ S1 H1 e w (fun d v S2 H2 w2 s2 hv hd2 => ⟨C, d, v, D, z, S2, rfl, rfl, hC, w2.ex, hd2, hd v S2 (e.trans s2.ex) hv, hs, fun u S3 H3 w3 s3 ⟨l, ws, eu, hl, hws⟩ => by
    subst eu
    have e3 := hws.strs
    subst e3
    have w3' : Wd (r.tabs T) S3 H3 := w2.lift w3 s3
    refine st_ret (R := fun v _ => v = .str z) (ev_if (b := false) (tb_test ((vv_op (vv_var rfl) vv_c rs_isN').is rfl)) (fun c => nomatch c) fun _ => vv_op (vv_var rfl) vv_c (rs_ixL' (SqL.of hl) (atI_nat (j := 0) rfl))) w3' fun v S4 H4 w4 s4 ev => q v S4 H4 w4 ((s2.trans s3.lift).trans s4) ev⟩) _
theorem ev_kind [Rs.Plain r] {C : Addr} {z : Str} {D : PyData} (hP : (P, q) ∈ T) (h : ∀ E, EvX E C "value" (r.tabs T) (t E) s S R) (hC : kd C z) (hd : ∀ v S1, Ex S S1 → R v S1 → Dp K S1 v D) (hs : Shw D) : EvV (r.tabs T) (tLm P T (TTk K kd) t) s S (.str z) :=
  ev_kindE hP h hC (fun v S1 e p => .inl (hd v S1 e p)) hs
end
instance {p c : Addr} : Rs.Plain (poolR p c) := by
  refine ⟨fun H h a ha => ?_, fun H h a ha ps z => ?_⟩ <;> obtain ⟨cs, pos, cnt, seed, k, h⟩ := h <;> have ha : a ∈ [p, c] := ha <;> rcases List.mem_cons.mp ha with rfl | ha
  · exact nco_lst h.hp
  · rw [List.mem_singleton.mp ha]
    exact nco_lst h.hc
  · rw [h.hp] at z
    cases z
  · rw [List.mem_singleton.mp ha, h.hc] at z
    cases z
/-- the pool beside the tables -/
theorem Wd.beginP {T : List (Addr × Str)} {p c : Addr} {S1 H1 H : Hp} (t : ∀ y ∈ T, H y.1 = some (.tbl #[])) (w : Wd (poolR p c) S1 H1) (s : Stp Rs.nil (offT T H) H S1 H1) : Wd ((poolR p c).tabs T) S1 H1 := by
  have kp : ∀ b o, H b = some o → H1 b = some o := fun b o e => s.kp b o (fun z => by cases z) e
  refine ⟨w.ex, ⟨w.inv, (tabs_nil t).ext kp⟩, fun b hb => ?_⟩
  rcases List.mem_append.mp hb with hb | hb
  · obtain ⟨y, hy, rfl⟩ := List.mem_map.mp hb
    exact s.fr _ (ne_none (t y hy)) (if_pos hb)
  · exact w.dj b hb
/-- a callee that raises nothing of what is told -/
theorem passF {P : Program} {w : World} {X : Cx} : Passes (L2N.CX P w) X E0 := fun _ _ _ _ _ _ _ ⟨_, _, _, _, _, _, _, _, _, _, _, _, h⟩ => h.elim
/-! ### sorted -/
def rSortedV (K : PySem.W.Frag) : List V → Hp → VK → Prop := fun xs H Q => rSortedU K xs H Q ∨ rSortedI K xs H Q
theorem call_sortedVK {X : Cx} {K : PySem.W.Frag} (hK : X.K = K := by rfl) : CallR X (.builtin "sorted") (rSortedV K) := by
  subst hK
  exact CallR.or call_sortedU cr_sortedI
theorem en_sortedV {K : PySem.W.Frag} {r : Rs} {s : L2.St} {S : Hp} {ta : TE} {ns : List Int} (h : EvS r ta s S fun v S1 => LstR IntR ns v S1) : EvN r (tCB (rSortedV K) (tCons ta tNil)) s S fun o S1 => ∃ ms : List Int, o = .lst (ms.map V.int) ∧ ms.Perm ns ∧ ms.Pairwise (· ≤ ·) :=
  en_cb (ea_one h) fun vs S1 e ⟨v, ev, a, ws, ea, h1, h2⟩ H eH Q q => by
    subst ev
    subst ea
    have e2 := h2.ints
    subst e2
    exact .inr ⟨a, ns, rfl, SqL.of (eH _ _ h1), fun ns' p hp hs hn => q p _ hn ⟨ns', rfl, hp, hs⟩⟩
end J

/-! J49: a call of a def that a name holds. -/
namespace J
open PySem PySem.Spec PyProof.Rows L2 Evl RZ
/-- the name at slot i holds the def f -/
def tCallV (i : Nat) (f : Addr) (te : TE) : TE := fun σ H Q => σ[i]? = some (some (.ref f)) ∧ te σ H Q
section
variable {X : Cx} {CX : CXT} {k i : Nat} {f : Addr} {fd : FuncData} {ps : List Str} {sp : Sp} {E : XK} {y : Str} {e : Expr} {es : List Expr} {t : TA} {p pos : Pos}
theorem pe_callV (hv : PE X (.Name y p) (tVar i)) (F : FnOk X.prog X.w X.K X.mg X.base CX k f fd ps sp) (hr : Room k X.A) (kp : PySem.W.keepIn X.K (.ref f) = true) (hb : Binds X.K fd ps []) (hx : Passes CX X E) (ha : PA X (e :: es) t)
    (e1 : starEach (e :: es) X.env = (false, eval e X.env) :: starEach es X.env := by rfl) (e2 : (backTo pos (starEach es X.env)).any (·.1) = false := by rfl) : PE X (.Call (.Name y p) (e :: es) [] pos) (tCallV i f (tCall sp [] E t)) := by
  refine ⟨fun pins s σ H Q I ⟨h0, h⟩ => ?_⟩
  refine wpAny_Call_Name_kw (thn (hv.run pins s σ H (fun v H1 => v = .ref f ∧ H1 = H) I ⟨.ref f, h0, rfl, rfl⟩) fun u s1 ⟨v, H1, I1, rv, ev, eH⟩ => ?_)
  subst ev
  subst eH
  obtain rfl : u = Value.ref f := rv
  exact PySem.W.callWith_K (h₀ := X.base) I1.ok.mod.kin kp (thn (ha.run pos pins s1 σ H1 _ I1 h) fun us s2 ⟨vs, H2, I2, r, q⟩ => ⟨I2.kIn, run_fn F hr hb .nil hx I2 r q⟩) e1 e2
end
section
variable {r : Rs} {s : L2.St} {S : Hp} {te : TE} {R : V → Hp → Prop} {E : XK} {C f : Addr} {fld : Str} {i : Nat}
theorem ev_callV (h : s[i]? = some (some (.ref f))) (k : EvS r te s S R) : EvS r (tCallV i f te) s S R := fun S1 H e w Q q => ⟨h, k S1 H e w Q q⟩
theorem ex_callV (h : s[i]? = some (some (.ref f))) (k : EvX E C fld r te s S R) : EvX E C fld r (tCallV i f te) s S R := fun S1 H e w kk Q => ⟨h, k S1 H e w kk Q⟩
end
end J

/-! J50: the last pair of a list of pairs is changed, or a new one appended. -/
namespace J
open PySem PySem.Spec PyProof.Rows L2 Evl RZ
section
variable {r : Rs} {s : L2.St} {S S' H : Hp} {ta tb te ti t1 t2 t3 : TE} {tt : TT} {v : V} {K : PySem.W.Frag} {D : Ends} {l : Addr} {c : HO} {tu tz : TS}
/-- l[i] = e, e reckoned with l's own items: a new object that is known -/
theorem st_setN {xs : List V} {i : Int} {j : Nat} (n : l ∉ r.M) (hv : EvN r te s (upd S l (.lst xs)) fun ob _ => ob = c) (ho : ∀ S1, EvV r ta s S1 (.ref l)) (hi : ∀ S1, EvV r ti s S1 (.int i)) (w : Wd r S H) (hl : H l = some (.lst xs)) (sl : S l = none) (hj : ixN xs.length i = some j)
    (k : ∀ p S1 H1, Wd r S1 H1 → Stp (r.more [l]) S H S1 H1 → S1 l = none → H1 l = some (.lst (xs.set j (.ref p))) → S1 p = some c → D.nx s H1) : tAsg te (gSub ta ti rSetL) D s H :=
  borrowN hv w hl n sl fun p S1 H1 p0 p1 p2 w1 s1 n1 => by
    have np : p ∉ r.M := w.notM p0
    have hl1 := s1.kp l _ n hl
    have nlp : l ≠ p := fun e => by
      rw [e, p0] at hl
      cases hl
    have w1' : Wd r (upd S1 p c) H1 := w1.settle p1 np
    have s1' : Stp r S H (upd S1 p c) H1 := s1.settle p0 p2
    have n1' : (upd S1 p c) l = none := by
      rw [upd_ne nlp]
      exact n1
    refine ho _ _ H1 (Ex.refl _) w1' _ fun u S2 H2 w2 s2 eu => hi S2 S2 H2 (Ex.refl _) w2 _ fun u' S3 H3 w3 s3 eu' => ?_
    subst eu
    subst eu'
    have s23 := s2.trans s3
    have s13 := s1'.trans s23
    have hl3 : H3 l = some (.lst xs) := s13.kp l _ n hl
    have n3 : S3 l = none := s23.fr l (ne_none hl1) n1'
    refine ⟨l, xs, i, j, rfl, rfl, hl3, hj, ?_⟩
    exact k p S3 _ (w3.mut n3 n (nco_lst hl3)) (s13.more.trans (Stp.upd1 (s13.dm l (ne_none hl)))) n3 upd_same (s23.ex _ _ upd_same)
/-- the last one changed by g if c holds of it, else y added -/
def lastG {α : Type} (c : α → Bool) (g : α → α) (y : α) (zs : List α) : List α :=
  match zs.getLast? with
  | some p => if c p then zs.set (zs.length - 1) (g p) else zs ++ [y]
  | none => zs ++ [y]
theorem lastG_nil {α : Type} {c : α → Bool} {g : α → α} {y : α} : lastG c g y [] = [y] := rfl
theorem lastG_snoc {α : Type} {c : α → Bool} {g : α → α} {y p : α} {zs : List α} : lastG c g y (zs ++ [p]) = if c p then zs ++ [g p] else zs ++ [p, y] := by
  unfold lastG
  rw [List.getLast?_concat]
  dsimp only
  rw [List.length_append, List.length_singleton, Nat.add_sub_cancel, List.set_append_right _ _ (Nat.le_refl _), Nat.sub_self, List.append_assoc]
  rfl
theorem atI_neg1J {xs : List V} {L : Nat} {v : V} (hl : xs.length = L + 1) (h : xs[L]? = some v) : atI xs (-1) = some v := by
  unfold atI ixN
  rw [if_neg (by decide), if_pos (by omega)]
  show xs[((-1 : Int) + (xs.length : Int)).toNat]? = _
  rw [show ((-1 : Int) + (xs.length : Int)).toNat = L by omega]
  exact h
theorem ixN_neg1 {L : Nat} : ixN (L + 1) (-1) = some L := by
  unfold ixN
  rw [if_neg (by decide), if_pos (by omega)]
  congr 1
  omega
theorem st_last {i : Nat} {zs : List (Int × Int)} (cc : Int × Int → Bool) {y1 y2 a2 : Int} (n : l ∉ r.M) (hs : s[i]? = some (some (.ref l))) (w : Wd r S H) (a : AccS l (PairR K IntR IntR) zs S H) (hz : zs.length < 100000)
    (ht : ∀ p S1, EvV r (tOp (rIx K) (tOp (rIx K) (tVar i) (tUn (rU fun i => .int (-i)) (tC (.int 1)))) (tC (.int 1))) s S1 (.int p.2) → EvB r tt s S1 (cc p))
    (h1 : ∀ S1, EvV r t1 s S1 (.int y1)) (h2 : ∀ S1, EvV r t2 s S1 (.int y2)) (h3 : ∀ S1, EvV r t3 s S1 (.int a2))
    (k : ∀ S1 H1, Wd r S1 H1 → Stp (r.more [l]) S H S1 H1 → AccS l (PairR K IntR IntR) (lastG cc (fun p => (p.1, a2)) (y1, y2) zs) S1 H1 → D.nx s H1) :
    tIfS (tAnd (tTest (tOp (rNeU K) (tVar i) (tLst tNil))) tt) (tAsg (tTup (tCons (tOp (rIx K) (tOp (rIx K) (tVar i) (tUn (rU fun i => .int (-i)) (tC (.int 1)))) (tC (.int 0))) (tCons t3 tNil))) (gSub (tVar i) (tUn (rU fun i => .int (-i)) (tC (.int 1))) rSetL)) (tDrop (tBM K "list" rAppend (tVar i) (tCons (tTup (tCons t1 (tCons t2 tNil))) tNil))) D s H := by
  have hn : ∀ {S1 : Hp} {vs : List V}, S1 l = some (.lst vs) → All2 (PairR K IntR IntR) S1 zs vs → EvB r (tTest (tOp (rNeU K) (tVar i) (tLst tNil))) s S1 (!decide (zs = [])) := fun h a => tb_test (vv_neD (R := LstR (PairR K IntR IntR)) ((vv_var hs).imp fun v S e ev => ⟨l, _, ev, e _ _ h, a.up e⟩) fun S1 _ => ev_nilL)
  have app : ∀ S1 H1, Wd r S1 H1 → Stp r S H S1 H1 → lastG cc (fun p => (p.1, a2)) (y1, y2) zs = zs ++ [(y1, y2)] → AccS l (PairR K IntR IntR) zs S1 H1 → tDrop (tBM K "list" rAppend (tVar i) (tCons (tTup (tCons t1 (tCons t2 tNil))) tNil)) D s H1 := fun S1 H1 w1 s1 e a1 =>
    st_appendA (Y := PairR K IntR IntR) (y := (y1, y2)) n (vv_var hs) (ev_pair (K := K) (R := IntR) (R' := IntR) (h1 _) fun S2 e => h2 _) w1 a1 hz fun S2 H2 w2 s2 a2 => k S2 H2 w2 (s1.more.trans s2) (by
      rw [e]
      exact a2)
  obtain ⟨vs, hl, sl, av⟩ := a
  have av' := av.up (Ex.new (o := .lst vs) sl)
  rcases List.eq_nil_or_concat zs with rfl | ⟨ys, p, rfl⟩
  · refine st_ifB (b := false) (EvB.is (tb_and (a := false) (b := false) ((hn upd_same av').is (by rfl)) fun z => nomatch z) rfl) w hl n sl (fun z => nomatch z) fun _ S1 H1 w1 s1 n1 => ?_
    exact app S1 H1 w1 s1 rfl ⟨vs, s1.kp l _ n hl, n1, av.up s1.ex⟩
  · rw [List.concat_eq_append] at *
    have hlen : vs.length = ys.length + 1 := by
      rw [av.len, List.length_append]
      rfl
    obtain ⟨x, hx1, q, x1, x2, rfl, hq, hx2, hx3⟩ := av.at (i := ys.length) (x := p) (by rw [List.getElem?_append_right (Nat.le_refl _), Nat.sub_self]; rfl)
    obtain rfl : x1 = .int p.1 := hx2
    obtain rfl : x2 = .int p.2 := hx3
    have ix : ∀ {S1 : Hp} (j : Nat) {u : V}, Ex (upd S l (.lst vs)) S1 → ([V.int p.1, V.int p.2])[j]? = some u → EvV r (tOp (rIx K) (tOp (rIx K) (tVar i) (tUn (rU fun i => .int (-i)) (tC (.int 1)))) (tC (.int (j : Int)))) s S1 u := fun j u e hj =>
      vv_op (vv_op (vv_var hs) (vv_un vv_c ru_neg') (rs_ixL' (SqL.of (e _ _ upd_same)) (atI_neg1J hlen hx1))) vv_c (rs_ixT' (ex_t ((Ex.new sl).trans e) hq) (atI_nat hj))
    refine st_ifB (b := cc p) (EvB.is (tb_and (a := true) (b := cc p) ((hn upd_same av').is (by simp)) fun _ => ht p _ (ix 1 (Ex.refl _) rfl)) (by simp)) w hl n sl (fun hc S1 H1 w1 s1 n1 => ?_) (fun hc S1 H1 w1 s1 n1 => ?_)
    · have e1 : Ex (upd S l (.lst vs)) (upd S1 l (.lst vs)) := ex_both s1.ex
      refine st_setN (c := .tup [.int p.1, .int a2]) (j := ys.length) n ((en_tup (va_cons (ix 0 e1 rfl) (va_cons (h3 _) va_nil)) (fun vs _ e => by rw [e]; simp)).imp fun o S6 _ ⟨us, e6, e7⟩ => by rw [e6, e7]) (fun _ => vv_var hs) (fun _ => vv_un vv_c ru_neg') w1 (s1.kp l _ n hl) n1 (by rw [hlen]; exact ixN_neg1) fun q2 S2 H2 w2 s2 n2 h2' hq2 => ?_
      refine k S2 H2 w2 (s1.more.trans s2) ⟨_, h2', n2, ?_⟩
      have := All2.set (R := PairR K IntR IntR) (S := S2) (x := (p.1, a2)) (v := .ref q2) ⟨q2, _, _, rfl, SqT.of hq2, rfl, rfl⟩ ys.length (av.up (s1.ex.trans s2.ex))
      rw [lastG_snoc, if_pos hc]
      rw [List.set_append_right _ _ (Nat.le_refl _), Nat.sub_self] at this
      exact this
    · refine app S1 H1 w1 s1 ?_ ⟨vs, s1.kp l _ n hl, n1, av.up s1.ex⟩
      rw [lastG_snoc, if_neg (by rw [hc]; decide), List.append_assoc]
      rfl
end
end J

/-! J51: a dict walked by its keys: locked while it is walked. -/
namespace J
open PySem PySem.Spec PyProof.Rows L2 Evl RZ
theorem nco_frz {H : Hp} {p : Addr} {o : Obj} {u : HO} (h : H p = some (.frz o u)) : ∀ q, H p ≠ some (LamX.CodeO p q) := fun q z => by
  rw [h] at z
  unfold LamX.CodeO at z
  cases z
theorem Wd.both {r : Rs} {S H : Hp} {d : Addr} {x : HO} (w : Wd r S H) (n : d ∉ r.M) (nco : ∀ q, H d ≠ some (LamX.CodeO d q)) : Wd r (L2.upd S d x) (L2.upd H d x) :=
  ⟨ex_both w.ex, r.mono H _ (fun b o hb e => by
    rw [upd_ne (fun z : b = d => n (z ▸ hb))]
    exact e) (CoK.upd nco) w.inv, fun a ha => by
    rw [upd_ne (fun z : a = d => n (z ▸ ha))]
    exact w.dj a ha⟩
section
variable {r : Rs} {s : L2.St} {S H : Hp} {te : TE} {d : Addr} {kvs : List (Key × V)}
/-- e while the dict at d is locked -/
theorem ev_lock {R R' : V → Hp → Prop} (hd : S d = some (.dK kvs)) (n : d ∉ r.M) (hR : ∀ v S2 od, S2 d = some (.frz od (.dK kvs)) → R' v S2 → R v (upd S2 d (.dK kvs)))
    (h : ∀ od S1, S1 d = some (.frz od (.dK kvs)) → (∀ a o, a ≠ d → S a = some o → S1 a = some o) → EvS r te s S1 R') : EvS r (tLockE te) s S R := fun S1 H e w Q q => by
  have h1 := e _ _ hd
  have hH := w.ex _ _ h1
  refine ⟨d, .dK kvs, hH, True.intro, fun od => ?_⟩
  have w' : Wd r (upd S1 d (.frz od (.dK kvs))) (upd H d (.frz od (.dK kvs))) := w.both n (nco_dK hH)
  refine h od (upd S1 d (.frz od (.dK kvs))) upd_same (fun a o na ha => by
    rw [upd_ne na]
    exact e _ _ ha) _ _ (Ex.refl _) w' _ fun v S2 H2 w2 s2 hv => ?_
  have f2 := s2.ex _ _ upd_same
  have g2 := w2.ex _ _ f2
  refine ⟨g2, q v (upd S2 d (.dK kvs)) (upd H2 d (.dK kvs)) (w2.both n (nco_frz g2)) ⟨fun a o ha => ?_, fun a o na ha => ?_, fun a ha hs => ?_, fun a ha => ?_⟩ (hR v S2 od f2 hv)⟩
  · by_cases z : a = d
    · rw [z] at ha ⊢
      rw [h1] at ha
      rw [upd_same, ← ha]
    · rw [upd_ne z]
      refine s2.ex a o ?_
      rw [upd_ne z]
      exact ha
  · by_cases z : a = d
    · rw [z] at ha ⊢
      rw [hH] at ha
      rw [upd_same, ← ha]
    · rw [upd_ne z]
      refine s2.kp a o na ?_
      rw [upd_ne z]
      exact ha
  · have z : a ≠ d := fun z => by
      rw [z, h1] at hs
      cases hs
    rw [upd_ne z]
    refine s2.fr a ?_ ?_
    · rw [upd_ne z]
      exact ha
    · rw [upd_ne z]
      exact hs
  · by_cases z : a = d
    · rw [z, upd_same]
      exact fun z => nomatch z
    · rw [upd_ne z]
      refine s2.dm a ?_
      rw [upd_ne z]
      exact ha
/-- the keys of a locked dict, whole numbers -/
theorem ei_keys {ks : List Int} {od : Obj} (h : EvV r te s S (.ref d)) (hd : S d = some (.frz od (.dK kvs))) (hk : kvs.map (·.1) = ks.map (Sum.inl : Int → Key)) : EvI r (iKeys te) s S ks IntR := fun S1 H a w R q =>
  h S1 H a w _ fun v S2 H2 w2 s2 ev => by
    have hlen : kvs.length = ks.length := by
      have := congrArg List.length hk
      rw [List.length_map, List.length_map] at this
      exact this
    have f2 := s2.ex _ _ (a _ _ hd)
    refine ⟨d, od, ev, .inl ⟨kvs, w2.ex _ _ f2, q (Itk d od kvs) S2 H2 (fun H => H d = some (.frz od (.dK kvs))) (fun i H x H' => H' = H ∧ ∃ k v, kvs[i]? = some (k, v) ∧ x = kV k) w2 s2 (by
      have wk := walk_keys (d := d) (o := od) (kvs := kvs)
      rw [hlen] at wk
      exact wk) (fun S' H' e w' => w'.ex _ _ (e _ _ f2)) fun i S' H' v H'' hi e w' ⟨e4, k, v', e5, e6⟩ => ?_⟩⟩
    subst e4
    have h3 : (kvs.map (·.1))[i]? = some k := by rw [List.getElem?_map, e5]; rfl
    rw [hk, List.getElem?_map, List.getElem?_eq_getElem hi] at h3
    have h4 : (Sum.inl ks[i] : Key) = k := Option.some.inj h3
    exact ⟨S', ks[i], List.getElem?_eq_getElem hi, w', Stp.refl, by rw [e6, ← h4]; rfl⟩
/-- d[k] = e, the last statement -/
theorem st_dput {l : Addr} {kk : Key} {td ty tv : TE} {D : Ends} {R : V → Hp → Prop} (n : l ∉ r.M) (hv : EvS r tv s S R) (ho : EvV r td s S (.ref l)) (hk : EvV r ty s S (kV kk)) (w : Wd r S H) (hl : H l = some (.dK kvs)) (hs : S l = none) (hz : kvs.length < 100000)
    (k : ∀ v S1 H1, Wd r S1 H1 → Stp (r.more [l]) S H S1 H1 → S1 l = none → H1 l = some (.dK (putK kvs kk v)) → R v S1 → D.nx s H1) : sDPut td ty tv D s H := sq_dput (tz := tNext) (D := D) n hv ho hk w hl hs hz k
theorem keys_put {kvs : List (Key × V)} {ks : List Int} {k : Int} {v : V} (h : kvs.map (·.1) = ks.map (Sum.inl : Int → Key)) : (putK kvs (.inl k) v).map (·.1) = (if k ∈ ks then ks else ks ++ [k]).map (Sum.inl : Int → Key) := by
  have hm : (kvs.any fun kv => decide (kv.1 = (Sum.inl k : Key))) = decide (k ∈ ks) := by
    have e : (kvs.any fun kv => decide (kv.1 = (Sum.inl k : Key))) = (kvs.map (·.1)).any fun z => decide (z = (Sum.inl k : Key)) := by rw [List.any_map]; rfl
    rw [e, h, List.any_map]
    clear e h
    induction ks with
    | nil => rfl
    | cons x r ih =>
      rw [List.any_cons, ih]
      by_cases z : x = k
      · subst z
        simp
      · have z2 : ¬ k = x := fun e => z e.symm
        simp [z, z2]
  unfold putK
  rw [hm]
  by_cases z : k ∈ ks
  · rw [if_pos (decide_eq_true z), if_pos z, ← h, List.map_map]
    refine List.map_congr_left fun kv _ => ?_
    show (if kv.1 = Sum.inl k then (kv.1, v) else kv).1 = kv.1
    split <;> rfl
  · rw [if_neg (by rw [decide_eq_false z]; decide), if_neg z, List.map_append, List.map_append, h]
    rfl
end
end J

/-! J52: tuple(d), d.update(e), dict(pairs). -/
namespace J
open PySem PySem.Spec PyProof.Rows L2 Evl RZ PySem.W
section
variable {prog : Program} {w : World} {A : Around} {E : Value → Shared → Prop} {s : Shared} {T : String} {r d : Addr} {n : Nat} {P : Nat → Value → Prop} {OK : Heap → Prop}
theorem collect_kdl {Q : List Value → Shared → Prop} (K : KdlSrc prog w T r d n P OK) (hh : A.handled = none) (hok : OK s.heap) (hn : n ≤ sizeLine)
    (hQ : ∀ (h' : Heap) (tk : Nat) (acc : Array Value), (∀ b o, s.heap.get? b = some o → h'.get? b = some o) → ItemsOf P acc n → Q acc.toList { s with heap := h', toks := tk }) :
    wpAny (model prog w) A (collect (.ref r)) Q E s := by
  unfold collect
  refine wpAny_bind (wpAny_runValue (codeAny_builtin PySem.F.entry_proto_collect ?_))
  rw [Around.under_plainId PySem.F.plain_proto_collect _]
  show wpAny _ A.in1 (newList [] >>= fun l => again (.builtin "list.__iadd__" ⟨[l, .ref r], []⟩)) _ _ s
  refine wpAny_bind (wpAny_newObj_type ?_)
  refine wpAny_pure ⟨plainId_quiet PySem.F.plain_list_iadd _, codeAny_builtin PySem.F.entry_list_iadd ?_⟩
  rw [Around.under_plainId PySem.F.plain_list_iadd _]
  show wpAny _ A.in1 (Builtin.List.listExtendWith (.ref s.heap.objs.size) (.ref r) (.ref s.heap.objs.size)) _ _ _
  have hS : (s.heap.push { cls := .type "list", data := .seq ([] : List Value).toArray }).get? s.heap.objs.size = some { cls := .type "list", data := .seq #[] 0 } := Heap.get?_push_size _ rfl
  have hlt := K.there _ hok
  refine wpAny_mono (kdl_extend (A := A) (R := fun rr s' => rr = .ok (.ret (.ref s.heap.objs.size)) ∧ ∃ (h' : Heap) (tk : Nat) (acc : Array Value) (c' : Nat), s' = { s with heap := h', toks := tk } ∧
      (∀ b o, s.heap.get? b = some o → h'.get? b = some o) ∧ h'.get? s.heap.objs.size = some { cls := .type "list", dict := none, data := .seq acc c', slots := #[] } ∧ ItemsOf P acc n)
    (s := { s with heap := s.heap.push { cls := .type "list", data := .seq ([] : List Value).toArray } }) K hh (K.keep _ _ hok fun b _ o e => Heap.get?_push_of_some _ e) s.heap.objs.size (Nat.ne_of_gt hlt.1) (Nat.ne_of_gt hlt.2) _ 0 hS
    (fun h' tk acc c' hk e hi => ⟨rfl, h', tk, acc, c', rfl, fun b o q => hk b o (Nat.ne_of_lt (Heap.lt_size q)) (Heap.get?_push_of_some _ q), e, hi⟩) hn) (fun fin s' h => ?_) (fun e s' h => ?_)
  · cases fin with
    | done f =>
      obtain ⟨e, h', tk, acc, c', rfl, hk, hS', hi⟩ := h
      cases e
      show wpAny _ A (load s.heap.objs.size >>= _) _ _ _
      exact wpAny_bind (wpAny_load hS' (wpAny_pure (hQ h' tk acc hk hi)))
    | again c' =>
      refine ⟨h.1, codeAny_mono h.2 fun rr s'' hr' => ?_⟩
      obtain ⟨rfl, h', tk, acc, c', rfl, hk, hS', hi⟩ := hr'
      show wpAny _ A (load s.heap.objs.size >>= _) _ _ _
      exact wpAny_bind (wpAny_load hS' (wpAny_pure (hQ h' tk acc hk hi)))
  · exact absurd h.1 (by simp)
theorem code_tuple_new_kdl {Q₁ : Value → Shared → Prop} (K : KdlSrc prog w T r d n P OK) (hh : A.handled = none) (hok : OK s.heap) (hn : n ≤ sizeLine) (nt : T ≠ "tuple")
    (h : ∀ (h' : Heap) (tk : Nat) (acc : Array Value), (∀ b o, s.heap.get? b = some o → h'.get? b = some o) → ItemsOf P acc n →
      Q₁ (.ref h'.objs.size) { s with heap := h'.push { cls := .type "tuple", data := .seq acc }, toks := tk }) :
    codeAny (model prog w) A (.call (.builtin "tuple.__new__") ⟨[.type "tuple", .ref r], []⟩) (wants Q₁ E) s := by
  refine codeAny_of_tree ?_
  show wpAny _ A.in1 (do checkBuiltinCall "tuple.__new__" ⟨[.type "tuple", .ref r], []⟩; again (.builtin "tuple.__new__" ⟨[.type "tuple", .ref r], []⟩)) _ _ s
  refine wpAny_bind (wpAny_of_eq (PySem.F.newCall_tuple_1 _) (wpAny_pure ⟨plainId_quiet PySem.F.plain_tuple_new _, codeAny_builtin PySem.F.entry_tuple_new ?_⟩))
  rw [Around.under_plainId PySem.F.plain_tuple_new _]
  have hsub := sub_tuple_self
  have hinit := init_tuple_lookup
  have hmh := madeHere_tuple
  have hTI : s.TypeIs (.ref r) T := K.type s hok
  have hnt : (Value.type T == Value.type "tuple") = false := K.notTuple
  have hh1 : A.in1.handled = none := hh
  wp_walk using wpAny_typeOf hTI, collect_kdl (A := A.in1) K hh1 hok hn
  intro h' tk acc hk hacc
  show wpAny _ _ (Builtin.Tuple.tupleExact acc.toList.toArray >>= fun v => ret v) _ _ _
  unfold Builtin.Tuple.tupleExact
  refine wpAny_bind (wpAny_newObj_type ?_ (by show acc.toList.toArray.size ≤ sizeLine; simp only [Array.toArray_toList]; rw [hacc.1]; exact hn))
  refine wpAny_pure ?_
  have e : acc.toList.toArray = acc := by simp
  rw [e]
  exact h h' tk acc hk hacc
theorem call_tuple_kdl {Q : Value → Shared → Prop} (K : KdlSrc prog w T r d n P OK) (hh : A.handled = none) (hok : OK s.heap) (hn : n ≤ sizeLine) (nt : T ≠ "tuple")
    (hQ : ∀ (h' : Heap) (tk : Nat) (acc : Array Value), (∀ b o, s.heap.get? b = some o → h'.get? b = some o) → ItemsOf P acc n →
      Q (.ref h'.objs.size) { s with heap := h'.push { cls := .type "tuple", data := .seq acc }, toks := tk }) :
    wpAny (model prog w) A (call (.type "tuple") [.ref r]) Q E s := by
  refine callType_codes (Q₁ := fun obj s₁ => s₁.TypeIs obj "tuple" ∧ Q obj s₁) PySem.F.called_tuple (PySem.F.typeCall_tuple_1 _) PySem.F.entry_object_init
    (code_tuple_new_kdl (A := A.in1) K hh hok hn nt fun h' tk acc hk hacc => ⟨⟨_, Heap.get?_push_size _ rfl, rfl⟩, hQ h' tk acc hk hacc⟩) fun obj s₁ h₁ => ?_
  exact ⟨h₁.1, PySem.F.args_object_init_2 obj _, object_init_meets PySem.F.called_tuple.init.lookup PySem.F.called_tuple.made (by decide) prog w A.in1 _ s₁ ⟨h₁.1, rfl, h₁.2⟩⟩
end
def rTupleD : List V → Hp → VK → Prop := fun xs H Q => ∃ p kvs, xs = [.ref p] ∧ H p = some (.dK kvs) ∧ ∀ q, H q = none → Q (.ref q) (upd H q (.tup (kvs.map fun kv => kV kv.1)))
theorem call_tupleD {X : Cx} (hc : X.calm = true := by rfl) : CallR X (.type "tuple") rTupleD := by
  intro pins s σ H xs us Q I r h
  obtain ⟨p, kvs, e, hk, q⟩ := h
  subst e
  obtain ⟨u, eu, rx⟩ := vals1 r
  subst eu
  obtain rfl : u = Value.ref p := rx
  obtain ⟨z, lo, vs, rk, hd⟩ := (show ObjOk X.prog X.w H s.heap p (.dK kvs) from I.hok p _ hk)
  obtain ⟨ep, hat⟩ := hd.dictAt
  have hl : kvs.length = vs.length := Paired.length rk
  refine call_tuple_kdl (PySem.W.kdl_dict (knd := mixKind X.prog X.w) (kvs := vs) (ep := ep) lo) (I.ok.hd hc) hat (by rw [← hl]; exact z) (by decide) fun h' tk acc' hkeep hacc => ?_
  have I2 : Inv X pins σ H { s with heap := h', toks := tk } := I.kept hkeep
  refine ⟨.ref h'.objs.size, upd H h'.objs.size (.tup (kvs.map fun kv => kV kv.1)), I2.laid (t' := tk) (fun c o e => Heap.get?_push_of_some _ e) (Nat.le_refl _) (show ObjOk X.prog X.w _ _ _ (.tup (kvs.map fun kv => kV kv.1)) from ⟨?_, acc'.toList, ?_, ?_⟩), rfl, q _ (I2.hok.fresh (Nat.le_refl _))⟩
  · rw [List.length_map]; exact z
  · have el : acc'.toList.length = acc'.size := by simp
    refine vals_of_at (by rw [List.length_map, el, hacc.1, hl]) fun j x w h1 h2 => ?_
    obtain ⟨k, y, hky, hi⟩ := hacc.2 j w (by rw [← Array.getElem?_toList]; exact h2)
    have e1 : (kvs.map (·.1))[j]? = some k := by
      rw [KV.keys rk, List.getElem?_map, hky] <;> rfl
    have e2 : (kvs.map fun kv => kV kv.1)[j]? = some (kV k) := by
      have e3 : (kvs.map fun kv => kV kv.1) = (kvs.map (·.1)).map kV := by rw [List.map_map] <;> rfl
      rw [e3, List.getElem?_map, e1] <;> rfl
    rw [e2] at h1
    cases h1
    exact keyIs_rel hi
  · rw [Array.toArray_toList]; exact IsTup.new _ _
/-- d.update(e) -/
def rDUpd : V → List V → Hp → VK → Prop := fun x vs H Q => ∃ (a b : Addr) (kvs more : List (Key × V)), x = .ref a ∧ vs = [.ref b] ∧ a ≠ b ∧ H a = some (.dK kvs) ∧ H b = some (.dK more) ∧ kvs.length + more.length ≤ sizeLine ∧ Q .non (upd H a (.dK (mergeK kvs more)))
theorem mt_dupdate {X : Cx} : MtR X "dict.update" rDUpd := by
  intro pins s σ H x vs v us Q I rx rv h
  obtain ⟨a, b, kvs, more, rfl, rfl, hne, ha, hb, hz, q⟩ := h
  cases rx
  obtain ⟨u, rfl, ru⟩ := rv.one
  cases ru
  obtain ⟨z, hd, vs, rel, dd⟩ := dk_of I.hok ha
  obtain ⟨z2, hd2, ws, rel2, dd2⟩ := dk_of I.hok hb
  have hlen := length_mergeK more kvs
  refine call_meetsIn PySem.F.slot_dict_update dd.typeIs PySem.F.entry_dict_update (PySem.F.args_dict_update_2 _ _) (meets_dict_update (mixKind X.prog X.w) a b hne hd2) ⟨vs, ws, dd, dd2, by rw [← rel.length, ← rel2.length]; exact hz, fun h' hm _ hs => ?_⟩
  have he : ∃ q, h'.get? a = some q := let ⟨q, _, _, hq, _⟩ := hm; ⟨q, hq⟩
  exact ⟨.non, upd H a (.dK (mergeK kvs more)), d_write I (by rw [ha]; exact True.intro) hs he (dk_new (by omega) hd (rel2.merge rel) hm), rfl, q⟩
/-- dict(pairs) -/
def rDictP (K : PySem.W.Frag) : List V → Hp → VK → Prop := fun xs H Q => ∃ (a : Addr) (ps : List Addr) (kvs : List (Key × V)), xs = [.ref a] ∧ SqL K H a (ps.map V.ref) ∧ Paired (fun p kv => SqT K H p [kV kv.1, kv.2]) ps kvs ∧
    ∀ p, H p = none → Q (.ref p) (upd H p (.dK (mergeK [] kvs)))
theorem call_dictPK {X : Cx} {K : PySem.W.Frag} (hc : X.calm = true := by rfl) (hK : X.K = K := by rfl) : CallR X (.type "dict") (rDictP K) := by
  subst hK
  exact call_dictP hc
section
variable {r : Rs} {s : L2.St} {S H : Hp} {te ta tb : TE} {K : PySem.W.Frag} {D : Ends}
theorem paired_ex {S S' : Hp} (e : Ex S S') : ∀ {ps : List Addr} {kvs : List (Key × V)}, Paired (fun p kv => SqT K S p [kV kv.1, kv.2]) ps kvs → Paired (fun p kv => SqT K S' p [kV kv.1, kv.2]) ps kvs
  | _, _, .nil => .nil
  | _, _, .cons h t => .cons (ex_t e h) (paired_ex e t)
theorem All2.of_keys {S : Hp} : ∀ {ks : List Int} {kvs : List (Key × V)}, kvs.map (·.1) = ks.map (Sum.inl : Int → Key) → All2 IntR S ks (kvs.map fun kv => kV kv.1)
  | [], [], _ => .nil
  | [], _ :: _, h => by simp at h
  | _ :: _, [], h => by simp at h
  | k :: ks, kv :: kvs, h => by
    rw [List.map_cons, List.map_cons, List.cons.injEq] at h
    refine .cons ?_ (All2.of_keys h.2)
    show kV kv.1 = V.int k
    rw [h.1]
    rfl
/-- tuple(d) of whole keys -/
theorem ev_tupD {d : Addr} {kvs : List (Key × V)} {ks : List Int} (h : EvV r te s S (.ref d)) (hd : S d = some (.dK kvs)) (hk : kvs.map (·.1) = ks.map (Sum.inl : Int → Key)) : EvS r (tCB rTupleD (tCons te tNil)) s S fun v S1 => TupR K IntR ks v S1 :=
  EvN.tup (X := IntR) (en_cb (ea_one h) fun us S1 e ⟨v, e1, ev⟩ H eH Q q => by
    rw [e1, ev]
    exact ⟨d, kvs, rfl, eH _ _ (e _ _ hd), fun p hp => q p _ hp ⟨_, rfl, All2.of_keys hk⟩⟩)
/-- len(dict([(k, c) for ..])) -/
theorem pairs_keys {R' : Rl V} {S : Hp} : ∀ {ks : List (Int × V)} {vs : List V}, All2 (PairR K IntR ValR) S ks vs → ∃ (ps : List Addr) (kvs : List (Key × V)), vs = ps.map V.ref ∧ kvs = ks.map (fun k => ((Sum.inl k.1 : Key), k.2)) ∧ Paired (fun p kv => SqT K S p [kV kv.1, kv.2]) ps kvs
  | _, _, .nil => ⟨[], [], rfl, rfl, .nil⟩
  | _, _, .cons h t => by
    obtain ⟨ps, kvs, e1, e2, h2⟩ := pairs_keys (R' := R') t
    obtain ⟨a, x, y, e3, hq, hx, hy⟩ := h
    refine ⟨a :: ps, _ :: kvs, by rw [e1, e3]; rfl, by rw [e2]; rfl, .cons ?_ h2⟩
    rw [show x = _ from hx, show y = _ from hy] at hq
    exact hq
theorem merge_keys : ∀ (ks : List (Int × V)) (kvs : List (Key × V)) (us : List Int), kvs.map (·.1) = us.map (Sum.inl : Int → Key) → (mergeK kvs (ks.map fun k => ((Sum.inl k.1 : Key), k.2))).map (·.1) = ((ks.map (·.1)).foldl (fun us k => if k ∈ us then us else us ++ [k]) us).map (Sum.inl : Int → Key)
  | [], kvs, us, h => h
  | k :: r, kvs, us, h => merge_keys r (putK kvs (.inl k.1) k.2) (if k.1 ∈ us then us else us ++ [k.1]) (keys_put h)
theorem vv_lenDict {ks : List (Int × V)} {us : List Int} (h : EvS r te s S fun v S1 => LstR (PairR K IntR ValR) ks v S1) (e : (ks.map (·.1)).foldl (fun us k => if k ∈ us then us else us ++ [k]) [] = us) : EvV r (tCB (rLenU K) (tCons (tCB (rDictP K) (tCons te tNil)) tNil)) s S (.int (us.length : Int)) := fun S1 H1 e1 w1 Q q => by
  refine h S1 H1 e1 w1 _ fun v S2 H2 w2 s2 ⟨a, vs, ev, ha, hvs⟩ => ?_
  subst ev
  obtain ⟨ps, kvs, e2, e3, hp⟩ := pairs_keys (R' := ValR) hvs
  subst e2
  subst e3
  refine ⟨a, ps, _, rfl, SqL.of (w2.ex _ _ ha), paired_ex w2.ex hp, fun p hp0 => .inr ⟨p, _, rfl, upd_same, ?_⟩⟩
  have hl := congrArg List.length (merge_keys ks [] [] rfl)
  rw [List.length_map, List.length_map, e] at hl
  rw [hl]
  exact q _ S2 _ (w2.new hp0) (s2.trans (Stp.new hp0)) rfl
end
section
variable {r : Rs} {s : L2.St} {S S' H : Hp} {ta tb te ti t1 t2 t3 : TE} {tt : TT} {v : V} {K : PySem.W.Frag} {D : Ends} {l : Addr} {c : HO} {tu tz : TS}
/-- the last pair, both parts read -/
theorem st_lastP {i : Nat} {zs : List (Int × Int)} (cc : Int × Int → Bool) (g2 : Int × Int → Int) {y1 y2 : Int} (n : l ∉ r.M) (hs : s[i]? = some (some (.ref l))) (w : Wd r S H) (a : AccS l (PairR K IntR IntR) zs S H) (hz : zs.length < 100000)
    (ht : ∀ p S1, EvV r (tOp (rIx K) (tOp (rIx K) (tVar i) (tUn (rU fun i => .int (-i)) (tC (.int 1)))) (tC (.int 0))) s S1 (.int p.1) → EvV r (tOp (rIx K) (tOp (rIx K) (tVar i) (tUn (rU fun i => .int (-i)) (tC (.int 1)))) (tC (.int 1))) s S1 (.int p.2) → EvB r tt s S1 (cc p))
    (h1 : ∀ S1, EvV r t1 s S1 (.int y1)) (h2 : ∀ S1, EvV r t2 s S1 (.int y2)) (h3 : ∀ p S1, EvV r (tOp (rIx K) (tOp (rIx K) (tVar i) (tUn (rU fun i => .int (-i)) (tC (.int 1)))) (tC (.int 1))) s S1 (.int p.2) → EvV r t3 s S1 (.int (g2 p)))
    (k : ∀ S1 H1, Wd r S1 H1 → Stp (r.more [l]) S H S1 H1 → AccS l (PairR K IntR IntR) (lastG cc (fun p => (p.1, g2 p)) (y1, y2) zs) S1 H1 → D.nx s H1) :
    tIfS (tAnd (tTest (tOp (rNeU K) (tVar i) (tLst tNil))) tt) (tAsg (tTup (tCons (tOp (rIx K) (tOp (rIx K) (tVar i) (tUn (rU fun i => .int (-i)) (tC (.int 1)))) (tC (.int 0))) (tCons t3 tNil))) (gSub (tVar i) (tUn (rU fun i => .int (-i)) (tC (.int 1))) rSetL)) (tDrop (tBM K "list" rAppend (tVar i) (tCons (tTup (tCons t1 (tCons t2 tNil))) tNil))) D s H := by
  have hn : ∀ {S1 : Hp} {vs : List V}, S1 l = some (.lst vs) → All2 (PairR K IntR IntR) S1 zs vs → EvB r (tTest (tOp (rNeU K) (tVar i) (tLst tNil))) s S1 (!decide (zs = [])) := fun h a => tb_test (vv_neD (R := LstR (PairR K IntR IntR)) ((vv_var hs).imp fun v S e ev => ⟨l, _, ev, e _ _ h, a.up e⟩) fun S1 _ => ev_nilL)
  have app : ∀ S1 H1, Wd r S1 H1 → Stp r S H S1 H1 → lastG cc (fun p => (p.1, g2 p)) (y1, y2) zs = zs ++ [(y1, y2)] → AccS l (PairR K IntR IntR) zs S1 H1 → tDrop (tBM K "list" rAppend (tVar i) (tCons (tTup (tCons t1 (tCons t2 tNil))) tNil)) D s H1 := fun S1 H1 w1 s1 e a1 =>
    st_appendA (Y := PairR K IntR IntR) (y := (y1, y2)) n (vv_var hs) (ev_pair (K := K) (R := IntR) (R' := IntR) (h1 _) fun S2 e => h2 _) w1 a1 hz fun S2 H2 w2 s2 a2 => k S2 H2 w2 (s1.more.trans s2) (by
      rw [e]
      exact a2)
  obtain ⟨vs, hl, sl, av⟩ := a
  have av' := av.up (Ex.new (o := .lst vs) sl)
  rcases List.eq_nil_or_concat zs with rfl | ⟨ys, p, rfl⟩
  · refine st_ifB (b := false) (EvB.is (tb_and (a := false) (b := false) ((hn upd_same av').is (by rfl)) fun z => nomatch z) rfl) w hl n sl (fun z => nomatch z) fun _ S1 H1 w1 s1 n1 => ?_
    exact app S1 H1 w1 s1 rfl ⟨vs, s1.kp l _ n hl, n1, av.up s1.ex⟩
  · rw [List.concat_eq_append] at *
    have hlen : vs.length = ys.length + 1 := by
      rw [av.len, List.length_append]
      rfl
    obtain ⟨x, hx1, q, x1, x2, rfl, hq, hx2, hx3⟩ := av.at (i := ys.length) (x := p) (by rw [List.getElem?_append_right (Nat.le_refl _), Nat.sub_self]; rfl)
    obtain rfl : x1 = .int p.1 := hx2
    obtain rfl : x2 = .int p.2 := hx3
    have ix : ∀ {S1 : Hp} (j : Nat) {u : V}, Ex (upd S l (.lst vs)) S1 → ([V.int p.1, V.int p.2])[j]? = some u → EvV r (tOp (rIx K) (tOp (rIx K) (tVar i) (tUn (rU fun i => .int (-i)) (tC (.int 1)))) (tC (.int (j : Int)))) s S1 u := fun j u e hj =>
      vv_op (vv_op (vv_var hs) (vv_un vv_c ru_neg') (rs_ixL' (SqL.of (e _ _ upd_same)) (atI_neg1J hlen hx1))) vv_c (rs_ixT' (ex_t ((Ex.new sl).trans e) hq) (atI_nat hj))
    refine st_ifB (b := cc p) (EvB.is (tb_and (a := true) (b := cc p) ((hn upd_same av').is (by simp)) fun _ => ht p _ (ix 0 (Ex.refl _) rfl) (ix 1 (Ex.refl _) rfl)) (by simp)) w hl n sl (fun hc S1 H1 w1 s1 n1 => ?_) (fun hc S1 H1 w1 s1 n1 => ?_)
    · have e1 : Ex (upd S l (.lst vs)) (upd S1 l (.lst vs)) := ex_both s1.ex
      refine st_setN (c := .tup [.int p.1, .int (g2 p)]) (j := ys.length) n ((en_tup (va_cons (ix 0 e1 rfl) (va_cons (h3 p _ (ix 1 e1 rfl)) va_nil)) (fun vs _ e => by rw [e]; simp)).imp fun o S6 _ ⟨us, e6, e7⟩ => by rw [e6, e7]) (fun _ => vv_var hs) (fun _ => vv_un vv_c ru_neg') w1 (s1.kp l _ n hl) n1 (by rw [hlen]; exact ixN_neg1) fun q2 S2 H2 w2 s2 n2 h2' hq2 => ?_
      refine k S2 H2 w2 (s1.more.trans s2) ⟨_, h2', n2, ?_⟩
      have := All2.set (R := PairR K IntR IntR) (S := S2) (x := (p.1, g2 p)) (v := .ref q2) ⟨q2, _, _, rfl, SqT.of hq2, rfl, rfl⟩ ys.length (av.up (s1.ex.trans s2.ex))
      rw [lastG_snoc, if_pos hc]
      rw [List.set_append_right _ _ (Nat.le_refl _), Nat.sub_self] at this
      exact this
    · refine app S1 H1 w1 s1 ?_ ⟨vs, s1.kp l _ n hl, n1, av.up s1.ex⟩
      rw [lastG_snoc, if_neg (by rw [hc]; decide), List.append_assoc]
      rfl
end
section
variable {r : Rs} {s : L2.St} {S H : Hp} {te td : TE} {K : PySem.W.Frag} {D : Ends}
/-- a display of pairs, keys perhaps alike -/
theorem en_dispM {trs : List (TE × TE)} {R : HO → Hp → Prop} (h : EvP r trs s S fun ps S1 => ∃ kvs : List (Key × V), ps = kvs.map (fun kv => (kV kv.1, kv.2)) ∧ kvs.length ≤ 15 ∧ R (.dK (mergeK [] kvs)) S1) : EvN r (tDisp trs) s S R := fun S1 H e w Q q p hp =>
  h S1 (upd H p (.dK [])) e (w.new hp) _ fun ps S2 H2 w2 s2 ⟨kvs, e1, e2, e4⟩ => by
    have np : p ∉ r.M := w.notM hp
    have h2 : H2 p = some (.dK []) := s2.kp p _ np upd_same
    have n2 : S2 p = none := s2.fr p (ne_none upd_same) (w.fresh hp)
    exact ⟨h2, kvs, e1, e2, q p _ S2 _ hp upd_same n2 (w2.mut n2 np) (((Stp.new hp).trans s2).mut hp) e4⟩
theorem st_dupd {d : Addr} {kvs more : List (Key × V)} (n : d ∉ r.M) (ho : ∀ S1, EvV r td s S1 (.ref d)) (he : EvN r te s S fun o _ => o = .dK more) (w : Wd r S H) (hd : H d = some (.dK kvs)) (hs : S d = none) (hz : kvs.length + more.length ≤ 100000)
    (k : ∀ S1 H1, Wd r S1 H1 → Stp (r.more [d]) S H S1 H1 → S1 d = none → H1 d = some (.dK (mergeK kvs more)) → D.nx s H1) : tDrop (tBM K "dict" rDUpd td (tCons te tNil)) D s H :=
  ho S S H (Ex.refl _) w _ fun u S1 H1 w1 s1 eu => by
    subst eu
    have h1 := s1.kp d _ n hd
    refine ⟨.inr (.inr (.inl ⟨rfl, .inl ⟨_, h1⟩⟩)), he S1 H1 s1.ex w1 _ fun p o S2 H2 p0 p1 p2 w2 s2 eo => ?_⟩
    subst eo
    have h2 := s2.kp d _ n h1
    have n2 := s2.fr d (ne_none h1) (s1.fr d (ne_none hd) hs)
    refine ⟨d, p, kvs, more, rfl, rfl, (fun z => by
      rw [z, p0] at h1
      cases h1), h2, p1, (by rw [sizeLine_eq]; omega), k S2 _ (w2.upd n2 n (nco_dK h2)) ((s1.trans s2).more.trans (Stp.upd1 (ne_none h2))) n2 upd_same⟩
variable {α β : Type}
theorem EvI.map {wi : TI} {ys : List α} {X : Rl α} {X' : Rl β} (f : α → β) (h : EvI r wi s S ys X) (k : ∀ y v S1, X y v S1 → X' (f y) v S1) : EvI r wi s S (ys.map f) X' := fun S1 H e w R q => h S1 H e w R fun J S2 H2 G Y w2 s2 wk hG hY =>
  q J S2 H2 G Y w2 s2 (by rw [List.length_map]; exact wk) hG fun i S' H' v H'' hi e' w' hy => by
    rw [List.length_map] at hi
    obtain ⟨S'', y, h1, h2, h3, h4⟩ := hY i S' H' v H'' hi e' w' hy
    exact ⟨S'', f y, by rw [List.getElem?_map, h1]; rfl, h2, h3, k _ _ _ h4⟩
theorem two_all {γ : Type} (ys : List α) (zs : α → List γ) : twoL ys zs (fun _ => true) (fun _ _ => true) (fun _ z => z) = ys.flatMap zs := by
  unfold twoL
  rw [List.filter_eq_self.mpr (fun _ _ => rfl)]
  congr 1
  funext y
  rw [List.filter_eq_self.mpr (fun _ _ => rfl), List.map_id']
end
end J

/-! J53: objects that change: a body walked with the whole heap in sight, told by what it keeps. -/
namespace J
open PySem PySem.Spec PyProof.Rows L2 Evl RZ
/-- but for the objects at M, what there was is there -/
def Kp (M : List Addr) (H H' : Hp) : Prop := (∀ a o, a ∉ M → H a = some o → H' a = some o) ∧ (∀ a, H a ≠ none → H' a ≠ none) ∧ CoK H H'
section
variable {M M' : List Addr} {H H1 H2 S S1 : Hp} {a : Addr} {o : HO}
theorem Kp.refl : Kp M H H := ⟨fun _ _ _ e => e, fun _ h => h, fun _ _ h => h⟩
theorem Kp.trans (h : Kp M H H1) (h2 : Kp M H1 H2) : Kp M H H2 := ⟨fun a o n e => h2.1 a o n (h.1 a o n e), fun a e => h2.2.1 a (h.2.1 a e), fun a q e => h2.2.2 a q (h.2.2 a q e)⟩
theorem Kp.ex (e : Ex H H1) : Kp M H H1 := ⟨fun a o _ h => e a o h, fun a h z => h (by
  cases q : H a with
  | none => rfl
  | some o =>
    rw [e a o q] at z
    cases z), CoK.ex e⟩
theorem Kp.more (h : Kp M H H1) (s : ∀ a, a ∈ M → a ∈ M') : Kp M' H H1 := ⟨fun a o n e => h.1 a o (fun z => n (s a z)) e, h.2⟩
theorem Kp.upd (m : a ∈ M) (nc : ∀ q, H a ≠ some (LamX.CodeO a q)) : Kp M H (L2.upd H a o) := ⟨fun b u n e => by
  rw [upd_ne (fun z => n (by rw [z]; exact m))]
  exact e, fun b h => by
  by_cases z : b = a
  · rw [z, upd_same]
    exact fun z => by cases z
  · rw [upd_ne z]
    exact h, CoK.upd nc⟩
/-- a mutated object that was made since -/
theorem Kp.fresh (h : Kp M' H H1) (n : ∀ a, a ∈ M' → a ∈ M ∨ H a = none) : Kp M H H1 := ⟨fun a o na e => h.1 a o (fun z => (n a z).elim na fun q => by
  rw [q] at e
  cases e) e, h.2⟩
theorem w0 (H : Hp) : Wd Rs.nil H H := ⟨Ex.refl H, True.intro, fun a h => by cases h⟩
end
/-- a spec told by the heap alone -/
def SpM {A : Type} (Ml : A → List Addr) (pre : A → List V → Hp → Prop) (post : A → V → Hp → Hp → Prop) : Sp := fun vs H Q _ => ∃ a, pre a vs H ∧ ∀ v H', Kp (Ml a) H H' → post a v H H' → Q v H'
section
variable {s : L2.St} {H : Hp} {ta tb te ti : TE} {t : TT} {x y z v : V} {K : PySem.W.Frag} {R : V → Hp → Prop} {tu tw tz : TS} {D : Ends} {l : Addr} {o : HO} {xs : List V}
theorem hs_te (h : EvS Rs.nil te s H R) {Q : VK} (k : ∀ v S1 H1, Ex H S1 → Ex S1 H1 → R v S1 → Q v H1) : te s H Q :=
  h H H (Ex.refl _) (w0 H) Q fun v S1 H1 w1 s1 p => k v S1 H1 s1.ex w1.ex p
theorem hs_val (h : EvV Rs.nil te s H v) {Q : VK} (k : ∀ H1, Ex H H1 → Q v H1) : te s H Q := hs_te h fun u S1 H1 e1 e2 eu => by
  subst eu
  exact k H1 (e1.trans e2)
theorem hs_asg {i : Nat} (h : EvV Rs.nil te s H v) (k : ∀ H1, Ex H H1 → tz D (s.set i (some v)) H1) : tSeq (tAsg te (gName i)) tz D s H := hs_val h k
theorem hs_asgR {i : Nat} (h : EvS Rs.nil te s H R) (m : ∀ v S1 S2, Ex S1 S2 → R v S1 → R v S2) (k : ∀ v H1, Ex H H1 → R v H1 → tz D (s.set i (some v)) H1) : tSeq (tAsg te (gName i)) tz D s H :=
  hs_te h fun v S1 H1 e1 e2 p => k v H1 (e1.trans e2) (m v S1 H1 e2 p)
theorem hs_drop (h : EvV Rs.nil te s H v) (k : ∀ H1, Ex H H1 → tz D s H1) : tSeq (tDrop te) tz D s H := hs_val h k
theorem hs_ret (h : EvV Rs.nil te s H v) (k : ∀ H1, Ex H H1 → D.rt v H1) : tRet te D s H := hs_val h k
/-- a new object is given back -/
theorem hs_retN {Rn : HO → Hp → Prop} (h : EvN Rs.nil te s H Rn) (k : ∀ p o S1 H1, H p = none → Ex H S1 → Ex S1 H1 → S1 p = none → H1 p = some o → Rn o S1 → D.rt (.ref p) H1) : tRet te D s H :=
  h H H (Ex.refl _) (w0 H) _ fun p o S1 H1 h0 h1 h2 w1 s1 p1 => k p o S1 H1 h0 s1.ex w1.ex h2 h1 p1
theorem hs_asgN {i : Nat} {Rn : HO → Hp → Prop} (h : EvN Rs.nil te s H Rn) (k : ∀ p o S1 H1, H p = none → Ex H S1 → Ex S1 H1 → S1 p = none → H1 p = some o → Rn o S1 → tz D (s.set i (some (.ref p))) H1) : tSeq (tAsg te (gName i)) tz D s H :=
  h H H (Ex.refl _) (w0 H) _ fun p o S1 H1 h0 h1 h2 w1 s1 p1 => k p o S1 H1 h0 s1.ex w1.ex h2 h1 p1
theorem hs_ifNo (h : EvB Rs.nil t s H false) (k : ∀ H1, Ex H H1 → tz D s H1) : tSeq (tIfS t tu tNext) tz D s H :=
  h H H (Ex.refl _) (w0 H) _ fun c S1 H1 w1 s1 p => by
    subst p
    exact k H1 (s1.ex.trans w1.ex)
theorem hs_if {b : Bool} (h : EvB Rs.nil t s H b) (h1 : b = true → ∀ H1, Ex H H1 → tu { D with nx := tz D } s H1) (h2 : b = false → ∀ H1, Ex H H1 → tw { D with nx := tz D } s H1) : tSeq (tIfS t tu tw) tz D s H :=
  h H H (Ex.refl _) (w0 H) _ fun c S1 H1 w1 s1 p => by
    subst p
    cases c with
    | true => exact h1 rfl H1 (s1.ex.trans w1.ex)
    | false => exact h2 rfl H1 (s1.ex.trans w1.ex)
/-- self.f = v -/
theorem hs_fld {C dx a : Addr} {fs : List (Str × V)} {f : Str} (ho : EvV Rs.nil ta s H (.ref a)) (hv : EvV Rs.nil te s H v) (ha : H a = some (.ins C dx fs)) (c : Cls K C) (na : NoAttr K C f) (hl : fs.length < 1000) (k : ∀ H1, Ex H H1 → tz D s (L2.upd H1 a (.ins C dx (putF f v fs)))) : tSeq (sFld K ta te f) tz D s H :=
  hs_val hv fun H1 e1 => hs_val (EvS.mono e1 ho) fun H2 e2 => ⟨a, C, dx, fs, rfl, e2 _ _ (e1 _ _ ha), c, na, hl, k H2 (e1.trans e2)⟩
theorem hs_fldN {C dx a : Addr} {fs : List (Str × V)} {f : Str} {Rn : HO → Hp → Prop} (ho : EvV Rs.nil ta s H (.ref a)) (hv : EvN Rs.nil te s H Rn) (ha : H a = some (.ins C dx fs)) (c : Cls K C) (na : NoAttr K C f) (hl : fs.length < 1000) (k : ∀ p o S1 H1, H p = none → Ex H S1 → Ex S1 H1 → S1 p = none → H1 p = some o → Rn o S1 → tz D s (L2.upd H1 a (.ins C dx (putF f (.ref p) fs)))) : tSeq (sFld K ta te f) tz D s H :=
  hv H H (Ex.refl _) (w0 H) _ fun p o S1 H1 h0 h1 h2 w1 s1 p1 => hs_val (EvS.mono (s1.ex.trans w1.ex) ho) fun H2 e2 => ⟨a, C, dx, fs, rfl, e2 _ _ (w1.ex _ _ (s1.ex _ _ ha)), c, na, hl, k p o S1 H2 h0 s1.ex (w1.ex.trans e2) h2 (e2 _ _ h1) p1⟩
theorem ht_fldN {C dx a : Addr} {fs : List (Str × V)} {f : Str} {Rn : HO → Hp → Prop} (ho : EvV Rs.nil ta s H (.ref a)) (hv : EvN Rs.nil te s H Rn) (ha : H a = some (.ins C dx fs)) (c : Cls K C) (na : NoAttr K C f) (hl : fs.length < 1000) (k : ∀ p o S1 H1, H p = none → Ex H S1 → Ex S1 H1 → S1 p = none → H1 p = some o → Rn o S1 → D.nx s (L2.upd H1 a (.ins C dx (putF f (.ref p) fs)))) : sFld K ta te f D s H :=
  hv H H (Ex.refl _) (w0 H) _ fun p o S1 H1 h0 h1 h2 w1 s1 p1 => hs_val (EvS.mono (s1.ex.trans w1.ex) ho) fun H2 e2 => ⟨a, C, dx, fs, rfl, e2 _ _ (w1.ex _ _ (s1.ex _ _ ha)), c, na, hl, k p o S1 H2 h0 s1.ex (w1.ex.trans e2) h2 (e2 _ _ h1) p1⟩
/-- [0] * n -/
theorem en_zerosL {r : Rs} {S : Hp} {N : Nat} (h : EvV r te s S (.int (N : Int))) (hN : N ≤ 90000) : EvN r (tOp rMulU (tLst (tCons (tC (.int 0)) tNil)) te) s S fun o _ => o = .lst ((List.replicate N (0 : Int)).map V.int) := ev_op2N (R := fun o _ => o = .lst ((List.replicate N (0 : Int)).map V.int)) (A := fun v S => LstR IntR [0] v S) (ev_lst1 (R := IntR) (a := 0) vv_c) (fun _ S1 e _ => EvS.mono e h) fun x y S1 S2 _ ⟨a, vs, h1, h2, h3⟩ e2 hy => by
  subst h1
  rw [show y = _ from hy]
  rw [h3.ints] at h2
  refine ⟨_, rn_rep (e2 _ _ h2) (by omega) (by simp; omega), ?_⟩
  rw [Int.toNat_natCast]
  simp
/-- l.append(v) -/
theorem hs_append (ho : EvV Rs.nil ta s H (.ref l)) (hv : EvV Rs.nil te s H v) (hl : H l = some (.lst xs)) (hz : xs.length < 100000) (k : ∀ H1, Ex H H1 → tz D s (L2.upd H1 l (.lst (xs ++ [v])))) : tSeq (tDrop (tBM K "list" rAppend ta (tCons te tNil))) tz D s H :=
  hs_val ho fun H1 e1 => ⟨.inl ⟨rfl, _, .inl (.inl (e1 _ _ hl))⟩, hs_val (EvS.mono e1 hv) fun H2 e2 => ⟨l, xs, v, rfl, rfl, e2 _ _ (e1 _ _ hl), sz_lt hz, k H2 (e1.trans e2)⟩⟩
/-- l[i] = v -/
theorem hs_set {i : Int} {j : Nat} (hv : EvV Rs.nil te s H v) (ho : EvV Rs.nil ta s H (.ref l)) (hi : EvV Rs.nil ti s H (.int i)) (hl : H l = some (.lst xs)) (hj : ixN xs.length i = some j) (k : ∀ H1, Ex H H1 → D.nx s (L2.upd H1 l (.lst (xs.set j v)))) : tAsg te (gSub ta ti rSetL) D s H :=
  hs_val hv fun H1 e1 => hs_val (EvS.mono e1 ho) fun H2 e2 => hs_val (EvS.mono (e1.trans e2) hi) fun H3 e3 => ⟨l, xs, i, j, rfl, rfl, e3 _ _ (e2 _ _ (e1 _ _ hl)), hj, k H3 (e1.trans (e2.trans e3))⟩
/-- x = l.pop(0) -/
theorem hs_pop0 {i : Nat} {xs : List V} (ho : EvV Rs.nil ta s H (.ref l)) (hl : H l = some (.lst (v :: xs))) (k : ∀ H1, Ex H H1 → tz D (s.set i (some v)) (L2.upd H1 l (.lst xs))) : tSeq (tAsg (tBM K "list" rPopAt ta (tCons (tC (.int 0)) tNil)) (gName i)) tz D s H :=
  hs_val ho fun H1 e1 => ⟨.inl ⟨rfl, _, .inl (.inl (e1 _ _ hl))⟩, ⟨l, v :: xs, 0, 0, v, rfl, rfl, e1 _ _ hl, by decide, by decide, by
    show seqIndex? 0 (xs.length + 1) = some 0
    unfold seqIndex?
    simp, rfl, k H1 e1⟩⟩
/-- tuple(a list of ints) is given back -/
theorem ht_retT {p : Addr} {ns : List Int} (h : EvV Rs.nil te s H (.ref p)) (hp : H p = some (.lst (ns.map V.int))) (k : ∀ t H1, H t = none → Ex H H1 → SqT K H1 t (ns.map V.int) → D.rt (.ref t) H1) : tRet (tCB (rTupleU K) (tCons te tNil)) D s H :=
  hs_val h fun H1 e1 => ⟨.ref p, rfl, .inl ⟨p, ns.map V.int, rfl, SqL.of (e1 _ _ hp), fun t ht => k t _ (by
    cases z : H t with
    | none => rfl
    | some u =>
      rw [e1 _ _ z] at ht
      cases ht) (e1.trans (Ex.new ht)) (SqT.of upd_same)⟩⟩
/-- o.m(..) -/
theorem te_methM {A : Type} {Ml : A → List Addr} {pre : A → List V → Hp → Prop} {post : A → V → Hp → Hp → Prop} {E : XK} {C dx xo : Addr} {fs : List (Str × V)} {mn : Str} {ts : TA} {vs : List V} {Q : VK} (a : A) (hx : EvV Rs.nil ta s H (.ref xo)) (h2 : EvAV Rs.nil ts s H vs) (hi : H xo = some (.ins C dx fs)) (no : fs.lookup mn = none) (hp : ∀ H1, Ex H H1 → pre a (.ref xo :: vs) H1)
    (q : ∀ v H1 H', Ex H H1 → Kp (Ml a) H1 H' → post a v H1 H' → Q v H') : tMeth C mn (SpM Ml pre post) [] E ta ts s H Q :=
  hs_val hx fun H1 e1 => ⟨xo, dx, fs, rfl, e1 _ _ hi, no, (EvAS.mono' e1 h2) H1 H1 (Ex.refl _) (w0 H1) _ fun us S2 H2 w2 s2 eu => by
    subst eu
    have e2 : Ex H H2 := e1.trans (s2.ex.trans w2.ex)
    exact ⟨a, by rw [List.append_nil]; exact hp H2 e2, fun v H' k p => q v H2 H' e2 k p⟩⟩
end
/-! back to the law's world -/
section
variable {r : Rs} {M M' : List Addr} {S H H' : Hp}
def backS (M' : List Addr) (S H H' : Hp) : Hp := fun a => if a ∈ M' then none else match H a with
  | none => H' a
  | some _ => S a
theorem backS_new {a : Addr} (n : a ∉ M') (h : H a = none) : backS M' S H H' a = H' a := by
  unfold backS
  rw [if_neg n, h]
theorem backS_old {a : Addr} {o : HO} (n : a ∉ M') (h : H a = some o) : backS M' S H H' a = S a := by
  unfold backS
  rw [if_neg n, h]
theorem backS_in {a : Addr} (h : a ∈ M') : backS M' S H H' a = none := if_pos h
theorem back (w : Wd (r.more M) S H) (k : Kp M H H') (hs : ∀ a, a ∈ M → a ∈ M') (hn : ∀ a, a ∈ M' → a ∈ M ∨ H a = none) (hh : ∀ a, a ∈ M' → H' a ≠ none) (d : ∀ a, a ∈ r.M → a ∉ M) : Wd (r.more M') (backS M' S H H') H' ∧ Stp (r.more M) S H (backS M' S H H') H' := by
  have hr : ∀ a, a ∈ r.M → H a ≠ none := fun a ha => r.has H w.inv.1 a ha
  have d' : ∀ a, a ∈ r.M → a ∉ M' := fun a ha z => (hn a z).elim (d a ha) (hr a ha)
  have ex : Ex S (backS M' S H H') := fun a o e => by
    have n : a ∉ M' := fun z => (hn a z).elim (fun q => by
      rw [w.dj a (List.mem_append_left _ q)] at e
      cases e) fun q => by
      rw [w.ex a o e] at q
      cases q
    rw [backS_old n (w.ex a o e)]
    exact e
  refine ⟨⟨fun a o e => ?_, ⟨r.mono H H' (fun a o ha e => k.1 a o (d a ha) e) k.2.2 w.inv.1, hh⟩, fun a ha => ?_⟩, ⟨ex, fun a o n e => k.1 a o (fun z => n (List.mem_append_left _ z)) e, fun a h e => ?_, fun a h => k.2.1 a h⟩⟩
  · by_cases n : a ∈ M'
    · rw [backS_in n] at e
      cases e
    · cases q : H a with
      | none =>
        rw [backS_new n q] at e
        exact e
      | some u =>
        rw [backS_old n q] at e
        have h1 := w.ex a o e
        refine k.1 a o (fun z => n (hs a z)) h1
  · rcases List.mem_append.mp ha with ha | ha
    · exact backS_in ha
    · cases q : H a with
      | none => exact absurd q (hr a ha)
      | some u =>
        rw [backS_old (d' a ha) q]
        exact w.dj a (List.mem_append_right _ ha)
  · by_cases n : a ∈ M'
    · exact backS_in n
    · cases q : H a with
      | none => exact absurd q h
      | some u =>
        rw [backS_old n q]
        exact e
end
end J

set_option pp.maxSteps 3000
/-! J56: *e in a display. -/
namespace J
open PySem PySem.Spec PyProof.Rows L2 Evl RZ StX
theorem pa_starK {X : Cx} {K : PySem.W.Frag} {e : Expr} {es : List Expr} {te : TE} {t : TA} {p : Pos} (he : PE X e te) (hr : PA X es t) (hK : X.K = K := by rfl) (hs : starEach (.Starred e p :: es) X.env = (true, eval e X.env) :: starEach es X.env := by rfl) : PA X (.Starred e p :: es) (tStar K te t) := by
  subst hK
  exact pa_star he hr hs
theorem ar_star {α : Type} {R : Rl α} [Mono R] {K : PySem.W.Frag} {r : Rs} {s : L2.St} {S : Hp} {te : TE} {t : TA} {xs ys : List α} (h : EvS r te s S fun v S1 => SeqR K R xs v S1) (hr : ∀ S1, Ex S S1 → EvAS r t s S1 fun us S2 => All2 R S2 ys us) : EvAS r (tStar K te t) s S fun us S1 => All2 R S1 (xs ++ ys) us := fun S1 H e w Q q =>
  h S1 H e w _ fun v S2 H2 w2 s2 hv => by
    rcases hv with ⟨a, vs, ev, h1, h2⟩ | ⟨a, vs, ev, h1, h2⟩
    · exact ⟨a, vs, ev, .inr (ex_l w2.ex (SqL.of h1)), hr S2 (e.trans s2.ex) S2 H2 (Ex.refl _) w2 _ fun us S3 H3 w3 s3 hu => q _ S3 H3 w3 (s2.trans s3) ((h2.up s3.ex).append hu)⟩
    · exact ⟨a, vs, ev, .inl (ex_t w2.ex h1), hr S2 (e.trans s2.ex) S2 H2 (Ex.refl _) w2 _ fun us S3 H3 w3 s3 hu => q _ S3 H3 w3 (s2.trans s3) ((h2.up s3.ex).append hu)⟩
end J

set_option pp.maxSteps 3000
/-! J57: sorted(xs, key=lambda x: str(x)), xs lists or tuples of data. -/
namespace J
open PySem PySem.Spec PyProof.Rows L2 Evl RZ LamX
/-- the names of lambda y: str(y) -/
structure StrS (sc : Scope) (y : Str) : Prop where
  kind : sc.kind = .function
  co : sc.isCoroutine = false
  gen : sc.isGenerator = false
  nocell : ∀ z ∈ sc.names, z.2 ≠ .cell
  nofree : ∀ z ∈ sc.names, z.2 ≠ .free
  loc : sc.names.lookup y = some .local
  glob : sc.names.lookup ("str" : Str) = some .globalImplicit
def strSB (sc : Scope) (y : Str) : Bool :=
  decide (sc.kind = .function) && !sc.isCoroutine && !sc.isGenerator && (sc.names.all fun z => !decide (z.2 = .cell) && !decide (z.2 = .free)) && decide (sc.names.lookup y = some .local) && decide (sc.names.lookup ("str" : Str) = some .globalImplicit)
theorem strS_by {sc : Scope} {y : Str} (h : strSB sc y = true) : StrS sc y := by
  unfold strSB at h
  simp only [Bool.and_eq_true, Bool.not_eq_true', decide_eq_true_eq, decide_eq_false_iff_not, List.all_eq_true] at h
  obtain ⟨⟨⟨⟨⟨h1, h2⟩, h3⟩, h4⟩, h5⟩, h6⟩ := h
  exact ⟨h1, h2, h3, fun z hz => (h4 z hz).1, fun z hz => (h4 z hz).2, h5, h6⟩
/-- a list or a tuple -/
def isBox : PyData → Bool
  | .list _ => true
  | .tuple _ => true
  | _ => false
section
variable {prog : Program} {w : World} {A : Around} {s1 h0 : Shared} {f c : Addr} {q y : Str} {params : Arguments} {sc : Scope} {clos : List (Str × Addr)} {pm ctv : Value} {mg mb : Str → Option Value} {d : PyData} {as : List Addr} {v : Value} {p1 p2 p3 : Pos}
/-- the lambda, called -/
theorem strkey_call (L : StrS sc y) (hdep : A.depth < recursionLimit) (g : A.guards = some []) (hu : A.units + 60 < cLine) (hf : s1.heap.get? f = some (PySem.W.kla_obj "<lambda>" q params (.Call (.Name "str" p1) [.Name y p2] [] p3) sc clos pm c ctv))
    (hc : s1.heap.CodeRec (.ref c) q) (gl : s1.heap.Ns mainGlobals mg) (hm : mg "str" = none) (bl : s1.heap.Ns builtinsNs mb) (hb : mb "str" = some (.type "str")) (lim : s1.heap.NoLimit)
    (hbind : bindArgs (PySem.W.kla_fn "<lambda>" q params (.Call (.Name "str" p1) [.Name y p2] [] p3) sc clos pm (.ref c) ctv) ⟨[v], []⟩ = pure [(y, v)]) (hy : (y == ("__debug__" : Str)) = false)
    (rd : Reads s1.heap v d as) (bx : isBox d = true) (hs : d.showable = true) (nd : d.hasDict = false) (dp : d.depth ≤ 40) (sz : d.shown.length ≤ sizeLine) :
    wpAny (model prog w) A (call (.ref f) [v]) (PySem.W.KeyPure (.str d.shown) s1) (fun _ _ => False) s1 := by
  refine wpAny_call (PySem.W.kla_callFunE hdep hf rfl L.co L.gen rfl hc ?_)
  rw [hbind]
  refine wpAny_pure (wpAny_newFunctionEnv L.nocell (fun z hz => ?_) (fun h1 hns hsb => ⟨lim.fresh _ hsb, ?_⟩) L.kind)
  · rw [List.mem_singleton.mp hz]
    exact L.loc
  have kp : ∀ b o, s1.heap.get? b = some o → h1.get? b = some o := fun b o e => hsb.extBut b o (Nat.ne_of_lt (Heap.lt_size e)) (Heap.get?_push_of_some _ e)
  refine PySem.W.kla_codeExpr ?_
  refine wpAny_Call_Name_kw (Calls.Name_function_global L.kind L.glob (Calls.loadGlobal_builtin (gl.keeps kp) hm (bl.keeps kp) hb ?_))
  refine PyProof.Rows.callWith_type1 ?_
  refine Calls.spliced_cons (wpAny_Name (wpAny_loadName_local L.kind L.loc hns (v := v) (by simp) ?_) hy)
  refine Calls.spliced_nil ?_
  have fin : ∀ {a : Addr}, v = .ref a → wpAny (model prog w) (A.deeper (newEnv sc s1.heap.objs.size mainGlobals clos (q ++ ".<locals>.") (some f) (.ref c) none builtinsNs)) (call (.type "str") [v]) (fun v s' => PySem.W.KeyPure (.str d.shown) s1 v s') (fun e' s' => wpAny (model prog w) (A.deeper (newEnv sc s1.heap.objs.size mainGlobals clos (q ++ ".<locals>.") (some f) (.ref c) none builtinsNs)) (leaving (newEnv sc s1.heap.objs.size mainGlobals clos (q ++ ".<locals>.") (some f) (.ref c) none builtinsNs) e') (fun _ s'' => False) (fun e'' s'' => False) s') { s1 with heap := h1, toks := s1.toks + 1 } := fun {a} ev => by
    subst ev
    refine str_of_reads (h₀ := s1.heap) rd hs (PyData.noDict_hsm nd) g (by
      show A.units + 3 + (d.depth + 3) < cLine
      omega) kp (fun h' u tk hk => ⟨h', tk, rfl, fun b o e => hk b o (kp b o e), .str d.shown u⟩) sz
  cases rd with
  | none => cases bx
  | bool b => cases bx
  | int i t => cases bx
  | str x t => cases bx
  | list h1 h2 h3 h4 => exact fin rfl
  | tuple h1 h2 h3 h4 => exact fin rfl
  | dict h1 h2 h3 h4 h5 => cases bx
end
/-- by the texts -/
def leS (a b : V × PyData) : Bool := PySem.W.dataLe false (fun z : V × PyData => PyData.str z.2.shown) a b
def sortS (xs : List V) (ds : List PyData) : List V := ((xs.zip ds).mergeSort leS).map (·.1)
/-- what can be sorted so -/
structure KeyD (d : PyData) : Prop where
  bx : isBox d = true
  sh : d.showable = true
  dp : d.depth ≤ 40
  sz : d.shown.length ≤ sizeLine
def tSortS (K : PySem.W.Frag) (P : Addr) (T : List (Addr × Str)) (te : TE) : TE := fun σ H Q => te σ H fun x H1 => Tabs T H1 ∧ ∀ H2, (∀ b o, b ≠ P → H1 b = some o → H2 b = some o) → Tabs T H2 →
  ∃ (a : Addr) (xs : List V) (ds : List PyData), x = .ref a ∧ SqL K H2 a xs ∧ DpAll K H2 xs ds ∧ (∀ d ∈ ds, KeyD d) ∧ ∀ p, H2 p = none → Q (.ref p) (upd H2 p (.lst (sortS xs ds)))
theorem dpa_zip {K : PySem.W.Frag} {H : Hp} : ∀ {vs : List V} {ds : List PyData}, DpAll K H vs ds → ∀ {its : List Value}, Vals vs its → PySem.W.EachIs (fun (u : Value) (b : V × PyData) => L2.RelV b.1 u ∧ Dp K H b.1 b.2) its (vs.zip ds)
  | _, _, .nil, _, .nil => .nil
  | _, _, .cons h t, _, .cons r rs => .cons ⟨r, h⟩ (dpa_zip t rs)
theorem each_vals {K : PySem.W.Frag} {H : Hp} : ∀ {its : List Value} {bs : List (V × PyData)}, PySem.W.EachIs (fun (u : Value) (b : V × PyData) => L2.RelV b.1 u ∧ Dp K H b.1 b.2) its bs → Vals (bs.map (·.1)) its
  | _, _, .nil => .nil
  | _, _, .cons h t => .cons h.1 (each_vals t)
theorem dpa_len {K : PySem.W.Frag} {H : Hp} : ∀ {vs : List V} {ds : List PyData}, DpAll K H vs ds → vs.length = ds.length
  | _, _, .nil => rfl
  | _, _, .cons _ t => by rw [List.length_cons, List.length_cons, dpa_len t]
section
variable {X : Cx} {k : Nat} {P c : Addr} {T : List (Addr × Str)} {y : Str} {e : Expr} {te : TE} {params : Arguments} {sc : Scope} {p p1 p2 p3 lpos kp pos : Pos}
/-- sorted(e, key=lambda y: str(y)) -/
theorem pe_sortS (g : Gd X.A) (hr : Room k X.A) (hg : Gl X "sorted") (hm : X.mg "sorted" = none) (hms : X.mg "str" = none) (he : PE X e te) (TB : TabB X.base X.mg c P) (hcode : X.env.code = .ref c) (hT : (P, X.env.qual ++ "<lambda>") ∈ T) (hu : ∀ z ∈ T, z.1 = P → z.2 = X.env.qual ++ "<lambda>") (L : StrS sc y)
    (hbind : ∀ (q : Str) (cl : List (Str × Addr)) (pm cv ctv v : Value), bindArgs (PySem.W.kla_fn "<lambda>" q params (.Call (.Name "str" p1) [.Name y p2] [] p3) sc cl pm cv ctv) ⟨[v], []⟩ = pure [(y, v)] := by exact fun _ _ _ _ _ _ => rfl) (hdef : defaultsOf params X.env = ([], []) := by rfl) (hy : (y == ("__debug__" : Str)) = false := by decide)
    (e1 : backTo pos (starEach [e] X.env) = (false, eval e X.env) :: backTo pos (starEach [] X.env) := by rfl) (e2 : (backTo pos (starEach [e] X.env)).any (·.1) = false := by rfl) :
    PE X (.Call (.Name "sorted" p) [e] [⟨some "key", .Lambda params (.Call (.Name "str" p1) [.Name y p2] [] p3) sc lpos, kp⟩] pos) (tSortS X.K P T te) := by
  refine ⟨fun pins s σ H Q I h => ?_⟩
  refine wpAny_Call_Name_kw (ld_blt I hg hm (u := .builtin "sorted") (by kernel_rfl) ?_)
  refine PyProof.Rows.callWith_kw ?_ e1 e2 (by rfl) (by rfl)
  have ev : wpAny (model X.prog X.w) X.A (spliced (backTo pos (starEach [e] X.env))) (AP X pins σ fun vs H1 => ∃ x, vs = [x] ∧ (Tabs T H1 ∧ ∀ H2, (∀ b o, b ≠ P → H1 b = some o → H2 b = some o) → Tabs T H2 →
      ∃ (a : Addr) (xs : List V) (ds : List PyData), x = .ref a ∧ SqL X.K H2 a xs ∧ DpAll X.K H2 xs ds ∧ (∀ d ∈ ds, KeyD d) ∧ ∀ p, H2 p = none → Q (.ref p) (upd H2 p (.lst (sortS xs ds))))) X.xe s := by
    rw [e1]
    refine Calls.spliced_cons (thn (he.run pins s σ H _ I h) fun u s1 ⟨x, H1, I1, r1, q1⟩ => ?_)
    exact Calls.spliced_nil ⟨[x], H1, I1, .cons r1 .nil, x, rfl, q1⟩
  refine thn ev fun us s1 ⟨vs, H1, I1, r1, x, exx, tabs1, q1⟩ => ?_
  subst exx
  obtain ⟨u, eu, ru⟩ := vals1 r1
  subst eu
  refine PyProof.Rows.kws_cons ?_
  refine lam_mk I1 TB hcode hT hu tabs1 hdef (fun z hz ez => absurd ez (L.nofree z hz)) fun f c1 pm ctv H2 s2 I2 kp2 T2 hf nf ns hc1 => ?_
  refine PyProof.Rows.kws_nil ?_
  obtain ⟨a, xs, ds, ex, hs, hds, hk, q⟩ := q1 H2 kp2 T2
  subst ex
  obtain rfl : u = Value.ref a := ru
  obtain ⟨its, rv, hl, hz⟩ := I2.list hs
  obtain ⟨⟨oc, vs, tk, co, cd, cn⟩, _⟩ := I2.hok c1 _ hc1
  obtain ⟨mb, hb1, hb2⟩ := I2.mod.blt
  have hlen := rv.length
  have zl : (xs.zip ds).length = its.length := by
    rw [List.length_zip, ← dpa_len hds, Nat.min_self, hlen]
  show wpAny (model X.prog X.w) X.A (call (.builtin "sorted") [.ref a] [(Str.ofString "key", .ref f)]) _ _ s2
  refine PySem.W.sorted_key_data (b := false) (fun z : V × PyData => PyData.str z.2.shown) hl.isList (dpa_zip hds rv) (PySem.W.AllAlike.of fun _ _ => by simp [PySem.W.alike]) (PySem.W.Sortable.others fun _ => ⟨by simp, by simp⟩) (by rw [zl, ← hlen]; exact hz) (fun z _ => ?_) (PyProof.Rows.ksk_s1 _ _) (fun _ => PyProof.Rows.ksk_l1 _ _) (fun _ => PyProof.Rows.ksk_t1 _ _) (fun v z ⟨rz, dz⟩ mz h tk keep => ?_) fun out c2 h' tk keep fr hD hlo eo => ?_
  · have := hr.un
    show X.A.units + 2 + 0 < cLine
    omega
  · have hzd : z.2 ∈ ds := (List.of_mem_zip mz).2
    have kz := hk _ hzd
    obtain ⟨as, rd⟩ := Dp.reads I2 z.2 z.1 v dz rz
    have hr2 := hr.un
    exact strkey_call (s1 := { s2 with heap := h, toks := tk }) (mg := X.mg) (mb := mb) L (show X.A.depth < recursionLimit from hr.depth) (show X.A.guards = some [] from g) (by show X.A.units + 1 + 1 + 60 < cLine; omega) (keep _ _ hf) ⟨c1, oc, _, _, rfl, keep _ _ co, cd, cn⟩ ((I2.mod.glob.keeps I2.bk).keeps keep) hms ((hb1.keeps I2.bk).keeps keep) ((hb2 "str" (by decide)).trans (by kernel_rfl)) (I2.nolimit.keeps keep) (hbind _ _ _ _ _ _) hy (PyProof.Rows.Reads.keeps keep rd) kz.bx kz.sh (dp_nodict _ _ dz) kz.dp kz.sz
  · have vo := each_vals eo
    have hlz : (sortS xs ds).length ≤ sizeLine := by
      unfold sortS
      rw [List.length_map, List.length_mergeSort, zl, ← hlen]
      exact hz
    exact ⟨.ref _, upd H2 (s2.heap.objs.size + 1) (.lst (sortS xs ds)), I2.laid (t' := tk) keep (Nat.le_succ _) ⟨hlz, out, c2, vo, hD⟩, rfl, q _ (I2.hok.fresh (Nat.le_succ _))⟩
end
section
variable {X : Cx} {K : PySem.W.Frag} {k : Nat} {P c : Addr} {T : List (Addr × Str)} {y : Str} {e : Expr} {te : TE} {params : Arguments} {sc : Scope} {p p1 p2 p3 lpos kp pos : Pos}
theorem pe_sortSK (g : Gd X.A) (hr : Room k X.A) (hg : Gl X "sorted") (hm : X.mg "sorted" = none) (hms : X.mg "str" = none) (he : PE X e te) (TB : TabB X.base X.mg c P) (hcode : X.env.code = .ref c) (hT : (P, X.env.qual ++ "<lambda>") ∈ T) (hu : ∀ z ∈ T, z.1 = P → z.2 = X.env.qual ++ "<lambda>") (L : StrS sc y)
    (hbind : ∀ (q : Str) (cl : List (Str × Addr)) (pm cv ctv v : Value), bindArgs (PySem.W.kla_fn "<lambda>" q params (.Call (.Name "str" p1) [.Name y p2] [] p3) sc cl pm cv ctv) ⟨[v], []⟩ = pure [(y, v)] := by exact fun _ _ _ _ _ _ => rfl) (hdef : defaultsOf params X.env = ([], []) := by rfl) (hy : (y == ("__debug__" : Str)) = false := by decide)
    (e1 : backTo pos (starEach [e] X.env) = (false, eval e X.env) :: backTo pos (starEach [] X.env) := by rfl) (e2 : (backTo pos (starEach [e] X.env)).any (·.1) = false := by rfl) (hK : X.K = K := by rfl) :
    PE X (.Call (.Name "sorted" p) [e] [⟨some "key", .Lambda params (.Call (.Name "str" p1) [.Name y p2] [] p3) sc lpos, kp⟩] pos) (tSortS K P T te) := by
  subst hK
  exact pe_sortS g hr hg hm hms he TB hcode hT hu L hbind hdef hy e1 e2
end
/-! ### over the layer -/
def leA {α : Type} (dd : α → PyData) (a b : α) : Bool := decide ((dd a).shown.cps.toList ≤ (dd b).shown.cps.toList)
def sortA {α : Type} (dd : α → PyData) (xs : List α) : List α := xs.mergeSort (leA dd)
theorem leS_eq (a b : V × PyData) : leS a b = decide (a.2.shown.cps.toList ≤ b.2.shown.cps.toList) := by
  unfold leS
  rw [PySem.W.dataLe_str]
theorem all2_pick {α : Type} {R : Rl α} {S : Hp} : ∀ {L : List (α × V)}, (∀ z ∈ L, R z.1 z.2 S) → All2 R S (L.map (·.1)) (L.map (·.2))
  | [], _ => .nil
  | z :: L, h => .cons (h z List.mem_cons_self) (all2_pick fun y hy => h y (List.mem_cons_of_mem _ hy))
theorem all2_zip {α : Type} {R : Rl α} {S : Hp} : ∀ {xs : List α} {vs : List V}, All2 R S xs vs → ∀ z ∈ xs.zip vs, R z.1 z.2 S
  | _, _, .cons h t, z, hz => by
    rcases List.mem_cons.mp hz with rfl | hz
    · exact h
    · exact all2_zip t z hz
theorem all2_zmap {α : Type} {R : Rl α} {S : Hp} (dd : α → PyData) : ∀ {xs : List α} {vs : List V}, All2 R S xs vs → vs.zip (xs.map dd) = (xs.zip vs).map fun z => (z.2, dd z.1)
  | _, _, .nil => rfl
  | _, _, .cons h t => by
    rw [List.map_cons, List.zip_cons_cons, List.zip_cons_cons, List.map_cons, all2_zmap dd t]
theorem all2_zfst {α : Type} {R : Rl α} {S : Hp} : ∀ {xs : List α} {vs : List V}, All2 R S xs vs → (xs.zip vs).map (·.1) = xs
  | _, _, .nil => rfl
  | _, _, .cons h t => by rw [List.zip_cons_cons, List.map_cons, all2_zfst t]
theorem all2_sort {α : Type} {R : Rl α} {S : Hp} (dd : α → PyData) {xs : List α} {vs : List V} (h : All2 R S xs vs) : All2 R S (sortA dd xs) (sortS vs (xs.map dd)) := by
  unfold sortA sortS
  have e1 : ((xs.zip vs).mergeSort fun a b => leA dd a.1 b.1).map (·.1) = xs.mergeSort (leA dd) := by
    rw [List.map_mergeSort (s := leA dd) (f := fun z : α × V => z.1) (fun _ _ _ _ => rfl), all2_zfst h]
  have e2 : ((vs.zip (xs.map dd)).mergeSort leS).map (·.1) = ((xs.zip vs).mergeSort fun a b => leA dd a.1 b.1).map (·.2) := by
    rw [all2_zmap dd h, ← List.map_mergeSort (r := fun a b : α × V => leA dd a.1 b.1) (s := leS) (f := fun z : α × V => (z.2, dd z.1)) (fun a _ b _ => (leS_eq (a.2, dd a.1) (b.2, dd b.1)).symm), List.map_map]
    rfl
  rw [← e1, e2]
  exact all2_pick fun z hz => all2_zip h z ((List.mergeSort_perm _ _).mem_iff.mp hz)
theorem sort_uniq {α : Type} {dd : α → PyData} : ∀ {ys zs : List α}, ys.Perm zs → (ys.Pairwise fun a b => leA dd b a = false) → (zs.Pairwise fun a b => leA dd a b = true) → ys = zs
  | [], zs, hp, _, _ => hp.nil_eq
  | a :: ys, zs, hp, h1, h2 => by
    cases zs with
    | nil => exact absurd hp.length_eq (by simp)
    | cons b zs =>
      obtain ⟨ha, h1'⟩ := List.pairwise_cons.mp h1
      obtain ⟨hb, h2'⟩ := List.pairwise_cons.mp h2
      have e : b = a := by
        have hm : b ∈ a :: ys := hp.mem_iff.mpr List.mem_cons_self
        rcases List.mem_cons.mp hm with e | hm
        · exact e
        · have ma : a ∈ b :: zs := hp.mem_iff.mp List.mem_cons_self
          rcases List.mem_cons.mp ma with e | ma
          · exact e.symm
          · have := ha b hm
            rw [hb a ma] at this
            cases this
      subst e
      rw [sort_uniq (List.Perm.cons_inv hp) h1' h2']
theorem leA_total {α : Type} (dd : α → PyData) (a b : α) : (leA dd a b || leA dd b a) = true := by
  unfold leA
  rw [Bool.or_eq_true, decide_eq_true_eq, decide_eq_true_eq]
  exact List.le_total _ _
theorem leA_trans {α : Type} (dd : α → PyData) (a b c : α) (h1 : leA dd a b = true) (h2 : leA dd b c = true) : leA dd a c = true := by
  unfold leA at *
  rw [decide_eq_true_eq] at *
  exact List.le_trans h1 h2
/-- the only way to sort it -/
theorem sortA_is {α : Type} {dd : α → PyData} {xs ys : List α} (hp : ys.Perm xs) (h : ys.Pairwise fun a b => leA dd b a = false) : sortA dd xs = ys :=
  (sort_uniq (hp.trans (List.mergeSort_perm xs (leA dd)).symm) h (List.pairwise_mergeSort (fun a b c => leA_trans dd a b c) (fun a b => leA_total dd a b) xs)).symm
theorem sortA_mem {α : Type} {dd : α → PyData} {xs : List α} {x : α} : x ∈ sortA dd xs ↔ x ∈ xs := (List.mergeSort_perm xs (leA dd)).mem_iff
theorem sortA_perm {α : Type} {dd : α → PyData} {xs : List α} : (sortA dd xs).Perm xs := List.mergeSort_perm xs (leA dd)
section
variable {K : PySem.W.Frag} {r : Rs} {T : List (Addr × Str)} {S : Hp} {s : L2.St} {P : Addr} {q : Str} {te : TE} {α : Type} {R : Rl α}
theorem dpa_all {dd : α → PyData} (hd : ∀ a v S, R a v S → Dp K S v (dd a)) : ∀ {xs : List α} {vs : List V} {S : Hp}, All2 R S xs vs → DpAll K S vs (xs.map dd)
  | _, _, _, .nil => .nil
  | _, _, _, .cons h t => .cons (hd _ _ _ h) (dpa_all hd t)
theorem en_sortS [Rs.Plain r] [Mono R] (dd : α → PyData) (hd : ∀ a v S, R a v S → Dp K S v (dd a)) {xs : List α} (hk : ∀ x ∈ xs, KeyD (dd x)) (hP : (P, q) ∈ T) (h : EvS (r.tabs T) te s S fun v S1 => LstR R xs v S1) :
    EvN (r.tabs T) (tSortS K P T te) s S fun o S1 => ∃ ws, o = .lst ws ∧ All2 R S1 (sortA dd xs) ws := fun S1 H e w Q q' =>
  h S1 H e w _ fun v S2 H2 w2 s2 ⟨a, vs, ev, hl, hv⟩ => ⟨w2.inv.2, fun H3 k t3 => by
    obtain ⟨w3, s3⟩ := w2.grown hP k t3
    have hv3 := hv
    refine ⟨a, vs, xs.map dd, ev, SqL.of (w3.ex _ _ hl), dpa_up w3.ex _ _ (dpa_all hd hv), fun d hd' => ?_, fun p hp => ?_⟩
    · obtain ⟨x, hx, rfl⟩ := List.mem_map.mp hd'
      exact hk x hx
    · exact q' p _ S2 _ (pre_none (s2.trans s3) hp) upd_same (w3.fresh hp) (w3.new hp) ((s2.trans s3).trans (Stp.new hp)) ⟨_, rfl, all2_sort dd hv⟩⟩
end
end J

set_option pp.maxSteps 3000
/-! J58: o.m( *e), e a tuple. -/
namespace J
open PySem PySem.Spec PyProof.Rows L2 Evl RZ
def tMethS1 (K : PySem.W.Frag) (C : Addr) (m : Str) (g : Addr) (sp : Sp) (E : XK) (ta te : TE) : TE := tMethS K C m g (fun vs H Q E => sp (vs ++ []) H Q E) E ta te
theorem pe_methS1K {X : Cx} {K : PySem.W.Frag} {CX : CXT} {k : Nat} {C g : Addr} {m : Str} {fd : FuncData} {ps : List Str} {sp : Sp} {E : XK} {o e : Expr} {ta te : TE} {p apos pos : Pos} (he : PE X o ta) (c : Cls X.K C) (b : BMeth X.K C m g) (F : FnOk X.prog X.w X.K X.mg X.base CX k g fd ps sp) (hr : Room k X.A) (hb : Binds X.K fd ps [])
    (hx : Passes CX X E) (ha : PE X e te) (hbase : attributeBase o m X.env (eval o X.env) = eval o X.env := by rfl) (hK : X.K = K := by rfl) : PE X (.Call (.Attribute o m apos) [.Starred e p] [] pos) (tMethS1 K C m g sp E ta te) := by
  subst hK
  exact pe_methS he c b (F.raw hb .nil) hr hx ha hbase
section
variable {K : PySem.W.Frag} {r : Rs} {s : L2.St} {S : Hp} {ta te : TE}
theorem ev_methS1 {A : Type} {C g : Addr} {mn : Str} {pre : A → List V → Hp → Prop} {post : A → V → Hp → Prop} {E : XK} {Q1 : V → Hp → Prop} {P : List V → Hp → Prop} {R : V → Hp → Prop} (h : EvS r ta s S Q1) (h2 : ∀ S1, Ex S S1 → EvS r te s S1 fun y S2 => ∃ b vs, y = .ref b ∧ SqT K S2 b vs ∧ P vs S2)
    (hp : ∀ x vs S1 S2, Ex S S1 → Q1 x S1 → Ex S1 S2 → P vs S2 → ∃ a dx fs, x = .ref a ∧ S1 a = some (.ins C dx fs) ∧ fs.lookup mn = none ∧ ∃ b, pre b (x :: vs) S2 ∧ ∀ v S3, Ex S2 S3 → post b v S3 → R v S3)
    (hi : ∀ x S1, Ex S S1 → Q1 x S1 → ∃ a dx fs, x = .ref a ∧ S1 a = some (.ins C dx fs) ∧ fs.lookup mn = none) : EvS r (tMethS1 K C mn g (SpP pre post) E ta te) s S R := fun S1 H e w Q q =>
  h S1 H e w _ fun x S2 H2 w2 s2 hx => by
    obtain ⟨a, dx, fs, ex, ea, el⟩ := hi x S2 (e.trans s2.ex) hx
    subst ex
    refine ⟨a, dx, fs, rfl, w2.ex _ _ ea, el, fun p hp0 => ?_⟩
    have en : Ex S2 (upd S2 p (.met g a)) := Ex.new (w2.fresh hp0)
    refine h2 _ (e.trans (s2.ex.trans en)) _ _ (Ex.refl _) (w2.newS hp0) _ fun y S3 H3 w3 s3 ⟨b, vs, ey, hb, hv⟩ => ?_
    obtain ⟨a', dx', fs', e1', e2', e3', b', p1, p2⟩ := hp (.ref a) vs S2 S3 (e.trans s2.ex) hx (en.trans s3.ex) hv
    refine ⟨b, vs, ey, ex_t w3.ex hb, w3.ex _ _ (s3.ex _ _ upd_same), ?_⟩
    exact ⟨b', S3, by rw [List.append_nil]; exact p1, w3.ex, fun v S4 H4 w4 s4 p4 => q v S4 H4 (w3.lift w4 s4) ((s2.trans ((Stp.newS w2 hp0).trans s3)).trans s4.lift) (p2 v S4 s4.ex p4)⟩
end
end J

set_option pp.maxSteps 3000
/-! J59: not in a tuple of data; a comprehension whose tests are not known. -/
namespace J
open PySem PySem.Spec PyProof.Rows L2 Evl RZ
def rNotInDT (K : PySem.W.Frag) : R2 := fun x y H Q => ∃ d ds, Dp K H x d ∧ Dp K H y (.tuple ds) ∧ SeqAt.shaped d = true ∧ SeqAt.shaped (.tuple ds) = true ∧ Q (.bl (!ds.any fun z => PyData.eqv z d)) H
theorem op_notInDTK {X : Cx} {K : PySem.W.Frag} (hu : X.A.units + 65 < cLine) (hK : X.K = K := by rfl) : OpR X (compareOp .NotIn) (rNotInDT K) := by
  subst hK
  intro pins s σ H x y v u Q I rx ry h
  obtain ⟨d, ds, hd, he, sd, se, q⟩ := h
  obtain ⟨as, r1⟩ := Dp.reads I d x v hd rx
  obtain ⟨bs, r2⟩ := Dp.reads I (.tuple ds) y u he ry
  exact SeqAt.notIn_tuple_reads r2 r1 (by simpa [PyData.canLay0] using SeqAt.canLay_of_shaped se) (SeqAt.canLay_of_shaped sd) (PyProof.Rows.room_in_shaped sd hu) ⟨.bl _, H, I, rfl, q⟩
section
variable {K : PySem.W.Frag} {r : Rs} {s : L2.St} {S : Hp} {x y : V} {tt : TT} {α : Type}
theorem rs_notInDT {d : PyData} {ds : List PyData} (h1 : Dp K S x d) (h2 : Dp K S y (.tuple ds)) (s1 : SeqAt.shaped d = true) (s2 : SeqAt.shaped (.tuple ds) = true) : RVS (rNotInDT K) x y S (.bl (!ds.any fun z => PyData.eqv z d)) := fun H ex Q q => ⟨d, ds, dp_up ex _ _ h1, dp_up ex _ _ h2, s1, s2, q⟩
theorem rs_notInD {d : PyData} {ds : List PyData} (h1 : Dp K S x d) (h2 : Dp K S y (.list ds)) (s1 : SeqAt.shaped d = true) (s2 : SeqAt.shaped (.list ds) = true) : RVS (rNotInD K) x y S (.bl (!ds.any fun z => PyData.eqv z d)) := fun H ex Q q => ⟨d, ds, dp_up ex _ _ h1, dp_up ex _ _ h2, s1, s2, q⟩
/-- [x for x in ys if ..], the tests only told to be truth values: some of ys -/
theorem en_lcU {wi : TI} {j : Nat} {vs : List Nat} {ys : List α} {X : Rl α} [Mono X] (hi : EvI r wi s S ys X) (hz : ys.length ≤ 100000) (hw : ∀ v, wipe ((wipe s vs).set j (some v)) vs = wipe s vs) (hj : ∀ v, ((wipe s vs).set j (some v))[j]? = some (some v))
    (ht : ∀ y v S1, Ex S S1 → y ∈ ys → X y v S1 → EvTS r tt ((wipe s vs).set j (some v)) S1 fun _ _ => True) :
    EvN r (tLc wi (gName j) tt (tVar j) vs) s S fun o S1 => ∃ ws zs, o = .lst ws ∧ List.Sublist zs ys ∧ All2 X S1 zs ws := fun S1 H a w Q q =>
  hi S1 H a w _ fun J S2 H2 G Y w2 s2 wk hG hY D hD => by
    have hM : D ∉ r.M := w2.notM hD
    refine lc_it wk (fun i H' => ∃ S' ws zs, Wd r S' H' ∧ Stp r S2 H2 S' H' ∧ S' D = none ∧ H' D = some (.lst ws) ∧ List.Sublist zs (ys.take i) ∧ All2 X S' zs ws)
      ⟨S2, [], [], w2.new hD, Stp.new hD, w2.fresh hD, upd_same, List.nil_sublist _, .nil⟩ (fun i H' _ ⟨S', ws, zs, w', s', _⟩ => hG S' H' s'.ex w') ?_ ?_
    · rintro i v H' H'' hlt ⟨S', ws, zs, w', s', n', l', sb, a'⟩ y'
      obtain ⟨S3, y, g1, w3, s3, x3⟩ := hY i S' H' v H'' hlt s'.ex w' y'
      have ey : ys.take (i + 1) = ys.take i ++ [y] := by rw [List.take_add_one, g1]; rfl
      have e3 : Ex S S3 := a.trans (s2.ex.trans (s'.ex.trans s3.ex))
      have l3 : H'' D = some (.lst ws) := s3.kp D _ hM l'
      have n3 : S3 D = none := s3.fr D (ne_none l') n'
      refine ⟨hw v, ht y v S3 e3 (List.mem_of_getElem? g1) x3 S3 H'' (Ex.refl _) w3 _ fun b S4 H4 w4 s4 _ => ?_⟩
      have l4 : H4 D = some (.lst ws) := s4.kp D _ hM l3
      have n4 : S4 D = none := s4.fr D (ne_none l3) n3
      have s24 : Stp r S2 H2 S4 H4 := s'.trans (s3.trans s4)
      have a4 : All2 X S4 zs ws := a'.up (s3.ex.trans s4.ex)
      cases b with
      | true =>
        refine iteT ?_
        refine ⟨_, hj v, ws, l4, ?_, S4, ws ++ [v], zs ++ [y], w4.mut n4 hM (nco_lst l4), s24.mut hD, n4, upd_same, ?_, a4.append (.cons (Mono.up s4.ex x3) .nil)⟩
        · have h1 := a4.len
          have h2 := sb.length_le
          rw [List.length_take] at h2
          exact sz_lt (by omega)
        · rw [ey]
          exact sb.append (List.Sublist.refl _)
      | false =>
        refine iteF ?_
        exact ⟨S4, ws, zs, w4, s24, n4, l4, by rw [ey]; exact sb.trans (List.sublist_append_left _ _), a4⟩
    · rintro H' ⟨S', ws, zs, w', s', n', l', sb, a'⟩
      rw [List.take_length] at sb
      have h1 : H D = none := by
        cases e : H D with
        | none => rfl
        | some ob => exact absurd hD (s2.dm D (ne_none e))
      exact q D _ S' H' h1 l' n' w' (s2.trans s') ⟨ws, zs, rfl, sb, a'⟩
end
end J

/-! J61: a method called with keywords; a call of an own instance. -/
namespace J
open PySem PySem.Spec L2 Evl RZ
/-- o.m(e, .., k = e, ..) -/
def tMethN (C : Addr) (m : Str) (n j : Nat) (sp : Sp) (gV : List V → List V → List V) (E : XK) (ta : TE) (t tk : TA) : TE := fun σ H Q =>
  ta σ H fun x H1 => ∃ a dx fs, x = .ref a ∧ H1 a = some (.ins C dx fs) ∧ fs.lookup m = none ∧ t σ H1 fun vs H2 => tk σ H2 fun zs H3 => vs.length = n ∧ zs.length = j ∧ sp (gV (x :: vs) zs) H3 Q E
section
variable {X : Cx} {CX : CXT} {k n : Nat} {C f : Addr} {fd : FuncData} {ps ks : List Str} {sp : Sp} {E : XK} {m : Str} {apos pos : Pos} {o e : Expr} {es : List Expr} {kws : List Keyword} {ta : TE} {t tk : TA} {g : List Value → List Value → List Value} {gV : List V → List V → List V}
theorem pe_methN {pl : Sem Bool} (he : PE X o ta) (c : Cls X.K C) (hm : Meth X.K C m f) (F : FnOk X.prog X.w X.K X.mg X.base CX k f fd ps sp) (hr : Room k X.A) (hb : KBn X.K fd ps (n + 1) ks g gV) (hx : Passes CX X E) (ha : PA X (e :: es) t) (hkw : PK X kws tk)
    (hall : (backToKw pos (keywordEach kws X.env)).all (·.1.isSome) = true := by rfl) (hks : (backToKw pos (keywordEach kws X.env)).filterMap (·.1) = ks := by rfl) (hst : starEach (e :: es) X.env = (false, eval e X.env) :: starEach es X.env := by rfl)
    (hpl : ((backTo pos (starEach (e :: es) X.env)).any (·.1) || (backToKw pos (keywordEach kws X.env)).any (·.1.isNone)) = false := by rfl)
    (ht : eval (.Call (.Attribute o m apos) (e :: es) kws pos) X.env = (do
      let ov ← eval o X.env
      standAt apos.atName
      let (f, first) ← holding [ov] (getMethod ov m pl)
      callWith pos f first (backTo pos (starEach (e :: es) X.env)) (backToKw pos (keywordEach kws X.env))) := by rfl) :
    PE X (.Call (.Attribute o m apos) (e :: es) kws pos) (tMethN C m n ks.length sp gV E ta t tk) := by
  refine ⟨fun pins s σ H Q I h => ?_⟩
  refine PySem.W.methodCall_KW (pl := pl) (thn (he.run pins s σ H _ I h) fun u s1 ⟨x, H1, I1, rx, a, dx, fs, ex, ea, l, q⟩ => ?_) ht
  subst ex
  obtain rfl : u = Value.ref a := rx
  refine getmeth_ok I1 ea c hm l ?_
  refine PySem.W.callWith_KW (first := [.ref a]) (h₀ := X.base) I.ok.mod.kin hm.kp hall (thn (ha.run pos pins s1 σ H1 _ I1 q) fun us s2 ⟨vs, H2, I2, r, q2⟩ => ?_) hpl hst
  refine thn (hkw.run pos pins s2 σ H2 _ I2 q2) fun ws s3 ⟨zs, H3, I3, rz, l1, l2, q3⟩ => ⟨I3.kIn, ?_⟩
  rw [hks]
  exact run_fnN (us := .ref a :: us) (vs := .ref a :: vs) F hr hb hx I3 (.cons rfl r) rz (by rw [List.length_cons, l1]) l2 q3
end
section
variable {r : Rs} {s : L2.St} {S : Hp} {ta : TE} {ts tk : TA} {A : Type} {C : Addr} {mn : Str} {pre : A → List V → Hp → Prop} {post : A → V → Hp → Prop} {E : XK} {n j : Nat} {gV : List V → List V → List V}
theorem ev_methN {Q1 R : V → Hp → Prop} {vs zs : List V} (h : EvS r ta s S Q1) (h2 : EvAV r ts s S vs) (h3 : EvAV r tk s S zs) (l1 : vs.length = n) (l2 : zs.length = j) (hp : ∀ x S1 S2, Ex S S1 → Q1 x S1 → Ex S1 S2 → ∃ a dx fs, x = .ref a ∧ S1 a = some (.ins C dx fs) ∧ fs.lookup mn = none ∧ ∃ b, pre b (gV (x :: vs) zs) S2 ∧ ∀ v S3, Ex S2 S3 → post b v S3 → R v S3) : EvS r (tMethN C mn n j (SpP pre post) gV E ta ts tk) s S R := fun S1 H e w Q q =>
  h S1 H e w _ fun x S2 H2 w2 s2 ex => by
    obtain ⟨a, dx, fs, e1, e2, e3, _⟩ := hp x S2 S2 (e.trans s2.ex) ex (Ex.refl _)
    refine ⟨a, dx, fs, e1, w2.ex _ _ e2, e3, h2 S2 H2 (e.trans s2.ex) w2 _ fun us S3 H3 w3 s3 eu => h3 S3 H3 (e.trans (s2.ex.trans s3.ex)) w3 _ fun us' S4 H4 w4 s4 eu' => ?_⟩
    subst eu
    subst eu'
    obtain ⟨_, _, _, _, _, _, b, p1, p2⟩ := hp x S2 S4 (e.trans s2.ex) ex (s3.ex.trans s4.ex)
    exact ⟨l1, l2, b, S4, p1, w4.ex, fun u S5 H5 w5 s5 p5 => q u S5 H5 (w4.lift w5 s5) ((s2.trans s3).trans (s4.trans s5.lift)) (p2 u S5 s5.ex p5)⟩
end
end J
namespace J
open PySem PySem.Spec PyProof.Rows L2 Evl RZ
/-! x is not False, x of any kind -/
def rNotA : R2 := fun x y H Q => rNotU x y H Q ∨ ∃ b, y = .bl b ∧ Q (.bl (!decide (x = .bl b))) H
theorem op_notA {X : Cx} : OpR X (compareOp .IsNot) rNotA := OpR.or op_notU (by
  intro pins s σ H x y v u Q I rx ry h
  obtain ⟨b, rfl, q⟩ := h
  cases (show u = Value.bool b from ry)
  cases x with
  | bl a =>
    cases (show v = Value.bool a from rx)
    by_cases e : a = b
    · subst e
      exact wpAny_isNot_self rfl ⟨.bl false, H, I, rfl, by simpa using q⟩
    · exact wpAny_isNot_other rfl (fun z => e (Value.bool.inj z)) ⟨.bl true, H, I, rfl, by simpa [e] using q⟩
  | non =>
    cases rx
    exact wpAny_isNot_other rfl (fun z => nomatch z) ⟨.bl true, H, I, rfl, by simpa using q⟩
  | int i =>
    obtain ⟨t, rfl⟩ := rx
    exact wpAny_isNot_other rfl (fun z => nomatch z) ⟨.bl true, H, I, rfl, by simpa using q⟩
  | str z =>
    obtain ⟨t, rfl⟩ := rx
    exact wpAny_isNot_other rfl (fun z => nomatch z) ⟨.bl true, H, I, rfl, by simpa using q⟩
  | byt z =>
    obtain ⟨t, rfl⟩ := rx
    exact wpAny_isNot_other rfl (fun z => nomatch z) ⟨.bl true, H, I, rfl, by simpa using q⟩
  | flt z =>
    obtain ⟨t, rfl⟩ := rx
    exact wpAny_isNot_other rfl (fun z => nomatch z) ⟨.bl true, H, I, rfl, by simpa using q⟩
  | ref a =>
    cases rx
    exact wpAny_isNot_other rfl (fun z => nomatch z) ⟨.bl true, H, I, rfl, by simpa using q⟩
  | ty n =>
    cases rx
    exact wpAny_isNot_other rfl (fun z => nomatch z) ⟨.bl true, H, I, rfl, by simpa using q⟩)
theorem rs_notA {x : V} {b : Bool} {S : Hp} : RVS rNotA x (.bl b) S (.bl (!decide (x = .bl b))) := fun H _ Q q => .inr ⟨b, rfl, q⟩
theorem rs_notAN {x : V} {S : Hp} : RVS rNotA x .non S (.bl (!decide (x = .non))) := fun H _ Q q => .inl (.inl ⟨rfl, q⟩)
/-! a call of an own instance -/
section
variable {r : Rs} {s : L2.St} {S : Hp} {tf : TE} {ts : TA} {A B : Type} {X : Cx} {C : Addr} {pre : A → List V → Hp → Prop} {post : A → V → Hp → Prop} {E : XK}
theorem ev_callO {Q1 R : V → Hp → Prop} {vs : List V} (h : EvS r tf s S Q1) (h2 : EvAV r ts s S vs) (hp : ∀ x S1 S2, Ex S S1 → Q1 x S1 → Ex S1 S2 → ∃ a dx fs, x = .ref a ∧ S1 a = some (.ins C dx fs) ∧ ∃ b, pre b (x :: vs ++ []) S2 ∧ ∀ v S3, Ex S2 S3 → post b v S3 → R v S3) : EvS r (StX.tCallO X C (fun vs H Q E => SpP pre post (vs ++ []) H Q E) E tf ts) s S R := fun S1 H e w Q q =>
  h S1 H e w _ fun x S2 H2 w2 s2 ex => by
    obtain ⟨a, dx, fs, e1, e2, _⟩ := hp x S2 S2 (e.trans s2.ex) ex (Ex.refl _)
    refine ⟨a, e1, h2 S2 H2 (e.trans s2.ex) w2 _ fun us S3 H3 w3 s3 eu => ?_⟩
    subst eu
    subst e1
    obtain ⟨a', dx', fs', e1', e2', b, p1, p2⟩ := hp (.ref a) S2 S3 (e.trans s2.ex) ex s3.ex
    exact ⟨.inr ⟨dx, fs, w3.ex _ _ (s3.ex _ _ e2)⟩, b, S3, p1, w3.ex, fun u S4 H4 w4 s4 p4 => q u S4 H4 (w3.lift w4 s4) ((s2.trans s3).trans s4.lift) (p2 u S4 s4.ex p4)⟩
theorem ex_callO {CE : Addr} {fld : Str} {Bx : Type} {prex : Bx → List V → Hp → Prop} {val : Bx → V → Hp → Prop} {sp : Sp} (hsp : ∀ vs H Q E, SpX CE fld prex val vs H Q E → sp vs H Q E) {Q1 R : V → Hp → Prop} {vs : List V} (h : EvS r tf s S Q1) (h2 : EvAV r ts s S vs) (hp : ∀ x S1 S2, Ex S S1 → Q1 x S1 → Ex S1 S2 → ∃ a dx fs, x = .ref a ∧ S1 a = some (.ins C dx fs) ∧ ∃ b, prex b (x :: vs ++ []) S2 ∧ ∀ v S3, Ex S2 S3 → val b v S3 → R v S3) : EvX E CE fld r (StX.tCallO X C (fun vs H Q E => sp (vs ++ []) H Q E) E tf ts) s S R := fun S1 H e w k Q =>
  h S1 H e w _ fun x S2 H2 w2 s2 ex => by
    obtain ⟨a, dx, fs, e1, e2, _⟩ := hp x S2 S2 (e.trans s2.ex) ex (Ex.refl _)
    refine ⟨a, e1, h2 S2 H2 (e.trans s2.ex) w2 _ fun us S3 H3 w3 s3 eu => ?_⟩
    subst eu
    subst e1
    obtain ⟨a', dx', fs', e1', e2', b, p1, p2⟩ := hp (.ref a) S2 S3 (e.trans s2.ex) ex s3.ex
    exact ⟨.inr ⟨dx, fs, w3.ex _ _ (s3.ex _ _ e2)⟩, hsp _ _ _ _ ⟨b, S3, p1, w3.bare, fun v d4 S4 H4 w4 s4 hv hd => k v d4 S4 H4 (w3.lift w4 s4) ((s2.trans s3).trans s4.lift) (p2 d4 S4 s4.ex hv) hd⟩⟩
theorem ex_methN {CE : Addr} {fld mn : Str} {n j : Nat} {gV : List V → List V → List V} {ta : TE} {tk : TA} {Bx : Type} {prex : Bx → List V → Hp → Prop} {val : Bx → V → Hp → Prop} {sp : Sp} (hsp : ∀ vs H Q E, SpX CE fld prex val vs H Q E → sp vs H Q E) {Q1 R : V → Hp → Prop} {vs zs : List V} (h : EvS r ta s S Q1) (h2 : EvAV r ts s S vs) (h3 : EvAV r tk s S zs) (l1 : vs.length = n) (l2 : zs.length = j) (hp : ∀ x S1 S2, Ex S S1 → Q1 x S1 → Ex S1 S2 → ∃ a dx fs, x = .ref a ∧ S1 a = some (.ins C dx fs) ∧ fs.lookup mn = none ∧ ∃ b, prex b (gV (x :: vs) zs) S2 ∧ ∀ v S3, Ex S2 S3 → val b v S3 → R v S3) : EvX E CE fld r (tMethN C mn n j sp gV E ta ts tk) s S R := fun S1 H e w k Q =>
  h S1 H e w _ fun x S2 H2 w2 s2 ex => by
    obtain ⟨a, dx, fs, e1, e2, e3, _⟩ := hp x S2 S2 (e.trans s2.ex) ex (Ex.refl _)
    refine ⟨a, dx, fs, e1, w2.ex _ _ e2, e3, h2 S2 H2 (e.trans s2.ex) w2 _ fun us S3 H3 w3 s3 eu => h3 S3 H3 (e.trans (s2.ex.trans s3.ex)) w3 _ fun us' S4 H4 w4 s4 eu' => ?_⟩
    subst eu
    subst eu'
    obtain ⟨_, _, _, _, _, _, b, p1, p2⟩ := hp x S2 S4 (e.trans s2.ex) ex (s3.ex.trans s4.ex)
    exact ⟨l1, l2, hsp _ _ _ _ ⟨b, S4, p1, w4.bare, fun v d5 S5 H5 w5 s5 hv hd => k v d5 S5 H5 (w4.lift w5 s5) ((s2.trans s3).trans (s4.trans s5.lift)) (p2 d5 S5 s5.ex hv) hd⟩⟩
end
end J

/-! J62: words over the signs a, b, c; methods with defaults. -/
namespace J
open PySem PySem.Spec PyProof.Rows L2 Evl RZ
/-- the word whose signs are 97 + i -/
def wS (l : List Nat) : Str := ⟨(l.map (97 + ·)).toArray⟩
def lettersS (w : Nat) : Str := cutS ("abc" : Str) none (some (w : Int))
theorem wS_len (l : List Nat) : (wS l).length = l.length := by
  show (l.map (97 + ·)).toArray.size = _
  rw [List.size_toArray, List.length_map]
theorem wS_cps (l : List Nat) : (wS l).cps.toList = l.map (97 + ·) := rfl
theorem abc_at : ∀ i, i < 3 → Builtin.Str.occurrences ("abc" : Str) ⟨#[97 + i]⟩ 0 ("abc" : Str).length 1 = [i] := by decide +kernel
theorem letters_in : ∀ w, w < 4 → ∀ c, c < 128 → (!(Builtin.Str.occurrences (lettersS w) ⟨#[c]⟩ 0 (lettersS w).length 1).isEmpty) = (decide (97 ≤ c) && decide (c < 97 + w)) := by decide +kernel
theorem letters_cps : ∀ w, w < 4 → (lettersS w).cps.toList = (List.range w).map (97 + ·) := by decide +kernel
theorem letters_len : ∀ w, w < 4 → (lettersS w).length = w := by decide +kernel
theorem glue_cps (gl : Str) (hg : gl.cps = #[]) : ∀ (l : List Nat) (acc : Array Nat), ((l.map fun i => (⟨#[97 + i]⟩ : Str)).foldl (fun acc p => acc ++ gl.cps ++ p.cps) acc) = acc ++ (l.map (97 + ·)).toArray
  | [], acc => by simp
  | i :: l, acc => by
    rw [List.map_cons, List.foldl_cons, glue_cps gl hg l, hg]
    simp
theorem join_signs (l : List Nat) : PySem.Txt.join ("" : Str) (l.map fun i => (⟨#[97 + i]⟩ : Str)) = wS l := by
  show Builtin.Str.glued _ _ = _
  unfold Builtin.Str.glued wS
  cases l with
  | nil => rfl
  | cons i l =>
    congr 1
    rw [List.map_cons, List.drop_succ_cons, List.drop_zero, List.headD_cons, glue_cps _ (by decide +kernel), List.map_cons]
    simp
/-- a call of an own instance: the reading names no scope, so that a lambda's body may hold it -/
def tCallW (C : Addr) (sp : Sp) (E : XK) (tf : TE) (t : TA) : TE := fun σ H Q => tf σ H fun y H1 => ∃ a, y = V.ref a ∧ t σ H1 fun vs H2 => ((∃ dx vs, SlX.Slt H2 a C dx vs) ∨ ∃ dx fs, H2 a = some (.ins C dx fs)) ∧ sp (V.ref a :: vs) H2 Q E
section
variable {X : Cx} {CX : CXT} {k : Nat} {C g : Addr} {sp : Sp} {E : XK} {e fe : Expr} {es : List Expr} {tf : TE} {t : TA} {pos : Pos}
theorem pe_callW (hf : PE X fe tf) (c : StX.CallO X.K C g) (F : FnR X.prog X.w X.K X.mg X.base CX k g sp) (hr : Room k X.A) (hx : Passes CX X E) (ha : PA X (e :: es) t)
    (ht : eval (.Call fe (e :: es) [] pos) X.env = (do callWith pos (← eval fe X.env) [] (backTo pos (starEach (e :: es) X.env)) (backToKw pos (keywordEach [] X.env))) := by rfl)
    (he : starEach (e :: es) X.env = (false, eval e X.env) :: starEach es X.env := by rfl) (hpl : (backTo pos (starEach es X.env)).any (·.1) = false := by rfl) : PE X (.Call fe (e :: es) [] pos) (tCallW C sp E tf t) := StX.pe_callO hf c F hr hx ha ht he hpl
end
section
variable {r : Rs} {s : L2.St} {S : Hp} {tf : TE} {ts : TA} {A B : Type} {C : Addr} {pre : A → List V → Hp → Prop} {post : A → V → Hp → Prop} {E : XK}
theorem ev_callW {Q1 R : V → Hp → Prop} {vs : List V} (h : EvS r tf s S Q1) (h2 : EvAV r ts s S vs) (hp : ∀ x S1 S2, Ex S S1 → Q1 x S1 → Ex S1 S2 → ∃ a dx fs, x = .ref a ∧ S1 a = some (.ins C dx fs) ∧ ∃ b, pre b (x :: vs ++ []) S2 ∧ ∀ v S3, Ex S2 S3 → post b v S3 → R v S3) : EvS r (tCallW C (fun vs H Q E => SpP pre post (vs ++ []) H Q E) E tf ts) s S R := fun S1 H e w Q q =>
  h S1 H e w _ fun x S2 H2 w2 s2 ex => by
    obtain ⟨a, dx, fs, e1, e2, _⟩ := hp x S2 S2 (e.trans s2.ex) ex (Ex.refl _)
    refine ⟨a, e1, h2 S2 H2 (e.trans s2.ex) w2 _ fun us S3 H3 w3 s3 eu => ?_⟩
    subst eu
    subst e1
    obtain ⟨_, _, _, _, _, b, p1, p2⟩ := hp (.ref a) S2 S3 (e.trans s2.ex) ex s3.ex
    exact ⟨.inr ⟨dx, fs, w3.ex _ _ (s3.ex _ _ e2)⟩, b, S3, p1, w3.ex, fun u S4 H4 w4 s4 p4 => q u S4 H4 (w3.lift w4 s4) ((s2.trans s3).trans s4.lift) (p2 u S4 s4.ex p4)⟩
theorem ex_callW {CE : Addr} {fld : Str} {Bx : Type} {prex : Bx → List V → Hp → Prop} {val : Bx → V → Hp → Prop} {sp : Sp} (hsp : ∀ vs H Q E, SpX CE fld prex val vs H Q E → sp vs H Q E) {Q1 R : V → Hp → Prop} {vs : List V} (h : EvS r tf s S Q1) (h2 : EvAV r ts s S vs) (hp : ∀ x S1 S2, Ex S S1 → Q1 x S1 → Ex S1 S2 → ∃ a dx fs, x = .ref a ∧ S1 a = some (.ins C dx fs) ∧ ∃ b, prex b (x :: vs ++ []) S2 ∧ ∀ v S3, Ex S2 S3 → val b v S3 → R v S3) : EvX E CE fld r (tCallW C (fun vs H Q E => sp (vs ++ []) H Q E) E tf ts) s S R := fun S1 H e w k Q =>
  h S1 H e w _ fun x S2 H2 w2 s2 ex => by
    obtain ⟨a, dx, fs, e1, e2, _⟩ := hp x S2 S2 (e.trans s2.ex) ex (Ex.refl _)
    refine ⟨a, e1, h2 S2 H2 (e.trans s2.ex) w2 _ fun us S3 H3 w3 s3 eu => ?_⟩
    subst eu
    subst e1
    obtain ⟨_, _, _, _, _, b, p1, p2⟩ := hp (.ref a) S2 S3 (e.trans s2.ex) ex s3.ex
    exact ⟨.inr ⟨dx, fs, w3.ex _ _ (s3.ex _ _ e2)⟩, hsp _ _ _ _ ⟨b, S3, p1, w3.bare, fun v d4 S4 H4 w4 s4 hv hd => k v d4 S4 H4 (w3.lift w4 s4) ((s2.trans s3).trans s4.lift) (p2 d4 S4 s4.ex hv) hd⟩⟩
end
/-- a text times a number -/
def rMulS : R2 := fun x y H Q => ∃ a n, x = .str a ∧ y = .int n ∧ MulOk a n ∧ Q (.str (PySem.Txt.mul a n)) H
theorem op_mulS {X : Cx} : OpR X (binaryOp .Mult) rMulS := by
  intro pins s σ H x y v u Q I rx ry h
  obtain ⟨a, n, rfl, rfl, ok, q⟩ := h
  obtain ⟨t, rfl⟩ := rx
  obtain ⟨t', rfl⟩ := ry
  exact PySem.SB.mul ok fun t' k => ⟨.str (PySem.Txt.mul a n), H, I.tok _, ⟨_, rfl⟩, q⟩
/-- a sign, told by its number -/
def SgR : Rl Nat := fun i v _ => v = .str ⟨#[97 + i]⟩
instance : Mono SgR := ⟨fun _ h => h⟩
section
variable {r : Rs} {s : L2.St} {S S' H : Hp} {ta tb te : TE} {ts : TA} {K : PySem.W.Frag} {v : V}
/-- c in letters -/
theorem vv_inLet {w c : Nat} (hw : w < 4) (hc : c < 128) (h : EvV r ta s S (.str ⟨#[c]⟩)) (h2 : EvV r tb s S (.str (lettersS w))) : EvV r (tOp (rInU K) ta tb) s S (.bl (decide (97 ≤ c) && decide (c < 97 + w))) :=
  vv_op h h2 fun H _ Q q => .inr ⟨_, _, rfl, rfl, by
    rw [letters_in w hw c hc]
    exact q⟩
theorem vv_cutAbc {w : Nat} {tl th : TO} (h : EvV r te s S (.str ("abc" : Str))) (hl : ∀ H Q, Q none H → tl s H Q) (hh : ∀ S1 H, Ex S S1 → Wd r S1 H → ∀ Q : Option Int → Hp → Prop, (∀ S2 H2, Wd r S2 H2 → Stp r S1 H S2 H2 → Q (some (w : Int)) H2) → th s H Q) : EvV r (tSl (rSlU K) te tl th) s S (.str (lettersS w)) := fun S1 H e w1 Q q =>
  h S1 H e w1 _ fun x S2 H2 w2 s2 ex => hl _ _ (hh S2 H2 (e.trans s2.ex) w2 _ fun S3 H3 w3 s3 => by
    subst ex
    exact .inr ⟨_, rfl, by decide +kernel, q _ S3 H3 w3 (s2.trans s3) rfl⟩)
/-- 'abc'.index(c) -/
theorem vv_idxAbc {i : Nat} (hi : i < 3) (h : EvV r ta s S (.str ("abc" : Str))) (h2 : EvV r tb s S (.str ⟨#[97 + i]⟩)) : EvV r (tBM K "str" (fun x xs H Q => ∃ a b i rest, x = .str a ∧ xs = [.str b] ∧ Builtin.Str.occurrences a b 0 a.length 1 = i :: rest ∧ Q (.int (i : Nat)) H) ta (tCons tb tNil)) s S (.int (i : Int)) := fun S1 H e w Q q =>
  h S1 H e w _ fun x S2 H2 w2 s2 ex => by
    subst ex
    refine ⟨rfl, (va_cons h2 va_nil : EvAV r (tCons tb tNil) s S _) S2 H2 (e.trans s2.ex) w2 _ fun us S3 H3 w3 s3 eu => ?_⟩
    subst eu
    exact ⟨_, _, i, [], rfl, rfl, abc_at i hi, q _ S3 H3 w3 (s2.trans s3) rfl⟩
/-- ''.join(a list of signs) -/
theorem ev_joinW {P : List Nat → Prop} (h : EvS r te s S fun v S1 => ∃ l, LstR SgR l v S1 ∧ l.length ≤ 1000 ∧ P l) (h0 : EvV r ta s S (.str ("" : Str))) : EvS r (tBM K "str" (fun x xs H Q => ∃ a p, ∃ ys : List Str, x = .str a ∧ xs = [.ref p] ∧ (SqL K H p (ys.map V.str) ∨ SqT K H p (ys.map V.str)) ∧ (ys.map (·.length)).sum + ys.length * a.length ≤ 16777216 ∧ Q (.str (PySem.Txt.join a ys)) H) ta (tCons te tNil)) s S fun v _ => ∃ l, v = .str (wS l) ∧ P l := fun S1 H e w Q q =>
  h0 S1 H e w _ fun x S2 H2 w2 s2 ex => by
    subst ex
    refine ⟨rfl, h S2 H2 (e.trans s2.ex) w2 _ fun u S3 H3 w3 s3 ⟨l, ⟨a, vs, eu, ha, hv⟩, hl, hp⟩ => ?_⟩
    subst eu
    have ev : vs = (l.map fun i => (⟨#[97 + i]⟩ : Str)).map V.str := by
      have : ∀ (l : List Nat) (vs : List V), All2 SgR S3 l vs → vs = (l.map fun i => (⟨#[97 + i]⟩ : Str)).map V.str := by
        intro l
        induction l with
        | nil => intro vs h; cases h; rfl
        | cons i l ih =>
          intro vs h
          cases h with
          | cons h1 h2 =>
            rw [List.map_cons, List.map_cons, ← ih _ h2]
            exact congrArg (· :: _) h1
      exact this l vs hv
    subst ev
    refine ⟨_, a, l.map fun i => (⟨#[97 + i]⟩ : Str), rfl, rfl, .inl (SqL.of (w3.ex _ _ ha)), ?_, q _ S3 H3 w3 (s2.trans s3) ⟨l, by rw [join_signs], hp⟩⟩
    have e1 : ((l.map fun i => (⟨#[97 + i]⟩ : Str)).map (·.length)).sum = l.length := by
      clear hv hl hp ha
      induction l with
      | nil => rfl
      | cons i l ih =>
        rw [List.map_cons, List.map_cons, List.sum_cons, ih, List.length_cons]
        show 1 + _ = _
        omega
    rw [e1, List.length_map, show (("" : Str)).length = 0 from by decide +kernel]
    omega
/-- one sign of a text, by its place -/
theorem vv_ixStr {z : Str} {i : Int} {j c : Nat} (h : EvV r ta s S (.str z)) (h2 : EvV r tb s S (.int i)) (hz : z.length ≤ 1000) (e : i = (j : Int)) (hc : z.cps.toList[j]? = some c) : EvV r (tOp (rIx K) ta tb) s S (.str ⟨#[c]⟩) :=
  vv_op h h2 fun H _ Q q => .inr (.inr ⟨z, i, c, rfl, rfl, sz_of (by omega), by rw [e]; exact atI_nat hc, q⟩)
theorem vv_mulS {a z : Str} {n : Int} (h : EvV r ta s S (.str a)) (h2 : EvV r tb s S (.int n)) (ok : MulOk a n) (e : PySem.Txt.mul a n = z) : EvV r (tOp rMulS ta tb) s S (.str z) :=
  vv_op h h2 fun H _ Q q => ⟨a, n, rfl, rfl, ok, by rw [e]; exact q⟩
theorem vv_addS {a b z : Str} (h : EvV r ta s S (.str a)) (h2 : EvV r tb s S (.str b)) (hz : a.length + b.length ≤ 100000) (e : a ++ b = z) : EvV r (tOp (rAddU K) ta tb) s S (.str z) :=
  vv_op h h2 fun H _ Q q => .inl (.inr ⟨a, b, rfl, rfl, sz_of hz, by rw [e]; exact q⟩)
theorem vv_cutS {z : Str} {lo : Int} {tl th : TO} (h : EvV r te s S (.str z)) (hz : z.length ≤ 100000) (hl : ∀ S1 H, Ex S S1 → Wd r S1 H → ∀ Q : Option Int → Hp → Prop, (∀ S2 H2, Wd r S2 H2 → Stp r S1 H S2 H2 → Q (some lo) H2) → tl s H Q) (hh : ∀ H Q, Q none H → th s H Q) : EvV r (tSl (rSlU K) te tl th) s S (.str (cutS z (some lo) none)) := fun S1 H e w1 Q q =>
  h S1 H e w1 _ fun x S2 H2 w2 s2 ex => hl S2 H2 (e.trans s2.ex) w2 _ fun S3 H3 w3 s3 => hh _ _ (by
    subst ex
    exact .inr ⟨_, rfl, sz_of hz, q _ S3 H3 w3 (s2.trans s3) rfl⟩)
theorem ex_makeW {C CE : Addr} {fld : Str} {B : Type} {pre : B → List V → Hp → Prop} {val : B → V → Hp → Prop} {R : V → Hp → Prop} {E : XK} {us dvs : List V} {sp : Sp} (hsp : ∀ vs H Q E, SpXi CE fld pre val vs H Q E → sp vs H Q E) (b : B) (h : EvAV r ts s S us) (hp : ∀ S1, Ex S S1 → pre b (us ++ dvs) S1) (hq : ∀ v S1, Ex S S1 → val b v S1 → R v S1) : EvX E CE fld r (tMake C sp dvs E ts) s S R := fun S1 H e w k Q =>
  h S1 H e w _ fun us' S2 H2 w2 s2 p x dx hx hdx ne => by
    subst p
    have hx1 : (upd H2 dx (.own x)) x = none := by
      rw [upd_ne ne.symm]
      exact hx
    have w3 : Wd r S2 (upd (upd H2 dx (.own x)) x (.ins C dx [])) := (w2.new hdx).new hx1
    have s3 : Stp r S2 H2 S2 (upd (upd H2 dx (.own x)) x (.ins C dx [])) := (Stp.new hdx).trans (Stp.new hx1)
    exact hsp _ _ _ _ ⟨b, S2, ⟨x, _, rfl, hp S2 (e.trans s2.ex)⟩, w3.bare, fun d v S4 H4 w4 s4 hv hd => k d v S4 H4 (w3.lift w4 s4) ((s2.trans s3).trans s4.lift) (hq v S4 (e.trans (s2.ex.trans s4.ex)) hv) hd⟩
/-- a method with defaults -/
theorem ev_methD {A : Type} {C : Addr} {mn : Str} {pre : A → List V → Hp → Prop} {post : A → V → Hp → Prop} {E : XK} {Q1 : V → Hp → Prop} {R : V → Hp → Prop} {vs dvs : List V} (h : EvS r ta s S Q1) (h2 : EvAV r ts s S vs)
    (hp : ∀ x S1 S2, Ex S S1 → Q1 x S1 → Ex S1 S2 → ∃ a dx fs, x = .ref a ∧ S1 a = some (.ins C dx fs) ∧ fs.lookup mn = none ∧ ∃ b, pre b (x :: (vs ++ dvs)) S2 ∧ ∀ v S3, Ex S2 S3 → post b v S3 → R v S3) : EvS r (tMeth C mn (SpP pre post) dvs E ta ts) s S R := fun S1 H e w Q q =>
  h S1 H e w _ fun x S2 H2 w2 s2 hx => by
    obtain ⟨a, dx, fs, e1, e2, e3, _⟩ := hp x S2 S2 (e.trans s2.ex) hx (Ex.refl _)
    subst e1
    refine ⟨a, dx, fs, rfl, w2.ex _ _ e2, e3, h2 S2 H2 (e.trans s2.ex) w2 _ fun us S3 H3 w3 s3 eu => ?_⟩
    subst eu
    obtain ⟨_, _, _, _, _, _, b, p1, p2⟩ := hp (.ref a) S2 S3 (e.trans s2.ex) hx s3.ex
    exact ⟨b, S3, p1, w3.ex, fun v S4 H4 w4 s4 p4 => q v S4 H4 (w3.lift w4 s4) ((s2.trans s3).trans s4.lift) (p2 v S4 s4.ex p4)⟩
theorem ex_methD {C CE : Addr} {fld mn : Str} {B : Type} {pre : B → List V → Hp → Prop} {val : B → V → Hp → Prop} {sp : Sp} (hsp : ∀ vs H Q E, SpX CE fld pre val vs H Q E → sp vs H Q E) {E : XK} {Q1 : V → Hp → Prop} {R : V → Hp → Prop} {vs dvs : List V} (h : EvS r ta s S Q1) (h2 : EvAV r ts s S vs)
    (hp : ∀ x S1 S2, Ex S S1 → Q1 x S1 → Ex S1 S2 → ∃ a dx fs, x = .ref a ∧ S1 a = some (.ins C dx fs) ∧ fs.lookup mn = none ∧ ∃ b, pre b (x :: (vs ++ dvs)) S2 ∧ ∀ v S3, Ex S2 S3 → val b v S3 → R v S3) : EvX E CE fld r (tMeth C mn sp dvs E ta ts) s S R := fun S1 H e w k Q =>
  h S1 H e w _ fun x S2 H2 w2 s2 hx => by
    obtain ⟨a, dx, fs, e1, e2, e3, _⟩ := hp x S2 S2 (e.trans s2.ex) hx (Ex.refl _)
    subst e1
    refine ⟨a, dx, fs, rfl, w2.ex _ _ e2, e3, h2 S2 H2 (e.trans s2.ex) w2 _ fun us S3 H3 w3 s3 eu => ?_⟩
    subst eu
    obtain ⟨_, _, _, _, _, _, b, p1, p2⟩ := hp (.ref a) S2 S3 (e.trans s2.ex) hx s3.ex
    exact hsp _ _ _ _ ⟨b, S3, p1, w3.bare, fun v d4 S4 H4 w4 s4 hv hd => k v d4 S4 H4 (w3.lift w4 s4) ((s2.trans s3).trans s4.lift) (p2 d4 S4 s4.ex hv) hd⟩
end
end J

/-! J63: dicts whose keys are tuples: one pair displayed; sorted(d, key=lambda x: str(x)). -/
namespace PySem.W
open PySem PyProof.Rows
section
variable {β : Type} {R : Value → β → Prop} {bs : List β} {vs : List Value} {prog : Program} {w : World} {A : Around} {E : Value → Shared → Prop} {s : Shared}
theorem sorted_key_src {T : String} {r d : Addr} {n : Nat} {P : Nat → Value → Prop} {OK : Heap → Prop} {f : Value} {kw : List (Str × Value)} {b : Bool} {Q : Value → Shared → Prop} (k : β → PyData) (S : KdlSrc prog w T r d n P OK) (hh : A.handled = none) (hok : OK s.heap) (hn : n ≤ sizeLine) (hvs : ∀ acc, ItemsOf P acc n → acc.toList = vs) (e : EachIs R vs bs) (hal : AllAlike (bs.map k)) (hk : Sortable (bs.map k)) (hL : bs.length ≤ sizeLine)
    (hu : ∀ x, x ∈ bs → A.units + 2 + (k x).depth < cLine) (ha1 : argsOk "sorted" ⟨[.ref r], kw⟩) (ha2 : ∀ x, argsOk "list.sort" ⟨[.ref x], kw⟩) (ht : ∀ x, Builtin.«list.sort» ⟨[.ref x], kw⟩ = ksk_tree x f b)
    (turn : ∀ (v : Value) (x : β), R v x → x ∈ bs → ∀ (h : Heap) (tk : Nat), (∀ b o, s.heap.get? b = some o → h.get? b = some o) →
      wpAny (model prog w) A.in1.in1 (call f [v]) (KeyPure (k x) { s with heap := h, toks := tk }) (fun _ _ => False) { s with heap := h, toks := tk })
    (h : ∀ D out c h' tk, (∀ b o, s.heap.get? b = some o → h'.get? b = some o) → s.heap.get? D = none → h'.get? D = some (seqObj "list" (List.toArray out) c) → out.length = bs.length → EachIs R out (bs.mergeSort (dataLe b k)) →
      Q (.ref D) { s with heap := h', toks := tk }) :
    wpAny (model prog w) A (call (.builtin "sorted") [.ref r] kw) Q E s := by
  refine call_function_entry_kw kind_sorted plain_sorted entry_sorted ha1 ?_
  unfold Builtin.«sorted»
  refine wpAny_bind (m := checkCount "sorted" 1 1 _) (wpAny_pure ?_)
  refine wpAny_bind (kdu_collect (A := A.in1) S hh hok hn fun h1 tk1 acc hkp hacc => ?_)
  rw [hvs acc hacc]
  have hz : vs.length ≤ sizeLine := by rw [e.length]; exact hL
  have fresh : s.heap.get? h1.objs.size = none := by
    cases q : s.heap.get? h1.objs.size with
    | none => rfl
    | some u => exact absurd (Heap.lt_size (hkp _ _ q)) (Nat.lt_irrefl _)
  have up : ∀ {g : Heap}, KeepsBut h1.objs.size (h1.push { cls := .type "list", data := .seq vs.toArray }) g → ∀ b o, s.heap.get? b = some o → g.get? b = some o := fun {g} kp b o q =>
    kp b o (Nat.ne_of_lt (Heap.lt_size (hkp _ _ q))) (Heap.get?_push_of_some _ (hkp _ _ q))
  refine wpAny_bind (wpAny_newList ?_ hz)
  refine wpAny_bind (wpAny_holding (wpAny_call_entry_kw slot_list_sort ⟨_, Heap.get?_push_size _ rfl, rfl⟩ entry_list_sort ?body (ha2 _)))
  case body =>
    show wpAny (model prog w) A.in1.in1 (Builtin.«list.sort» ⟨[.ref h1.objs.size], kw⟩) _ _ _
    rw [ht]
    refine keyH_tree (kz := bs.map k) (s := { s with heap := h1.push { cls := .type "list", data := .seq vs.toArray }, toks := tk1 }) (Heap.get?_push_size _ rfl) (by rw [List.length_map]; exact e.length.symm) hz hal hk (bound_map (A := A.in1.in1) hu)
      (keyH_turns (s := { s with heap := h1.push { cls := .type "list", data := .seq vs.toArray }, toks := tk1 }) e fun v x hR hx h tk kp => turn v x hR hx h tk (up kp)) fun h' tk out c kp hD ko => ⟨_, rfl, wpAny_pure ⟨_, rfl, ?_⟩⟩
    exact h _ out c h' tk (up kp) fresh hD ((ko.length (by rw [List.length_map]; exact e.length.symm)).trans e.length) (keyedOut_each k ko e)
end
end PySem.W
namespace J
open PySem PySem.Spec PyProof.Rows L2 Evl RZ LamX
theorem objOk_get {P : Program} {w : World} {H : Hp} {h : Heap} {a : Addr} {o : HO} (x : ObjOk P w H h a o) : ∃ u, h.get? a = some u := by
  cases o with
  | lst xs => obtain ⟨z, its, n, r, e⟩ := x; exact ⟨_, e⟩
  | tup xs => obtain ⟨z, its, r, ob, e, c⟩ := x; exact ⟨_, e⟩
  | dK kvs => obtain ⟨z, y, vs, r, ob, es, ep, e, c⟩ := x; exact ⟨_, e⟩
  | dT kvs => obtain ⟨z, y, xs, r, ob, es, ep, e, c⟩ := x; exact ⟨_, e⟩
  | set S n => obtain ⟨ob, es, ep, t, e, c⟩ := x; exact ⟨_, e⟩
  | ins C dx fs => obtain ⟨d, z, ne, e, c⟩ := x; exact ⟨_, e⟩
  | own y => obtain ⟨ob, e⟩ := x; exact ⟨_, e⟩
  | xd fs => obtain ⟨mA, ⟨od, es, ep, e, c⟩, r⟩ := x; exact ⟨_, e⟩
  | rng lo hi => obtain ⟨t, u, v, e⟩ := x; exact ⟨_, e⟩
  | frz ob u => obtain ⟨e, q⟩ := x; exact ⟨_, e⟩
  | tbl ps => exact ⟨_, (show h.get? a = some _ from x)⟩
  | met f y => exact ⟨_, (show h.get? a = some _ from x)⟩
  | ext φ => obtain ⟨_, ⟨o, e⟩, _⟩ := x; exact ⟨_, e⟩
/-- sorted(d, key=lambda y: str(y)), d a dict by tuples -/
def keyD (k : List Key) : PyData := .tuple (k.map fun | .inl i => .int i | .inr z => .str z)
def tSortD (P : Addr) (T : List (Addr × Str)) (te : TE) : TE := fun σ H Q => te σ H fun x H1 => Tabs T H1 ∧ ∀ H2, (∀ b o, b ≠ P → H1 b = some o → H2 b = some o) → Tabs T H2 →
  ∃ (a : Addr) (kvs : List (List Key × V)), x = .ref a ∧ H2 a = some (.dT kvs) ∧ (∀ p ∈ kvs, KeyD (keyD p.1)) ∧ ∀ p bs, H2 p = none → IsKeys H2 kvs bs → Q (.ref p) (upd H2 p (.lst (sortS (bs.map V.ref) (kvs.map fun z => keyD z.1))))
theorem dpa_keys {K : PySem.W.Frag} {H : Hp} : ∀ k : List Key, DpAll K H (k.map kV) (k.map fun | .inl i => PyData.int i | .inr z => PyData.str z)
  | [] => .nil
  | .inl i :: r => .cons (.int i) (dpa_keys r)
  | .inr z :: r => .cons (.str z) (dpa_keys r)
theorem dp_keys {K : PySem.W.Frag} {H : Hp} {kvs : List (List Key × V)} {bs : List Addr} (h : IsKeys H kvs bs) : DpAll K H (bs.map V.ref) (kvs.map fun z => keyD z.1) := by
  unfold IsKeys at h
  induction h with
  | nil => exact .nil
  | cons h t ih => exact .cons (.tup (SqT.of h) (dpa_keys _)) ih
/-- {k: v}, k a tuple -/
def tDisp1 (tk tv : TE) : TE := fun σ H Q => ∀ p, H p = none → tk σ (upd H p (.dT [])) fun x H1 => tv σ H1 fun y H2 => H2 p = some (.dT []) ∧ ∃ (b : Addr) (k : List Key), x = .ref b ∧ H2 b = some (.tup (k.map kV)) ∧ Q (.ref p) (upd H2 p (.dT [(k, y)]))
section
variable {X : Cx} {k : Nat} {P c : Addr} {T : List (Addr × Str)} {y : Str} {e : Expr} {te : TE} {params : Arguments} {sc : Scope} {p p1 p2 p3 lpos kp pos : Pos}
theorem pe_disp1 {X : Cx} {ek ev : Expr} {tk tv : TE} (hu : (tupleKind (mixKind X.prog X.w)).room X.A) (hk : PE X ek tk) (hv : PE X ev tv) : PE X (.Dict [some ek] [ev] pos) (tDisp1 tk tv) := by
  refine ⟨fun pins s σ H Q I q => ?_⟩
  have hn := I.hok.fresh (Nat.le_refl s.heap.objs.size)
  have I1 := I.laid (a := s.heap.objs.size) (o := .dT []) (h' := s.heap.push { cls := .type "dict", data := .dict #[] }) (t' := s.toks) (fun _ _ q => Heap.get?_push_of_some _ q) (Nat.le_refl _) (dt_empty s.heap I.big)
  rw [arm_eval_Dict, zip_pairTrees [some ek] [ev] X.env pos (by rfl) (by rfl), dictDisplay_pairs (pairTrees [some ek] [ev] X.env pos) (fun z => by have := pairTrees_length [some ek] [ev] X.env pos rfl rfl; rw [z] at this; cases this) (by rw [pairTrees_length [some ek] [ev] X.env pos rfl rfl]; exact Nat.le_of_ble_eq_true rfl)]
  refine wpAny_bind (wpAny_standAt (wpAny_bind (wpAny_subDictH (knd := tupleKind (mixKind X.prog X.w)) (Q := fun d s' => wpAny (model X.prog X.w) X.A (pure (Value.ref d)) _ _ s') hu (by rw [pairTrees_length [some ek] [ev] X.env pos rfl rfl]; exact Nat.le_of_ble_eq_true rfl) ?_)))
  refine pairTrees_cons_walk (thn (hk.run pins _ σ _ _ I1 (q _ hn)) fun u s1 ⟨x, H1, I2, rx, q1⟩ => thn (hv.run pins s1 σ H1 _ I2 q1) fun w2 s2 ⟨y, H2, I3, ry, hp, b, k, ex, hb, q2⟩ => pairTrees_nil_walk ?_)
  subst ex
  cases (show u = Value.ref b from rx)
  obtain ⟨z, hd, xs, r0, dd⟩ := dt_of I3.hok hp
  cases r0
  refine ⟨[(k, b, w2)], ⟨rfl, rfl, key_of I3.hok hb, trivial⟩, dd, fun h' tk dd' hs => wpAny_pure ⟨.ref s.heap.objs.size, _, ?_, rfl, q2⟩⟩
  obtain ⟨o, es, ep, hq, h2, h3, h4, _, h5⟩ := dd'
  have rel : KT H2 (putK [] k y) (storedH [] k b w2) := KT.put .nil k hb ry
  refine d_write I3 (by rw [hp]; exact True.intro) hs ⟨o, hq⟩ ⟨by rw [sizeLine_eq]; exact Nat.le_of_ble_eq_true rfl, hd, _, KT.keeps (kvs := putK [] k y) rel fun c ys ec => ?_, o, es, ep, hq, h2, h3, h4, h5⟩
  rw [upd_ne (ne_of ec hp (fun z => nomatch z))]
  exact ec
theorem pe_sortD (g : Gd X.A) (hr : Room k X.A) (hg : Gl X "sorted") (hm : X.mg "sorted" = none) (hms : X.mg "str" = none) (he : PE X e te) (TB : TabB X.base X.mg c P) (hcode : X.env.code = .ref c) (hT : (P, X.env.qual ++ "<lambda>") ∈ T) (hu : ∀ z ∈ T, z.1 = P → z.2 = X.env.qual ++ "<lambda>") (L : StrS sc y) (hcalm : X.calm = true)
    (hbind : ∀ (q : Str) (cl : List (Str × Addr)) (pm cv ctv v : Value), bindArgs (PySem.W.kla_fn "<lambda>" q params (.Call (.Name "str" p1) [.Name y p2] [] p3) sc cl pm cv ctv) ⟨[v], []⟩ = pure [(y, v)] := by exact fun _ _ _ _ _ _ => rfl) (hdef : defaultsOf params X.env = ([], []) := by rfl) (hy : (y == ("__debug__" : Str)) = false := by decide)
    (e1 : backTo pos (starEach [e] X.env) = (false, eval e X.env) :: backTo pos (starEach [] X.env) := by rfl) (e2 : (backTo pos (starEach [e] X.env)).any (·.1) = false := by rfl) :
    PE X (.Call (.Name "sorted" p) [e] [⟨some "key", .Lambda params (.Call (.Name "str" p1) [.Name y p2] [] p3) sc lpos, kp⟩] pos) (tSortD P T te) := by
  refine ⟨fun pins s σ H Q I h => ?_⟩
  refine wpAny_Call_Name_kw (ld_blt I hg hm (u := .builtin "sorted") (by kernel_rfl) ?_)
  refine PyProof.Rows.callWith_kw ?_ e1 e2 (by rfl) (by rfl)
  have ev : wpAny (model X.prog X.w) X.A (spliced (backTo pos (starEach [e] X.env))) (AP X pins σ fun vs H1 => ∃ x, vs = [x] ∧ (Tabs T H1 ∧ ∀ H2, (∀ b o, b ≠ P → H1 b = some o → H2 b = some o) → Tabs T H2 →
      ∃ (a : Addr) (kvs : List (List Key × V)), x = .ref a ∧ H2 a = some (.dT kvs) ∧ (∀ p ∈ kvs, KeyD (keyD p.1)) ∧ ∀ p bs, H2 p = none → IsKeys H2 kvs bs → Q (.ref p) (upd H2 p (.lst (sortS (bs.map V.ref) (kvs.map fun z => keyD z.1)))))) X.xe s := by
    rw [e1]
    refine Calls.spliced_cons (thn (he.run pins s σ H _ I h) fun u s1 ⟨x, H1, I1, r1, q1⟩ => ?_)
    exact Calls.spliced_nil ⟨[x], H1, I1, .cons r1 .nil, x, rfl, q1⟩
  refine thn ev fun us s1 ⟨vs, H1, I1, r1, x, exx, tabs1, q1⟩ => ?_
  subst exx
  obtain ⟨u, eu, ru⟩ := vals1 r1
  subst eu
  refine PyProof.Rows.kws_cons ?_
  refine lam_mk I1 TB hcode hT hu tabs1 hdef (fun z hz ez => absurd ez (L.nofree z hz)) fun f c1 pm ctv H2 s2 I2 kp2 T2 hf nf ns hc1 => ?_
  refine PyProof.Rows.kws_nil ?_
  obtain ⟨a, kvs, ex, ha, hk, q⟩ := q1 H2 kp2 T2
  subst ex
  obtain rfl : u = Value.ref a := ru
  obtain ⟨z, hs, ks, pr, o, es, ep, ho, hx, hdt, hent, hn⟩ := (show ObjOk X.prog X.w H2 s2.heap a (.dT kvs) from I2.hok a _ ha)
  have l1 : es.size = ks.length := size_of_entries hent
  have l2 : kvs.length = ks.length := Paired.length pr
  have hkeys : IsKeys H2 kvs (ks.map fun x => x.2.1) := isKeys_of pr
  have hds := dp_keys (K := X.K) hkeys
  have rv : Vals ((ks.map fun x => x.2.1).map V.ref) ((ks.map fun x => x.2.1).map Value.ref) := vals_refs _
  obtain ⟨⟨oc, vs, tk, co, cd, cn⟩, _⟩ := I2.hok c1 _ hc1
  obtain ⟨mb, hb1, hb2⟩ := I2.mod.blt
  have hlen := rv.length
  have zl : (((ks.map fun x => x.2.1).map V.ref).zip (kvs.map fun z => keyD z.1)).length = kvs.length := by
    rw [List.length_zip, List.length_map, List.length_map, List.length_map, l2, Nat.min_self]
  show wpAny (model X.prog X.w) X.A (call (.builtin "sorted") [.ref a] [(Str.ofString "key", .ref f)]) _ _ s2
  refine PySem.W.sorted_key_src (vs := (ks.map fun x => x.2.1).map Value.ref) (b := false) (fun z : V × PyData => PyData.str z.2.shown) (kdl_raw hs hx hdt) (I2.ok.hd hcalm) ho (by omega) (fun acc it => ?_) (dpa_zip hds rv) (PySem.W.AllAlike.of fun _ _ => by simp [PySem.W.alike]) (PySem.W.Sortable.others fun _ => ⟨by simp, by simp⟩) (by rw [zl]; exact z) (fun z _ => ?_) (PyProof.Rows.ksk_s1 _ _) (fun _ => PyProof.Rows.ksk_l1 _ _) (fun _ => PyProof.Rows.ksk_t1 _ _) (fun v z ⟨rz, dz⟩ mz h tk keep => ?_) fun D out c2 h' tk keep fr hD hlo eo => ?_
  · have ea : acc.toList = ks.map fun x => Value.ref x.2.1 := by
      have hl : acc.toList.length = ks.length := by rw [Array.length_toList, it.1]; exact l1
      apply List.ext_getElem?
      intro j
      rw [List.getElem?_map]
      cases hj : acc.toList[j]? with
      | none =>
        have h1 := List.getElem?_eq_none_iff.mp hj
        rw [List.getElem?_eq_none (by omega)]
        all_goals rfl
      | some v =>
        obtain ⟨en, hen, hv⟩ := it.2 j v (by rw [← Array.getElem?_toList]; exact hj)
        have qe := entry_at hent j
        rw [hen] at qe
        cases hb : ks[j]? with
        | none =>
          rw [hb] at qe
          exact nomatch (show some en = none from qe)
        | some b =>
          rw [hb] at qe
          have e2 : en = entryOfKey (tupleKind (mixKind X.prog X.w)) b := Option.some.inj qe
          rw [hv, e2]
          all_goals rfl
    rw [ea, List.map_map]
    rfl
  · have := hr.un
    show X.A.units + 2 + 0 < cLine
    omega
  · have hzd : z.2 ∈ kvs.map fun z => keyD z.1 := (List.of_mem_zip mz).2
    obtain ⟨pz, hpz, ez⟩ := List.mem_map.mp hzd
    have kz : KeyD z.2 := by rw [← ez]; exact hk _ hpz
    obtain ⟨as, rd⟩ := Dp.reads I2 z.2 z.1 v dz rz
    have hr2 := hr.un
    exact strkey_call (s1 := { s2 with heap := h, toks := tk }) (mg := X.mg) (mb := mb) L (show X.A.depth < recursionLimit from hr.depth) (show X.A.guards = some [] from g) (by show X.A.units + 1 + 1 + 60 < cLine; omega) (keep _ _ hf) ⟨c1, oc, _, _, rfl, keep _ _ co, cd, cn⟩ ((I2.mod.glob.keeps I2.bk).keeps keep) hms ((hb1.keeps I2.bk).keeps keep) ((hb2 "str" (by decide)).trans (by kernel_rfl)) (I2.nolimit.keeps keep) (hbind _ _ _ _ _ _) hy (PyProof.Rows.Reads.keeps keep rd) kz.bx kz.sh (dp_nodict _ _ dz) kz.dp kz.sz
  · have vo := each_vals eo
    have hlz : (sortS ((ks.map fun x => x.2.1).map V.ref) (kvs.map fun z => keyD z.1)).length ≤ sizeLine := by
      unfold sortS
      rw [List.length_map, List.length_mergeSort, zl]
      exact z
    have hDn : H2 D = none := by
      cases q : H2 D with
      | none => rfl
      | some u =>
        obtain ⟨u', hu'⟩ := objOk_get (I2.hok D u q)
        rw [fr] at hu'
        cases hu'
    exact ⟨.ref _, upd H2 D (.lst (sortS ((ks.map fun x : List Key × Addr × Value => x.2.1).map V.ref) (kvs.map fun z : List Key × V => keyD z.1))), Inv.laidN (t' := tk) I2 keep fr hDn ⟨hlz, out, c2, vo, hD⟩, rfl, q _ _ hDn hkeys⟩
end
end J

/-! J64: list(zip(a, b)), a and b tuples of one length. -/
namespace J
open PySem PySem.Spec PyProof.Rows RZ
open PySem.W (kdx_alive)
section
variable {prog : Program} {w : World} {A : Around} {E : Value → Shared → Prop} {s : Shared}
theorem zq_item {z TI TO T i1 i2 l1 l2 : Addr} {f : Bool} {oT : Obj} {k1 k2 : Nat} {xs ys : Array Value} {x y : Value} {Q : Value → Shared → Prop} (D : ZipApart z TI TO i1 i2 l1 l2)
    (hz : IsZipHeld s.heap z TI TO T f) (hT : s.heap.get? T = some oT) (hTI : IsPair s.heap TI (.ref i1) (.ref i2))
    (h1 : s.heap.IsTupleIter i1 l1 k1) (h2 : s.heap.IsTupleIter i2 l2 k2) (hl1 : s.heap.IsTuple l1 xs) (hl2 : s.heap.IsTuple l2 ys) (hx : xs[k1]? = some x) (hy : ys[k2]? = some y)
    (hQ : ∀ h', IsZipHeld h' z TI TO T true → h'.IsTupleIter i1 l1 (k1 + 1) → h'.IsTupleIter i2 l2 (k2 + 1) → IsPair h' s.heap.objs.size x y → h'.objs.size = s.heap.objs.size + 1 →
      (∀ c o, c ≠ z → c ≠ i1 → c ≠ i2 → s.heap.get? c = some o → h'.get? c = some o) → Q (.ref s.heap.objs.size) { s with heap := h' }) :
    wpAny (model prog w) A (Builtin.«zip.__next__» ⟨[.ref z], []⟩) (fun fin s' => ∃ v, fin = .done (.ret v) ∧ Q v s') E s := by
  show wpAny _ _ (field (.ref z) 2 >>= _) _ _ _
  refine wpAny_bind (wpAny_field hz rfl (x := .bool false) rfl ?_)
  show wpAny _ _ (field (.ref z) 3 >>= _) _ _ _
  refine wpAny_bind (wpAny_field hz rfl (x := .ref TI) rfl ?_)
  refine wpAny_bind (wpAny_seqItems hTI rfl ?_)
  show wpAny _ _ (Builtin.SmallTypes.ownedTupleIsFree (.ref z) >>= _) _ _ _
  refine wpAny_bind (wpAny_tupleHeld_zip hz hT fun h₁ hz₁ hs₁ => ?_)
  simp only [Bool.false_eq_true, if_false]
  refine wpAny_bind ?_
  rw [← Array.forIn_toList]
  simp only [List.forIn_cons, List.forIn_nil]
  refine wpAny_bind (wpAny_bind (wpAny_holding ?_))
  show wpAny _ _ (Builtin.SmallTypes.nextOf (.ref i1) >>= _) _ _ _
  refine wpAny_bind (nextOf_tuple_item (s := { s with heap := h₁ }) (h1.extBut hs₁.extBut D.i1z) (hl1.extBut hs₁.extBut D.l1z) hx fun h₂ h1₂ hs₂ => wpAny_pure ?_)
  refine wpAny_pure ?_
  refine wpAny_bind (wpAny_bind (wpAny_holding ?_))
  show wpAny _ _ (Builtin.SmallTypes.nextOf (.ref i2) >>= _) _ _ _
  refine wpAny_bind (nextOf_tuple_item (s := { s with heap := h₂ }) ((h2.extBut hs₁.extBut D.i2z).extBut hs₂.extBut D.i12.symm) ((hl2.extBut hs₁.extBut D.l2z).extBut hs₂.extBut D.l2i1) hy fun h₃ h2₃ hs₃ => wpAny_pure ?_)
  refine wpAny_pure (wpAny_pure ?_)
  show wpAny _ _ (newTuple [x, y] >>= _) _ _ _
  refine wpAny_bind (wpAny_newTuple ?_)
  have hsz : h₃.objs.size = s.heap.objs.size := by rw [hs₃.1, hs₂.1, hs₁.1]
  have hz₃ : IsZipHeld h₃ z TI TO T true := hs₃.extBut _ _ D.i2z.symm (hs₂.extBut _ _ D.i1z.symm hz₁)
  have hk : ∀ c o, c ≠ z → c ≠ i1 → c ≠ i2 → s.heap.get? c = some o → h₃.get? c = some o := fun c o c1 c2 c3 e => hs₃.extBut _ _ c3 (hs₂.extBut _ _ c2 (hs₁.extBut _ _ c1 e))
  have h1₃ : h₃.IsTupleIter i1 l1 (k1 + 1) := h1₂.extBut hs₃.extBut D.i12
  refine wpAny_pure ⟨_, rfl, ?_⟩
  show Q (.ref h₃.objs.size) _
  have hp : IsPair (h₃.push { cls := .type "tuple", data := .seq #[x, y] }) h₃.objs.size x y := Heap.get?_push_size _ rfl
  have hz4 : (h₃.push { cls := .type "tuple", data := .seq #[x, y] }).objs.size = h₃.objs.size + 1 := Heap.size_push ..
  rw [hsz] at hp hz4 ⊢
  exact hQ _ (Heap.get?_push_of_some _ hz₃) (h1₃.at fun o e => Heap.get?_push_of_some _ e) (h2₃.at fun o e => Heap.get?_push_of_some _ e) hp hz4 fun c o c1 c2 c3 e => Heap.get?_push_of_some _ (hk c o c1 c2 c3 e)
theorem zq_end {z TI TO T i1 i2 l1 l2 : Addr} {f : Bool} {oT : Obj} {k1 k2 : Nat} {xs ys : Array Value} {Q : Fin → Shared → Prop} (hh : A.handled = none) (D : ZipApart z TI TO i1 i2 l1 l2)
    (hz : IsZipHeld s.heap z TI TO T f) (hT : s.heap.get? T = some oT) (hTI : IsPair s.heap TI (.ref i1) (.ref i2))
    (h1 : s.heap.IsTupleIter i1 l1 k1) (hl1 : s.heap.IsTuple l1 xs) (hx : xs[k1]? = none)
    (hE : ∀ h' e, (∀ c o, c ≠ z → c ≠ i1 → c ≠ i2 → s.heap.get? c = some o → h'.get? c = some o) → (∃ o, h'.get? e = some o ∧ o.cls = .type "StopIteration") → E (.ref e) { s with heap := h' }) :
    wpAny (model prog w) A (Builtin.«zip.__next__» ⟨[.ref z], []⟩) Q E s := by
  show wpAny _ _ (field (.ref z) 2 >>= _) _ _ _
  refine wpAny_bind (wpAny_field hz rfl (x := .bool false) rfl ?_)
  show wpAny _ _ (field (.ref z) 3 >>= _) _ _ _
  refine wpAny_bind (wpAny_field hz rfl (x := .ref TI) rfl ?_)
  refine wpAny_bind (wpAny_seqItems hTI rfl ?_)
  show wpAny _ _ (Builtin.SmallTypes.ownedTupleIsFree (.ref z) >>= _) _ _ _
  refine wpAny_bind (wpAny_tupleHeld_zip hz hT fun h₁ hz₁ hs₁ => ?_)
  simp only [Bool.false_eq_true, if_false]
  refine wpAny_bind ?_
  rw [← Array.forIn_toList]
  simp only [List.forIn_cons, List.forIn_nil]
  refine wpAny_bind (wpAny_bind (wpAny_holding ?_))
  show wpAny _ _ (Builtin.SmallTypes.nextOf (.ref i1) >>= _) _ _ _
  refine wpAny_bind (nextOf_tuple_end (s := { s with heap := h₁ }) hh (h1.extBut hs₁.extBut D.i1z) (hl1.extBut hs₁.extBut D.l1z) hx fun h₂ e hs₂ he => ?_)
  exact hE h₂ e (fun c o c1 c2 _ x => hs₂ _ _ c2 (hs₁.extBut _ _ c1 x)) he
theorem zq_next {z TI TO T i1 i2 l1 l2 : Addr} {f : Bool} {oT : Obj} {k1 k2 : Nat} {xs ys : Array Value} {x y : Value} {Q : Option Value → Shared → Prop} (D : ZipApart z TI TO i1 i2 l1 l2)
    (hz : IsZipHeld s.heap z TI TO T f) (hT : s.heap.get? T = some oT) (hTI : IsPair s.heap TI (.ref i1) (.ref i2))
    (h1 : s.heap.IsTupleIter i1 l1 k1) (h2 : s.heap.IsTupleIter i2 l2 k2) (hl1 : s.heap.IsTuple l1 xs) (hl2 : s.heap.IsTuple l2 ys) (hx : xs[k1]? = some x) (hy : ys[k2]? = some y)
    (hQ : ∀ h', IsZipHeld h' z TI TO T true → h'.IsTupleIter i1 l1 (k1 + 1) → h'.IsTupleIter i2 l2 (k2 + 1) → IsPair h' s.heap.objs.size x y → h'.objs.size = s.heap.objs.size + 1 →
      (∀ c o, c ≠ z → c ≠ i1 → c ≠ i2 → s.heap.get? c = some o → h'.get? c = some o) → Q (some (.ref s.heap.objs.size)) { s with heap := h' }) :
    wpAny (model prog w) A (pyNext (.ref z)) Q E s := by
  have hTy : s.TypeIs (.ref z) "zip" := ⟨_, hz, rfl⟩
  unfold pyNext
  exact wpAny_bind (wpAny_attempt (wpAny_callSpecial?_slot (name := Str.ofString "__next__") hTy F.slot_zip_next
    (wpAny_call_entry F.slot_zip_next hTy F.entry_zip_next
      (zq_item D hz hT hTI h1 h2 hl1 hl2 hx hy fun h' a1 a3 a4 a5 a6 a7 => wpAny_pure (hQ h' a1 a3 a4 a5 a6 a7)) (F.args_zip_next_1 _))))
theorem zq_stop {z TI TO T i1 i2 l1 l2 : Addr} {f : Bool} {oT : Obj} {k1 k2 : Nat} {xs ys : Array Value} {Q : Option Value → Shared → Prop} (hh : A.handled = none) (D : ZipApart z TI TO i1 i2 l1 l2)
    (hz : IsZipHeld s.heap z TI TO T f) (hT : s.heap.get? T = some oT) (hTI : IsPair s.heap TI (.ref i1) (.ref i2))
    (h1 : s.heap.IsTupleIter i1 l1 k1) (hl1 : s.heap.IsTuple l1 xs) (hx : xs[k1]? = none)
    (hQ : ∀ h', (∀ c o, c ≠ z → c ≠ i1 → c ≠ i2 → s.heap.get? c = some o → h'.get? c = some o) → Q none { s with heap := h' }) : wpAny (model prog w) A (pyNext (.ref z)) Q E s := by
  have hTy : s.TypeIs (.ref z) "zip" := ⟨_, hz, rfl⟩
  unfold pyNext
  refine wpAny_bind (wpAny_attempt (wpAny_callSpecial?_slot (name := Str.ofString "__next__") hTy F.slot_zip_next
    (wpAny_call_entry F.slot_zip_next hTy F.entry_zip_next (zq_end (k2 := 0) (l2 := l2) (ys := #[]) hh D hz hT hTI h1 hl1 hx fun h' e hk he => ?_) (F.args_zip_next_1 _))))
  obtain ⟨o, ho, hc⟩ := he
  refine wpAny_bind (wpAny_isInstance (T := "StopIteration") (b := true) ⟨o, ho, hc⟩ isSubtype_stop ?_)
  exact wpAny_pure (hQ _ hk)
/-- the length of a zip is not told ahead -/
theorem zip_no_len : typeLookup (.type "zip") "__len__" = pure none := am_miss_of_fast (by decide +kernel)
theorem zip_no_hint : typeLookup (.type "zip") "__length_hint__" = pure none := am_miss_of_fast (by decide +kernel)
theorem zip_hint {z : Addr} {Q : Bool → Shared → Prop} (hT : s.TypeIs (.ref z) "zip") (h : Q true s) : wpAny (model prog w) A (Builtin.List.listLengthHint (.ref z)) Q E s := by
  unfold Builtin.List.listLengthHint
  refine wpAny_bind (wpAny_specialOf hT zip_no_len ?_)
  refine wpAny_bind (wpAny_specialOf hT zip_no_hint ?_)
  exact wpAny_pure h
end
/-- where a walk of zip stands: i pairs are out; what it stands on lies off S -/
structure ZSt (h : Heap) (z TI TO i1 i2 l1 l2 S : Addr) (xs ys : Array Value) (i : Nat) : Prop where
  ti : IsPair h TI (.ref i1) (.ref i2)
  a1 : h.IsTupleIter i1 l1 i
  a2 : h.IsTupleIter i2 l2 i
  t1 : h.IsTuple l1 xs
  t2 : h.IsTuple l2 ys
  zz : (i = 0 ∧ IsZip h z TI TO .none ∧ IsPair h TO .none .none) ∨ ∃ T f oT, IsZipHeld h z TI TO T f ∧ h.get? T = some oT ∧ T ≠ S ∧ T ≠ z ∧ T ≠ i1 ∧ T ≠ i2
structure ZLow (S z TI TO i1 i2 l1 l2 : Addr) : Prop where
  z : z < S
  TI : TI < S
  TO : TO < S
  i1 : i1 < S
  i2 : i2 < S
  l1 : l1 < S
  l2 : l2 < S
section
variable {z TI TO i1 i2 l1 l2 S : Addr} {xs ys : Array Value} {i : Nat} {h h' : Heap}
theorem ZSt.keep (st : ZSt h z TI TO i1 i2 l1 l2 S xs ys i) (L : ZLow S z TI TO i1 i2 l1 l2) (k : ∀ b o, b ≠ S → h.get? b = some o → h'.get? b = some o) : ZSt h' z TI TO i1 i2 l1 l2 S xs ys i where
  ti := k _ _ (Nat.ne_of_lt L.TI) st.ti
  a1 := st.a1.at fun o e => k _ _ (Nat.ne_of_lt L.i1) e
  a2 := st.a2.at fun o e => k _ _ (Nat.ne_of_lt L.i2) e
  t1 := let ⟨o, ho, r⟩ := st.t1; ⟨o, k _ _ (Nat.ne_of_lt L.l1) ho, r⟩
  t2 := let ⟨o, ho, r⟩ := st.t2; ⟨o, k _ _ (Nat.ne_of_lt L.l2) ho, r⟩
  zz := by
    rcases st.zz with ⟨e, h1, h2⟩ | ⟨T, f, oT, h1, h2, h3, h4⟩
    · exact .inl ⟨e, k _ _ (Nat.ne_of_lt L.z) h1, k _ _ (Nat.ne_of_lt L.TO) h2⟩
    · exact .inr ⟨T, f, oT, k _ _ (Nat.ne_of_lt L.z) h1, k _ _ h3 h2, h3, h4⟩
end
section
variable {prog : Program} {w : World} {A : Around} {E : Value → Shared → Prop} {s : Shared} {z TI TO i1 i2 l1 l2 S : Addr} {xs ys : Array Value} {i : Nat}
theorem zs_next {Q : Option Value → Shared → Prop} (D : ZipApart z TI TO i1 i2 l1 l2) (L : ZLow S z TI TO i1 i2 l1 l2) (hS : S < s.heap.objs.size) (st : ZSt s.heap z TI TO i1 i2 l1 l2 S xs ys i) (hx : i < xs.size) (hy : i < ys.size)
    (hQ : ∀ h', ZSt h' z TI TO i1 i2 l1 l2 S xs ys (i + 1) → IsPair h' s.heap.objs.size xs[i] ys[i] → h'.objs.size = s.heap.objs.size + 1 →
      (∀ b o, b ≠ z → b ≠ TO → b ≠ i1 → b ≠ i2 → s.heap.get? b = some o → h'.get? b = some o) → Q (some (.ref s.heap.objs.size)) { s with heap := h' }) :
    wpAny (model prog w) A (pyNext (.ref z)) Q E s := by
  have lt : ∀ {b : Addr}, b < S → s.heap.objs.size ≠ b := fun hb => Nat.ne_of_gt (Nat.lt_trans hb hS)
  rcases st.zz with ⟨e, h1, h2⟩ | ⟨T, f, oT, h1, h2, h3, h4, h5, h6⟩
  · subst e
    refine pyNext_zipT_item D h1 st.ti h2 st.a1 st.a2 st.t1 st.t2 (Array.getElem?_eq_getElem hx) (Array.getElem?_eq_getElem hy) fun h' b1 b2 b3 b4 b5 b6 b7 => ?_
    refine hQ h' ⟨b7 _ _ D.TIz D.TITO D.TIi1 D.TIi2 st.ti, b3, b4, ?_, ?_, .inr ⟨_, false, _, b1, b5, Nat.ne_of_gt hS, lt L.z, lt L.i1, lt L.i2⟩⟩ b5 b6 b7
    · obtain ⟨o, ho, r⟩ := st.t1
      exact ⟨o, b7 _ _ D.l1z D.l1TO D.l1i1 D.l1i2 ho, r⟩
    · obtain ⟨o, ho, r⟩ := st.t2
      exact ⟨o, b7 _ _ D.l2z D.l2TO D.l2i1 D.l2i2 ho, r⟩
  · refine zq_next D h1 h2 st.ti st.a1 st.a2 st.t1 st.t2 (Array.getElem?_eq_getElem hx) (Array.getElem?_eq_getElem hy) fun h' b1 b3 b4 b5 b6 b7 => ?_
    refine hQ h' ⟨b7 _ _ D.TIz D.TIi1 D.TIi2 st.ti, b3, b4, ?_, ?_, .inr ⟨T, true, oT, b1, b7 _ _ h4 h5 h6 h2, h3, h4, h5, h6⟩⟩ b5 b6 fun b o c1 _ c3 c4 e => b7 b o c1 c3 c4 e
    · obtain ⟨o, ho, r⟩ := st.t1
      exact ⟨o, b7 _ _ D.l1z D.l1i1 D.l1i2 ho, r⟩
    · obtain ⟨o, ho, r⟩ := st.t2
      exact ⟨o, b7 _ _ D.l2z D.l2i1 D.l2i2 ho, r⟩
theorem zs_stop {Q : Option Value → Shared → Prop} (hh : A.handled = none) (D : ZipApart z TI TO i1 i2 l1 l2) (st : ZSt s.heap z TI TO i1 i2 l1 l2 S xs ys i) (hx : xs.size ≤ i)
    (hQ : ∀ h', (∀ b o, b ≠ z → b ≠ TO → b ≠ i1 → b ≠ i2 → s.heap.get? b = some o → h'.get? b = some o) → Q none { s with heap := h' }) : wpAny (model prog w) A (pyNext (.ref z)) Q E s := by
  rcases st.zz with ⟨e, h1, h2⟩ | ⟨T, f, oT, h1, h2, h3, h4, h5, h6⟩
  · exact pyNext_zipT_end hh D h1 st.ti h2 st.a1 st.a2 st.t1 st.t2 (.inl (Array.getElem?_eq_none hx)) hQ
  · exact zq_stop (k2 := 0) (ys := #[]) hh D h1 h2 st.ti st.a1 st.t1 (Array.getElem?_eq_none hx) fun h' k => hQ h' fun b o c1 _ c3 c4 e => k b o c1 c3 c4 e
end
/-- the pairs that are out -/
structure ZOut (xs ys : Array Value) (S : Addr) (h : Heap) (as : List Addr) : Prop where
  rise : as.Pairwise (· < ·)
  above : ∀ a ∈ as, S < a
  pairs : ∀ (j : Nat) (a : Addr), as[j]? = some a → ∃ x y, xs[j]? = some x ∧ ys[j]? = some y ∧ IsPair h a x y
section
variable {prog : Program} {w : World} {A : Around} {s : Shared} {R : Result → Shared → Prop} {z TI TO i1 i2 l1 l2 S : Addr} {xs ys : Array Value}
theorem zs_loop (hh : A.handled = none) (D : ZipApart z TI TO i1 i2 l1 l2) (L : ZLow S z TI TO i1 i2 l1 l2) (hxy : ys.size = xs.size) (hn : xs.size ≤ sizeLine) (res : Value) {h₁ : Heap}
    (hR : ∀ h' tk acc c as, (∀ b o, b ≠ S → b ≠ z → b ≠ TO → b ≠ i1 → b ≠ i2 → h₁.get? b = some o → h'.get? b = some o) → h'.get? S = some { cls := .type "list", dict := none, data := .seq acc c, slots := #[] } → as.length = xs.size → ZOut xs ys S h' as →
      acc.toList = as.map Value.ref → R (.ok (.ret res)) { s with heap := h', toks := tk }) :
    ∀ (k i : Nat) (h : Heap) (tk c : Nat) (acc : Array Value) (as : List Addr), xs.size - i = k → i ≤ xs.size → ZSt h z TI TO i1 i2 l1 l2 S xs ys i → (∀ b o, b ≠ S → b ≠ z → b ≠ TO → b ≠ i1 → b ≠ i2 → h₁.get? b = some o → h.get? b = some o) →
      h.get? S = some { cls := .type "list", dict := none, data := .seq acc c, slots := #[] } → acc.toList = as.map Value.ref → as.length = i → ZOut xs ys S h as →
      codeAny (model prog w) A (.builtin "list.extend.loop" ⟨[.ref S, .ref z, res], []⟩) R { s with heap := h, toks := tk } := by
  intro k
  have off : ∀ {a : Addr}, S < a → a ≠ z ∧ a ≠ TO ∧ a ≠ i1 ∧ a ≠ i2 := fun ha => ⟨Nat.ne_of_gt (Nat.lt_trans L.z ha), Nat.ne_of_gt (Nat.lt_trans L.TO ha), Nat.ne_of_gt (Nat.lt_trans L.i1 ha), Nat.ne_of_gt (Nat.lt_trans L.i2 ha)⟩
  have sne : S ≠ z ∧ S ≠ TO ∧ S ≠ i1 ∧ S ≠ i2 := ⟨Nat.ne_of_gt L.z, Nat.ne_of_gt L.TO, Nat.ne_of_gt L.i1, Nat.ne_of_gt L.i2⟩
  induction k with
  | zero =>
    intro i h tk c acc as hk hi hst hkeep hS hacc hal hG
    refine codeAny_builtin PySem.F.entry_extend_loop ?_
    rw [Around.under_plainId PySem.F.plain_extend_loop _]
    show wpAny _ A.in1 (pyNext (.ref z) >>= _) _ _ _
    refine wpAny_bind (zs_stop (s := { s with heap := h, toks := tk }) (A := A.in1) hh D hst (by omega) fun h' he => ?_)
    refine wpAny_pure (hR h' tk acc c as (fun b o h1 h2 h3 h4 h5 e => he b o h2 h3 h4 h5 (hkeep b o h1 h2 h3 h4 h5 e)) (he S _ sne.1 sne.2.1 sne.2.2.1 sne.2.2.2 hS) (by omega) ⟨hG.rise, hG.above, fun j a hj => ?_⟩ hacc)
    obtain ⟨x, y, e1, e2, e3⟩ := hG.pairs j a hj
    obtain ⟨o1, o2, o3, o4⟩ := off (hG.above a (List.mem_of_getElem? hj))
    exact ⟨x, y, e1, e2, he a _ o1 o2 o3 o4 e3⟩
  | succ k ih =>
    intro i h tk c acc as hk hi hst hkeep hS hacc hal hG
    have hlt : i < xs.size := by omega
    have hlt2 : i < ys.size := by omega
    have hsz : acc.size = i := by rw [← Array.length_toList, hacc, List.length_map, hal]
    have hSl : S < h.objs.size := Heap.lt_size hS
    refine codeAny_builtin PySem.F.entry_extend_loop ?_
    rw [Around.under_plainId PySem.F.plain_extend_loop _]
    show wpAny _ A.in1 (pyNext (.ref z) >>= _) _ _ _
    refine wpAny_bind (zs_next (s := { s with heap := h, toks := tk }) (S := S) D L hSl hst hlt hlt2 fun h' hst' ht hz hkp => ?_)
    dsimp only at ht hz hkp ⊢
    have hS' := hkp S _ sne.1 sne.2.1 sne.2.2.1 sne.2.2.2 hS
    have up : ∀ b o, b ≠ S → h'.get? b = some o → (h'.update S (Obj.mapSeq (·.push (Value.ref h.objs.size)))).get? b = some o := fun b o hb e => (Heap.get?_update_other _ _ (Ne.symm hb)).trans e
    show wpAny _ A.in1 (updateSeq S (·.push (Value.ref h.objs.size)) >>= _) _ _ _
    refine wpAny_bind ?_
    refine wpAny_updateSeq hS' rfl (wpAny_pure ⟨plainId_quiet PySem.F.plain_extend_loop _, ih (i + 1) _ tk _ (acc.push (Value.ref h.objs.size)) (as ++ [h.objs.size]) (by omega) hlt (hst'.keep L up)
      (fun b o h1 h2 h3 h4 h5 e => up b o h1 (hkp b o h2 h3 h4 h5 (hkeep b o h1 h2 h3 h4 h5 e))) (Heap.get?_update_self _ hS' rfl) (by rw [Array.toList_push, hacc, List.map_append]; rfl) (by rw [List.length_append, hal]; rfl) ⟨?_, ?_, ?_⟩⟩) (by rw [hsz]; omega) (by show (acc.push (Value.ref h.objs.size)).size ≤ sizeLine + 1; rw [Array.size_push, hsz]; omega)
    · refine List.pairwise_append.mpr ⟨hG.rise, List.pairwise_singleton _ _, fun a ha b hb => ?_⟩
      rw [List.mem_singleton.mp hb]
      obtain ⟨j, hj⟩ := List.mem_iff_getElem?.mp ha
      obtain ⟨_, _, _, _, e⟩ := hG.pairs j a hj
      exact Heap.lt_size e
    · intro a ha
      rcases List.mem_append.mp ha with ha | ha
      · exact hG.above a ha
      · rw [List.mem_singleton.mp ha]; exact hSl
    · intro j b hj
      rcases Nat.lt_trichotomy j as.length with h1 | h1 | h1
      · rw [List.getElem?_append_left h1] at hj
        obtain ⟨x, y, e1, e2, e3⟩ := hG.pairs j b hj
        have hb := hG.above b (List.mem_of_getElem? hj)
        obtain ⟨o1, o2, o3, o4⟩ := off hb
        exact ⟨x, y, e1, e2, up b _ (Nat.ne_of_gt hb) (hkp b _ o1 o2 o3 o4 e3)⟩
      · subst h1
        have hb : h.objs.size = b := by simpa using hj
        subst hb
        subst hal
        exact ⟨_, _, Array.getElem?_eq_getElem hlt, Array.getElem?_eq_getElem hlt2, up _ _ (Nat.ne_of_gt hSl) ht⟩
      · have hnone : (as ++ [h.objs.size])[j]? = none := List.getElem?_eq_none (by rw [List.length_append, List.length_singleton]; omega)
        rw [hnone] at hj; cases hj
end
section
variable {prog : Program} {w : World} {A : Around} {E : Value → Shared → Prop} {s : Shared} {z TI TO i1 i2 l1 l2 S : Addr} {xs ys : Array Value}
theorem zs_ext {R : Result → Shared → Prop} (hh : A.handled = none) (D : ZipApart z TI TO i1 i2 l1 l2) (L : ZLow S z TI TO i1 i2 l1 l2) (hxy : ys.size = xs.size) (hn : xs.size ≤ sizeLine) (st : ZSt s.heap z TI TO i1 i2 l1 l2 S xs ys 0) (hz : IsZip s.heap z TI TO .none) (res : Value) (c₀ : Nat) (hS : s.heap.get? S = some { cls := .type "list", data := .seq #[] c₀ })
    (hR : ∀ h' tk acc c as, (∀ b o, b ≠ S → b ≠ z → b ≠ TO → b ≠ i1 → b ≠ i2 → s.heap.get? b = some o → h'.get? b = some o) → h'.get? S = some { cls := .type "list", dict := none, data := .seq acc c, slots := #[] } → as.length = xs.size → ZOut xs ys S h' as →
      acc.toList = as.map Value.ref → R (.ok (.ret res)) { s with heap := h', toks := tk }) :
    wpAny (model prog w) A.in1 (Builtin.List.listExtendWith (.ref S) (.ref z) res)
      (fun fin s' => match fin with | .done f => R (.ok f) s' | .again c' => c'.quiet = true ∧ codeAny (model prog w) A c' R s') (fun e s' => R (.error e) s') s := by
  have key : ∀ (h : Heap) (c₁ tk : Nat), (∀ b o, b ≠ S → s.heap.get? b = some o → h.get? b = some o) →
      h.get? S = some { cls := .type "list", data := .seq #[] c₁ } → codeAny (model prog w) A (.builtin "list.extend.loop" ⟨[.ref S, .ref z, res], []⟩) R { s with heap := h, toks := tk } := by
    intro h c₁ tk hk hS₁
    exact zs_loop (xs := xs) (ys := ys) (s := s) (h₁ := s.heap) hh D L hxy hn res hR
      xs.size 0 h tk c₁ #[] [] (Nat.sub_zero _) (Nat.zero_le _) (st.keep L hk) (fun b o hb _ _ _ _ e => hk b o hb e) hS₁ rfl rfl
      ⟨List.Pairwise.nil, (fun _ ha => nomatch ha), (fun j a hj => by simp at hj)⟩
  have hT : s.TypeIs (.ref z) "zip" := ⟨_, hz, rfl⟩
  unfold Builtin.List.listExtendWith
  refine wpAny_bind (wpAny_typeOf (T := "zip") hT ?_)
  have h1 : Builtin.List.listSameRef (.ref S) (.ref z) = false := by simp [Builtin.List.listSameRef, Nat.ne_of_gt L.z]
  have h2 : (Value.type "zip" == Value.type "list") = false := by decide
  have h3 : (Value.type "zip" == Value.type "tuple") = false := by decide
  simp only [h1, h2, h3, Bool.or_false, Bool.false_eq_true, if_false]
  refine wpAny_bind (wpAny_pyIter_zip hz ?_)
  refine wpAny_bind (wpAny_holding (zip_hint hT ?_))
  refine wpAny_ite_split (fun _ => ?_) (fun _ => wpAny_pure ⟨plainId_quiet PySem.F.plain_extend_loop _, key _ c₀ _ (fun b o _ e => e) hS⟩)
  refine wpAny_bind (wpAny_rule ?_)
  refine wpAny_bind ?_
  show wpAny _ _ (updateSeq S (·.push .none) >>= fun _ => updateSeq S (·.pop)) _ _ _
  refine wpAny_bind (wpAny_updateSeq hS rfl ?_)
  have hS₂ := Heap.get?_update_self (Obj.mapSeq (·.push Value.none)) hS rfl
  refine wpAny_updateSeq (hz := by seq_fits) hS₂ rfl ?_
  have hS₃ := Heap.get?_update_self (Obj.mapSeq (·.pop)) hS₂ rfl
  refine wpAny_pure ⟨plainId_quiet PySem.F.plain_extend_loop _, key _ _ _ (fun b o hb e => ?_) hS₃⟩
  exact (Heap.get?_update_other _ _ (Ne.symm hb)).trans ((Heap.get?_update_other _ _ (Ne.symm hb)).trans e)
theorem zs_init {R : Result → Shared → Prop} (hh : A.handled = none) (D : ZipApart z TI TO i1 i2 l1 l2) (L : ZLow S z TI TO i1 i2 l1 l2) (hxy : ys.size = xs.size) (hn : xs.size ≤ sizeLine) (st : ZSt s.heap z TI TO i1 i2 l1 l2 S xs ys 0) (hz : IsZip s.heap z TI TO .none) (hS : s.heap.get? S = some { cls := .type "list", data := .seq #[] })
    (hR : ∀ h' tk acc c as, (∀ b o, b ≠ S → b ≠ z → b ≠ TO → b ≠ i1 → b ≠ i2 → s.heap.get? b = some o → h'.get? b = some o) → h'.get? S = some { cls := .type "list", dict := none, data := .seq acc c, slots := #[] } → as.length = xs.size → ZOut xs ys S h' as →
      acc.toList = as.map Value.ref → R (.ok (.ret .none)) { s with heap := h', toks := tk }) :
    wpAny (model prog w) A.in1 (Builtin.«list.__init__» ⟨[.ref S, .ref z], []⟩)
      (fun fin s' => match fin with | .done f => R (.ok f) s' | .again c' => c'.quiet = true ∧ codeAny (model prog w) A c' R s') (fun e s' => R (.error e) s') s := by
  show wpAny _ _ (do let old ← Builtin.List.listItems (.ref S); Builtin.List.listUpdate (.ref S) (fun _ => #[]); letGo old.toList.reverse; Builtin.List.listExtendWith (.ref S) (.ref z) .none) _ _ s
  refine wpAny_bind ?_
  unfold Builtin.List.listItems
  refine wpAny_bind (wpAny_seqItems hS rfl (wpAny_pure ?_))
  show wpAny _ _ (updateSeq S (fun _ => #[]) >>= fun _ => letGo (#[] : Array Value).toList.reverse >>= fun _ => Builtin.List.listExtendWith (.ref S) (.ref z) .none) _ _ s
  refine wpAny_bind (wpAny_updateSeq hS rfl ?_)
  have hS₂ := Heap.get?_update_self (Obj.mapSeq (fun _ => (#[] : Array Value))) hS rfl
  have oth : ∀ b o, b ≠ S → s.heap.get? b = some o → (s.heap.update S (Obj.mapSeq (fun _ => (#[] : Array Value)))).get? b = some o :=
    fun b o hb e => (Heap.get?_update_other _ _ (Ne.symm hb)).trans e
  refine wpAny_bind (wpAny_letGo ?_)
  exact zs_ext (s := { s with heap := s.heap.update S (Obj.mapSeq (fun _ => (#[] : Array Value))) }) hh D L hxy hn (st.keep L oth) (oth _ _ (Nat.ne_of_lt L.z) hz) .none _ hS₂ fun h' tk acc c as hk hS' hl hG hacc => hR h' tk acc c as (fun b o c1 c2 c3 c4 c5 e => hk b o c1 c2 c3 c4 c5 (oth b o c1 e)) hS' hl hG hacc
/-- list(zip(a, b)), the zip new -/
theorem zs_list {Q : Value → Shared → Prop} (hh : A.handled = none) (D : ZipApart z TI TO i1 i2 l1 l2) (L : ZLow s.heap.objs.size z TI TO i1 i2 l1 l2) (hxy : ys.size = xs.size) (hn : xs.size ≤ sizeLine) (hz : IsZip s.heap z TI TO .none) (hTI : IsPair s.heap TI (.ref i1) (.ref i2)) (hTO : IsPair s.heap TO .none .none)
    (h1 : s.heap.IsTupleIter i1 l1 0) (h2 : s.heap.IsTupleIter i2 l2 0) (hl1 : s.heap.IsTuple l1 xs) (hl2 : s.heap.IsTuple l2 ys)
    (hQ : ∀ h' tk acc c as, (∀ b o, b ≠ z → b ≠ TO → b ≠ i1 → b ≠ i2 → s.heap.get? b = some o → h'.get? b = some o) → h'.get? s.heap.objs.size = some { cls := .type "list", dict := none, data := .seq acc c, slots := #[] } → as.length = xs.size → ZOut xs ys s.heap.objs.size h' as →
      acc.toList = as.map Value.ref → Q (.ref s.heap.objs.size) { s with heap := h', toks := tk }) :
    wpAny (model prog w) A (call (.type "list") [.ref z]) Q E s := by
  refine callType_codes (Q₁ := fun obj s₁ => obj = .ref s.heap.objs.size ∧ s₁ = { s with heap := s.heap.push { cls := .type "list", data := .seq #[] } }) PySem.F.called_list (PySem.F.typeCall_list_1 _) PySem.F.entry_list_init
    (code_list_new _ ⟨rfl, rfl⟩) fun obj s₁ h₁ => ?_
  obtain ⟨rfl, rfl⟩ := h₁
  have hS : (s.heap.push { cls := .type "list", data := .seq #[] }).get? s.heap.objs.size = some { cls := .type "list", data := .seq #[] } := Heap.get?_push_size _ rfl
  have up : ∀ b o, s.heap.get? b = some o → (s.heap.push { cls := .type "list", data := .seq #[] }).get? b = some o := fun b o e => Heap.get?_push_of_some _ e
  have st : ZSt (s.heap.push { cls := .type "list", data := .seq #[] }) z TI TO i1 i2 l1 l2 s.heap.objs.size xs ys 0 := ⟨up _ _ hTI, h1.at fun o e => up _ _ e, h2.at fun o e => up _ _ e, (let ⟨o, ho, r⟩ := hl1; ⟨o, up _ _ ho, r⟩), (let ⟨o, ho, r⟩ := hl2; ⟨o, up _ _ ho, r⟩), .inl ⟨rfl, up _ _ hz, up _ _ hTO⟩⟩
  refine ⟨⟨_, hS, rfl⟩, PySem.F.args_list_init_2 _ _, zs_init (A := A.in1) (s := { s with heap := s.heap.push { cls := .type "list", data := .seq #[] } }) hh D L hxy hn st (up _ _ hz) hS (fun h' tk acc' c' as hk hS' hl hG hacc => ?_)⟩
  exact ⟨rfl, hQ h' tk acc' c' as (fun b o c2 c3 c4 c5 e => hk b o (Nat.ne_of_lt (Heap.lt_size e)) c2 c3 c4 c5 (up b o e)) hS' hl hG hacc⟩
end
end J
namespace J
open PySem PySem.Spec PyProof.Rows L2 Evl RZ
theorem vals_getZ : ∀ {xs : List V} {us : List Value}, Vals xs us → ∀ {j : Nat} {u : Value}, us[j]? = some u → ∃ x, xs[j]? = some x ∧ RelV x u
  | _, _, .nil, j, u, h => by simp at h
  | x :: xs, u' :: us, .cons r t, 0, u, h => ⟨x, rfl, by
    obtain rfl : u' = u := by simpa using h
    exact r⟩
  | x :: xs, u' :: us, .cons r t, j + 1, u, h => by
    obtain ⟨y, h1, h2⟩ := vals_getZ t (j := j) (u := u) (by simpa using h)
    exact ⟨y, by simpa using h1, h2⟩
/-- list(zip(a, b)), tuples of one length: new pairs in a new list -/
def tLZip (K : PySem.W.Frag) (ta : TA) : TE := fun σ H Q => ta σ H fun vs H1 => ∃ a b xs ys, vs = [.ref a, .ref b] ∧ SqT K H1 a xs ∧ SqT K H1 b ys ∧ ys.length = xs.length ∧
  ∀ (l : Addr) (as : List Addr) (H2 : Hp), (∀ b o, H1 b = some o → H2 b = some o) → H1 l = none → (∀ a ∈ as, H1 a = none) → as.length = xs.length → (∀ (j : Nat) (a : Addr), as[j]? = some a → ∃ x y, xs[j]? = some x ∧ ys[j]? = some y ∧ H2 a = some (.tup [x, y])) → H2 l = some (.lst (as.map V.ref)) → Q (.ref l) H2
theorem pe_lzip {X : Cx} {e e2 : Expr} {ta : TA} {p p2 q pos : Pos} (hg : Gl X "list") (hm : X.mg "list" = none) (hg2 : Gl X "zip") (hm2 : X.mg "zip" = none) (ha : PA X [e, e2] ta) (hc : X.calm = true := by rfl)
    (na : starEach [.Call (.Name "zip" p2) [e, e2] [] q] X.env = (false, eval (.Call (.Name "zip" p2) [e, e2] [] q) X.env) :: starEach [] X.env := by rfl)
    (hs : starEach [e, e2] X.env = (false, eval e X.env) :: starEach [e2] X.env := by rfl) (hpl : (backTo q (starEach [e2] X.env)).any (·.1) = false := by rfl) :
    PE X (.Call (.Name "list" p) [.Call (.Name "zip" p2) [e, e2] [] q] [] pos) (tLZip X.K ta) := by
  refine ⟨fun pins s σ H Q I h => ?_⟩
  refine Call_ (ld_blt I hg hm PyProof.Rows.boot_list ?_)
  refine PyProof.Rows.callWith_type1 (PyProof.Rows.args_cons ?_ na) na rfl
  refine Call_ (ld_blt I hg2 hm2 PyProof.Rows.boot_zip (PyProof.Rows.callWith_type1 (thn (ha.run q pins s σ H _ I h) fun us s1 ⟨vs, H1, I1, r1, q1⟩ => ?_) hs hpl))
  obtain ⟨a, b, xs, ys, ex, hqx, hqy, hxy, q1⟩ := q1
  subst ex
  cases r1 with
  | cons r rr =>
    cases rr with
    | cons r' rr =>
      cases rr
      cases r
      cases r'
      obtain ⟨its, rv, p1, z1⟩ := I1.tuple hqx
      obtain ⟨its2, rv2, p2, z2⟩ := I1.tuple hqy
      obtain ⟨o1, ho1, _⟩ := id p1
      obtain ⟨o2, ho2, _⟩ := id p2
      have la := Heap.lt_size ho1
      have lb := Heap.lt_size ho2
      refine call_zipT (show s1.heap.IsTuple a its.toArray from p1) (show s1.heap.IsTuple b its2.toArray from p2) fun h' hz hTI hTO h1 h2 hsz hk => ?_
      refine PyProof.Rows.args_nil ?_
      have e1 : its.toArray.size = xs.length := by rw [List.size_toArray, ← rv.length]
      have e2 : its2.toArray.size = ys.length := by rw [List.size_toArray, ← rv2.length]
      have L : ZLow h'.objs.size (s1.heap.objs.size + 4) (s1.heap.objs.size + 2) (s1.heap.objs.size + 3) s1.heap.objs.size (s1.heap.objs.size + 1) a b := by
        rw [hsz]
        constructor
        · exact Nat.lt_succ_self _
        · exact Nat.add_lt_add_left (by decide) _
        · exact Nat.add_lt_add_left (by decide) _
        · exact Nat.lt_add_of_pos_right (by decide)
        · exact Nat.add_lt_add_left (by decide) _
        · exact Nat.lt_of_lt_of_le la (Nat.le_add_right _ _)
        · exact Nat.lt_of_lt_of_le lb (Nat.le_add_right _ _)
      refine zs_list (s := { s1 with heap := h' }) (xs := its.toArray) (ys := its2.toArray) (I1.ok.hd hc) (PySem.W.ktu_apart s1.heap.objs.size a b la lb) L (by rw [e1, e2, hxy]) (by rw [e1]; exact z1) hz hTI hTO h1 h2 (let ⟨o, ho, r⟩ := p1; ⟨o, hk _ _ ho, r⟩) (let ⟨o, ho, r⟩ := p2; ⟨o, hk _ _ ho, r⟩) fun h3 tk acc c as hk3 hS hl hG hacc => ?_
      have kp : ∀ b o, s1.heap.get? b = some o → h3.get? b = some o := fun b o e => by
        have hb := Heap.lt_size e
        exact hk3 b o (Nat.ne_of_lt (Nat.lt_of_lt_of_le hb (Nat.le_add_right _ _))) (Nat.ne_of_lt (Nat.lt_of_lt_of_le hb (Nat.le_add_right _ _))) (Nat.ne_of_lt hb) (Nat.ne_of_lt (Nat.lt_of_lt_of_le hb (Nat.le_add_right _ _))) (hk b o e)
      have lo : s1.heap.objs.size ≤ h'.objs.size := by rw [hsz]; exact Nat.le_add_right _ _
      have hal : as.length = xs.length := by rw [hl, e1]
      have eacc : acc = (as.map Value.ref).toArray := by rw [← hacc, Array.toArray_toList]
      have I3 : Inv X pins σ (upd H1 h'.objs.size (.lst (as.map V.ref))) { s1 with heap := h3, toks := tk } := I1.laid kp lo ⟨by rw [List.length_map, hal]; exact z1, as.map Value.ref, c, vals_refs as, by rw [← eacc]; exact hS⟩
      have nd : as.Nodup := List.Pairwise.imp (fun h => Nat.ne_of_lt h) hG.rise
      obtain ⟨H2, I4, g, q⟩ := L2.DX.takeT (P := fun a vs => ∃ j x y, as[j]? = some a ∧ xs[j]? = some x ∧ ys[j]? = some y ∧ vs = [x, y]) I1 as _ I3 nd fun c hc => by
        obtain ⟨j, hj⟩ := List.mem_iff_getElem?.mp hc
        obtain ⟨u, v, hu, hv, hp⟩ := hG.pairs j c hj
        obtain ⟨x, gx, rx⟩ := vals_getZ rv (by simpa using hu)
        obtain ⟨y, gy, ry⟩ := vals_getZ rv2 (by simpa using hv)
        have ab := hG.above c hc
        have hfr := I1.hok.fresh (Nat.le_of_lt (Nat.lt_of_le_of_lt lo ab))
        exact ⟨Nat.le_of_lt (Nat.lt_of_le_of_lt lo ab), by rw [upd_ne (Nat.ne_of_gt ab)]; exact hfr, [x, y], ⟨j, x, y, hj, gx, gy, rfl⟩, fun H2 => ⟨by rw [sizeLine_eq]; exact Nat.le_of_ble_eq_true rfl, [u, v], .cons rx (.cons ry .nil), _, hp, rfl, 0, rfl⟩⟩
      refine ⟨.ref h'.objs.size, H2, I4, rfl, q1 h'.objs.size as H2 (fun b o e => g b o (by rw [upd_ne (ne_of_none e (I1.hok.fresh lo))]; exact e)) (I1.hok.fresh lo) (fun c hc => I1.hok.fresh (Nat.le_of_lt (Nat.lt_of_le_of_lt lo (hG.above c hc)))) hal (fun j c hj => ?_) (g _ _ upd_same)⟩
      obtain ⟨vs, ⟨j', x, y, hj', gx, gy, rfl⟩, hv⟩ := q c (List.mem_of_getElem? hj)
      have : j' = j := by
        obtain ⟨h1, e1⟩ := List.getElem?_eq_some_iff.mp hj
        obtain ⟨h2, e2⟩ := List.getElem?_eq_some_iff.mp hj'
        exact (List.getElem_inj nd).mp (e2.trans e1.symm)
      subst this
      exact ⟨x, y, gx, gy, hv⟩
end J

/-! J65: over the layer: list(zip(a, b)), dicts by pairs of ints. -/
namespace J
open PySem PySem.Spec PyProof.Rows L2 Evl RZ
theorem all2_pt {α : Type} {R : Rl α} {S : Hp} : ∀ {xs : List α} {vs : List V}, xs.length = vs.length → (∀ (j : Nat) (x : α) (v : V), xs[j]? = some x → vs[j]? = some v → R x v S) → All2 R S xs vs
  | [], [], _, _ => .nil
  | [], _ :: _, h, _ => by cases h
  | _ :: _, [], h, _ => by cases h
  | x :: xs, v :: vs, h, k => .cons (k 0 x v rfl rfl) (all2_pt (by simpa using h) fun j y u h1 h2 => k (j + 1) y u (by simpa using h1) (by simpa using h2))
/-- a pair whose own tuple is in sight -/
def PairS {α β : Type} (R : Rl α) (R' : Rl β) : Rl (α × β) := fun p v S => ∃ a x y, v = .ref a ∧ S a = some (.tup [x, y]) ∧ R p.1 x S ∧ R' p.2 y S
instance {α β : Type} {R : Rl α} {R' : Rl β} [Mono R] [Mono R'] : Mono (PairS R R') := ⟨fun e ⟨a, x, y, h1, h2, h3, h4⟩ => ⟨a, x, y, h1, e _ _ h2, Mono.up e h3, Mono.up e h4⟩⟩
theorem PairS.r {α β : Type} {R : Rl α} {R' : Rl β} {K : PySem.W.Frag} {p : α × β} {v : V} {S : Hp} (h : PairS R R' p v S) : PairR K R R' p v S := by
  obtain ⟨a, x, y, h1, h2, h3, h4⟩ := h
  exact ⟨a, x, y, h1, SqT.of h2, h3, h4⟩
section
variable {r : Rs} {s : L2.St} {S : Hp} {ta tb : TE} {K : PySem.W.Frag} {α β : Type} {R : Rl α} {R' : Rl β}
theorem ev_pairS [Mono R] [Mono R'] {a : α} {b : β} (h : EvS r ta s S fun v S1 => R a v S1) (h2 : ∀ S1, Ex S S1 → EvS r tb s S1 fun v S2 => R' b v S2) : EvS r (tTup (tCons ta (tCons tb tNil))) s S fun v S1 => PairS R R' (a, b) v S1 := fun S1 H e w Q q =>
  h S1 H e w _ fun v S2 H2 w2 s2 hv => h2 S2 (e.trans s2.ex) S2 H2 (Ex.refl _) w2 _ fun v' S3 H3 w3 s3 hv' => ⟨sz_of (show [v, v'].length ≤ 100000 by simp), fun p hp => q (.ref p) (L2.upd S3 p (.tup [v, v'])) _ (w3.newS hp) ((s2.trans s3).trans (Stp.newS w3 hp)) ⟨p, v, v', rfl, upd_same, Mono.up (Ex.new (w3.fresh hp)) (Mono.up s3.ex hv), Mono.up (Ex.new (w3.fresh hp)) hv'⟩⟩
theorem ev_lzip [Mono R] [Mono R'] {xs : List α} {ys : List β} (h1 : EvS r ta s S fun v S1 => TupR K R xs v S1) (h2 : ∀ S1, Ex S S1 → EvS r tb s S1 fun v S2 => TupR K R' ys v S2) (hl : ys.length = xs.length) : EvS r (tLZip K (tCons ta (tCons tb tNil))) s S fun v S1 => LstR (PairS R R') (xs.zip ys) v S1 := fun S1 H e w Q q =>
  h1 S1 H e w _ fun v S2 H2 w2 s2 hv => h2 S2 (e.trans s2.ex) S2 H2 (Ex.refl _) w2 _ fun v' S3 H3 w3 s3 ⟨b, ws, ev', hb, hws⟩ => by
    obtain ⟨a, vs, ev, ha, hvs⟩ := Mono.up s3.ex hv
    subst ev
    subst ev'
    have l1 := hvs.len
    have l2 := hws.len
    refine ⟨a, b, vs, ws, rfl, ex_t w3.ex ha, ex_t w3.ex hb, by omega, fun l as H4 keep nl nas hlen pairs hL => ?_⟩
    have fresh : ∀ c, c ∈ l :: as → H3 c = none := fun c hc => by
      rcases List.mem_cons.mp hc with rfl | hc
      · exact nl
      · exact nas c hc
    have w4 : Wd r S3 H4 := ⟨w3.ex.trans keep, r.mono H3 H4 (fun a o _ e => keep a o e) (fun a q e => keep a _ e) w3.inv, w3.dj⟩
    have s4 : Stp r S3 H3 S3 H4 := ⟨Ex.refl _, fun a o _ e => keep a o e, fun _ _ h => h, fun a q => by
      cases z : H3 a with
      | none => exact absurd z q
      | some o => exact ne_none (keep _ _ z)⟩
    have w5 : Wd r (sup (l :: as) H4 S3) H4 := w4.settleL fun c hc => w3.notM (fresh c hc)
    have hs : ∀ c, c ∈ l :: as → S3 c = none := fun c hc => w3.fresh (fresh c hc)
    have s5 : Stp r S3 H3 (sup (l :: as) H4 S3) H4 := s4.settleL fresh hs
    refine q (.ref l) _ H4 w5 (s2.trans (s3.trans s5)) ⟨l, as.map V.ref, rfl, by rw [sup_in (List.mem_cons_self ..)]; exact hL, all2_pt (by rw [List.length_zip, List.length_map]; omega) fun j z u hz hu => ?_⟩
    rw [List.getElem?_map] at hu
    obtain ⟨c, hc, rfl⟩ := Option.map_eq_some_iff.mp hu
    obtain ⟨x, y, gx, gy, hp⟩ := pairs j c hc
    obtain ⟨zx, zy⟩ := List.getElem?_zip_eq_some.mp hz
    obtain ⟨x', gx', rx⟩ := hvs.at zx
    obtain ⟨y', gy', ry⟩ := hws.at zy
    rw [gx] at gx'
    rw [gy] at gy'
    cases gx'
    cases gy'
    exact ⟨c, x, y, rfl, (by rw [sup_in (List.mem_cons_of_mem _ (List.mem_of_getElem? hc))]; exact hp), Mono.up s5.ex rx, Mono.up s5.ex ry⟩
end
/-! dicts by tuples -/
def rInDD : R2 := fun y x H Q => ∃ a o, x = .ref a ∧ DGet H a y o ∧ Q (.bl o.isSome) H
def rNotInDD : R2 := fun y x H Q => ∃ a o, x = .ref a ∧ DGet H a y o ∧ Q (.bl (!o.isSome)) H
theorem op_inDD {X : Cx} (hu : X.A.units + 1 < cLine) : OpR X (compareOp .In) rInDD := by
  intro pins s σ H y x iv u Q I ry rx h
  obtain ⟨a, o, rfl, g, q⟩ := h
  obtain rfl : u = Value.ref a := rx
  exact d_in hu I g ry fun s3 I3 => ⟨.bl o.isSome, H, I3, rfl, q⟩
theorem op_notInDD {X : Cx} (hu : X.A.units + 1 < cLine) : OpR X (compareOp .NotIn) rNotInDD := by
  intro pins s σ H y x iv u Q I ry rx h
  obtain ⟨a, o, rfl, g, q⟩ := h
  obtain rfl : u = Value.ref a := rx
  exact d_notIn hu I g ry fun s3 I3 => ⟨.bl (!o.isSome), H, I3, rfl, q⟩
/-- a pair of ints as a key -/
def keyP (p : Int × Int) : List Key := [.inl p.1, .inl p.2]
def kvP (ps : List (Int × Int)) : List (List Key × V) := ps.map fun p => (keyP p, V.bl true)
theorem keyP_inj {p q : Int × Int} (h : keyP p = keyP q) : p = q := by
  obtain ⟨a, b⟩ := p
  obtain ⟨c, d⟩ := q
  unfold keyP at h
  simp only [List.cons.injEq, Sum.inl.injEq, and_true] at h
  rw [h.1, h.2]
theorem valV_kvP (q : Int × Int) : ∀ ps : List (Int × Int), (valV (kvP ps) (keyP q)).isSome = decide (q ∈ ps)
  | [] => rfl
  | p :: ps => by
    by_cases h : p = q
    · subst h
      rw [show kvP (p :: ps) = (keyP p, V.bl true) :: kvP ps from rfl, valV_pos rfl]
      simp
    · rw [show kvP (p :: ps) = (keyP p, V.bl true) :: kvP ps from rfl, valV_neg (fun z => h (keyP_inj z)), valV_kvP q ps]
      exact decide_eq_decide.mpr ⟨fun z => .tail _ z, fun z => (List.mem_cons.mp z).resolve_left (fun e => h e.symm)⟩
theorem putK_kvP {q : Int × Int} {ps : List (Int × Int)} (h : q ∉ ps) : putK (kvP ps) (keyP q) (.bl true) = kvP (ps ++ [q]) := by
  have e := valV_kvP q ps
  rw [decide_eq_false h] at e
  unfold putK
  rw [valV_any, e, if_neg (by decide)]
  unfold kvP
  rw [List.map_append]
  rfl
section
variable {r : Rs} {s : L2.St} {S : Hp} {K : PySem.W.Frag}
/-- {x: c}, x a tuple -/
theorem en_disp1 {i : Nat} {b : Addr} {k : List Key} {c : V} (h : s[i]? = some (some (.ref b))) (hb : S b = some (.tup (k.map kV))) : EvN r (tDisp1 (tVar i) (tC c)) s S fun o _ => o = .dT [(k, c)] := fun S1 H e w Q q p hp => by
  have hb1 := w.ex _ _ (e _ _ hb)
  have nb : b ≠ p := fun z => by
    rw [z, hp] at hb1
    cases hb1
  refine (vv_var h : EvV r (tVar i) s S (.ref b)) S1 _ e (w.new hp) _ fun v S2 H2 w2 s2 ev => ?_
  subst ev
  have hp2 : H2 p = some (.dT []) := s2.kp p _ (w.notM hp) upd_same
  have n2 : S2 p = none := s2.fr p (by rw [upd_same]; exact fun z => nomatch z) (w.fresh hp)
  refine ⟨hp2, b, k, rfl, w2.ex _ _ (s2.ex _ _ (e _ _ hb)), ?_⟩
  have w3 : Wd r S2 (L2.upd H2 p (.dT [(k, c)])) := w2.upd n2 (w.notM hp) (fun q z => by rw [hp2] at z; cases z)
  refine q p _ S2 _ hp upd_same n2 w3 ⟨s2.ex, fun a o na ea => ?_, fun a ea na => s2.fr a (by rw [upd_ne (fun z => by rw [z] at ea; exact ea hp)]; exact ea) na, fun a ea => ?_⟩ rfl
  · have ne : a ≠ p := fun z => by
      rw [z, hp] at ea
      cases ea
    rw [upd_ne ne]
    exact s2.kp a o na (by rw [upd_ne ne]; exact ea)
  · have ne : a ≠ p := fun z => by
      rw [z] at ea
      exact ea hp
    rw [upd_ne ne]
    exact s2.dm a (by rw [upd_ne ne]; exact ea)
theorem rs_notInDD {b d : Addr} {k : List Key} {kvs : List (List Key × V)} (hd : S d = some (.dT kvs)) (hb : S b = some (.tup (k.map kV))) : RVS rNotInDD (.ref b) (.ref d) S (.bl (!(valV kvs k).isSome)) := fun H e Q q => ⟨d, _, rfl, DGet.t (e _ _ hd) (e _ _ hb), q⟩
end
end J

/-! J66: a dict by tuples whose keys' own tuples are told; all its values are True. -/
namespace J
open PySem PySem.Spec PyProof.Rows L2 Evl RZ LamX
def rawOf (ks : List (List Key × Addr)) : List (List Key × Addr × Value) := ks.map fun z => (z.1, z.2, Value.bool true)
def dkO (P : Program) (w : World) (d : Addr) (ks : List (List Key × Addr)) : HO := .ext fun h => (d == sysModules) = false ∧ ks.length ≤ sizeLine ∧ ∃ o es ep, h.get? d = some o ∧ o.ExactDict ∧ o.data = .dict es ep ∧ es.toList = (rawOf ks).map (entryOfKey (tupleKind (mixKind P w))) ∧ ((rawOf ks).map (·.1)).Nodup
theorem dkO_new {P : Program} {w : World} {H : Hp} {h : Heap} {d : Addr} {ks : List (List Key × Addr)} (hd : (d == sysModules) = false) (hl : ks.length ≤ sizeLine) (x : h.DictOfH (tupleKind (mixKind P w)) d (rawOf ks)) : ObjOk P w H h d (dkO P w d ks) := by
  obtain ⟨o, es, ep, ho, h2, h3, h4, _, h5⟩ := x
  exact ⟨⟨hd, hl, o, es, ep, ho, h2, h3, h4, h5⟩, ⟨o, ho⟩, fun h1 h2' ⟨a1, a2, o, es, ep, b1, b2, b3, b4, b5⟩ k => ⟨a1, a2, o, es, ep, k _ b1, b2, b3, b4, b5⟩⟩
theorem atKey_raw (k : List Key) : ∀ ks : List (List Key × Addr), (atKey (rawOf ks) k).isSome = (ks.any fun z => decide (z.1 = k))
  | [] => rfl
  | z :: ks => by
    have ih := atKey_raw k ks
    by_cases e : z.1 = k
    · simp [atKey, rawOf, List.find?_cons, e]
    · have b : atKey (rawOf (z :: ks)) k = atKey (rawOf ks) k := by simp [atKey, rawOf, List.find?_cons, e]
      rw [b, ih, List.any_cons, decide_eq_false e, Bool.false_or]
section
variable {X : Cx} {pins : List (Addr × Obj)} {σ : L2.St} {H : Hp} {s : Shared} {d : Addr} {ks : List (List Key × Addr)}
theorem dkO_full (I : Inv X pins σ H s) (hd : H d = some (dkO X.prog X.w d ks)) (hk : ∀ z ∈ ks, H z.2 = some (.tup (z.1.map kV))) : (d == sysModules) = false ∧ ks.length ≤ sizeLine ∧ s.heap.DictOfH (tupleKind (mixKind X.prog X.w)) d (rawOf ks) := by
  obtain ⟨⟨a1, a2, o, es, ep, b1, b2, b3, b4, b5⟩, _⟩ := (show ObjOk X.prog X.w H s.heap d (dkO X.prog X.w d ks) from I.hok d _ hd)
  refine ⟨a1, a2, o, es, ep, b1, b2, b3, b4, fun x hx => ?_, b5⟩
  obtain ⟨z, hz, rfl⟩ := List.mem_map.mp hx
  exact key_of I.hok (hk z hz)
end
def rNotInE (P : Program) (w : World) : R2 := fun y x H Q => ∃ d ks b k, x = .ref d ∧ y = .ref b ∧ H d = some (dkO P w d ks) ∧ (∀ z ∈ ks, H z.2 = some (.tup (z.1.map kV))) ∧ H b = some (.tup (k.map kV)) ∧ Q (.bl (!(ks.any fun z => decide (z.1 = k)))) H
theorem op_notInE {X : Cx} (hu : X.A.units + 1 < cLine) : OpR X (compareOp .NotIn) (rNotInE X.prog X.w) := by
  intro pins s σ H y x iv u Q I ry rx h
  obtain ⟨d, ks, b, k, rfl, rfl, hd, hk, hb, q⟩ := h
  obtain rfl : u = Value.ref d := rx
  cases (show iv = Value.ref b from ry)
  obtain ⟨a1, a2, dd⟩ := dkO_full I hd hk
  refine wpAny_notIn_heap (tupleKind_room_in1 hu) (key_of I.hok hb) a1 dd ?_
  rw [atKey_raw]
  exact ⟨.bl _, H, I.tok _, rfl, q⟩
/-- d[k] = True, k new -/
def sPutE (P : Program) (w : World) (td ty tv : TE) : TS := fun D σ H => tv σ H fun v H1 => td σ H1 fun x H2 => ty σ H2 fun y H3 => ∃ d ks b k, v = .bl true ∧ x = .ref d ∧ y = .ref b ∧ H3 d = some (dkO P w d ks) ∧ (∀ z ∈ ks, H3 z.2 = some (.tup (z.1.map kV))) ∧ H3 b = some (.tup (k.map kV)) ∧ (ks.any fun z => decide (z.1 = k)) = false ∧ ks.length < 100000 ∧ D.nx σ (upd H3 d (dkO P w d (ks ++ [(k, b)])))
theorem ps_dputE {X : Cx} {o i value : Expr} {td ty tv : TE} {pos pos' : Pos} (hu : X.A.units + 1 < cLine) (ho : PE X o td) (hi : PE X i ty) (hv : PE X value tv) (hs : swapsWith value (some (.Subscript o i pos')) pos.line X.env = pure false) :
    PS X (.Assign [.Subscript o i pos'] value pos) (sPutE X.prog X.w td ty tv) := by
  refine ⟨fun pins s σ H D I h => ?_⟩
  refine wpAny_Assign_Subscript (thn (hv.run pins s σ H _ I h) fun r s1 ⟨v, H1, I1, rv, q1⟩ => thn (ho.run pins s1 σ H1 _ I1 q1) fun u s2 ⟨x, H2, I2, rx, q2⟩ => thn (hi.run pins s2 σ H2 _ I2 q2) fun iv s3 ⟨y, H3, I3, ry, d, ks, b, k, ev, ex, ey, hd, hk, hb, hn, hl, q3⟩ => ?_) hs
  subst ev
  subst ex
  subst ey
  obtain rfl : u = Value.ref d := rx
  cases (show iv = Value.ref b from ry)
  cases (show r = Value.bool true from rv)
  obtain ⟨a1, a2, dd⟩ := dkO_full I3 hd hk
  have hno : atKey (rawOf ks) k = none := by
    have := atKey_raw k ks
    rw [hn] at this
    exact Option.not_isSome_iff_eq_none.mp (by rw [this]; exact Bool.false_ne_true)
  refine wpAny_setItem_heap (hsz := by rw [rawOf, List.length_map]; exact a2) (tupleKind_room_in1 hu) (key_of I3.hok hb) dd fun h' dd' hsb => ?_
  rw [storedH_new hno] at dd'
  have e : rawOf ks ++ [(k, b, Value.bool true)] = rawOf (ks ++ [(k, b)]) := by
    unfold rawOf
    rw [List.map_append]
    rfl
  rw [e] at dd'
  obtain ⟨o, es, ep, hq, _⟩ := id dd'
  exact ⟨σ, _, d_write I3 (by rw [hd]; exact True.intro) hsb ⟨o, hq⟩ (dkO_new a1 (sz_of (by rw [List.length_append, List.length_singleton]; omega)) dd'), q3⟩
/-- {x: True} -/
def tDispE (P : Program) (w : World) (tk tv : TE) : TE := fun σ H Q => ∀ p, H p = none → tk σ (upd H p (.dT [])) fun x H1 => tv σ H1 fun y H2 => H2 p = some (.dT []) ∧ ∃ (b : Addr) (k : List Key), y = .bl true ∧ x = .ref b ∧ H2 b = some (.tup (k.map kV)) ∧ Q (.ref p) (upd H2 p (dkO P w p [(k, b)]))
theorem pe_dispE {X : Cx} {ek ev : Expr} {tk tv : TE} {pos : Pos} (hu : (tupleKind (mixKind X.prog X.w)).room X.A) (hk : PE X ek tk) (hv : PE X ev tv) : PE X (.Dict [some ek] [ev] pos) (tDispE X.prog X.w tk tv) := by
  refine ⟨fun pins s σ H Q I q => ?_⟩
  have hn := I.hok.fresh (Nat.le_refl s.heap.objs.size)
  have I1 := I.laid (a := s.heap.objs.size) (o := .dT []) (h' := s.heap.push { cls := .type "dict", data := .dict #[] }) (t' := s.toks) (fun _ _ q => Heap.get?_push_of_some _ q) (Nat.le_refl _) (dt_empty s.heap I.big)
  rw [arm_eval_Dict, zip_pairTrees [some ek] [ev] X.env pos (by rfl) (by rfl), dictDisplay_pairs (pairTrees [some ek] [ev] X.env pos) (fun z => by have := pairTrees_length [some ek] [ev] X.env pos rfl rfl; rw [z] at this; cases this) (by rw [pairTrees_length [some ek] [ev] X.env pos rfl rfl]; exact Nat.le_of_ble_eq_true rfl)]
  refine wpAny_bind (wpAny_standAt (wpAny_bind (wpAny_subDictH (knd := tupleKind (mixKind X.prog X.w)) (Q := fun d s' => wpAny (model X.prog X.w) X.A (pure (Value.ref d)) _ _ s') hu (by rw [pairTrees_length [some ek] [ev] X.env pos rfl rfl]; exact Nat.le_of_ble_eq_true rfl) ?_)))
  refine pairTrees_cons_walk (thn (hk.run pins _ σ _ _ I1 (q _ hn)) fun u s1 ⟨x, H1, I2, rx, q1⟩ => thn (hv.run pins s1 σ H1 _ I2 q1) fun w2 s2 ⟨y, H2, I3, ry, hp, b, k, ey, ex, hb, q2⟩ => pairTrees_nil_walk ?_)
  subst ex
  subst ey
  cases (show u = Value.ref b from rx)
  cases (show w2 = Value.bool true from ry)
  obtain ⟨z, hd, xs, r0, dd⟩ := dt_of I3.hok hp
  cases r0
  refine ⟨[(k, b, Value.bool true)], ⟨rfl, rfl, key_of I3.hok hb, trivial⟩, dd, fun h' tk dd' hs => wpAny_pure ⟨.ref s.heap.objs.size, _, ?_, rfl, q2⟩⟩
  have dd2 : h'.DictOfH (tupleKind (mixKind X.prog X.w)) s.heap.objs.size (rawOf [(k, b)]) := dd'
  obtain ⟨o, es, ep, hq, _⟩ := id dd'
  exact d_write I3 (by rw [hp]; exact True.intro) hs ⟨o, hq⟩ (dkO_new hd (by rw [sizeLine_eq]; exact Nat.le_of_ble_eq_true rfl) dd2)
theorem vals_rawOf : ∀ ks : List (List Key × Addr), Vals (ks.map fun z => V.ref z.2) (ks.map fun z => Value.ref z.2)
  | [] => .nil
  | _ :: r => .cons rfl (vals_rawOf r)
theorem dp_rawOf {K : PySem.W.Frag} {H : Hp} : ∀ {ks : List (List Key × Addr)}, (∀ z ∈ ks, H z.2 = some (.tup (z.1.map kV))) → DpAll K H (ks.map fun z => V.ref z.2) (ks.map fun z => keyD z.1)
  | [], _ => .nil
  | z :: r, h => .cons (.tup (SqT.of (h z (.head _))) (dpa_keys _)) (dp_rawOf fun y hy => h y (.tail _ hy))
def tSortE (P' : Program) (w' : World) (P : Addr) (T : List (Addr × Str)) (te : TE) : TE := fun σ H Q => te σ H fun x H1 => Tabs T H1 ∧ ∀ H2, (∀ b o, b ≠ P → H1 b = some o → H2 b = some o) → Tabs T H2 →
  ∃ (a : Addr) (kks : List (List Key × Addr)), x = .ref a ∧ H2 a = some (dkO P' w' a kks) ∧ (∀ z ∈ kks, H2 z.2 = some (.tup (z.1.map kV))) ∧ (∀ p ∈ kks, KeyD (keyD p.1)) ∧ ∀ p, H2 p = none → Q (.ref p) (upd H2 p (.lst (sortS (kks.map fun z => V.ref z.2) (kks.map fun z => keyD z.1))))
section
variable {X : Cx} {k : Nat} {P c : Addr} {T : List (Addr × Str)} {y : Str} {e : Expr} {te : TE} {params : Arguments} {sc : Scope} {p p1 p2 p3 lpos kp pos : Pos}
theorem pe_sortE (g : Gd X.A) (hr : Room k X.A) (hg : Gl X "sorted") (hm : X.mg "sorted" = none) (hms : X.mg "str" = none) (he : PE X e te) (TB : TabB X.base X.mg c P) (hcode : X.env.code = .ref c) (hT : (P, X.env.qual ++ "<lambda>") ∈ T) (hu : ∀ z ∈ T, z.1 = P → z.2 = X.env.qual ++ "<lambda>") (L : StrS sc y) (hcalm : X.calm = true)
    (hbind : ∀ (q : Str) (cl : List (Str × Addr)) (pm cv ctv v : Value), bindArgs (PySem.W.kla_fn "<lambda>" q params (.Call (.Name "str" p1) [.Name y p2] [] p3) sc cl pm cv ctv) ⟨[v], []⟩ = pure [(y, v)] := by exact fun _ _ _ _ _ _ => rfl) (hdef : defaultsOf params X.env = ([], []) := by rfl) (hy : (y == ("__debug__" : Str)) = false := by decide)
    (e1 : backTo pos (starEach [e] X.env) = (false, eval e X.env) :: backTo pos (starEach [] X.env) := by rfl) (e2 : (backTo pos (starEach [e] X.env)).any (·.1) = false := by rfl) :
    PE X (.Call (.Name "sorted" p) [e] [⟨some "key", .Lambda params (.Call (.Name "str" p1) [.Name y p2] [] p3) sc lpos, kp⟩] pos) (tSortE X.prog X.w P T te) := by
  refine ⟨fun pins s σ H Q I h => ?_⟩
  refine wpAny_Call_Name_kw (ld_blt I hg hm (u := .builtin "sorted") (by kernel_rfl) ?_)
  refine PyProof.Rows.callWith_kw ?_ e1 e2 (by rfl) (by rfl)
  have ev : wpAny (model X.prog X.w) X.A (spliced (backTo pos (starEach [e] X.env))) (AP X pins σ fun vs H1 => ∃ x, vs = [x] ∧ (Tabs T H1 ∧ ∀ H2, (∀ b o, b ≠ P → H1 b = some o → H2 b = some o) → Tabs T H2 →
      ∃ (a : Addr) (kks : List (List Key × Addr)), x = .ref a ∧ H2 a = some (dkO X.prog X.w a kks) ∧ (∀ z ∈ kks, H2 z.2 = some (.tup (z.1.map kV))) ∧ (∀ p ∈ kks, KeyD (keyD p.1)) ∧ ∀ p, H2 p = none → Q (.ref p) (upd H2 p (.lst (sortS (kks.map fun z => V.ref z.2) (kks.map fun z => keyD z.1)))))) X.xe s := by
    rw [e1]
    refine Calls.spliced_cons (thn (he.run pins s σ H _ I h) fun u s1 ⟨x, H1, I1, r1, q1⟩ => ?_)
    exact Calls.spliced_nil ⟨[x], H1, I1, .cons r1 .nil, x, rfl, q1⟩
  refine thn ev fun us s1 ⟨vs, H1, I1, r1, x, exx, tabs1, q1⟩ => ?_
  subst exx
  obtain ⟨u, eu, ru⟩ := vals1 r1
  subst eu
  refine PyProof.Rows.kws_cons ?_
  refine lam_mk I1 TB hcode hT hu tabs1 hdef (fun z hz ez => absurd ez (L.nofree z hz)) fun f c1 pm ctv H2 s2 I2 kp2 T2 hf nf ns hc1 => ?_
  refine PyProof.Rows.kws_nil ?_
  obtain ⟨a, kks, ex, ha, hkt, hk, q⟩ := q1 H2 kp2 T2
  subst ex
  obtain rfl : u = Value.ref a := ru
  obtain ⟨⟨hs, z, o, es, ep, ho, hx, hdt, hent, hn⟩, _⟩ := (show ObjOk X.prog X.w H2 s2.heap a (dkO X.prog X.w a kks) from I2.hok a _ ha)
  have l1 : es.size = kks.length := by
    have := size_of_entries hent
    rw [this, rawOf, List.length_map]
  have hds : DpAll X.K H2 (kks.map fun z => V.ref z.2) (kks.map fun z => keyD z.1) := dp_rawOf hkt
  have rv : Vals (kks.map fun z => V.ref z.2) (kks.map fun z => Value.ref z.2) := vals_rawOf kks
  obtain ⟨⟨oc, vs, tk, co, cd, cn⟩, _⟩ := I2.hok c1 _ hc1
  obtain ⟨mb, hb1, hb2⟩ := I2.mod.blt
  have hlen := rv.length
  have zl : ((kks.map fun z => V.ref z.2).zip (kks.map fun z => keyD z.1)).length = kks.length := by
    rw [List.length_zip, List.length_map, List.length_map, Nat.min_self]
  show wpAny (model X.prog X.w) X.A (call (.builtin "sorted") [.ref a] [(Str.ofString "key", .ref f)]) _ _ s2
  refine PySem.W.sorted_key_src (vs := kks.map fun z => Value.ref z.2) (b := false) (fun z : V × PyData => PyData.str z.2.shown) (kdl_raw hs hx hdt) (I2.ok.hd hcalm) ho (by omega) (fun acc it => ?_) (dpa_zip hds rv) (PySem.W.AllAlike.of fun _ _ => by simp [PySem.W.alike]) (PySem.W.Sortable.others fun _ => ⟨by simp, by simp⟩) (by rw [zl]; exact z) (fun z _ => ?_) (PyProof.Rows.ksk_s1 _ _) (fun _ => PyProof.Rows.ksk_l1 _ _) (fun _ => PyProof.Rows.ksk_t1 _ _) (fun v z ⟨rz, dz⟩ mz h tk keep => ?_) fun D out c2 h' tk keep fr hD hlo eo => ?_
  · apply List.ext_getElem?
    intro j
    have hl : acc.toList.length = kks.length := by rw [Array.length_toList, it.1]; exact l1
    rw [List.getElem?_map]
    cases hj : acc.toList[j]? with
    | none =>
      have h1 := List.getElem?_eq_none_iff.mp hj
      rw [List.getElem?_eq_none (by omega)]
      all_goals rfl
    | some v =>
      obtain ⟨en, hen, hv⟩ := it.2 j v (by rw [← Array.getElem?_toList]; exact hj)
      have qe := entry_at hent j
      rw [hen, rawOf, List.getElem?_map] at qe
      cases hb : kks[j]? with
      | none =>
        rw [hb] at qe
        exact nomatch (show some en = none from qe)
      | some b =>
        rw [hb] at qe
        have e2 : en = entryOfKey (tupleKind (mixKind X.prog X.w)) (b.1, b.2, Value.bool true) := Option.some.inj qe
        rw [hv, e2]
        all_goals rfl
  · have := hr.un
    show X.A.units + 2 + 0 < cLine
    omega
  · have hzd : z.2 ∈ kks.map fun z => keyD z.1 := (List.of_mem_zip mz).2
    obtain ⟨pz, hpz, ez⟩ := List.mem_map.mp hzd
    have kz : KeyD z.2 := by rw [← ez]; exact hk _ hpz
    obtain ⟨as, rd⟩ := Dp.reads I2 z.2 z.1 v dz rz
    have hr2 := hr.un
    exact strkey_call (s1 := { s2 with heap := h, toks := tk }) (mg := X.mg) (mb := mb) L (show X.A.depth < recursionLimit from hr.depth) (show X.A.guards = some [] from g) (by show X.A.units + 1 + 1 + 60 < cLine; omega) (keep _ _ hf) ⟨c1, oc, _, _, rfl, keep _ _ co, cd, cn⟩ ((I2.mod.glob.keeps I2.bk).keeps keep) hms ((hb1.keeps I2.bk).keeps keep) ((hb2 "str" (by decide)).trans (by kernel_rfl)) (I2.nolimit.keeps keep) (hbind _ _ _ _ _ _) hy (PyProof.Rows.Reads.keeps keep rd) kz.bx kz.sh (dp_nodict _ _ dz) kz.dp kz.sz
  · have vo := each_vals eo
    have hlz : (sortS (kks.map fun z => V.ref z.2) (kks.map fun z => keyD z.1)).length ≤ sizeLine := by
      unfold sortS
      rw [List.length_map, List.length_mergeSort, zl]
      exact z
    have hDn : H2 D = none := by
      cases q : H2 D with
      | none => rfl
      | some u =>
        obtain ⟨u', hu'⟩ := objOk_get (I2.hok D u q)
        rw [fr] at hu'
        cases hu'
    exact ⟨.ref _, upd H2 D (.lst (sortS (kks.map fun z : List Key × Addr => V.ref z.2) (kks.map fun z : List Key × Addr => keyD z.1))), Inv.laidN (t' := tk) I2 keep fr hDn ⟨hlz, out, c2, vo, hD⟩, rfl, q _ hDn⟩
end
end J

set_option pp.maxSteps 3000
/-! J75: dict comprehensions over whole numbers. -/
namespace J
open PySem PySem.Spec PyProof.Rows L2 Evl RZ
theorem putK_new {κ : Type} [DecidableEq κ] {kvs : List (κ × V)} {k : κ} {v : V} (h : k ∉ kvs.map (·.1)) : putK kvs k v = kvs ++ [(k, v)] := by
  unfold putK
  rw [if_neg]
  intro z
  obtain ⟨a, ha, e⟩ := List.any_eq_true.mp z
  exact h (List.mem_map.mpr ⟨a, ha, of_decide_eq_true e⟩)
section
variable {J : It} {n : Nat} {G : Hp → Prop} {Y : Nat → Hp → V → Hp → Prop}
/-- the turns of a dict's comprehension, told by Pv -/
theorem dc_walk (wk : Walk J n G Y) {g : TG} {tt : TT} {tk tv : TE} {vs : List Nat} {σ : L2.St} {H1 : Hp} {D : Addr} {fin : Hp → Prop} (Pv : Nat → Hp → Prop) (begin_ : Pv 0 (upd H1 D (.dK []))) (good : ∀ i H, i ≤ n → Pv i H → G H)
    (turn : ∀ i x H H', i < n → Pv i H → Y i H x H' → g x (wipe σ vs) H' fun σ2 H2 => wipe σ2 vs = wipe σ vs ∧ tt σ2 H2 fun b H3 =>
      if b = true then tk σ2 H3 fun y H4 => tv σ2 H4 fun z H5 => ∃ kvs k, y = kV k ∧ H5 D = some (.dK kvs) ∧ kvs.length < sizeLine ∧ Pv (i + 1) (upd H5 D (.dK (putK kvs k z))) else Pv (i + 1) H3) (done : ∀ H, Pv n H → fin H) :
    ∃ W : Nat → Nat → Hp → Prop, (∃ m, W 0 m (upd H1 D (.dK []))) ∧ ∀ i m H, W i m H →
      (J.stop i H ∧ fin H) ∨ (J.go i H ∧ ∃ Nx : Hp → Prop, (∀ H', Nx H' → ∃ m', m' < m ∧ W (i + 1) m' H') ∧ ∀ x H', J.yld i H x H' → g x (wipe σ vs) H' fun σ2 H2 => wipe σ2 vs = wipe σ vs ∧ tt σ2 H2 fun b H3 =>
        if b = true then tk σ2 H3 fun y H4 => tv σ2 H4 fun z H5 => ∃ kvs k, y = kV k ∧ H5 D = some (.dK kvs) ∧ kvs.length < sizeLine ∧ Nx (upd H5 D (.dK (putK kvs k z))) else Nx H3) := by
  refine ⟨fun i m H => (m = n - i ∧ i ≤ n) ∧ Pv i H, ⟨n, ⟨by omega, Nat.zero_le _⟩, begin_⟩, ?_⟩
  rintro i m H ⟨⟨rfl, hi⟩, p⟩
  rcases Nat.lt_or_ge i n with hlt | hge
  · exact .inr ⟨wk.goes i H hlt (good i H hi p), Pv (i + 1), fun H' p' => ⟨n - (i + 1), by omega, ⟨rfl, hlt⟩, p'⟩, fun x H' y => turn i x H H' hlt p (wk.yields i H x H' hlt (good i H hi p) y)⟩
  · obtain rfl : i = n := by omega
    exact .inl ⟨wk.stops H (good i H hi p), done H p⟩
end
section
variable {K : PySem.W.Frag} {r : Rs} {s : L2.St} {S : Hp} {tk tv : TE} {α : Type}
/-- {k: e for x in ..}: the keys told, no two alike; the values told -/
theorem en_dcI {wi : TI} {j : Nat} {vs : List Nat} {ys : List α} {X : Rl α} (kf : α → Int) (gf : α → V) (hi : EvI r wi s S ys X) (hz : ys.length ≤ 100000) (hw : ∀ v, wipe ((wipe s vs).set j (some v)) vs = wipe s vs) (nd : (ys.map kf).Nodup)
    (hk : ∀ y v S1, Ex S S1 → y ∈ ys → X y v S1 → EvV r tk ((wipe s vs).set j (some v)) S1 (.int (kf y))) (hv : ∀ y v S1, Ex S S1 → y ∈ ys → X y v S1 → EvV r tv ((wipe s vs).set j (some v)) S1 (gf y)) :
    EvN r (tDc wi (gName j) tYes tk tv vs) s S fun o _ => o = .dK (ys.map fun y => (.inl (kf y), gf y)) := fun S1 H a w Q q =>
  hi S1 H a w _ fun J S2 H2 G Y w2 s2 wk hG hY D hD => by
    have hM : D ∉ r.M := w2.notM hD
    refine dc_walk wk (fun i H' => ∃ S', Wd r S' H' ∧ Stp r S2 H2 S' H' ∧ S' D = none ∧ H' D = some (.dK ((ys.take i).map fun y => (.inl (kf y), gf y))))
      ⟨S2, w2.new hD, Stp.new hD, w2.fresh hD, by rw [List.take_zero]; exact upd_same⟩ (fun i H' _ ⟨S', w', s', _⟩ => hG S' H' s'.ex w') ?_ ?_
    · rintro i v H' H'' hlt ⟨S', w', s', n', l'⟩ y'
      obtain ⟨S3, y, g1, w3, s3, x3⟩ := hY i S' H' v H'' hlt s'.ex w' y'
      have ey : ys.take (i + 1) = ys.take i ++ [y] := by rw [List.take_add_one, g1]; rfl
      have e3 : Ex S S3 := a.trans (s2.ex.trans (s'.ex.trans s3.ex))
      have l3 := s3.kp D _ hM l'
      have n3 : S3 D = none := s3.fr D (ne_none l') n'
      refine ⟨hw v, ?_⟩
      unfold tYes
      dsimp only
      rw [if_pos rfl]
      refine hk y v S3 e3 (List.mem_of_getElem? g1) x3 S3 H'' (Ex.refl _) w3 _ fun x4 S4 H4 w4 s4 e4 => ?_
      refine hv y v S3 e3 (List.mem_of_getElem? g1) x3 S4 H4 s4.ex w4 _ fun x5 S5 H5 w5 s5 e5 => ?_
      rw [show x4 = V.int (kf y) from e4, show x5 = gf y from e5]
      have s35 := s4.trans s5
      have l5 := s35.kp D _ hM l3
      have n5 : S5 D = none := s35.fr D (ne_none l3) n3
      have out : (Sum.inl (kf y) : Key) ∉ ((ys.take i).map fun y => ((Sum.inl (kf y) : Key), gf y)).map (·.1) := by
        rw [List.map_map]
        intro z
        obtain ⟨b, hb, eb⟩ := List.mem_map.mp z
        have eb2 : kf b = kf y := Sum.inl.inj eb
        have n2 : ((ys.take (i + 1)).map kf).Nodup := (nd.sublist ((List.take_sublist _ _).map kf))
        rw [ey, List.map_append] at n2
        exact (List.nodup_append.mp n2).2.2 _ (List.mem_map.mpr ⟨b, hb, rfl⟩) _ (List.mem_singleton.mpr rfl) eb2
      refine ⟨_, .inl (kf y), rfl, l5, ?_, S5, w5.mut n5 hM (nco_dK l5), ((s'.trans s3).trans s35).mut hD, n5, ?_⟩
      · rw [List.length_map, List.length_take]
        exact sz_lt (by omega)
      · rw [putK_new out, ey, List.map_append, upd_same]
        rfl
    · rintro H' ⟨S', w', s', n', l'⟩
      rw [List.take_length] at l'
      exact q D _ S' H' (none_of fun z => s2.dm D z hD) l' n' w' (s2.trans s') rfl
end
theorem mt_indexDK {X : Cx} {K : PySem.W.Frag} (hu : X.A.units + 65 < cLine) (hK : X.K = K := by rfl) : MtR X "list.index" (rIndexD K) := by
  subst hK
  exact mt_indexD hu
/-- o.m(e) where the frame is known as K (inside a comprehension) -/
theorem pe_bmK {X : Cx} {K : PySem.W.Frag} {o e : Expr} {es : List Expr} {to : TE} {t : TA} {name : Str} {apos cpos : Pos} {T id : String} {f : V → List V → Hp → VK → Prop} (pa : PlainAttrs T) (slot : Slot T name id) (hty : typeOf (.builtin id) = pure (.type "method_descriptor")) (hm : MtR X id f) (ho : PE X o to) (ha : PA X (e :: es) t)
    (hK : X.K = K := by rfl) (b1 : attributeBase o name X.env (eval o X.env) = eval o X.env := by rfl) (b0 : ((backTo cpos (starEach (e :: es) X.env)).all (fun x => !x.1) && (backToKw cpos (keywordEach [] X.env)).all (fun x => x.1.isSome)
      && decide ((e :: es).length + ([] : List Keyword).length + (if ([] : List Keyword).isEmpty then 0 else 1) < 30)) = true := by rfl) (b2 : (apos.endLine == cpos.line) = true := by rfl) (b3 : starEach (e :: es) X.env = (false, eval e X.env) :: starEach es X.env := by rfl) (b4 : (backTo cpos (starEach es X.env)).any (·.1) = false := by rfl) :
    PE X (.Call (.Attribute o name apos) (e :: es) [] cpos) (tBM K T f to t) := by
  subst hK
  exact pe_bm pa slot hty hm ho ha b1 b0 b2 b3 b4
end J

set_option pp.maxSteps 3000
/-! J76: a dict's values walked, dict(pairs) with its values told, texts joined, d[k] = e where e reads d. -/
namespace J
open PySem PySem.Spec PyProof.Rows L2 Evl RZ
section
variable {r : Rs} {s : L2.St} {S H : Hp} {te ta tb td ty tv : TE} {d : Addr} {kvs : List (Key × V)} {K : PySem.W.Frag} {α β : Type}
/-- the values of a locked dict -/
theorem ei_vals {R : Rl α} [Mono R] {ys : List α} {od : Obj} (h : EvV r te s S (.ref d)) (hd : S d = some (.frz od (.dK kvs))) (hv : All2 R S ys (kvs.map (·.2))) : EvI r (iVals te) s S ys R := fun S1 H a w R' q =>
  h S1 H a w _ fun v S2 H2 w2 s2 ev => by
    have hlen : kvs.length = ys.length := by
      have := hv.len
      rw [List.length_map] at this
      exact this
    have f2 := s2.ex _ _ (a _ _ hd)
    refine ⟨d, od, kvs, ev, w2.ex _ _ f2, q (Itd d od kvs) S2 H2 (fun H => H d = some (.frz od (.dK kvs))) (fun i H x H' => H' = H ∧ ∃ k, kvs[i]? = some (k, x)) w2 s2 (by
      have wk := walk_values (d := d) (o := od) (kvs := kvs)
      rw [hlen] at wk
      exact wk) (fun S' H' e w' => w'.ex _ _ (e _ _ f2)) fun i S' H' v H'' hi e w' ⟨e4, k, e5⟩ => ?_⟩
    subst e4
    obtain ⟨y, h1, h2⟩ := (hv.up (a.trans (s2.ex.trans e))).get (i := i) (v := v) (by rw [List.getElem?_map, e5]; rfl)
    exact ⟨S', y, h1, w', Stp.refl, h2⟩
theorem pairs_of2 {R' : Rl β} {S : Hp} : ∀ {ks : List (Int × β)} {vs : List V}, All2 (PairR K IntR R') S ks vs → ∃ (ps : List Addr) (kvs : List (Key × V)), vs = ps.map V.ref ∧ kvs.map (·.1) = (ks.map (·.1)).map (Sum.inl : Int → Key) ∧ All2 R' S (ks.map (·.2)) (kvs.map (·.2)) ∧ Paired (fun p kv => SqT K S p [kV kv.1, kv.2]) ps kvs
  | _, _, .nil => ⟨[], [], rfl, rfl, .nil, .nil⟩
  | _, _, .cons (x := k) h t => by
    obtain ⟨ps, kvs, e1, e2, h2, h3⟩ := pairs_of2 t
    obtain ⟨a, x, y, e3, hq, hx, hy⟩ := h
    refine ⟨a :: ps, (.inl k.1, y) :: kvs, by rw [e1, e3]; rfl, by rw [List.map_cons, e2]; rfl, .cons hy h2, .cons ?_ h3⟩
    rw [show x = _ from hx] at hq
    exact hq
theorem merge_nodup : ∀ (more kvs : List (Key × V)), ((kvs ++ more).map (·.1)).Nodup → mergeK kvs more = kvs ++ more
  | [], kvs, _ => (List.append_nil kvs).symm
  | kv :: more, kvs, h => by
    show mergeK (putK kvs kv.1 kv.2) more = _
    have e : kvs ++ kv :: more = (kvs ++ [kv]) ++ more := by simp
    have out : kv.1 ∉ kvs.map (·.1) := fun z => by
      rw [List.map_append, List.map_cons] at h
      exact (List.nodup_append.mp h).2.2 _ z _ (.head _) rfl
    rw [putK_new out, e]
    rw [e] at h
    exact merge_nodup more _ h
/-- dict(pairs), no two keys alike -/
theorem en_dictP {R' : Rl β} [Mono R'] {ks : List (Int × β)} (h : EvS r te s S fun v S1 => LstR (PairR K IntR R') ks v S1) (nd : (ks.map (·.1)).Nodup) : EvN r (tCB (rDictP K) (tCons te tNil)) s S fun o S1 => ∃ kvs, o = .dK kvs ∧ kvs.map (·.1) = (ks.map (·.1)).map (Sum.inl : Int → Key) ∧ All2 R' S1 (ks.map (·.2)) (kvs.map (·.2)) :=
  en_cb (ea_one h) fun us S1 e ⟨v, e1, a, vs, ev, ha, hvs⟩ H eH Q q => by
    subst e1
    subst ev
    obtain ⟨ps, kvs, e2, e3, h4, hp⟩ := pairs_of2 hvs
    subst e2
    have nk : ((([] : List (Key × V)) ++ kvs).map (·.1)).Nodup := by
      rw [List.nil_append, e3]
      exact nd.map _ fun a b z e => z (Sum.inl.inj e)
    refine ⟨a, ps, kvs, rfl, SqL.of (eH _ _ ha), paired_ex eH hp, fun p hp => ?_⟩
    rw [merge_nodup _ _ nk, List.nil_append]
    exact q p _ hp ⟨kvs, rfl, e3, h4⟩
/-! texts -/
theorem glueC_cps (gl : Str) (hg : gl.cps = #[]) : ∀ (l : List Nat) (acc : Array Nat), ((l.map fun c => (⟨#[c]⟩ : Str)).foldl (fun acc p => acc ++ gl.cps ++ p.cps) acc) = acc ++ l.toArray
  | [], acc => by simp
  | i :: l, acc => by
    rw [List.map_cons, List.foldl_cons, glueC_cps gl hg l, hg]
    simp
theorem join_chars (l : List Nat) : PySem.Txt.join ("" : Str) (l.map fun c => (⟨#[c]⟩ : Str)) = (⟨l.toArray⟩ : Str) := by
  show Builtin.Str.glued _ _ = _
  unfold Builtin.Str.glued
  cases l with
  | nil => rfl
  | cons i l =>
    congr 1
    rw [List.map_cons, List.drop_succ_cons, List.drop_zero, List.headD_cons, glueC_cps _ (by decide +kernel)]
    simp
/-- ''.join(a list of signs, each told by its code) -/
def ChR : Rl Nat := fun c v _ => v = .str ⟨#[c]⟩
instance : Mono ChR := ⟨fun _ h => h⟩
theorem all2_chars {S : Hp} : ∀ {l : List Nat} {vs : List V}, All2 ChR S l vs → vs = (l.map fun c => (⟨#[c]⟩ : Str)).map V.str
  | _, _, .nil => rfl
  | _, _, .cons h t => by
    rw [all2_chars t, show _ = V.str _ from h]
    rfl
theorem chars_sum : ∀ l : List Nat, ((l.map fun c => (⟨#[c]⟩ : Str)).map (·.length)).sum = l.length
  | [] => rfl
  | c :: l => by
    rw [List.map_cons, List.map_cons, List.sum_cons, chars_sum l, List.length_cons]
    show 1 + _ = _
    omega
theorem vv_joinC {l : List Nat} (h0 : EvV r ta s S (.str ("" : Str))) (h : EvS r te s S fun v S1 => LstR ChR l v S1) (hl : l.length ≤ 100000) : EvV r (tBM K "str" (fun x xs H Q => ∃ a p, ∃ ys : List Str, x = .str a ∧ xs = [.ref p] ∧ (SqL K H p (ys.map V.str) ∨ SqT K H p (ys.map V.str)) ∧ (ys.map (·.length)).sum + ys.length * a.length ≤ 16777216 ∧ Q (.str (PySem.Txt.join a ys)) H) ta (tCons te tNil)) s S (.str ⟨l.toArray⟩) := fun S1 H e w Q q =>
  h0 S1 H e w _ fun x S2 H2 w2 s2 ex => by
    subst ex
    refine ⟨rfl, h S2 H2 (e.trans s2.ex) w2 _ fun u S3 H3 w3 s3 ⟨a, vs, eu, ha, hv⟩ => ?_⟩
    subst eu
    have ev := all2_chars hv
    subst ev
    refine ⟨_, a, l.map fun c => (⟨#[c]⟩ : Str), rfl, rfl, .inl (SqL.of (w3.ex _ _ ha)), ?_, q _ S3 H3 w3 (s2.trans s3) (by rw [join_chars])⟩
    rw [chars_sum, List.length_map, show (("" : Str)).length = 0 from by decide +kernel]
    omega
/-- te reckoned with l in sight -/
theorem lendE {l : Addr} {o : HO} {R : V → Hp → Prop} (h : EvS r te s (upd S l o) R) (w : Wd r S H) (hl : H l = some o) (n : l ∉ r.M) (sl : S l = none) {Q : VK} (q : ∀ v S1 H1, Wd r (J.del l S1) H1 → Stp r S H (J.del l S1) H1 → S1 l = some o → R v S1 → Q v H1) : te s H Q :=
  h _ H (Ex.refl _) (w.settle hl n) Q fun u S1 H1 w1 s1 e => q u S1 H1 w1.del (s1.del sl) (s1.ex _ _ upd_same) e
/-- d[k] = e, e reckoned with d in sight -/
theorem st_dputX {kk : Key} {D : Ends} {R : V → Hp → Prop} (n : d ∉ r.M) (hv : EvS r tv s (upd S d (.dK kvs)) R) (ho : EvV r td s S (.ref d)) (hk : EvV r ty s S (kV kk)) (w : Wd r S H) (hd : H d = some (.dK kvs)) (hs : S d = none) (hz : kvs.length < 100000)
    (k : ∀ v S1 S2 H2, S1 d = some (.dK kvs) → R v S1 → Ex (J.del d S1) S2 → Wd r S2 H2 → Stp (r.more [d]) S H S2 H2 → S2 d = none → H2 d = some (.dK (putK kvs kk v)) → D.nx s H2) : sDPut td ty tv D s H :=
  lendE hv w hd n hs fun v S1 H1 w1 s1 e1 p => st_dput (tv := tC v) (kk := kk) (R := fun u _ => u = v) n vv_c (EvS.mono s1.ex ho) (EvS.mono s1.ex hk) w1 (s1.kp d _ n hd) del_same hz fun u S2 H2 w2 s2 n2 h2 eu => by
    subst eu
    exact k u S1 S2 H2 e1 p s2.ex w2 (s1.more.trans s2) n2 h2
end
end J

set_option pp.maxSteps 3000
/-! J88: texts: split, join, startswith, str(text), int(text), text or text. -/
namespace J
open PySem PySem.Spec PyProof.Rows L2 Evl RZ
/-- str(a whole number or a text) -/
def rStrX : List V → Hp → VK → Prop := fun xs H Q => rStrI xs H Q ∨ ∃ a, xs = [.str a] ∧ Q (.str a) H
theorem call_strX {X : Cx} : CallR X (.type "str") rStrX := fun pins s σ H xs us Q I r h => h.elim (call_str_int pins s σ H xs us Q I r) (SkE.call_str_str pins s σ H xs us Q I r)
theorem pe_orTK {X : Cx} {K : PySem.W.Frag} {a b : Expr} {rest : List Expr} {ta tb : TE} {pos : Pos} (ha : PE X a ta) (hb : PE X (.BoolOp .Or (b :: rest) pos) tb) (hK : X.K = K := by rfl) : PE X (.BoolOp .Or (a :: b :: rest) pos) (tOrT K ta tb) := by
  subst hK
  exact pe_orT ha hb
abbrev rSplit : V → List V → Hp → VK → Prop := fun x xs H Q => ∃ a b, x = .str a ∧ xs = [.str b] ∧ (b.length == 0) = false ∧ a.length + 2 ≤ sizeLine ∧ rNewStrs (PySem.Txt.split a b) H Q
abbrev rStarts : V → List V → Hp → VK → Prop := fun x xs H Q => ∃ a b, x = .str a ∧ xs = [.str b] ∧ Q (.bl (PySem.Txt.startswith a b)) H
abbrev rJoin (K : PySem.W.Frag) : V → List V → Hp → VK → Prop := fun x xs H Q => ∃ a p, ∃ ys : List Str, x = .str a ∧ xs = [.ref p] ∧ (SqL K H p (ys.map V.str) ∨ SqT K H p (ys.map V.str)) ∧ (ys.map (·.length)).sum + ys.length * a.length ≤ 16777216 ∧ Q (.str (PySem.Txt.join a ys)) H
/-- a word: a text, or a whole number that is written so -/
def numS (i : Int) : Str := (toString i : String)
def WdR : Rl Str := fun z v _ => v = .str z ∨ ∃ i : Int, v = .int i ∧ i.natAbs < 2 ^ 1900 ∧ z = numS i
instance : Mono WdR := ⟨fun _ h => h⟩
theorem log2_small {n : Nat} (h : n < 2 ^ 1900) : n.log2 < 1920 := by
  by_cases h0 : n = 0
  · subst h0
    rw [Nat.log2_zero]
    decide
  · have := (Nat.log2_lt h0).mpr h
    omega
section
variable {r : Rs} {s : L2.St} {S H : Hp} {ta tb te : TE} {K : PySem.W.Frag} {x v : V}
theorem vv_strX {z : Str} (h : EvS r ta s S fun v S1 => WdR z v S1) : EvV r (tCB rStrX (tCons ta tNil)) s S (.str z) := fun S1 H e w Q q =>
  h S1 H e w _ fun v S2 H2 w2 s2 hv => by
    rcases hv with rfl | ⟨i, rfl, hi, rfl⟩
    · exact .inr ⟨z, rfl, q _ S2 H2 w2 s2 rfl⟩
    · exact .inl ⟨i, rfl, log2_small hi, q _ S2 H2 w2 s2 rfl⟩
/-- sep.join(texts) -/
theorem vv_join {sep : Str} {ys : List Str} (h0 : EvV r ta s S (.str sep)) (h : EvS r te s S fun v S1 => SeqR K StrR ys v S1) (hz : (ys.map (·.length)).sum + ys.length * sep.length ≤ 16777216) : EvV r (tBM K "str" (rJoin K) ta (tCons te tNil)) s S (.str (PySem.Txt.join sep ys)) := fun S1 H e w Q q =>
  h0 S1 H e w _ fun x S2 H2 w2 s2 ex => by
    subst ex
    refine ⟨rfl, h S2 H2 (e.trans s2.ex) w2 _ fun u S3 H3 w3 s3 hu => ?_⟩
    rcases hu with ⟨a, vs, eu, ha, hv⟩ | ⟨a, vs, eu, ha, hv⟩
    · subst eu
      rw [hv.strs] at ha
      exact ⟨_, a, ys, rfl, rfl, .inl (SqL.of (w3.ex _ _ ha)), hz, q _ S3 H3 w3 (s2.trans s3) rfl⟩
    · subst eu
      rw [hv.strs] at ha
      exact ⟨_, a, ys, rfl, rfl, .inr (ex_t w3.ex ha), hz, q _ S3 H3 w3 (s2.trans s3) rfl⟩
/-- text.split(sep) -/
theorem ev_split {a b : Str} (h0 : EvV r ta s S (.str a)) (h : EvV r te s S (.str b)) (hb : (b.length == 0) = false) (hz : a.length ≤ 90000) : EvS r (tBM K "str" rSplit ta (tCons te tNil)) s S fun v S1 => LstR StrR (PySem.Txt.split a b) v S1 := fun S1 H e w Q q =>
  h0 S1 H e w _ fun x S2 H2 w2 s2 ex => by
    subst ex
    refine ⟨rfl, (va_cons h va_nil : EvAV r (tCons te tNil) s S _) S2 H2 (e.trans s2.ex) w2 _ fun us S3 H3 w3 s3 eu => ?_⟩
    subst eu
    exact ⟨a, b, rfl, rfl, hb, sz_of (by omega), fun p hp => q (.ref p) (upd S3 p _) _ (w3.newS hp) ((s2.trans s3).trans (Stp.newS w3 hp)) ⟨p, _, rfl, upd_same, All2.of_strs _⟩⟩
theorem vv_starts {a b : Str} (h0 : EvV r ta s S (.str a)) (h : EvV r te s S (.str b)) : EvV r (tBM K "str" rStarts ta (tCons te tNil)) s S (.bl (PySem.Txt.startswith a b)) := fun S1 H e w Q q =>
  h0 S1 H e w _ fun x S2 H2 w2 s2 ex => by
    subst ex
    refine ⟨rfl, (va_cons h va_nil : EvAV r (tCons te tNil) s S _) S2 H2 (e.trans s2.ex) w2 _ fun us S3 H3 w3 s3 eu => ?_⟩
    subst eu
    exact ⟨a, b, rfl, rfl, q _ S3 H3 w3 (s2.trans s3) rfl⟩
/-- int(text) -/
theorem vv_intS {a : Str} {n : Int} (h : EvV r ta s S (.str a)) (hn : PySem.intText? a = some n) (hz : a.length ≤ 640) : EvV r (tCB (fun xs H Q => ∃ a n, xs = [.str a] ∧ PySem.intText? a = some n ∧ a.length ≤ 640 ∧ Q (.int n) H) (tCons ta tNil)) s S (.int n) :=
  vv_cb (va_cons h va_nil) fun H _ Q q => ⟨a, n, rfl, hn, hz, q⟩
/-- sign in text -/
theorem rs_inSign {c : Nat} {z : Str} : RVS (rInU K) (.str ⟨#[c]⟩) (.str z) S (.bl (decide (c ∈ z.cps.toList))) := fun H _ Q q => .inr ⟨_, _, rfl, rfl, by
  rw [StrLaws.found_one]
  exact q⟩
/-- a text, or what stands behind or, if it is empty -/
theorem vv_orS {a b : Str} (hz : a.length ≤ 100000) (h : EvV r ta s S (.str a)) (h2 : EvV r tb s S (.str b)) : EvV r (tOrT K ta tb) s S (.str (if a.length = 0 then b else a)) := fun S1 H e w Q q =>
  h S1 H e w _ fun x S2 H2 w2 s2 ex => by
    subst ex
    refine ⟨(a.length : Int) != 0, ⟨sz_of hz, rfl⟩, ?_⟩
    by_cases h0 : a.length = 0
    · rw [if_pos h0] at q
      rw [show ((a.length : Int) != 0) = false from by simpa using h0]
      refine iteF ?_
      exact h2 S2 H2 (e.trans s2.ex) w2 Q fun y S3 H3 w3 s3 ey => q y S3 H3 w3 (s2.trans s3) ey
    · rw [if_neg h0] at q
      rw [show ((a.length : Int) != 0) = true from by simpa using h0]
      refine iteT ?_
      exact q _ S2 H2 w2 s2 rfl
end
end J

set_option pp.maxSteps 3000
/-! J93: o[i] = v by an own __setitem__. -/
namespace J
open PySem PySem.Spec PyProof.Rows L2 Evl RZ
/-- o[i] = v, o an instance of the class at C, by what its __setitem__ promises -/
def rSetO (C : Addr) (sp : Sp) (E : XK) : TSet := fun o i v H Q => ∃ p dx fs, o = .ref p ∧ H p = some (.ins C dx fs) ∧ sp [o, i, v] H (fun _ H' => Q H') E
theorem set_own {X : Cx} {CX : CXT} {k : Nat} {f C : Addr} {fd : FuncData} {ps : List Str} {sp : Sp} {E : XK} (F : FnOk X.prog X.w X.K X.mg X.base CX k f fd ps sp) (M : Meth X.K C "__setitem__" f) (nq : PySem.W.noSeq X.K C = true) (hr : Room k X.A) (hb : Binds X.K fd ps []) (hx : Passes CX X E) : PSet X (rSetO C sp E) := by
  intro pins s σ H o i v ov iv u Q I ro ri rv h
  obtain ⟨p, dx, fs, rfl, hp, wants⟩ := h
  cases ro
  obtain ⟨mA, J, _⟩ := ins_get I.hok hp
  obtain ⟨od, J, _⟩ := J.look
  obtain ⟨m, frame⟩ := I.fr
  refine PySem.W.ksp_setItem frame I.ok.mod.kin J nq M.at_ M.fn ?_
  exact wpAny_mono (run_sub (A := X.A) (vs := [V.ref p, i, v]) (Q := fun _ H' => Q H') ⟨hr, rfl⟩ F hb hx I (.cons rfl (.cons ri (.cons rv .nil))) wants) (fun _ s' ⟨_, H', I', _, q⟩ => ⟨H', I', q⟩) fun _ _ z => z
/-- one way or another -/
theorem set_alt {X : Cx} {t u : TSet} (h1 : PSet X t) (h2 : PSet X u) : PSet X (fun o i v H Q => t o i v H Q ∨ u o i v H Q) := fun pins s σ H o i v ov iv z Q I ro ri rv h => h.elim (h1 pins s σ H o i v ov iv z Q I ro ri rv) (h2 pins s σ H o i v ov iv z Q I ro ri rv)
end J
namespace J
open PySem PySem.Spec PyProof.Rows L2 Evl RZ
/-- o.m() where m asks repr, or holds a lambda -/
theorem pe_methG0 {X : Cx} {k : Nat} {f C : Addr} {fd : FuncData} {ps : List Str} {ds : List Value} {dvs : List V} {sp : Sp} {o : Expr} {ta : TE} {m : Str} {apos pos : Pos} {pl : Sem Bool} (he : PE X o ta) (c : Cls X.K C) (hm : Meth X.K C m f) (F : FnG X.prog X.w X.K X.mg X.base k f fd ps sp) (g : Gd X.A) (hr : Room k X.A) (hb : Binds X.K fd ps ds) (hd : Vals dvs ds)
    (ht : eval (.Call (.Attribute o m apos) [] [] pos) X.env = (do
      let ov ← eval o X.env
      standAt apos.atName
      let (f, first) ← holding [ov] (getMethod ov m pl)
      callWith pos f first (backTo pos (starEach [] X.env)) (backToKw pos (keywordEach [] X.env))) := by rfl) :
    PE X (.Call (.Attribute o m apos) [] [] pos) (tMeth C m sp dvs E0 ta tNil) := by
  refine ⟨fun pins s σ H Q I h => ?_⟩
  refine PySem.W.methodCall_KW (pl := pl) (thn (he.run pins s σ H _ I h) fun u s1 ⟨x, H1, I1, rx, a, dx, fs, ex, ea, l, q⟩ => ?_) ht
  subst ex
  obtain rfl : u = Value.ref a := rx
  refine getmeth_ok I1 ea c hm l ?_
  exact PySem.W.callWith_K0 (first := [.ref a]) I1.kIn hm.kp (run_G (us := [.ref a]) (vs := [.ref a]) F g hr hb hd I1 (.cons rfl .nil) q)
end J

namespace K63
open PySem PySem.Spec PyProof.Rows L2 Evl J
structure TX (P : Program) (w : World) (K : PySem.W.Frag) (mg : Str → Option Value) where
  z_abs : mg "abs" = none
  z_all : mg "all" = none
  z_bool : mg "bool" = none
  z_int : mg "int" = none
  z_isinstance : mg "isinstance" = none
  z_len : mg "len" = none
  z_list : mg "list" = none
  z_range : mg "range" = none
  z_repr : mg "repr" = none
  z_sorted : mg "sorted" = none
  z_str : mg "str" = none
  z_tuple : mg "tuple" = none
  z_zip : mg "zip" = none
  c_ALL_LETTERS : MgC mg "ALL_LETTERS" (.str "abc")
  c_LETTERS : MgC mg "LETTERS" (.str "abcdefghijklmnopqrstuvwxyz")
  c_MOST_ANSWER : MgC mg "MOST_ANSWER" (.int 100)
  c_MOST_LETTERS : MgC mg "MOST_LETTERS" (.int 8)
  c_MOST_STATES : MgC mg "MOST_STATES" (.int 6)
  C_Machine : Addr
  g_Machine : mg "Machine" = some (.ref C_Machine)
  cl_Machine : Cls K C_Machine
  na_Machine_kept_steps : NoAttr K C_Machine "kept_steps"
  na_Machine_kept_answers : NoAttr K C_Machine "kept_answers"
  na_Machine_kept_start : NoAttr K C_Machine "kept_start"
  ty_Machine : IsCls K C_Machine
  ko_Machine_NoneType : PySem.W.kitOne K (.type "NoneType") (.ref C_Machine) = some false
  ko_Machine_int : PySem.W.kitOne K (.type "int") (.ref C_Machine) = some false
  ko_Machine_list : PySem.W.kitOne K (.type "list") (.ref C_Machine) = some false
  ko_Machine_str : PySem.W.kitOne K (.type "str") (.ref C_Machine) = some false
  ne_Machine : NeC K C_Machine
  cr_Machine : ClX.CRead K C_Machine (.type "type")
  C_Notes : Addr
  g_Notes : mg "Notes" = some (.ref C_Notes)
  cl_Notes : Cls K C_Notes
  na_Notes_by_name : NoAttr K C_Notes "by_name"
  nq_Notes : PySem.W.noSeq K C_Notes = true
  C_InvalidBook : Addr
  g_InvalidBook : mg "InvalidBook" = some (.ref C_InvalidBook)
  C_InvalidCommand : Addr
  g_InvalidCommand : mg "InvalidCommand" = some (.ref C_InvalidCommand)
  C_InvalidEdit : Addr
  g_InvalidEdit : mg "InvalidEdit" = some (.ref C_InvalidEdit)
  C_InvalidMachine : Addr
  g_InvalidMachine : mg "InvalidMachine" = some (.ref C_InvalidMachine)
  C_InvalidMove : Addr
  g_InvalidMove : mg "InvalidMove" = some (.ref C_InvalidMove)
  C_InvalidName : Addr
  g_InvalidName : mg "InvalidName" = some (.ref C_InvalidName)
  C_InvalidNumber : Addr
  g_InvalidNumber : mg "InvalidNumber" = some (.ref C_InvalidNumber)
  C_InvalidReader : Addr
  g_InvalidReader : mg "InvalidReader" = some (.ref C_InvalidReader)
  C_InvalidRule : Addr
  g_InvalidRule : mg "InvalidRule" = some (.ref C_InvalidRule)
  C_InvalidText : Addr
  g_InvalidText : mg "InvalidText" = some (.ref C_InvalidText)
  C_InvalidTimes : Addr
  g_InvalidTimes : mg "InvalidTimes" = some (.ref C_InvalidTimes)
  C_InvalidWays : Addr
  g_InvalidWays : mg "InvalidWays" = some (.ref C_InvalidWays)
  C_InvalidWord : Addr
  g_InvalidWord : mg "InvalidWord" = some (.ref C_InvalidWord)
  C_NothingToUndo : Addr
  g_NothingToUndo : mg "NothingToUndo" = some (.ref C_NothingToUndo)
  C_RoundError : Addr
  g_RoundError : mg "RoundError" = some (.ref C_RoundError)
  C_TooMany : Addr
  g_TooMany : mg "TooMany" = some (.ref C_TooMany)
  fi_InvalidMachine : Addr
  fdi_InvalidMachine : FuncData
  xc_InvalidMachine : XcT P K mg C_InvalidMachine fi_InvalidMachine "InvalidMachine.__init__" "value" "value" s_InvalidMachine_init fdi_InvalidMachine
  bx_InvalidMachine : Binds K fdi_InvalidMachine ["self", "value"] []
  xi_InvalidMachine : xiAll K C_InvalidMachine = true
  kr_InvalidMachine : kitRow K C_InvalidMachine [(C_InvalidNumber, false), (C_InvalidName, false), (C_InvalidRule, false), (C_InvalidReader, false), (C_InvalidBook, false), (C_InvalidMove, false), (C_InvalidText, false), (C_InvalidMachine, true), (C_InvalidWord, false), (C_InvalidTimes, false), (C_InvalidWays, false), (C_InvalidEdit, false), (C_InvalidCommand, false), (C_TooMany, false), (C_NothingToUndo, false), (C_RoundError, true)] = true
  em_InvalidMachine : PySem.W.exmOne K (.ref C_InvalidMachine) (.ref C_RoundError) = some true
  fi_InvalidName : Addr
  fdi_InvalidName : FuncData
  xc_InvalidName : XcT P K mg C_InvalidName fi_InvalidName "InvalidName.__init__" "value" "value" s_InvalidName_init fdi_InvalidName
  bx_InvalidName : Binds K fdi_InvalidName ["self", "value"] []
  xi_InvalidName : xiAll K C_InvalidName = true
  kr_InvalidName : kitRow K C_InvalidName [(C_InvalidNumber, false), (C_InvalidName, true), (C_InvalidRule, false), (C_InvalidReader, false), (C_InvalidBook, false), (C_InvalidMove, false), (C_InvalidText, false), (C_InvalidMachine, false), (C_InvalidWord, false), (C_InvalidTimes, false), (C_InvalidWays, false), (C_InvalidEdit, false), (C_InvalidCommand, false), (C_TooMany, false), (C_NothingToUndo, false), (C_RoundError, true)] = true
  em_InvalidName : PySem.W.exmOne K (.ref C_InvalidName) (.ref C_RoundError) = some true
  f_is_integer : Addr
  fd_is_integer : FuncData
  F_is_integer : Fun K "is_integer" "is_integer" s_is_integer f_is_integer fd_is_integer
  b_is_integer : Binds K fd_is_integer ["value"] []
  g_is_integer : mg "is_integer" = some (.ref f_is_integer)
  f_is_between : Addr
  fd_is_between : FuncData
  F_is_between : Fun K "is_between" "is_between" s_is_between f_is_between fd_is_between
  b_is_between : Binds K fd_is_between ["value", "low", "high"] []
  g_is_between : mg "is_between" = some (.ref f_is_between)
  f_is_name : Addr
  fd_is_name : FuncData
  F_is_name : Fun K "is_name" "is_name" s_is_name f_is_name fd_is_name
  b_is_name : Binds K fd_is_name ["value"] []
  g_is_name : mg "is_name" = some (.ref f_is_name)
  f_are_steps : Addr
  fd_are_steps : FuncData
  F_are_steps : Fun K "are_steps" "are_steps" s_are_steps f_are_steps fd_are_steps
  b_are_steps : Binds K fd_are_steps ["value"] []
  g_are_steps : mg "are_steps" = some (.ref f_are_steps)
  f_are_answers : Addr
  fd_are_answers : FuncData
  F_are_answers : Fun K "are_answers" "are_answers" s_are_answers f_are_answers fd_are_answers
  b_are_answers : Binds K fd_are_answers ["value", "many"] []
  g_are_answers : mg "are_answers" = some (.ref f_are_answers)
  f_Machine_init : Addr
  fd_Machine_init : FuncData
  F_Machine_init : FunD K "__init__" "Machine.__init__" (defArgs s_Machine_init) (defBody s_Machine_init) (defScope s_Machine_init) [.int 0] [] f_Machine_init fd_Machine_init
  b2_Machine_init : ∃ ds, Vals ([.int 0].drop 0) ds ∧ Binds K fd_Machine_init ["self", "steps", "answers", "start"] ds
  b3_Machine_init : ∃ ds, Vals ([.int 0].drop 1) ds ∧ Binds K fd_Machine_init ["self", "steps", "answers", "start"] ds
  mk_Machine : Mk K C_Machine f_Machine_init
  f_Machine_steps : Addr
  fd_Machine_steps : FuncData
  F_Machine_steps : Fun K "steps" "Machine.steps" s_Machine_steps f_Machine_steps fd_Machine_steps
  b_Machine_steps : Binds K fd_Machine_steps ["self"] []
  pa_Machine_steps : Addr
  p_Machine_steps : PropOf K C_Machine "steps" pa_Machine_steps f_Machine_steps
  f_Machine_answers : Addr
  fd_Machine_answers : FuncData
  F_Machine_answers : Fun K "answers" "Machine.answers" s_Machine_answers f_Machine_answers fd_Machine_answers
  b_Machine_answers : Binds K fd_Machine_answers ["self"] []
  pa_Machine_answers : Addr
  p_Machine_answers : PropOf K C_Machine "answers" pa_Machine_answers f_Machine_answers
  f_Machine_start : Addr
  fd_Machine_start : FuncData
  F_Machine_start : Fun K "start" "Machine.start" s_Machine_start f_Machine_start fd_Machine_start
  b_Machine_start : Binds K fd_Machine_start ["self"] []
  pa_Machine_start : Addr
  p_Machine_start : PropOf K C_Machine "start" pa_Machine_start f_Machine_start
  f_Machine_letters : Addr
  fd_Machine_letters : FuncData
  F_Machine_letters : Fun K "letters" "Machine.letters" s_Machine_letters f_Machine_letters fd_Machine_letters
  b_Machine_letters : Binds K fd_Machine_letters ["self"] []
  pa_Machine_letters : Addr
  p_Machine_letters : PropOf K C_Machine "letters" pa_Machine_letters f_Machine_letters
  f_Machine_eq : Addr
  fd_Machine_eq : FuncData
  F_Machine_eq : Fun K "__eq__" "Machine.__eq__" s_Machine_eq f_Machine_eq fd_Machine_eq
  b_Machine_eq : Binds K fd_Machine_eq ["self", "other"] []
  m_Machine_eq : Meth K C_Machine "__eq__" f_Machine_eq
  f_Machine_led : Addr
  fd_Machine_led : FuncData
  F_Machine_led : Fun K "led" "Machine.led" s_Machine_led f_Machine_led fd_Machine_led
  b_Machine_led : Binds K fd_Machine_led ["self", "state", "word"] []
  m_Machine_led : Meth K C_Machine "led" f_Machine_led
  f_Machine_last : Addr
  fd_Machine_last : FuncData
  F_Machine_last : Fun K "last" "Machine.last" s_Machine_last f_Machine_last fd_Machine_last
  b_Machine_last : Binds K fd_Machine_last [] []
  pm_Machine_last : Addr
  sm_Machine_last : SMet K C_Machine (.type "type") "last" pm_Machine_last f_Machine_last
  f_first_pair : Addr
  fd_first_pair : FuncData
  F_first_pair : Fun K "first_pair" "first_pair" s_first_pair f_first_pair fd_first_pair
  b_first_pair : Binds K fd_first_pair ["machine", "letter"] []
  g_first_pair : mg "first_pair" = some (.ref f_first_pair)
  f_next_pairs : Addr
  fd_next_pairs : FuncData
  F_next_pairs : Fun K "next_pairs" "next_pairs" s_next_pairs f_next_pairs fd_next_pairs
  b_next_pairs : Binds K fd_next_pairs ["machine", "pair"] []
  g_next_pairs : mg "next_pairs" = some (.ref f_next_pairs)
  f_is_good : Addr
  fd_is_good : FuncData
  F_is_good : Fun K "is_good" "is_good" s_is_good f_is_good fd_is_good
  b_is_good : Binds K fd_is_good ["machine", "letter", "pair"] []
  g_is_good : mg "is_good" = some (.ref f_is_good)
  f_pairs_of : Addr
  fd_pairs_of : FuncData
  c_pairs_of : Addr
  P_pairs_of : Addr
  FC_pairs_of : FunC K "pairs_of" "pairs_of" s_pairs_of f_pairs_of fd_pairs_of c_pairs_of
  F_pairs_of : Fun K "pairs_of" "pairs_of" s_pairs_of f_pairs_of fd_pairs_of
  b_pairs_of : Binds K fd_pairs_of ["machine", "letter"] []
  g_pairs_of : mg "pairs_of" = some (.ref f_pairs_of)
  f_is_turnable : Addr
  fd_is_turnable : FuncData
  F_is_turnable : Fun K "is_turnable" "is_turnable" s_is_turnable f_is_turnable fd_is_turnable
  b_is_turnable : Binds K fd_is_turnable ["machine"] []
  g_is_turnable : mg "is_turnable" = some (.ref f_is_turnable)
  f_Notes_init : Addr
  fd_Notes_init : FuncData
  F_Notes_init : Fun K "__init__" "Notes.__init__" s_Notes_init f_Notes_init fd_Notes_init
  b_Notes_init : Binds K fd_Notes_init ["self"] []
  mk_Notes : Mk K C_Notes f_Notes_init
  f_Notes_setitem : Addr
  fd_Notes_setitem : FuncData
  F_Notes_setitem : Fun K "__setitem__" "Notes.__setitem__" s_Notes_setitem f_Notes_setitem fd_Notes_setitem
  b_Notes_setitem : Binds K fd_Notes_setitem ["self", "name", "machine"] []
  m_Notes_setitem : Meth K C_Notes "__setitem__" f_Notes_setitem
  f_Notes_getitem : Addr
  fd_Notes_getitem : FuncData
  F_Notes_getitem : Fun K "__getitem__" "Notes.__getitem__" s_Notes_getitem f_Notes_getitem fd_Notes_getitem
  b_Notes_getitem : Binds K fd_Notes_getitem ["self", "name"] []
  fn_Notes_getitem : PySem.W.fnIn K f_Notes_getitem = true
  m_Notes_getitem : Meth K C_Notes "__getitem__" f_Notes_getitem
  f_Notes_contains : Addr
  fd_Notes_contains : FuncData
  F_Notes_contains : Fun K "__contains__" "Notes.__contains__" s_Notes_contains f_Notes_contains fd_Notes_contains
  b_Notes_contains : Binds K fd_Notes_contains ["self", "name"] []
  m_Notes_contains : Meth K C_Notes "__contains__" f_Notes_contains
  f_Notes_len : Addr
  fd_Notes_len : FuncData
  F_Notes_len : Fun K "__len__" "Notes.__len__" s_Notes_len f_Notes_len fd_Notes_len
  b_Notes_len : Binds K fd_Notes_len ["self"] []
  m_Notes_len : Meth K C_Notes "__len__" f_Notes_len
  f_Notes_names : Addr
  fd_Notes_names : FuncData
  F_Notes_names : Fun K "names" "Notes.names" s_Notes_names f_Notes_names fd_Notes_names
  b_Notes_names : Binds K fd_Notes_names ["self"] []
  m_Notes_names : Meth K C_Notes "names" f_Notes_names
  f_Notes_turnable : Addr
  fd_Notes_turnable : FuncData
  F_Notes_turnable : Fun K "turnable" "Notes.turnable" s_Notes_turnable f_Notes_turnable fd_Notes_turnable
  b_Notes_turnable : Binds K fd_Notes_turnable ["self"] []
  m_Notes_turnable : Meth K C_Notes "turnable" f_Notes_turnable
  f_L_begin : Addr
  fd_L_begin : FuncData
  F_L_begin : Fun K "_law_begin" "_law_begin" s_L_begin f_L_begin fd_L_begin
  b_L_begin : Binds K fd_L_begin ["_law_script"] []
  g_L_begin : mg "_law_begin" = some (.ref f_L_begin)
  f_L_mixed : Addr
  fd_L_mixed : FuncData
  F_L_mixed : Fun K "_law_mixed" "_law_mixed" s_L_mixed f_L_mixed fd_L_mixed
  b_L_mixed : Binds K fd_L_mixed ["_law_pool", "_law_many"] []
  g_L_mixed : mg "_law_mixed" = some (.ref f_L_mixed)
  f_L_draw : Addr
  fd_L_draw : FuncData
  F_L_draw : Fun K "_law_draw" "_law_draw" s_L_draw f_L_draw fd_L_draw
  b_L_draw : Binds K fd_L_draw ["_law_pool", "_law_many"] []
  g_L_draw : mg "_law_draw" = some (.ref f_L_draw)
  f_L_pick : Addr
  fd_L_pick : FuncData
  F_L_pick : Fun K "_law_pick" "_law_pick" s_L_pick f_L_pick fd_L_pick
  b_L_pick : Binds K fd_L_pick ["_law_pool", "_law_some"] []
  g_L_pick : mg "_law_pick" = some (.ref f_L_pick)
  f_L_draw_machine : Addr
  fd_L_draw_machine : FuncData
  F_L_draw_machine : Fun K "_law_draw_machine" "_law_draw_machine" s_L_draw_machine f_L_draw_machine fd_L_draw_machine
  b_L_draw_machine : Binds K fd_L_draw_machine ["_law_pool", "_law_most_states", "_law_most_letters"] []
  g_L_draw_machine : mg "_law_draw_machine" = some (.ref f_L_draw_machine)
  f_L_round_pair : Addr
  fd_L_round_pair : FuncData
  F_L_round_pair : Fun K "_law_round_pair" "_law_round_pair" s_L_round_pair f_L_round_pair fd_L_round_pair
  b_L_round_pair : Binds K fd_L_round_pair [] []
  g_L_round_pair : mg "_law_round_pair" = some (.ref f_L_round_pair)
  f_L_mix_machine : Addr
  fd_L_mix_machine : FuncData
  F_L_mix_machine : Fun K "_law_mix_machine" "_law_mix_machine" s_L_mix_machine f_L_mix_machine fd_L_mix_machine
  b_L_mix_machine : Binds K fd_L_mix_machine ["_law_pool"] []
  g_L_mix_machine : mg "_law_mix_machine" = some (.ref f_L_mix_machine)
  f_L_counter : Addr
  fd_L_counter : FuncData
  F_L_counter : Fun K "_law_counter" "_law_counter" s_L_counter f_L_counter fd_L_counter
  b_L_counter : Binds K fd_L_counter ["_law_modulus", "_law_letter"] []
  g_L_counter : mg "_law_counter" = some (.ref f_L_counter)
  f_L_commuting : Addr
  fd_L_commuting : FuncData
  F_L_commuting : Fun K "_law_commuting" "_law_commuting" s_L_commuting f_L_commuting fd_L_commuting
  b_L_commuting : Binds K fd_L_commuting ["_law_pool"] []
  g_L_commuting : mg "_law_commuting" = some (.ref f_L_commuting)
  f_L_seen_pair : Addr
  fd_L_seen_pair : FuncData
  F_L_seen_pair : Fun K "_law_seen_pair" "_law_seen_pair" s_L_seen_pair f_L_seen_pair fd_L_seen_pair
  b_L_seen_pair : Binds K fd_L_seen_pair [] []
  g_L_seen_pair : mg "_law_seen_pair" = some (.ref f_L_seen_pair)
  f_L_make_machine : Addr
  fd_L_make_machine : FuncData
  F_L_make_machine : Fun K "_law_make_machine" "_law_make_machine" s_L_make_machine f_L_make_machine fd_L_make_machine
  b_L_make_machine : Binds K fd_L_make_machine ["_law_m"] []
  g_L_make_machine : mg "_law_make_machine" = some (.ref f_L_make_machine)
  f_L_which : Addr
  fd_L_which : FuncData
  F_L_which : Fun K "_law_which" "_law_which" s_L_which f_L_which fd_L_which
  b_L_which : Binds K fd_L_which ["_law_error"] []
  g_L_which : mg "_law_which" = some (.ref f_L_which)
  f_L_caught : Addr
  fd_L_caught : FuncData
  F_L_caught : Fun K "_law_caught" "_law_caught" s_L_caught f_L_caught fd_L_caught
  b_L_caught : Binds K fd_L_caught ["_law_call"] []
  g_L_caught : mg "_law_caught" = some (.ref f_L_caught)
  f_L_kind : Addr
  fd_L_kind : FuncData
  F_L_kind : Fun K "_law_kind" "_law_kind" s_L_kind f_L_kind fd_L_kind
  b_L_kind : Binds K fd_L_kind ["_law_call"] []
  g_L_kind : mg "_law_kind" = some (.ref f_L_kind)
  f_L_set : Addr
  fd_L_set : FuncData
  F_L_set : Fun K "_law_set" "_law_set" s_L_set f_L_set fd_L_set
  b_L_set : Binds K fd_L_set ["_law_table", "_law_name", "_law_thing"] []
  g_L_set : mg "_law_set" = some (.ref f_L_set)
  f_law : Addr
  fd_law : FuncData
  c_law : Addr
  P_law : Addr
  FC_law : FunC K "law" "law" s_law f_law fd_law c_law
  F_law : Fun K "law" "law" s_law f_law fd_law
  b_law : Binds K fd_law ["_law_script"] []
  g_law : mg "law" = some (.ref f_law)
  pd_pairs_of_law : (P_pairs_of == P_law) = false
section
variable {P : Program} {w : World} {K : PySem.W.Frag} {mg : Str → Option Value}
def lamT (T : TX P w K mg) : List (Addr × Str) := [(T.P_pairs_of, (envOfC "pairs_of" (defScope s_pairs_of) 0 0 .none).qual ++ "<lambda>"), (T.P_law, (envOfC "law" (defScope s_law) 0 0 .none).qual ++ "<lambda>")]
def lamC (T : TX P w K mg) : List (Addr × Addr) := [(T.c_pairs_of, T.P_pairs_of), (T.c_law, T.P_law)]
theorem lm_pairs_of (T : TX P w K mg) : (T.P_pairs_of, (envOfC "pairs_of" (defScope s_pairs_of) 0 0 .none).qual ++ "<lambda>") ∈ lamT T := .head _
theorem lc_pairs_of (T : TX P w K mg) : (T.c_pairs_of, T.P_pairs_of) ∈ lamC T := .head _
theorem lu_pairs_of (T : TX P w K mg) : ∀ y ∈ lamT T, y.1 = T.P_pairs_of → y.2 = (envOfC "pairs_of" (defScope s_pairs_of) 0 0 .none).qual ++ "<lambda>" := fun y hy e => by
  simp only [lamT, List.mem_cons, List.not_mem_nil, or_false] at hy
  rcases hy with rfl | rfl
  · rfl
  · exact absurd e.symm (ne_beq T.pd_pairs_of_law)
theorem lm_law (T : TX P w K mg) : (T.P_law, (envOfC "law" (defScope s_law) 0 0 .none).qual ++ "<lambda>") ∈ lamT T := .tail _ (.head _)
theorem lc_law (T : TX P w K mg) : (T.c_law, T.P_law) ∈ lamC T := .tail _ (.head _)
theorem lu_law (T : TX P w K mg) : ∀ y ∈ lamT T, y.1 = T.P_law → y.2 = (envOfC "law" (defScope s_law) 0 0 .none).qual ++ "<lambda>" := fun y hy e => by
  simp only [lamT, List.mem_cons, List.not_mem_nil, or_false] at hy
  rcases hy with rfl | rfl
  · exact absurd e (ne_beq T.pd_pairs_of_law)
  · rfl
end
end K63

namespace K63
open PySem PySem.Spec PyProof.Rows L2 Evl J RZ
section
variable {P : Program} {w : World} {K : PySem.W.Frag} {mg : Str → Option Value} {base : Heap}
/-! ### tactics -/
/-! ### numbers -/
def isInt : V → Bool
  | .int _ => true
  | _ => false
/-- is_integer of an int -/
def sp_is_integer : Sp := SpP (A := Int) (fun i vs _ => vs = [.int i]) (fun _ v _ => v = .bl true)
theorem G_is_integer (T : TX P w K mg) : FnOk P w K mg base CX0 1 T.f_is_integer T.fd_is_integer ["value"] sp_is_integer := by
  refine T.F_is_integer.ok sc_is_integer (fun vs H Q E h => ?_) (fun cdv A outer s H vs Q E hr h => ?_)
  · obtain ⟨i, S, rfl, _⟩ := h
    rfl
  · obtain ⟨i, S, rfl, w0, q⟩ := h.body
    refine ⟨_, (pss_one (ps_ret (pe_and (pe_callB (call_isiK2 (K := K)) (by rfl) T.z_isinstance (by decide +kernel) (pa_cons (pv 0) (pa_cons (pe_bltn (v := .ty "int") (by rfl) T.z_int (by decide +kernel) rfl) pa_nil))) (pe_one (pe_not (pe_callB (call_isiK2 (K := K)) (by rfl) T.z_isinstance (by decide +kernel) (pa_cons (pv 0) (pa_cons (pe_bltn (v := .ty "bool") (by rfl) T.z_bool (by decide +kernel) rfl) pa_nil)))))))), ?_⟩
    refine st_ret (R := fun v _ => v = .bl true) ?_ w0 fun v S1 H1 w1 s1 p => q v S1 H1 w1 s1 p
    exact EvV.is (vv_and (a := true) (vv_isT (vv_var rfl) vv_c (.base (.int _)) (by decide +kernel)) fun _ => vv_not (a := false) (vv_isT (vv_var rfl) vv_c (.base (.int _)) (by decide +kernel))) rfl
/-- is_between of ints -/
def sp_is_between : Sp := SpP (A := Int × Int × Int) (fun a vs _ => vs = [.int a.1, .int a.2.1, .int a.2.2]) (fun a v _ => v = .bl (decide (a.2.1 ≤ a.1) && decide (a.1 ≤ a.2.2)))
theorem G_is_between (T : TX P w K mg) : FnOk P w K mg base CX0 2 T.f_is_between T.fd_is_between ["value", "low", "high"] sp_is_between := by
  refine T.F_is_between.ok sc_is_between (fun vs H Q E h => ?_) (fun cdv A outer s H vs Q E hr h => ?_)
  · obtain ⟨i, S, rfl, _⟩ := h
    rfl
  · obtain ⟨⟨i, lo, hi⟩, S, rfl, w0, q⟩ := h.body
    refine ⟨_, (pss_one (ps_ret (pe_and (pe_call (G_is_integer T) (hr.mono (by decide)) (by rfl) T.g_is_integer T.F_is_integer.kp T.b_is_integer .nil pass0 (pa_cons (pv 0) pa_nil)) (pe_one (pe_chain op_le op_le (pv 1) (pv 0) (pv 2)))))), ?_⟩
    refine st_ret ?_ w0 fun v S1 H1 w1 s1 p => q v S1 H1 w1 s1 p
    exact EvV.is (vv_and (a := true) (vv_call i (va_cons (vv_var rfl) va_nil) (fun _ _ => rfl) fun _ _ _ p => p) fun _ => vv_chain (vv_var rfl) (vv_var rfl) rs_I0 (fun _ => vv_var rfl) fun _ => rs_I0) rfl
end
end K63

namespace K63
open PySem PySem.Spec PyProof.Rows L2 Evl J RZ
section
variable {P : Program} {w : World} {K : PySem.W.Frag} {mg : Str → Option Value} {base : Heap}
theorem vv_between {r : Rs} {s : L2.St} {S : Hp} {i lo hi : Int} {b : Bool} {t : TA} (h : EvAV r t s S [.int i, .int lo, .int hi]) (e : (decide (lo ≤ i) && decide (i ≤ hi)) = b) : EvV r (tCall sp_is_between [] E0 t) s S (.bl b) :=
  vv_call (i, lo, hi) h (fun _ _ => rfl) fun v _ _ p => by
    rw [← e]
    exact p
theorem btw {i lo hi : Int} (h : lo ≤ i) (h' : i ≤ hi) : (decide (lo ≤ i) && decide (i ≤ hi)) = true := by simp [h, h']
/-! ### readers -/
def rdF (b p c : Int) : List (Str × V) := [("kept_begin", .int b), ("kept_page", .int p), ("kept_pace", .int c)]
theorem rd_b (b p c : Int) : (rdF b p c).lookup ("kept_begin" : Str) = some (V.int b) := by kernel_rfl
theorem rd_p (b p c : Int) : (rdF b p c).lookup ("kept_page" : Str) = some (V.int p) := by kernel_rfl
theorem rd_c (b p c : Int) : (rdF b p c).lookup ("kept_pace" : Str) = some (V.int c) := by kernel_rfl
theorem rd_put (b p c : Int) : putF "kept_pace" (.int c) (putF "kept_page" (.int p) (putF "kept_begin" (.int b) [])) = rdF b p c := by kernel_rfl
/-- a reader -/
def RdR (C : Addr) : Rl (Int × Int × Int) := fun a v S => ∃ x dx, v = .ref x ∧ S x = some (.ins C dx (rdF a.1 a.2.1 a.2.2))
instance {C : Addr} : Mono (RdR C) := ⟨fun e ⟨x, dx, h1, h2⟩ => ⟨x, dx, h1, e _ _ h2⟩⟩
def sp_Reader_init (C : Addr) : Sp := SpInit (A := Int × Int × Int) C (fun a us _ => us = [.int a.1, .int a.2.1, .int a.2.2] ∧ (0 ≤ a.1 ∧ a.1 ≤ 1000) ∧ (0 ≤ a.2.1 ∧ a.2.1 ≤ 62) ∧ (1 ≤ a.2.2 ∧ a.2.2 ≤ 4)) (fun a fs _ => fs = rdF a.1 a.2.1 a.2.2)
end
end K63

namespace K63
open PySem PySem.Spec PyProof.Rows L2 Evl J RZ
section
variable {P : Program} {w : World} {K : PySem.W.Frag} {mg : Str → Option Value} {base : Heap}
/-! ### what is no number there -/
def NonInt (K : PySem.W.Frag) (v : V) (S : Hp) : Prop := ∃ (t : String) (b1 b2 : Bool), TyX K S v (.type t) ∧ kitB t "int" = some b1 ∧ kitB t "bool" = some b2 ∧ (b1 && !b2) = false
theorem tyx_up {S S' : Hp} {v : V} {t : Value} (x : Ex S S') (h : TyX K S v t) : TyX K S' v t := by
  cases h with
  | base b =>
    refine .base ?_
    cases b with
    | non => exact .non
    | bl b => exact .bl b
    | int i => exact .int i
    | str z => exact .str z
    | flt z => exact .flt z
    | lst e => exact .lst (x _ _ e)
    | frz e => exact .frz (x _ _ e)
    | tup e => exact .tup (x _ _ e)
    | dK e => exact .dK (x _ _ e)
    | dT e => exact .dT (x _ _ e)
    | ins e c1 c2 c3 c4 c5 => exact .ins (x _ _ e) c1 c2 c3 c4 c5
  | byt b => exact .byt b
  | set e => exact .set (x _ _ e)
  | kList e c => exact .kList e c
  | kTuple e c => exact .kTuple e c
  | kDict e c => exact .kDict e c
  | fTuple e => exact .fTuple (x _ _ e)
  | fDict e => exact .fDict (x _ _ e)
theorem ni_up {S S' : Hp} {v : V} (x : Ex S S') (h : NonInt K v S) : NonInt K v S' := by
  obtain ⟨t, b1, b2, h1, h2⟩ := h
  exact ⟨t, b1, b2, tyx_up x h1, h2⟩
theorem ni_non {S : Hp} : NonInt K .non S := ⟨"NoneType", false, false, .base (.non), by decide +kernel, by decide +kernel, rfl⟩
theorem ni_bl {S : Hp} (b : Bool) : NonInt K (.bl b) S := ⟨"bool", true, true, .base (.bl b), by decide +kernel, by decide +kernel, rfl⟩
theorem ni_str {S : Hp} (z : Str) : NonInt K (.str z) S := ⟨"str", false, false, .base (.str z), by decide +kernel, by decide +kernel, rfl⟩
theorem ni_tup {S : Hp} {a : Addr} {xs : List V} (h : S a = some (.tup xs)) : NonInt K (.ref a) S := ⟨"tuple", false, false, .base (.tup h), by decide +kernel, by decide +kernel, rfl⟩
theorem ni_lst {S : Hp} {a : Addr} {xs : List V} (h : S a = some (.lst xs)) : NonInt K (.ref a) S := ⟨"list", false, false, .base (.lst h), by decide +kernel, by decide +kernel, rfl⟩
def sp_noint (K : PySem.W.Frag) : Sp := SpP (A := V) (fun a vs S => vs = [a] ∧ NonInt K a S) (fun _ u _ => u = .bl false)
theorem GX_is_integer (T : TX P w K mg) : FnOk P w K mg base (L2N.CX P w) 1 T.f_is_integer T.fd_is_integer ["value"] (sp_noint K) := by
  refine ok_N T.F_is_integer sc_is_integer (fun vs H Q E h => ?_) (fun cdv A outer s H vs Q E hr h => ?_)
  · obtain ⟨a, S, ⟨rfl, _⟩, _⟩ := h
    rfl
  · obtain ⟨a, S, ⟨rfl, t, b1, b2, ht, k1, k2, eb⟩, w0, q⟩ := h.body
    refine ⟨_, (pss_one (ps_ret (pe_and (pe_callB (call_isiK2 (K := K)) (by rfl) T.z_isinstance (by decide +kernel) (pa_cons (pv 0) (pa_cons (pe_bltn (v := .ty "int") (by rfl) T.z_int (by decide +kernel) rfl) pa_nil))) (pe_one (pe_not (pe_callB (call_isiK2 (K := K)) (by rfl) T.z_isinstance (by decide +kernel) (pa_cons (pv 0) (pa_cons (pe_bltn (v := .ty "bool") (by rfl) T.z_bool (by decide +kernel) rfl) pa_nil)))))))), ?_⟩
    refine st_ret (R := fun v _ => v = .bl false) ?_ w0 fun v S1 H1 w1 s1 p => q v S1 H1 w1 s1 p
    exact EvV.is (vv_and (a := b1) (vv_isT (vv_var rfl) vv_c ht k1) fun _ => vv_not (a := b2) (vv_isT (vv_var rfl) vv_c ht k2)) (by rw [eb])
theorem ev_altR {r : Rs} {s : L2.St} {S : Hp} {t u : TE} {R : V → Hp → Prop} (h : EvS r u s S R) : EvS r (tAlt t u) s S R := fun S1 H e w Q q => .inr (h S1 H e w Q q)
theorem vv_noint {r : Rs} {s : L2.St} {S : Hp} {i : Nat} {t : TE} {a : V} {E : XK} (h : s[i]? = some (some a)) (hn : NonInt K a S) : EvV r (tAlt t (tCall (sp_noint K) [] E (tCons (tVar i) tNil))) s S (.bl false) := fun S1 H e w Q q =>
  .inr ((va_cons (vv_var h) va_nil : EvAV r (tCons (tVar i) tNil) s S [a]) S1 H e w _ fun us S2 H2 w2 s2 eu => by
    subst eu
    exact ⟨a, S2, ⟨rfl, ni_up (e.trans s2.ex) hn⟩, w2.ex, fun v S3 H3 w3 s3 p3 => q v S3 H3 (w2.lift w3 s3) (s2.trans s3.lift) p3⟩)
def sp_nobet (K : PySem.W.Frag) : Sp := SpP (A := V × V × V) (fun a vs S => vs = [a.1, a.2.1, a.2.2] ∧ NonInt K a.1 S) (fun _ u _ => u = .bl false)
theorem GX_is_between (T : TX P w K mg) : FnOk P w K mg base (L2N.CX P w) 2 T.f_is_between T.fd_is_between ["value", "low", "high"] (sp_nobet K) := by
  refine ok_N T.F_is_between sc_is_between (fun vs H Q E h => ?_) (fun cdv A outer s H vs Q E hr h => ?_)
  · obtain ⟨a, S, ⟨rfl, _⟩, _⟩ := h
    rfl
  · obtain ⟨⟨a, lo, hi⟩, S, ⟨rfl, hn⟩, w0, q⟩ := h.body
    refine ⟨_, (pss_one (ps_ret (pe_and (pe_alt (pe_call (G_is_integer T) (hr.mono (by decide)) (by rfl) T.g_is_integer T.F_is_integer.kp T.b_is_integer .nil pass0 (pa_cons (pv 0) pa_nil)) (pe_call (GX_is_integer T) (hr.mono (by decide)) (by rfl) T.g_is_integer T.F_is_integer.kp T.b_is_integer .nil passN (pa_cons (pv 0) pa_nil))) (pe_one (pe_chain op_le op_le (pv 1) (pv 0) (pv 2)))))), ?_⟩
    exact st_ret (R := fun v _ => v = .bl false) (vv_and (a := false) (b := false) (vv_noint rfl hn) fun z => nomatch z) w0 fun v S1 H1 w1 s1 p => q v S1 H1 w1 s1 p
def FitV (lo hi : Int) (v : V) : Prop := ∃ i : Int, v = .int i ∧ lo ≤ i ∧ i ≤ hi
def BadV (K : PySem.W.Frag) (lo hi : Int) (v : V) (S : Hp) : Prop := NonInt K v S ∨ ∃ i : Int, v = .int i ∧ ¬ (lo ≤ i ∧ i ≤ hi)
theorem bad_up {S S' : Hp} {lo hi : Int} {v : V} (x : Ex S S') (h : BadV K lo hi v S) : BadV K lo hi v S' := h.imp (ni_up x) id
section
variable {r : Rs} {s : L2.St} {S : Hp}
theorem tb_altF {ts : TA} {lo hi : Int} {v : V} {u : TE} (ha : EvAV r ts s S [v, .int lo, .int hi]) (f : FitV lo hi v) : EvV r (tAlt (tCall sp_is_between [] E0 ts) u) s S (.bl true) := by
  obtain ⟨j, rfl, h1, h2⟩ := f
  exact ev_altL (vv_between ha (btw h1 h2))
theorem tb_altB {ts : TA} {lo hi : Int} {v : V} {E : XK} (ha : EvAV r ts s S [v, .int lo, .int hi]) (f : BadV K lo hi v S) : EvV r (tAlt (tCall sp_is_between [] E0 ts) (tCall (sp_nobet K) [] E ts)) s S (.bl false) := by
  rcases f with f | ⟨j, rfl, f⟩
  · exact ev_altR (vv_call (v, .int lo, .int hi) ha (fun S1 e => ⟨rfl, ni_up e f⟩) fun v _ _ p => p)
  · refine ev_altL (vv_between ha ?_)
    by_cases h1 : lo ≤ j
    · have h2 : ¬ j ≤ hi := fun z => f ⟨h1, z⟩
      simp [h2]
    · simp [h1]
end
end
end K63

namespace K63
open PySem PySem.Spec PyProof.Rows L2 Evl J RZ
section
variable {P : Program} {w : World} {K : PySem.W.Frag} {mg : Str → Option Value} {base : Heap}
/-! ### the law's draws, out of a pool -/
theorem pl_p {p c : Addr} {H S : Hp} {o : HO} (h : H p = some o) : sup [p, c] H S p = some o := (sup_in (by simp)).trans h
theorem pl_c {p c : Addr} {H S : Hp} {o : HO} (h : H c = some o) : sup [p, c] H S c = some o := (sup_in (by simp)).trans h
theorem loc_pc {p c : Addr} {cs : List Int} {pos cnt seed k : Int} {S H : Hp} (w : Wd (poolR p c) S H) (h : PoolAt p c cs pos cnt seed k H) : Loc Rs.nil [p, c] S H := fun a ha => ⟨(fun z => by cases z), w.dj a ha, w.inv |> (poolR p c).has H |> fun z => z a ha⟩
theorem wd_pool {p c : Addr} {cs : List Int} {pos cnt seed k : Int} {S H : Hp} (w : Wd Rs.nil S H) (l : Loc Rs.nil [p, c] S H) (h : PoolAt p c cs pos cnt seed k H) : Wd (poolR p c) S H := ⟨w.ex, ⟨cs, pos, cnt, seed, k, h⟩, fun a ha => (l a ha).2.1⟩
/-- the pool as it stands, and the way here -/
structure PW (p c : Addr) (S0 H0 : Hp) (cs : List Int) (pos cnt seed k : Int) (S H : Hp) : Prop where
  w : Wd Rs.nil S H
  l : Loc Rs.nil [p, c] S H
  at_ : PoolAt p c cs pos cnt seed k H
  st : Stp (Rs.nil.more [p, c]) S0 H0 S H
theorem PW.start {p c : Addr} {cs : List Int} {pos cnt seed k : Int} {S H : Hp} (w : Wd (poolR p c) S H) (h : PoolAt p c cs pos cnt seed k H) : PW p c S H cs pos cnt seed k S H := ⟨w.toNil, loc_pc w h, h, Stp.refl⟩
theorem nm_nil {a : Addr} : a ∉ Rs.nil.M := fun z => by cases z
theorem PW.step {p c : Addr} {S0 H0 : Hp} {cs : List Int} {pos cnt seed k : Int} {S H S1 H1 : Hp} (x : PW p c S0 H0 cs pos cnt seed k S H) (w : Wd Rs.nil S1 H1) (s : Stp Rs.nil S H S1 H1) : PW p c S0 H0 cs pos cnt seed k S1 H1 :=
  ⟨w, x.l.step s, ⟨s.kp p _ nm_nil x.at_.hp, s.kp c _ nm_nil x.at_.hc, x.at_.h0, x.at_.pos0, x.at_.cnt0, x.at_.seed0⟩, x.st.trans s.more⟩
theorem PW.setp {p c : Addr} {S0 H0 : Hp} {cs : List Int} {pos cnt seed k : Int} {S H S1 H1 : Hp} (x : PW p c S0 H0 cs pos cnt seed k S H) (w : Wd Rs.nil S1 H1) (s : Stp (Rs.nil.more [p, c]) S H S1 H1) {pos' cnt' seed' k' : Int} (h : H1 p = some (.lst [.ref c, .int pos', .int cnt', .int seed', .int k'])) (kp : ∀ a o, a ≠ p → a ∉ Rs.nil.M → H a = some o → H1 a = some o)
    (h1 : 0 ≤ pos') (h2 : 0 ≤ cnt') (h3 : 0 ≤ seed') : PW p c S0 H0 cs pos' cnt' seed' k' S1 H1 :=
  ⟨w, x.l.stepM s, ⟨h, kp c _ x.at_.ne.symm nm_nil x.at_.hc, x.at_.h0, h1, h2, h3⟩, x.st.trans s⟩
theorem PW.done {p c : Addr} {S0 H0 : Hp} {cs : List Int} {pos cnt seed k : Int} {S H : Hp} (x : PW p c S0 H0 cs pos cnt seed k S H) : Wd (poolR p c) S H ∧ Stp (poolR p c) S0 H0 S H := ⟨wd_pool x.w x.l x.at_, poolR_nil x.st⟩
def sp_mixed : Sp := SpR (A := Addr × Addr × Int) (fun a => poolR a.1 a.2.1) (fun a vs _ _ => vs = [.ref a.1, .int a.2.2] ∧ 1 ≤ a.2.2 ∧ a.2.2 < 10 ^ 40) (fun a v _ _ => ∃ i, v = .int i ∧ 0 ≤ i ∧ i < a.2.2)
theorem G_L_mixed (T : TX P w K mg) : FnOk P w K mg base CX0 1 T.f_L_mixed T.fd_L_mixed ["_law_pool", "_law_many"] sp_mixed := by
  refine T.F_L_mixed.ok sc_L_mixed (fun vs H Q E h => ?_) (fun cdv A outer s H vs Q E hr h => ?_)
  · obtain ⟨i, S, ⟨rfl, _⟩, _⟩ := h
    rfl
  · obtain ⟨⟨p, c, n⟩, S, ⟨rfl, hn1, hn2⟩, w0, q⟩ := h
    dsimp only at hn1 hn2 w0 q
    obtain ⟨cs, pos, cnt, seed, k, hp⟩ := w0.inv
    have x0 := PW.start w0 hp
    refine ⟨_, (pss_cons (ps_asg (pe_op (op_addK (K := K)) (pe_ix (ix_K (K := K)) (pv 0) pe_int (fun _ _ => rfl)) pe_int) (pg_sub (pv 0) pe_int set_list))
      (pss_cons (ps_set (i := 2) sc_L_mixed.nd rfl (Or.inl rfl) (pe_ix (ix_K (K := K)) (pv 0) pe_int (fun _ _ => rfl)))
      (pss_cons (ps_for PassesOwn.never (by rfl) (pi_range1 (by rfl) T.z_range (pa_cons (pe_op (op_addK (K := K)) pe_int (pe_op op_fdivW (pe_callB (call_lenK (K := K)) (by rfl) T.z_len (by decide +kernel) (pa_cons (pe_callTy call_strU (by rfl) T.z_str (by decide +kernel) (pa_cons (pv 1) pa_nil)) pa_nil)) pe_int)) pa_nil)) (pg_name (i := 3) sc_L_mixed.nd rfl (Or.inl rfl)) (pss_cons (ps_asg (pe_op op_mod (pe_op (op_addK (K := K)) (pe_op (op_addK (K := K)) (pe_op op_mulU (pe_ix (ix_K (K := K)) (pv 0) pe_int (fun _ _ => rfl)) pe_int) (pe_op op_mulU (pe_ix (ix_K (K := K)) (pv 0) pe_int (fun _ _ => rfl)) pe_int)) pe_int) pe_int) (pg_sub (pv 0) pe_int set_list))
        (pss_one (ps_set (i := 2) sc_L_mixed.nd rfl (Or.inl rfl) (pe_op (op_addK (K := K)) (pe_op op_mulU (pv 2) pe_int) (pe_op op_fdivW (pe_ix (ix_K (K := K)) (pv 0) pe_int (fun _ _ => rfl)) pe_int))))))
      (pss_one (ps_ret (pe_op op_mod (pv 2) (pv 1))))))), ?_⟩
    refine sq_setL [p, c] (v := .int (cnt + 1)) (i := 2) (j := 2) (vv_op (vv_op (vv_var rfl) vv_c (rs_ixL' (SqL.of (pl_p x0.at_.hp)) (atI_nat (j := 2) rfl))) vv_c rs_add) (vv_var rfl) vv_c x0.w x0.l (by simp) x0.at_.hp rfl fun S1 H1 w1 s1 h1 kp1 => ?_
    have x1 := x0.setp w1 s1 (pos' := pos) (cnt' := cnt + 1) (seed' := seed) (k' := k) h1 kp1 hp.pos0 (by have := hp.cnt0; omega) hp.seed0
    refine sq_asgL [p, c] (v := .int seed) (vv_op (vv_var rfl) vv_c (rs_ixL' (SqL.of (pl_p x1.at_.hp)) (atI_nat (j := 3) rfl))) x1.w x1.l fun S2 H2 w2 s2 => ?_
    have x2 := x1.step w2 s2
    have hlen : (Str.ofString (toString n)).length ≤ 40 := toString_length_le (by omega) (by decide) hn2
    have hlog : n.natAbs.log2 < 1920 := by
      have h2 : n.natAbs < 2 ^ 1920 := by
        have h3 : n.natAbs < 10 ^ 40 := by omega
        exact Nat.lt_trans h3 (by decide +kernel)
      by_cases e : n.natAbs = 0
      · rw [e]
        decide
      · exact (Nat.log2_lt e).mpr h2
    refine sq_for (ei_range1 (va_cons (vv_op vv_c (vv_op (vv_cb (va_cons (vv_cb (va_cons (vv_var rfl) va_nil) (rc_str hlog)) va_nil) (rc_lenS (z := Str.ofString (toString n)) (by omega))) vv_c (rs_I (cdiv (by decide) (by decide)))) rs_add) va_nil) (by omega)) x2.w fun S3 H3 w3 s3 => ?_
    have x3 := x2.step w3 s3
    refine ⟨fun i s' S' H' => (∃ sd, PW p c S H cs pos (cnt + 1) sd k S' H') ∧ Ex S3 S' ∧ ∃ f y, 0 ≤ f ∧ s' = [some (.ref p), some (.int n), some (.int f), y], ⟨⟨seed, x3⟩, Ex.refl _, seed, none, hp.seed0, rfl⟩, fun i s' S' H' ⟨⟨sd, x⟩, e, _⟩ => ⟨x.w, e⟩, ?_, ?_⟩
    · rintro i i' v s' S4 H4 S5 H5 hi ⟨⟨sd, x4⟩, e4, f, y, hf, rfl⟩ w5 s5 hv
      have x5 := x4.step w5 s5
      refine sq_setL [p, c] (v := .int ((sd * 48271 + (cnt + 1) * 12345 + 89126) % 2147483647)) (i := 3) (j := 3)
        (vv_op (vv_op (vv_op (vv_op (vv_op (vv_var rfl) vv_c (rs_ixL' (SqL.of (pl_p x5.at_.hp)) (atI_nat (j := 3) rfl))) vv_c (rs_mul (cmul_r (by decide)))) (vv_op (vv_op (vv_var rfl) vv_c (rs_ixL' (SqL.of (pl_p x5.at_.hp)) (atI_nat (j := 2) rfl))) vv_c (rs_mul (cmul_r (by decide)))) rs_add) vv_c rs_add) vv_c (rs_I (by decide))) (vv_var rfl) vv_c x5.w x5.l (by simp) x5.at_.hp rfl fun S6 H6 w6 s6 h6 kp6 => ?_
      have x6 := x5.setp w6 s6 (pos' := pos) (cnt' := cnt + 1) (seed' := (sd * 48271 + (cnt + 1) * 12345 + 89126) % 2147483647) (k' := k) h6 kp6 hp.pos0 x5.at_.cnt0 (by omega)
      refine st_asgL [p, c] (v := .int (f * 2147483647 + (sd * 48271 + (cnt + 1) * 12345 + 89126) % 2147483647 / 7)) (vv_op (vv_op (vv_var rfl) vv_c (rs_mul (cmul_r (by decide)))) (vv_op (vv_op (vv_var rfl) vv_c (rs_ixL' (SqL.of (pl_p x6.at_.hp)) (atI_nat (j := 3) rfl))) vv_c (rs_I (cdiv (by decide) (by decide)))) rs_add) x6.w x6.l fun S7 H7 w7 s7 => ?_
      exact ⟨S7, ⟨_, x6.step w7 s7⟩, e4.trans (s5.ex.trans (s6.ex.trans s7.ex)), _, _, by omega, rfl⟩
    · rintro s' S4 H4 ⟨⟨sd, x4⟩, e4, f, y, hf, rfl⟩
      refine st_ret (vv_op (vv_var rfl) (vv_var rfl) (rs_I (by omega))) x4.w fun v S5 H5 w5 s5 ev => ?_
      have x5 := x4.step w5 s5
      exact q v S5 H5 x5.done.1 x5.done.2 ⟨_, ev, Int.emod_nonneg _ (by omega), Int.emod_lt_of_pos _ (by omega)⟩
def sp_draw : Sp := SpR (A := Addr × Addr × Int) (fun a => poolR a.1 a.2.1) (fun a vs _ _ => vs = [.ref a.1, .int a.2.2] ∧ 1 ≤ a.2.2 ∧ a.2.2 < 10 ^ 40) (fun a v _ _ => ∃ i, v = .int i ∧ 0 ≤ i ∧ i < a.2.2)
theorem ev_mixed {p c : Addr} {s : L2.St} {S : Hp} {t : TA} {n : Int} (h : EvAV (poolR p c) t s S [.ref p, .int n]) (h1 : 1 ≤ n) (h2 : n < 10 ^ 40) : EvS (poolR p c) (tCall sp_mixed [] E0 t) s S fun v _ => ∃ i, v = .int i ∧ 0 ≤ i ∧ i < n :=
  ev_callR (p, c, n) rfl h (fun _ _ _ _ => ⟨rfl, h1, h2⟩) fun v _ _ _ _ p => p
theorem ev_draw {p c : Addr} {s : L2.St} {S : Hp} {t : TA} {n : Int} (h : EvAV (poolR p c) t s S [.ref p, .int n]) (h1 : 1 ≤ n) (h2 : n < 10 ^ 40) : EvS (poolR p c) (tCall sp_draw [] E0 t) s S fun v _ => ∃ i, v = .int i ∧ 0 ≤ i ∧ i < n :=
  ev_callR (p, c, n) rfl h (fun _ _ _ _ => ⟨rfl, h1, h2⟩) fun v _ _ _ _ p => p
theorem G_L_draw (T : TX P w K mg) : FnOk P w K mg base CX0 2 T.f_L_draw T.fd_L_draw ["_law_pool", "_law_many"] sp_draw := by
  refine T.F_L_draw.ok sc_L_draw (fun vs H Q E h => ?_) (fun cdv A outer s H vs Q E hr h => ?_)
  · obtain ⟨i, S, ⟨rfl, _⟩, _⟩ := h
    rfl
  · obtain ⟨⟨p, c, n⟩, S, ⟨rfl, hn1, hn2⟩, w0, q⟩ := h
    dsimp only at hn1 hn2 w0 q
    obtain ⟨cs, pos, cnt, seed, k, hp⟩ := w0.inv
    have x0 := PW.start w0 hp
    refine ⟨_, (pss_cons (ps_if (PW.pt (pw_or (pt_cmpR op_ge (pe_ix (ix_K (K := K)) (pv 0) pe_int (fun _ _ => rfl)) (pe_callB (call_lenK (K := K)) (by rfl) T.z_len (by decide +kernel) (pa_cons (pe_ix (ix_K (K := K)) (pv 0) pe_int (fun _ _ => rfl)) pa_nil)) (nomark _)) (pw_or1 (pt_cmpR (op_eqK (K := K) hr.units) (pv 1) pe_int (nomark _))))) (pss_one (ps_ret (pe_ifExp (pt_cmpR op_gt (pv 1) pe_int (nomark _)) (pe_call (G_L_mixed T) (hr.mono (by decide)) (by rfl) T.g_L_mixed T.F_L_mixed.kp T.b_L_mixed .nil pass0 (pa_cons (pv 0) (pa_cons (pv 1) pa_nil))) pe_int))) pss_nil)
      (pss_cons (ps_if (pt_cmpR op_lt (pe_ix (ix_K (K := K)) (pe_ix (ix_K (K := K)) (pv 0) pe_int (fun _ _ => rfl)) (pe_ix (ix_K (K := K)) (pv 0) pe_int (fun _ _ => rfl)) (fun _ _ => rfl)) (pe_op op_pow pe_int pe_int) (nomark _)) (pss_cons (ps_asg (pe_op op_mod (pe_op (op_addK (K := K)) (pe_op (op_addK (K := K)) (pe_op (op_addK (K := K)) (pe_op op_mulU (pe_ix (ix_K (K := K)) (pv 0) pe_int (fun _ _ => rfl)) pe_int) (pe_ix (ix_K (K := K)) (pe_ix (ix_K (K := K)) (pv 0) pe_int (fun _ _ => rfl)) (pe_ix (ix_K (K := K)) (pv 0) pe_int (fun _ _ => rfl)) (fun _ _ => rfl))) (pe_ix (ix_K (K := K)) (pv 0) pe_int (fun _ _ => rfl))) pe_int) pe_int) (pg_sub (pv 0) pe_int set_list))
        (pss_cons (ps_asg (pe_op (op_addK (K := K)) (pe_ix (ix_K (K := K)) (pv 0) pe_int (fun _ _ => rfl)) pe_int) (pg_sub (pv 0) pe_int set_list))
        (pss_cons (ps_if (pt_cmpR (op_eqK (K := K) hr.units) (pe_op op_mod (pe_ix (ix_K (K := K)) (pv 0) pe_int (fun _ _ => rfl)) pe_int) pe_int (nomark _)) (pss_one (ps_asg (pe_op (op_addK (K := K)) (pe_ix (ix_K (K := K)) (pv 0) pe_int (fun _ _ => rfl)) pe_int) (pg_sub (pv 0) pe_int set_list))) pss_nil)
        (pss_one (ps_ret (pe_call (G_L_mixed T) (hr.mono (by decide)) (by rfl) T.g_L_mixed T.F_L_mixed.kp T.b_L_mixed .nil pass0 (pa_cons (pv 0) (pa_cons (pv 1) pa_nil)))))))) pss_nil)
      (pss_cons (ps_set (i := 2) sc_L_draw.nd rfl (Or.inl rfl) (pe_op op_mod (pe_ix (ix_K (K := K)) (pe_ix (ix_K (K := K)) (pv 0) pe_int (fun _ _ => rfl)) (pe_ix (ix_K (K := K)) (pv 0) pe_int (fun _ _ => rfl)) (fun _ _ => rfl)) (pv 1)))
      (pss_cons (ps_asg (pe_op op_fdivW (pe_ix (ix_K (K := K)) (pe_ix (ix_K (K := K)) (pv 0) pe_int (fun _ _ => rfl)) (pe_ix (ix_K (K := K)) (pv 0) pe_int (fun _ _ => rfl)) (fun _ _ => rfl)) (pv 1)) (pg_sub (pe_ix (ix_K (K := K)) (pv 0) pe_int (fun _ _ => rfl)) (pe_ix (ix_K (K := K)) (pv 0) pe_int (fun _ _ => rfl)) set_list))
      (pss_cons (ps_if (pt_cmpR (op_eqK (K := K) hr.units) (pe_ix (ix_K (K := K)) (pe_ix (ix_K (K := K)) (pv 0) pe_int (fun _ _ => rfl)) (pe_ix (ix_K (K := K)) (pv 0) pe_int (fun _ _ => rfl)) (fun _ _ => rfl)) pe_int (nomark _)) (pss_one (ps_asg (pe_op (op_addK (K := K)) (pe_ix (ix_K (K := K)) (pv 0) pe_int (fun _ _ => rfl)) pe_int) (pg_sub (pv 0) pe_int set_list))) pss_nil)
      (pss_one (ps_ret (pv 2)))))))), ?_⟩
    have e0 : ∀ {S H : Hp}, PoolAt p c cs pos cnt seed k H → EvV Rs.nil (tOp (rIx K) (tVar 0) (tC (.int 0))) [some (.ref p), some (.int n), none] (sup [p, c] H S) (.ref c) := fun h => vv_op (vv_var rfl) vv_c (rs_ixL' (SqL.of (pl_p h.hp)) (atI_nat (j := 0) rfl))
    have e1 : ∀ {S H : Hp}, PoolAt p c cs pos cnt seed k H → EvV Rs.nil (tOp (rIx K) (tVar 0) (tC (.int 1))) [some (.ref p), some (.int n), none] (sup [p, c] H S) (.int pos) := fun h => vv_op (vv_var rfl) vv_c (rs_ixL' (SqL.of (pl_p h.hp)) (atI_nat (j := 1) rfl))
    refine sq_ifL [p, c] (tb_or (tb_test (vv_op (e1 x0.at_) (vv_len (K := K) (X := IntR) (ys := cs) ((e0 x0.at_).imp fun v S1 e ev => .inl ⟨c, _, ev, e _ _ (pl_c x0.at_.hc), All2.of_ints cs⟩)) rs_I0)) fun _ => tb_test (vv_op (vv_var rfl) vv_c rs_eqI)) x0.w x0.l (fun hb S1 H1 w1 s1 => ?_) (fun hb S1 H1 w1 s1 => ?_)
    · have x1 := x0.step w1 s1
      have wp := x1.done
      refine st_ret (ev_if (R := fun v _ => ∃ i, v = .int i ∧ 0 ≤ i ∧ i < n) (tb_test (vv_op (vv_var rfl) vv_c rs_I0)) (fun _ => ev_mixed (va_cons (vv_var rfl) (va_cons (vv_var rfl) va_nil)) hn1 hn2) fun _ => vv_c.imp fun v _ _ e => ⟨0, e, by omega, by omega⟩) wp.1 fun v S2 H2 w2 s2 p2 => q v S2 H2 w2 (wp.2.trans s2) p2
    · have hb : pos < (cs.length : Int) := by
        simp at hb
        omega
      have x1 := x0.step w1 s1
      have hp0 := hp.pos0
      obtain ⟨j, rfl⟩ : ∃ j : Nat, pos = (j : Int) := ⟨pos.toNat, by omega⟩
      have hj : j < cs.length := by omega
      have gj : (cs.map V.int)[j]? = some (.int cs[j]) := by
        rw [List.getElem?_map, List.getElem?_eq_getElem hj]
        rfl
      have hx0 : 0 ≤ cs[j] := hp.h0 _ (List.getElem_mem hj)
      generalize hxx : cs[j] = x at *
      have ecell : ∀ {S H : Hp} {tv : Option V}, PoolAt p c cs (j : Int) cnt seed k H → EvV Rs.nil (tOp (rIx K) (tOp (rIx K) (tVar 0) (tC (.int 0))) (tOp (rIx K) (tVar 0) (tC (.int 1)))) [some (.ref p), some (.int n), tv] (sup [p, c] H S) (.int x) := fun h => vv_op (vv_op (vv_var rfl) vv_c (rs_ixL' (SqL.of (pl_p h.hp)) (atI_nat (j := 0) rfl))) (vv_op (vv_var rfl) vv_c (rs_ixL' (SqL.of (pl_p h.hp)) (atI_nat (j := 1) rfl))) (rs_ixL' (SqL.of (pl_c h.hc)) (atI_nat gj))
      refine sq_ifL [p, c] (tb_test (vv_op (ecell x1.at_) (vv_op vv_c vv_c (rs_I (show CPow 10 18 from ⟨by decide, by decide, by decide⟩))) rs_I0)) x1.w x1.l (fun hc S2 H2 w2 s2 => ?_) (fun hc S2 H2 w2 s2 => ?_)
      · have x2 := x1.step w2 s2
        refine sq_setL [p, c] (v := .int ((seed * 31 + x + cnt + 1) % 2147483647)) (i := 3) (j := 3) (vv_op (vv_op (vv_op (vv_op (vv_op (vv_op (vv_var rfl) vv_c (rs_ixL' (SqL.of (pl_p x2.at_.hp)) (atI_nat (j := 3) rfl))) vv_c (rs_mul (cmul_r (by decide)))) (ecell x2.at_) rs_add) (vv_op (vv_var rfl) vv_c (rs_ixL' (SqL.of (pl_p x2.at_.hp)) (atI_nat (j := 2) rfl))) rs_add) vv_c rs_add) vv_c (rs_I (by decide))) (vv_var rfl) vv_c x2.w x2.l (by simp) x2.at_.hp rfl fun S3 H3 w3 s3 h3 kp3 => ?_
        have x3 := x2.setp w3 s3 (pos' := (j : Int)) (cnt' := cnt) (seed' := (seed * 31 + x + cnt + 1) % 2147483647) (k' := k) h3 kp3 hp0 hp.cnt0 (by omega)
        refine sq_setL [p, c] (v := .int (k + 1)) (i := 4) (j := 4) (vv_op (vv_op (vv_var rfl) vv_c (rs_ixL' (SqL.of (pl_p x3.at_.hp)) (atI_nat (j := 4) rfl))) vv_c rs_add) (vv_var rfl) vv_c x3.w x3.l (by simp) x3.at_.hp rfl fun S4 H4 w4 s4 h4 kp4 => ?_
        have x4 := x3.setp w4 s4 (pos' := (j : Int)) (cnt' := cnt) (seed' := (seed * 31 + x + cnt + 1) % 2147483647) (k' := k + 1) h4 kp4 hp0 hp.cnt0 (by omega)
        have fin : ∀ {S5 H5 : Hp} {pos5 : Int}, PW p c S H cs pos5 cnt ((seed * 31 + x + cnt + 1) % 2147483647) (k + 1) S5 H5 → tRet (tCall sp_mixed [] E0 (tCons (tVar 0) (tCons (tVar 1) tNil))) { nx := fun _ H' => Q .non H', rt := Q } [some (.ref p), some (.int n), none] H5 := fun {S5 H5 pos5} x5 =>
          st_ret (ev_mixed (va_cons (vv_var rfl) (va_cons (vv_var rfl) va_nil)) hn1 hn2) x5.done.1 fun v S6 H6 w6 s6 p6 => q v S6 H6 w6 (x5.done.2.trans s6) p6
        refine sq_ifL [p, c] (tb_test (vv_op (vv_op (vv_op (vv_var rfl) vv_c (rs_ixL' (SqL.of (pl_p x4.at_.hp)) (atI_nat (j := 4) rfl))) vv_c (rs_I (by decide))) vv_c rs_eqI)) x4.w x4.l (fun _ S5 H5 w5 s5 => ?_) (fun _ S5 H5 w5 s5 => fin (x4.step w5 s5))
        have x5 := x4.step w5 s5
        refine st_setL [p, c] (v := .int ((j : Int) + 1)) (i := 1) (j := 1) (vv_op (vv_op (vv_var rfl) vv_c (rs_ixL' (SqL.of (pl_p x5.at_.hp)) (atI_nat (j := 1) rfl))) vv_c rs_add) (vv_var rfl) vv_c x5.w x5.l (by simp) x5.at_.hp rfl fun S6 H6 w6 s6 h6 kp6 => ?_
        exact fin (x5.setp w6 s6 (pos' := (j : Int) + 1) (cnt' := cnt) (seed' := (seed * 31 + x + cnt + 1) % 2147483647) (k' := k + 1) h6 kp6 (by omega) hp.cnt0 (by omega))
      · have x2 := x1.step w2 s2
        refine sq_asgL [p, c] (v := .int (x % n)) (vv_op (ecell x2.at_) (vv_var rfl) (rs_I (by omega))) x2.w x2.l fun S3 H3 w3 s3 => ?_
        have x3 := x2.step w3 s3
        have hdv : CDivW x n := cdiv (by omega) (by
          have : (10 : Int) ^ 40 < 10 ^ 100 := by decide +kernel
          omega)
        refine sq_setL [p, c] (v := .int (x / n)) (i := (j : Int)) (j := j) (l := c) (vv_op (ecell x3.at_) (vv_var rfl) (rs_I hdv)) (vv_op (vv_var rfl) vv_c (rs_ixL' (SqL.of (pl_p x3.at_.hp)) (atI_nat (j := 0) rfl))) (vv_op (vv_var rfl) vv_c (rs_ixL' (SqL.of (pl_p x3.at_.hp)) (atI_nat (j := 1) rfl))) x3.w x3.l (by simp) x3.at_.hc (J.ixN_nat (by rw [List.length_map]; exact hj)) fun S4 H4 w4 s4 h4 kp4 => ?_
        have h4' : H4 c = some (.lst ((cs.set j (x / n)).map V.int)) := by
          rw [h4, List.map_set]
        have x4 : PW p c S H (cs.set j (x / n)) (j : Int) cnt seed k S4 H4 := ⟨w4, x3.l.stepM s4, ⟨kp4 p _ hp.ne nm_nil x3.at_.hp, h4', fun y hy => by
          rcases List.mem_or_eq_of_mem_set hy with hy | rfl
          · exact hp.h0 y hy
          · exact Int.ediv_nonneg hx0 (by omega), hp0, hp.cnt0, hp.seed0⟩, x3.st.trans s4⟩
        have gj4 : ((cs.set j (x / n)).map V.int)[j]? = some (.int (x / n)) := by
          rw [List.getElem?_map, List.getElem?_set_self hj]
          rfl
        have fin : ∀ {S5 H5 : Hp} {pos5 : Int}, PW p c S H (cs.set j (x / n)) pos5 cnt seed k S5 H5 → tRet (tVar 2) { nx := fun _ H' => Q .non H', rt := Q } [some (.ref p), some (.int n), some (.int (x % n))] H5 := fun {S5 H5 pos5} x5 =>
          st_ret (vv_var rfl) x5.w fun v S6 H6 w6 s6 e6 => q v S6 H6 (x5.step w6 s6).done.1 (x5.step w6 s6).done.2 ⟨_, e6, Int.emod_nonneg _ (by omega), Int.emod_lt_of_pos _ (by omega)⟩
        refine sq_ifL [p, c] (tb_test (vv_op (vv_op (vv_op (vv_var rfl) vv_c (rs_ixL' (SqL.of (pl_p x4.at_.hp)) (atI_nat (j := 0) rfl))) (vv_op (vv_var rfl) vv_c (rs_ixL' (SqL.of (pl_p x4.at_.hp)) (atI_nat (j := 1) rfl))) (rs_ixL' (SqL.of (pl_c x4.at_.hc)) (atI_nat gj4))) vv_c rs_eqI)) x4.w x4.l (fun _ S5 H5 w5 s5 => ?_) (fun _ S5 H5 w5 s5 => fin (x4.step w5 s5))
        have x5 := x4.step w5 s5
        refine st_setL [p, c] (v := .int ((j : Int) + 1)) (i := 1) (j := 1) (vv_op (vv_op (vv_var rfl) vv_c (rs_ixL' (SqL.of (pl_p x5.at_.hp)) (atI_nat (j := 1) rfl))) vv_c rs_add) (vv_var rfl) vv_c x5.w x5.l (by simp) x5.at_.hp rfl fun S6 H6 w6 s6 h6 kp6 => ?_
        exact fin (x5.setp w6 s6 (pos' := (j : Int) + 1) (cnt' := cnt) (seed' := seed) (k' := k) h6 kp6 (by omega) hp.cnt0 hp.seed0)
/-- the pool of a script -/
def sp_begin (K : PySem.W.Frag) : Sp := fun vs H Q _ => ∃ (a : Addr) (ns : List Int) (S : Hp), vs = [.ref a] ∧ SqL K S a (ns.map V.int) ∧ ns.length ≤ 63 ∧ Wd Rs.nil S H ∧ ∀ p c S1 H1, H p = none → H c = none → Wd (poolR p c) S1 H1 → Stp Rs.nil S H S1 H1 → Q (.ref p) H1
theorem cut_ints (ns : List Int) (lo hi : Option Int) : ∃ ms : List Int, cutV (ns.map V.int) lo hi = ms.map V.int ∧ ms.length ≤ ns.length := by
  refine ⟨_, by unfold cutV; rw [← List.map_drop, ← List.map_take], ?_⟩
  rw [List.length_take, List.length_drop]
  omega
theorem st_retLst {te : TE} {tr : TA} {D : Ends} {s : L2.St} {H : Hp} (h : te s H fun x H1 => tr s H1 fun xs H2 => (x :: xs).length ≤ sizeLine ∧ ∀ p, H2 p = none → D.rt (.ref p) (upd H2 p (.lst (x :: xs)))) : tRet (tLst (tCons te tr)) D s H := h
theorem G_L_begin (T : TX P w K mg) : FnOk P w K mg base CX0 1 T.f_L_begin T.fd_L_begin ["_law_script"] (sp_begin K) := by
  refine T.F_L_begin.ok sc_L_begin (fun vs H Q E h => ?_) (fun cdv A outer s H vs Q E hr h => ?_)
  · obtain ⟨a, ns, S, rfl, _⟩ := h
    rfl
  · obtain ⟨a, ns, S, rfl, hS, hl, w0, q⟩ := h
    refine ⟨_, (pss_cons (ps_set (i := 1) sc_L_begin.nd rfl (Or.inl rfl) pe_int)
      (pss_cons (ps_for PassesOwn.never (by rfl) (pi_K (K := K) (pe_slice (sl_K (K := K)) (pv 0) po_none (po_some pe_int))) (pg_name (i := 2) sc_L_begin.nd rfl (Or.inl rfl)) (pss_one (ps_set (i := 1) sc_L_begin.nd rfl (Or.inl rfl) (pe_op op_mod (pe_op (op_addK (K := K)) (pe_op (op_addK (K := K)) (pe_op op_mulU (pv 1) pe_int) (pe_op op_mod (pe_callTy call_int1 (by rfl) T.z_int (by decide +kernel) (pa_cons (pv 2) pa_nil)) pe_int)) pe_int) pe_int))))
      (pss_one (ps_ret (pe_lst (pa_cons (pe_lc (own := [("_law_cell", 2)]) (by rfl) sc_L_begin.nd (pi_K (K := K) (pv 0)) (blkOk_by (own := [("_law_cell", 2)]) (N := N_L_begin) (sc := (defScope s_L_begin)) (by decide +kernel)) (fun _ _ _ _ _ => (pg_name (i := 2) sc_L_begin.nd rfl (Or.inl rfl))) (fun _ _ _ _ _ => pts_nil) (fun _ _ _ _ _ => (pe_callB call_abs (by rfl) T.z_abs (by decide +kernel) (pa_cons (pe_callTy call_int1 (by rfl) T.z_int (by decide +kernel) (pa_cons (pv 2) pa_nil)) pa_nil)))) (pa_cons pe_int (pa_cons pe_int (pa_cons (pv 1) (pa_cons pe_int pa_nil)))))))))), ?_⟩
    refine sq_asg vv_c w0 fun v S1 H1 w1 s1 e1 => ?_
    subst e1
    obtain ⟨ms, em, hm⟩ := cut_ints ns none (some 40)
    refine sq_for (ei_list (X := IntR) (ys := ms) (EvN.lst (X := IntR) ((en_slice (lo := none) (hi := some 40) (vv_var rfl) (ex_l s1.ex hS) (fun H Q q => q) (fun H Q q => ⟨40, rfl, q⟩)).imp fun o S2 _ eo => ⟨_, eo, by rw [em]; exact All2.of_ints ms⟩))) w1 fun S2 H2 w2 s2 => ?_
    refine ⟨fun i s' S' H' => Wd Rs.nil S' H' ∧ Ex S2 S' ∧ Stp Rs.nil S H S' H' ∧ ∃ sd y, 0 ≤ sd ∧ s' = [some (.ref a), some (.int sd), y], ⟨w2, Ex.refl _, s1.trans s2, 7, none, by decide, rfl⟩, fun i s' S' H' p => ⟨p.1, p.2.1⟩, ?_, ?_⟩
    · rintro i z u s' S3 H3 S4 H4 hi ⟨w3, e3, s3, sd, y, hsd, rfl⟩ w4 s4 hu
      obtain rfl : u = .int z := hu
      refine st_asg (vv_op (vv_op (vv_op (vv_op (vv_var rfl) vv_c (rs_mul (cmul_r (by decide)))) (vv_op (vv_cb (va_cons (vv_var rfl) va_nil) rc_int) vv_c (rs_I (by decide))) rs_add) vv_c rs_add) vv_c (rs_I (by decide))) w4 fun v S5 H5 w5 s5 e5 => ?_
      subst e5
      exact ⟨S5, w5, e3.trans (s4.ex.trans s5.ex), (s3.trans s4).trans s5, _, _, by omega, rfl⟩
    · rintro s' S3 H3 ⟨w3, e3, s3, sd, y, hsd, rfl⟩
      refine st_retLst ?_
      refine (en_lcn (Yr := IntR) (S := S3) (r := Rs.nil) (fun x => if x < 0 then -x else x) (ei_listK (X := IntR) (ys := ns) (ev_var rfl ⟨a, _, rfl, ex_l s3.ex hS, All2.of_ints ns⟩ fun S5 e ⟨b, vs, h1, h2, h3⟩ => ⟨b, vs, h1, ex_l e h2, h3.up e⟩)) (by omega) (by intro _; rfl) (fun x u S4 e4 m hu => ?_) : EvN Rs.nil _ _ S3 _) S3 H3 (Ex.refl _) w3 _ fun c o S4 H4 hc lc sc w4 s4 ⟨ws, eo, hws⟩ => ?_
      · obtain rfl : u = .int x := hu
        exact vv_cb (va_cons (vv_cb (va_cons (vv_var rfl) va_nil) rc_int) va_nil) rc_abs
      · subst eo
        rw [hws.ints] at lc
        refine ⟨_, rfl, by show 5 ≤ sizeLine; decide, fun p hp => ?_⟩
        have w5 : Wd Rs.nil S4 (upd H4 p (.lst [.ref c, .int 0, .int 0, .int sd, .int 0])) := w4.new hp
        have s5 : Stp Rs.nil S H S4 (upd H4 p (.lst [.ref c, .int 0, .int 0, .int sd, .int 0])) := (s3.trans s4).trans (Stp.new hp)
        have ncp : c ≠ p := ne_of_none lc hp
        have hat : PoolAt p c (ns.map fun x => if x < 0 then -x else x) 0 0 sd 0 (upd H4 p (.lst [.ref c, .int 0, .int 0, .int sd, .int 0])) := ⟨upd_same, by
          rw [upd_ne ncp]
          exact lc, fun x hx => by
          obtain ⟨y, _, rfl⟩ := List.mem_map.mp hx
          split <;> omega, by decide, by decide, hsd⟩
        refine q p c S4 _ (pre_none (s3.trans s4) hp) (pre_none s3 hc) (wd_pool w5 (fun a ha => ?_) hat) s5
        rcases List.mem_cons.mp ha with rfl | ha
        · exact ⟨nm_nil, w4.fresh hp, ne_none upd_same⟩
        · rw [List.mem_singleton.mp ha]
          exact ⟨nm_nil, sc, by rw [upd_ne ncp]; exact ne_none lc⟩
theorem ev_draw1 {p c : Addr} {s : L2.St} {S : Hp} {t : TA} {n lo : Int} (h : EvAV (poolR p c) t s S [.ref p, .int n]) (h1 : 1 ≤ n) (h2 : n < 10 ^ 40) : EvS (poolR p c) (tOp (rAddU K) (tC (.int lo)) (tCall sp_draw [] E0 t)) s S fun v _ => ∃ i, v = .int i ∧ lo ≤ i ∧ i < lo + n :=
  ev_op2 vv_c (fun _ S e _ => ev_draw (EvAS.mono' e h) h1 h2) fun x y S S' _ hx _ ⟨i, hy, h1, h2⟩ => by
    subst hx
    subst hy
    exact ⟨_, rs_add, _, rfl, by omega, by omega⟩
/-- the law's first statement -/
theorem call_run {sp : Sp} {dvs : List V} {E : XK} {ta : TA} {s : L2.St} {H : Hp} {Q : VK} (h : ta s H fun vs H1 => sp (vs ++ dvs) H1 Q E) : tCall sp dvs E ta s H Q := h
theorem st_asgRun {i : Nat} {te : TE} {s : L2.St} {H : Hp} {tz : TS} {D : Ends} (k : te s H fun v H1 => tz D (s.set i (some v)) H1) : tSeq (tAsg te (gName i)) tz D s H := k
theorem sq_begin {i : Nat} {a : Addr} {ns : List Int} {s : L2.St} {H : Hp} {tz : TS} {D : Ends} (h : s[0]? = some (some (.ref a))) (hS : SqL K H a (ns.map V.int)) (hl : ns.length ≤ 63) (k : ∀ p c S1 H1, Wd (poolR p c) S1 H1 → tz D (s.set i (some (.ref p))) H1) : tSeq (tAsg (tCall (sp_begin K) [] E0 (tCons (tVar 0) tNil)) (gName i)) tz D s H :=
  have h0 : EvAV Rs.nil (tCons (tVar 0) tNil) s H [.ref a] := va_cons (vv_var h) va_nil
  st_asgRun (call_run (h0 H H (Ex.refl _) ⟨Ex.refl _, True.intro, fun a h => by cases h⟩ (fun vs H1 => sp_begin K (vs ++ []) H1 (fun v H1 => tz D (s.set i (some v)) H1) E0) fun us S1 H1 w1 s1 eu => by
    subst eu
    exact ⟨a, ns, S1, rfl, ex_l s1.ex hS, hl, w1, fun p c S2 H2 _ _ w2 s2 => k p c S2 H2 w2⟩))
end
end K63

namespace K63
open PySem PySem.Spec PyProof.Rows L2 Evl J RZ
section
variable {P : Program} {w : World} {K : PySem.W.Frag} {mg : Str → Option Value} {base : Heap}
/-! ### displays told by a relation, picks -/
theorem ar_nil {α : Type} {R : Rl α} {r : Rs} {s : L2.St} {S : Hp} : EvAS r tNil s S fun us S1 => All2 R S1 [] us := J.ea_nil.imp' fun us S1 _ e => by
  rw [show us = _ from e]
  exact .nil
theorem ar_cons {α : Type} {R : Rl α} [Mono R] {r : Rs} {s : L2.St} {S : Hp} {ta : TE} {tr : TA} {a : α} {xs : List α} (h : EvS r ta s S fun v S1 => R a v S1) (hr : ∀ S1, Ex S S1 → EvAS r tr s S1 fun us S2 => All2 R S2 xs us) : EvAS r (tCons ta tr) s S fun us S1 => All2 R S1 (a :: xs) us :=
  (ea_all h hr fun v S1 S2 e p => Mono.up e p).imp' fun us S1 _ ⟨v, vs, e, h1, h2⟩ => by
    rw [e]
    exact .cons h1 h2
theorem ev_lstA {α : Type} {R : Rl α} [Mono R] {r : Rs} {s : L2.St} {S : Hp} {ta : TA} {xs : List α} (h : EvAS r ta s S fun us S1 => All2 R S1 xs us) (hl : xs.length ≤ 100000) : EvS r (tLst ta) s S fun v S1 => LstR R xs v S1 :=
  EvN.lst (X := R) (en_lst h fun us S1 p => by rw [p.len]; exact hl)
theorem ev_tupA {α : Type} {R : Rl α} [Mono R] {r : Rs} {s : L2.St} {S : Hp} {ta : TA} {xs : List α} (h : EvAS r ta s S fun us S1 => All2 R S1 xs us) (hl : xs.length ≤ 100000) : EvS r (tTup ta) s S fun v S1 => TupR K R xs v S1 :=
  EvN.tup (X := R) (en_tup h fun us S1 p => by rw [p.len]; exact hl)
theorem ev_pickR {α : Type} {R : Rl α} [Mono R] {r : Rs} {s : L2.St} {S : Hp} {ta ti : TE} {xs : List α} {n : Int} (h : EvS r ta s S fun v S1 => LstR R xs v S1) (hi : ∀ S1, Ex S S1 → EvS r ti s S1 fun v _ => ∃ i, v = .int i ∧ 0 ≤ i ∧ i < n) (hn : n = (xs.length : Int)) : EvS r (tOp (rIx K) ta ti) s S fun v S1 => ∃ x, x ∈ xs ∧ R x v S1 :=
  ev_op2 h (fun _ S1 e _ => hi S1 e) fun x y S1 S2 _ ⟨b, vs, h1, h2, h3⟩ e2 ⟨i, hy, h0, hlt⟩ => by
    obtain ⟨j, rfl⟩ : ∃ j : Nat, i = (j : Int) := ⟨i.toNat, by omega⟩
    have hj : j < xs.length := by omega
    obtain ⟨v, g1, g2⟩ := h3.at (List.getElem?_eq_getElem hj)
    subst h1
    subst hy
    exact ⟨v, rs_ixL' (SqL.of (e2 _ _ h2)) (atI_nat g1), xs[j], List.getElem_mem hj, Mono.up e2 g2⟩
/-- items of a list of known values -/
theorem vv_ixK {r : Rs} {s : L2.St} {S : Hp} {i j : Nat} {a : Addr} {vs : List V} {v : V} (h : s[i]? = some (some (.ref a))) (ha : S a = some (.lst vs)) (hj : vs[j]? = some v) : EvV r (tOp (rIx K) (tVar i) (tC (.int (j : Int)))) s S v := vv_op (vv_var h) vv_c (rs_ixL' (SqL.of ha) (atI_nat hj))
theorem vv_ix0 {r : Rs} {s : L2.St} {S : Hp} {i : Nat} {a : Addr} {vs : List V} {v : V} (h : s[i]? = some (some (.ref a))) (ha : S a = some (.lst vs)) (hj : vs[0]? = some v) : EvV r (tOp (rIx K) (tVar i) (tC (.int 0))) s S v := vv_ixK (j := 0) h ha hj
theorem vv_ix1 {r : Rs} {s : L2.St} {S : Hp} {i : Nat} {a : Addr} {vs : List V} {v : V} (h : s[i]? = some (some (.ref a))) (ha : S a = some (.lst vs)) (hj : vs[1]? = some v) : EvV r (tOp (rIx K) (tVar i) (tC (.int 1))) s S v := vv_ixK (j := 1) h ha hj
theorem vv_ix2 {r : Rs} {s : L2.St} {S : Hp} {i : Nat} {a : Addr} {vs : List V} {v : V} (h : s[i]? = some (some (.ref a))) (ha : S a = some (.lst vs)) (hj : vs[2]? = some v) : EvV r (tOp (rIx K) (tVar i) (tC (.int 2))) s S v := vv_ixK (j := 2) h ha hj
theorem vv_ix3 {r : Rs} {s : L2.St} {S : Hp} {i : Nat} {a : Addr} {vs : List V} {v : V} (h : s[i]? = some (some (.ref a))) (ha : S a = some (.lst vs)) (hj : vs[3]? = some v) : EvV r (tOp (rIx K) (tVar i) (tC (.int 3))) s S v := vv_ixK (j := 3) h ha hj
/-- range(e) walked by a for, e only bounded -/
theorem sq_forR {r : Rs} {s : L2.St} {S H : Hp} {te : TE} {tu tz : TS} {D : Ends} {g : TG} {P : Int → Prop} (h : EvS r te s S fun v _ => ∃ n, v = .int n ∧ P n) (w0 : Wd r S H) (k : ∀ n S1 H1, P n → Wd r S1 H1 → Stp r S H S1 H1 → tSeq (tFor (iRng1 (tCons (tC (.int n)) tNil)) g tu) tz D s H1) : tSeq (tFor (iRng1 (tCons te tNil)) g tu) tz D s H := for_rng1 (D := { D with nx := tz D }) h w0 k
/-- lists of written texts -/
theorem ev_w1 {r : Rs} {s : L2.St} {S : Hp} (a : Str) : EvS r (tLst (tCons (tC (.str a)) tNil)) s S fun v S1 => LstR StrR [a] v S1 := ev_lstA (ar_cons (R := StrR) vv_c fun S1 e => ar_nil) (by simp)
theorem ev_w2 {r : Rs} {s : L2.St} {S : Hp} (a b : Str) : EvS r (tLst (tCons (tC (.str a)) (tCons (tC (.str b)) tNil))) s S fun v S1 => LstR StrR [a, b] v S1 := ev_lstA (ar_cons (R := StrR) vv_c fun S1 e => ar_cons (R := StrR) vv_c fun S1 e => ar_nil) (by simp)
theorem ev_w3 {r : Rs} {s : L2.St} {S : Hp} (a b c : Str) : EvS r (tLst (tCons (tC (.str a)) (tCons (tC (.str b)) (tCons (tC (.str c)) tNil)))) s S fun v S1 => LstR StrR [a, b, c] v S1 := ev_lstA (ar_cons (R := StrR) vv_c fun S1 e => ar_cons (R := StrR) vv_c fun S1 e => ar_cons (R := StrR) vv_c fun S1 e => ar_nil) (by simp)
theorem ev_ways {r : Rs} {s : L2.St} {S : Hp} (a b c d : Str) : EvS r (tLst (tCons (tLst tNil) (tCons (tLst (tCons (tC (.str a)) tNil)) (tCons (tLst (tCons (tC (.str b)) tNil)) (tCons (tLst (tCons (tC (.str c)) (tCons (tC (.str d)) tNil))) tNil))))) s S fun v S1 => LstR (LstR StrR) [[], [a], [b], [c, d]] v S1 :=
  ev_lstA (ar_cons (R := LstR StrR) ev_nilL fun S1 e => ar_cons (R := LstR StrR) (ev_w1 a) fun S1 e => ar_cons (R := LstR StrR) (ev_w1 b) fun S1 e => ar_cons (R := LstR StrR) (ev_w2 c d) fun S1 e => ar_nil) (by simp)
/-- one of a few written texts, drawn -/
theorem ev_pick2 {r : Rs} {s : L2.St} {S : Hp} {ti : TE} (a b : Str) (hi : ∀ S1, Ex S S1 → EvS r ti s S1 fun v _ => ∃ i, v = .int i ∧ 0 ≤ i ∧ i < 2) : EvS r (tOp (rIx K) (tLst (tCons (tC (.str a)) (tCons (tC (.str b)) tNil))) ti) s S fun v _ => ∃ z, z ∈ [a, b] ∧ v = .str z := ev_pickR (R := StrR) (ev_w2 a b) hi rfl
theorem ev_pick3 {r : Rs} {s : L2.St} {S : Hp} {ti : TE} (a b c : Str) (hi : ∀ S1, Ex S S1 → EvS r ti s S1 fun v _ => ∃ i, v = .int i ∧ 0 ≤ i ∧ i < 3) : EvS r (tOp (rIx K) (tLst (tCons (tC (.str a)) (tCons (tC (.str b)) (tCons (tC (.str c)) tNil)))) ti) s S fun v _ => ∃ z, z ∈ [a, b, c] ∧ v = .str z := ev_pickR (R := StrR) (ev_w3 a b c) hi rfl
theorem ev_pickW {r : Rs} {s : L2.St} {S : Hp} {ti : TE} (a b c d : Str) (hi : ∀ S1, Ex S S1 → EvS r ti s S1 fun v _ => ∃ i, v = .int i ∧ 0 ≤ i ∧ i < 4) : EvS r (tOp (rIx K) (tLst (tCons (tLst tNil) (tCons (tLst (tCons (tC (.str a)) tNil)) (tCons (tLst (tCons (tC (.str b)) tNil)) (tCons (tLst (tCons (tC (.str c)) (tCons (tC (.str d)) tNil))) tNil))))) ti) s S fun v S1 => ∃ z, z ∈ [[], [a], [b], [c, d]] ∧ LstR StrR z v S1 := ev_pickR (R := LstR StrR) (ev_ways a b c d) hi rfl
/-- x, y = (e, e') where the names are no cells -/
theorem sq_parR {r : Rs} {s : L2.St} {S H : Hp} {ta tb : TE} {tz : TS} {D : Ends} {A B : V → Hp → Prop} {i j : Nat} (h : EvS r ta s S A) (h2 : ∀ S1, Ex S S1 → EvS r tb s S1 B) (m : ∀ v S1 S2, Ex S1 S2 → A v S1 → A v S2) (w0 : Wd r S H) (k : ∀ v v' S1 H1, Wd r S1 H1 → Stp r S H S1 H1 → A v S1 → B v' S1 → tz D ((s.set i (some v)).set j (some v')) H1) : tSeq (tPar i j (tCons ta (tCons tb tNil))) tz D s H :=
  sq_par (h S H (Ex.refl _) w0 _ fun v S2 H2 w2 s2 hv => h2 S2 s2.ex S2 H2 (Ex.refl _) w2 _ fun v' S3 H3 w3 s3 hv' => ⟨v, v', rfl, k v v' S3 H3 w3 (s2.trans s3) (m _ _ _ s3.ex hv) hv'⟩)
theorem pg_unlK {X : Cx} {es : List Expr} {k : Nat} {t : TGs} {n : Nat} {pos : Pos} (hc : X.calm = true) (h : PGs X es t) (hn : (assignEach es X.env).length = n := by rfl) (hst : (assignEach es X.env).findIdx? (·.1) = none := by rfl) (hK : X.K = K := by rfl) : PG X (.Tuple es k pos) (gUnl K n t) := by
  subst hK
  exact pg_unl hc h hn hst
theorem sq_three_l {r : Rs} {s : L2.St} {S H : Hp} {te : TE} {tz : TS} {D : Ends} {i j l n : Nat} {a b c : V} {p : Addr} (hn : n = 3) (h : EvV r te s S (.ref p)) (hp : S p = some (.lst [a, b, c])) (w0 : Wd r S H) (k : ∀ S1 H1, Wd r S1 H1 → Stp r S H S1 H1 → tz D (((s.set i (some a)).set j (some b)).set l (some c)) H1) : tSeq (tAsg te (gUnl K n (gCons (gName i) (gCons (gName j) (gCons (gName l) gNil))))) tz D s H :=
  h S H (Ex.refl _) w0 _ fun v S1 H1 w1 s1 e => ⟨p, _, e, SqL.of (w1.ex _ _ (s1.ex _ _ hp)), hn.symm, _, _, rfl, _, _, rfl, _, _, rfl, rfl, k S1 H1 w1 s1⟩
theorem sq_par3R {r : Rs} {s : L2.St} {S H : Hp} {ta tb tc : TE} {tz : TS} {D : Ends} {A B C : V → Hp → Prop} {i j l : Nat} (h : EvS r ta s S A) (h2 : ∀ S1, Ex S S1 → EvS r tb s S1 B) (h3 : ∀ S1, Ex S S1 → EvS r tc s S1 C) (m : ∀ v S1 S2, Ex S1 S2 → A v S1 → A v S2) (m2 : ∀ v S1 S2, Ex S1 S2 → B v S1 → B v S2) (w0 : Wd r S H) (k : ∀ v v' v'' S1 H1, Wd r S1 H1 → Stp r S H S1 H1 → A v S1 → B v' S1 → C v'' S1 → tz D (((s.set i (some v)).set j (some v')).set l (some v'')) H1) : tSeq (tPar3 i j l (tCons ta (tCons tb (tCons tc tNil)))) tz D s H :=
  h S H (Ex.refl _) w0 _ fun v S2 H2 w2 s2 hv => h2 S2 s2.ex S2 H2 (Ex.refl _) w2 _ fun v' S3 H3 w3 s3 hv' => h3 S3 (s2.ex.trans s3.ex) S3 H3 (Ex.refl _) w3 _ fun v'' S4 H4 w4 s4 hv'' => ⟨v, v', v'', rfl, k v v' v'' S4 H4 w4 ((s2.trans s3).trans s4) (m _ _ _ (s3.ex.trans s4.ex) hv) (m2 _ _ _ s4.ex hv') hv''⟩
end
end K63

namespace K63
open PySem PySem.Spec PyProof.Rows L2 Evl J RZ
section
variable {P : Program} {w : World} {K : PySem.W.Frag} {mg : Str → Option Value} {base : Heap}
/-! ### machines -/
theorem ev_ixSq {α : Type} {R : Rl α} [Mono R] {r : Rs} {s : L2.St} {S : Hp} {ta tb : TE} {ps : List α} {i : Int} {j : Nat} {a : α} (h : EvS r ta s S fun v S1 => SeqR K R ps v S1) (hi : ∀ S1, Ex S S1 → EvV r tb s S1 (.int i)) (ha : ps[j]? = some a) (e0 : i = (j : Int)) : EvS r (tOp (rIx K) ta tb) s S fun v S1 => R a v S1 :=
  ev_op2 h (fun _ S1 e _ => hi S1 e) fun x y S1 S2 _ hx e hy => by
    subst hy
    subst e0
    rcases hx with ⟨p, vs, rfl, h2, h3⟩ | ⟨p, vs, rfl, h2, h3⟩
    · obtain ⟨v, g1, g2⟩ := h3.at ha
      exact ⟨v, rs_ixL' (SqL.of (e _ _ h2)) (atI_nat g1), Mono.up e g2⟩
    · obtain ⟨v, g1, g2⟩ := h3.at ha
      exact ⟨v, rs_ixT' (ex_t e h2) (atI_nat g1), Mono.up e g2⟩
structure MachD where
  rows : List (List Int)
  ans : List Int
  st : Int
deriving DecidableEq
structure StOk (rows : List (List Int)) (w : Nat) : Prop where
  n1 : 1 ≤ rows.length
  n6 : rows.length ≤ 6
  w1 : 1 ≤ w
  w3 : w ≤ 3
  each : ∀ row ∈ rows, row.length = w ∧ ∀ q ∈ row, 0 ≤ q ∧ q < (rows.length : Int)
def AnOk (ans : List Int) (n : Nat) : Prop := ans.length = n ∧ ∀ a ∈ ans, 0 ≤ a ∧ a ≤ 100
structure MOk (m : MachD) (w : Nat) : Prop where
  steps : StOk m.rows w
  ans : AnOk m.ans m.rows.length
  s0 : 0 ≤ m.st
  s1 : m.st < (m.rows.length : Int)
theorem vv_len3 {r : Rs} {s : L2.St} {S : Hp} : EvV r (tCB (rLenU K) (tCons (tC (.str ("abc" : Str))) tNil)) s S (.int 3) :=
  EvV.is (vv_cb (va_cons vv_c va_nil) (rc_lenS (by decide +kernel))) (by decide +kernel)
def sp_are_steps (K : PySem.W.Frag) : Sp := SpP (A := List (List Int) × Nat) (fun a vs S => ∃ v, vs = [v] ∧ SeqR K (SeqR K IntR) a.1 v S ∧ StOk a.1 a.2) (fun _ v _ => v = .bl true)
theorem G_are_steps (T : TX P w K mg) : FnOk P w K mg base CX0 3 T.f_are_steps T.fd_are_steps ["value"] (sp_are_steps K) := by
  refine T.F_are_steps.ok sc_are_steps (fun vs H Q E h => ?_) (fun cdv A outer s H vs Q E hr h => ?_)
  · obtain ⟨a, S, ⟨v, rfl, _⟩, _⟩ := h
    rfl
  · obtain ⟨⟨rows, w⟩, S, ⟨v, rfl, hv, ok⟩, w0, q⟩ := h.body
    refine ⟨_, (pss_cons (ps_if (PW.pt (pw_or (pt_not (pt_val (pe_callB (call_isiK2 (K := K)) (by rfl) T.z_isinstance (by decide +kernel) (pa_cons (pv 0) (pa_cons (pe_tup (pa_cons (pe_bltn (v := .ty "list") (by rfl) T.z_list (by decide +kernel) rfl) (pa_cons (pe_bltn (v := .ty "tuple") (by rfl) T.z_tuple (by decide +kernel) rfl) pa_nil))) pa_nil))))) (pw_or1 (pt_not (pt_chain op_le op_le pe_int (pe_callB (call_lenK (K := K)) (by rfl) T.z_len (by decide +kernel) (pa_cons (pv 0) pa_nil)) (pe_const (by rfl) T.c_MOST_STATES)))))) (pss_one (ps_ret pe_bl)) pss_nil)
      (pss_cons (ps_for PassesOwn.never (by rfl) (pi_K (K := K) (pv 0)) (pg_name (i := 1) sc_are_steps.nd rfl (Or.inl rfl)) (pss_cons (ps_if (PW.pt (pw_or (pt_not (pt_val (pe_callB (call_isiK2 (K := K)) (by rfl) T.z_isinstance (by decide +kernel) (pa_cons (pv 1) (pa_cons (pe_tup (pa_cons (pe_bltn (v := .ty "list") (by rfl) T.z_list (by decide +kernel) rfl) (pa_cons (pe_bltn (v := .ty "tuple") (by rfl) T.z_tuple (by decide +kernel) rfl) pa_nil))) pa_nil))))) (pw_or (pt_not (pt_chain op_le op_le pe_int (pe_callB (call_lenK (K := K)) (by rfl) T.z_len (by decide +kernel) (pa_cons (pv 1) pa_nil)) (pe_callB (call_lenK (K := K)) (by rfl) T.z_len (by decide +kernel) (pa_cons (pe_const (by rfl) T.c_ALL_LETTERS) pa_nil)))) (pw_or1 (pt_cmpR (op_neK (K := K) hr.units) (pe_callB (call_lenK (K := K)) (by rfl) T.z_len (by decide +kernel) (pa_cons (pv 1) pa_nil)) (pe_callB (call_lenK (K := K)) (by rfl) T.z_len (by decide +kernel) (pa_cons (pe_ix (ix_K (K := K)) (pv 0) pe_int (fun _ _ => rfl)) pa_nil)) (nomark _)))))) (pss_one (ps_ret pe_bl)) pss_nil)
        (pss_one (ps_if (pt_not (pt_val (pe_callB (call_allK (K := K)) (by rfl) T.z_all (by decide +kernel) (pa_cons (pe_lc (own := [("state", 2)]) (by rfl) sc_are_steps.nd (pi_K (K := K) (pv 1)) (blkOk_by (own := [("state", 2)]) (N := N_are_steps) (sc := (defScope s_are_steps)) (by decide +kernel)) (fun _ _ _ _ _ => (pg_name (i := 2) sc_are_steps.nd rfl (Or.inl rfl))) (fun _ _ _ _ _ => pts_nil) (fun _ _ _ _ _ => (pe_call (G_is_between T) (hr.mono (by decide)) (by rfl) T.g_is_between T.F_is_between.kp T.b_is_between .nil pass0 (pa_cons (pv 2) (pa_cons pe_int (pa_cons (pe_op op_sub (pe_callB (call_lenK (K := K)) (by rfl) T.z_len (by decide +kernel) (pa_cons (pv 0) pa_nil)) pe_int) pa_nil)))))) pa_nil)))) (pss_one (ps_ret pe_bl)) pss_nil))))
      (pss_one (ps_ret pe_bl)))), ?_⟩
    dsimp only at hv ok q
    have n1 := ok.n1
    have n6 := ok.n6
    have q1 := ok.w1
    have q3 := ok.w3
    refine sq_ifNo (EvB.is (tb_or (a := false) (tb_not (a := true) (tb_B (vv_isLT (vv_var rfl) vv_c vv_c hv))) fun _ => tb_not (tb_test (vv_chain vv_c (len_v (R := SeqR K IntR) rfl hv) rs_I0 (fun _ => vv_c) fun _ => rs_I0))) (by simp; omega)) w0 fun S1 H1 w1 s1 => ?_
    have hv1 := Mono.up s1.ex hv
    refine sq_for (ei_seqV rfl hv1) w1 fun S2 H2 w2 s2 => ?_
    have hv2 := Mono.up s2.ex hv1
    refine ⟨fun i s' S' H' => Wd Rs.nil S' H' ∧ Ex S2 S' ∧ Stp Rs.nil S H S' H' ∧ ∃ y1 y2, s' = [some v, y1, y2], ⟨w2, Ex.refl _, s1.trans s2, none, none, rfl⟩, fun i s' S' H' p => ⟨p.1, p.2.1⟩, ?_, ?_⟩
    · rintro i row u s' S3 H3 S4 H4 hi ⟨w3, e3, s3, y1, y2, rfl⟩ w4 s4 hu
      have hv4 := Mono.up (e3.trans s4.ex) hv2
      obtain ⟨hw, hq⟩ := ok.each row (List.mem_of_getElem? hi)
      obtain ⟨r0, g0⟩ : ∃ r0, rows[0]? = some r0 := ⟨rows[0], List.getElem?_eq_getElem (by omega)⟩
      obtain ⟨hw0, _⟩ := ok.each r0 (List.mem_of_getElem? g0)
      refine sq_ifNo (EvB.is (tb_or (a := false) (tb_not (a := true) (tb_B (vv_isLT (vv_var rfl) vv_c vv_c hu))) fun _ => tb_or (a := false) (EvB.is (tb_not (tb_test (vv_chain vv_c (len_v (R := IntR) rfl hu) rs_I0 (fun _ => vv_len3) fun _ => rs_I0))) (by simp; omega)) fun _ => tb_test (vv_op (len_v (R := IntR) rfl hu) (vv_len (X := IntR) (ev_ixSq (R := SeqR K IntR) (j := 0) (ev_v (R := SeqR K (SeqR K IntR)) rfl hv4) (fun _ _ => vv_c) g0 rfl)) rs_neI)) (by simp; omega)) w4 fun S5 H5 w5 s5 => ?_
      have hu5 := Mono.up s5.ex hu
      refine st_if (b := false) (tb_not (a := true) (tb_B (EvV.is (vv_allF (R := IntR) (fun _ => true) (ei_seqV rfl hu5) (by omega) (by intro _; rfl) fun y z S6 e m hz => ?_) (by simp)))) w5 (fun z => nomatch z) fun _ S6 H6 w6 s6 => ⟨S6, w6, e3.trans (s4.ex.trans (s5.ex.trans s6.ex)), s3.trans (s4.trans (s5.trans s6)), _, _, rfl⟩
      rw [show z = _ from hz]
      obtain ⟨g1, g2⟩ := hq y m
      exact vv_between (va_cons (vv_var rfl) (va_cons vv_c (va_cons (vv_op (len_v (R := SeqR K IntR) rfl (Mono.up (s5.ex.trans e) hv4)) vv_c rs_sub) va_nil))) (btw g1 (by omega))
    · rintro s' S3 H3 ⟨w3, e3, s3, y1, y2, rfl⟩
      exact st_ret (R := fun v _ => v = .bl true) vv_c w3 fun v S4 H4 w4 s4 p => q v S4 H4 w4 (s3.trans s4) p
def sp_are_answers (K : PySem.W.Frag) : Sp := SpP (A := List Int × Nat) (fun a vs S => ∃ v, vs = [v, .int (a.2 : Int)] ∧ SeqR K IntR a.1 v S ∧ AnOk a.1 a.2 ∧ a.2 ≤ 1000) (fun _ v _ => v = .bl true)
theorem G_are_answers (T : TX P w K mg) : FnOk P w K mg base CX0 3 T.f_are_answers T.fd_are_answers ["value", "many"] (sp_are_answers K) := by
  refine T.F_are_answers.ok sc_are_answers (fun vs H Q E h => ?_) (fun cdv A outer s H vs Q E hr h => ?_)
  · obtain ⟨a, S, ⟨v, rfl, _⟩, _⟩ := h
    rfl
  · obtain ⟨⟨ans, n⟩, S, ⟨v, rfl, hv, ok, hn⟩, w0, q⟩ := h.body
    refine ⟨_, (pss_cons (ps_if (PW.pt (pw_or (pt_not (pt_val (pe_callB (call_isiK2 (K := K)) (by rfl) T.z_isinstance (by decide +kernel) (pa_cons (pv 0) (pa_cons (pe_tup (pa_cons (pe_bltn (v := .ty "list") (by rfl) T.z_list (by decide +kernel) rfl) (pa_cons (pe_bltn (v := .ty "tuple") (by rfl) T.z_tuple (by decide +kernel) rfl) pa_nil))) pa_nil))))) (pw_or1 (pt_cmpR (op_neK (K := K) hr.units) (pe_callB (call_lenK (K := K)) (by rfl) T.z_len (by decide +kernel) (pa_cons (pv 0) pa_nil)) (pv 1) (nomark _))))) (pss_one (ps_ret pe_bl)) pss_nil)
      (pss_one (ps_ret (pe_callB (call_allK (K := K)) (by rfl) T.z_all (by decide +kernel) (pa_cons (pe_lc (own := [("answer", 2)]) (by rfl) sc_are_answers.nd (pi_K (K := K) (pv 0)) (blkOk_by (own := [("answer", 2)]) (N := N_are_answers) (sc := (defScope s_are_answers)) (by decide +kernel)) (fun _ _ _ _ _ => (pg_name (i := 2) sc_are_answers.nd rfl (Or.inl rfl))) (fun _ _ _ _ _ => pts_nil) (fun _ _ _ _ _ => (pe_call (G_is_between T) (hr.mono (by decide)) (by rfl) T.g_is_between T.F_is_between.kp T.b_is_between .nil pass0 (pa_cons (pv 2) (pa_cons pe_int (pa_cons (pe_const (by rfl) T.c_MOST_ANSWER) pa_nil)))))) pa_nil))))), ?_⟩
    dsimp only at hv ok q hn
    have l1 := ok.1
    refine sq_ifNo (EvB.is (tb_or (a := false) (tb_not (a := true) (tb_B (vv_isLT (vv_var rfl) vv_c vv_c hv))) fun _ => tb_test (vv_op (len_v (R := IntR) rfl hv) (vv_var rfl) rs_neI)) (by simp; omega)) w0 fun S1 H1 w1 s1 => ?_
    refine st_ret (R := fun v _ => v = .bl true) (EvV.is (vv_allF (R := IntR) (fun _ => true) (ei_seqV rfl (Mono.up s1.ex hv)) (by omega) (by intro _; rfl) fun y z S6 e m hz => ?_) (by simp)) w1 fun v S2 H2 w2 s2 p => q v S2 H2 w2 (s1.trans s2) p
    rw [show z = _ from hz]
    obtain ⟨g1, g2⟩ := ok.2 y m
    exact vv_between (va_cons (vv_var rfl) (va_cons vv_c (va_cons vv_c va_nil))) (btw g1 g2)
/-! ### the instance -/
def mcF (s a : Addr) (st : Int) : List (Str × V) := [("kept_steps", .ref s), ("kept_answers", .ref a), ("kept_start", .int st)]
theorem mc_s (s a : Addr) (st : Int) : (mcF s a st).lookup ("kept_steps" : Str) = some (V.ref s) := by kernel_rfl
theorem mc_a (s a : Addr) (st : Int) : (mcF s a st).lookup ("kept_answers" : Str) = some (V.ref a) := by kernel_rfl
theorem mc_t (s a : Addr) (st : Int) : (mcF s a st).lookup ("kept_start" : Str) = some (V.int st) := by kernel_rfl
theorem mc_put (s a : Addr) (st : Int) : putF "kept_start" (.int st) (putF "kept_answers" (.ref a) (putF "kept_steps" (.ref s) [])) = mcF s a st := by kernel_rfl
theorem mc_no (s a : Addr) (st : Int) : (mcF s a st).lookup ("check_state" : Str) = none ∧ (mcF s a st).lookup ("is_word" : Str) = none ∧ (mcF s a st).lookup ("led" : Str) = none ∧ (mcF s a st).lookup ("behind" : Str) = none := ⟨by kernel_rfl, by kernel_rfl, by kernel_rfl, by kernel_rfl⟩
def MachAt (K : PySem.W.Frag) (m : MachD) (s a : Addr) (S : Hp) : Prop := TupR K (TupR K IntR) m.rows (.ref s) S ∧ TupR K IntR m.ans (.ref a) S
/-- a machine, its letters w -/
def MachR (K : PySem.W.Frag) (C : Addr) (w : Nat) : Rl MachD := fun m v S => ∃ x dx s a, v = .ref x ∧ S x = some (.ins C dx (mcF s a m.st)) ∧ MachAt K m s a S ∧ MOk m w
instance {C : Addr} {w : Nat} : Mono (MachR K C w) := ⟨fun e ⟨x, dx, s, a, h1, h2, h3, h4⟩ => ⟨x, dx, s, a, h1, e _ _ h2, ⟨Mono.up e h3.1, Mono.up e h3.2⟩, h4⟩⟩
def sp_Machine_init (K : PySem.W.Frag) (C : Addr) : Sp := SpInit (A := MachD × Nat) C (fun a us S => ∃ vs va, us = [vs, va, .int a.1.st] ∧ SeqR K (SeqR K IntR) a.1.rows vs S ∧ SeqR K IntR a.1.ans va S ∧ MOk a.1 a.2) (fun a fs S => ∃ s t, fs = mcF s t a.1.st ∧ MachAt K a.1 s t S)
theorem tupref {α : Type} {R : Rl α} {xs : List α} {v : V} {S : Hp} (h : TupR K R xs v S) : ∃ r, v = .ref r ∧ TupR K R xs (.ref r) S := by
  obtain ⟨a, vs, e, h2⟩ := h
  subst e
  exact ⟨a, rfl, a, vs, rfl, h2⟩
theorem G_Machine_init (T : TX P w K mg) : FnOk P w K mg base CX0 4 T.f_Machine_init T.fd_Machine_init ["self", "steps", "answers", "start"] (sp_Machine_init K T.C_Machine) := by
  refine FunD.ok T.F_Machine_init sc_Machine_init (fun vs H Q E h => ?_) (fun cdv A outer s H vs Q E hr h => ?_)
  · obtain ⟨a, S, x, dx, us, rfl, ⟨vs, va, rfl, _⟩, _⟩ := h
    rfl
  · obtain ⟨⟨m, w⟩, S, x, dx, us, rfl, ⟨vs, va, rfl, hs0, ha0, ho⟩, hx, hs, w0, q⟩ := h
    refine ⟨_, PSs.nox (pss_cons (ps_if (pt_not (pt_val (pe_call (G_are_steps T) (hr.mono (by decide)) (by rfl) T.g_are_steps T.F_are_steps.kp T.b_are_steps .nil pass0 (pa_cons (pv 1) pa_nil)))) (pss_one ps_never) pss_nil)
      (pss_cons (ps_if (pt_not (pt_val (pe_call (G_are_answers T) (hr.mono (by decide)) (by rfl) T.g_are_answers T.F_are_answers.kp T.b_are_answers .nil pass0 (pa_cons (pv 2) (pa_cons (pe_callB (call_lenK (K := K)) (by rfl) T.z_len (by decide +kernel) (pa_cons (pv 1) pa_nil)) pa_nil))))) (pss_one ps_never) pss_nil)
      (pss_cons (ps_if (pt_not (pt_val (pe_call (G_is_between T) (hr.mono (by decide)) (by rfl) T.g_is_between T.F_is_between.kp T.b_is_between .nil pass0 (pa_cons (pv 3) (pa_cons pe_int (pa_cons (pe_op op_sub (pe_callB (call_lenK (K := K)) (by rfl) T.z_len (by decide +kernel) (pa_cons (pv 1) pa_nil)) pe_int) pa_nil)))))) (pss_one ps_never) pss_nil)
      (pss_cons (ps_fldK (K := K) (pv 0) (pe_callTy (call_tupleK (K := K)) (by rfl) T.z_tuple (by decide +kernel) (pa_cons (pe_lc (own := [("row", 4)]) (by rfl) sc_Machine_init.nd (pi_K (K := K) (pv 1)) (blkOk_by (own := [("row", 4)]) (N := N_Machine_init) (sc := (defScope s_Machine_init)) (by decide +kernel)) (fun _ _ _ _ _ => (pg_name (i := 4) sc_Machine_init.nd rfl (Or.inl rfl))) (fun _ _ _ _ _ => pts_nil) (fun _ _ _ _ _ => (pe_callTy (call_tupleK (K := K)) (by rfl) T.z_tuple (by decide +kernel) (pa_cons (pv 4) pa_nil)))) pa_nil)))
      (pss_cons (ps_fldK (K := K) (pv 0) (pe_callTy (call_tupleK (K := K)) (by rfl) T.z_tuple (by decide +kernel) (pa_cons (pv 2) pa_nil)))
      (pss_one (ps_fldK (K := K) (pv 0) (pv 3)))))))), ?_⟩
    dsimp only at hs0 ha0 ho q
    have n0 : x ∉ Rs.nil.M := fun z => by cases z
    have g1 := ho.s0
    have g2 := ho.s1
    have n6 := ho.steps.n6
    refine sq_ifNo (tb_not (a := true) (tb_B (vv_call (R := fun v _ => v = V.bl true) (m.rows, w) (va_cons (vv_var rfl) va_nil) (fun S e => ⟨vs, rfl, Mono.up e hs0, ho.steps⟩) fun v S _ p => p))) w0 fun S1 H1 w1 s1 => ?_
    have hs1 := Mono.up s1.ex hs0
    refine sq_ifNo (tb_not (a := true) (tb_B (vv_call (R := fun v _ => v = V.bl true) (m.ans, m.rows.length) (va_cons (vv_var rfl) (va_cons (len_v (R := SeqR K IntR) rfl hs1) va_nil)) (fun S e => ⟨va, rfl, Mono.up (s1.ex.trans e) ha0, ho.ans, by dsimp only; omega⟩) fun v S _ p => p))) w1 fun S2 H2 w2 s2 => ?_
    have hs2 := Mono.up s2.ex hs1
    refine sq_ifNo (tb_not (a := true) (tb_B (vv_between (va_cons (vv_var rfl) (va_cons vv_c (va_cons (vv_op (len_v (R := SeqR K IntR) rfl hs2) vv_c rs_sub) va_nil))) (btw g1 (by dsimp only; omega))))) w2 fun S3 H3 w3 s3 => ?_
    have s03 := (s1.trans s2).trans s3
    have hs3 := Mono.up s3.ex hs2
    refine sq_fld n0 (vv_var rfl) (ev_tupS (K := K) (R := TupR K IntR) (ys := m.rows) (EvS.imp (EvN.lst (X := TupR K IntR) (en_lcn (fun row => row) (ei_seqV rfl hs3) (by omega) (by intro _; rfl) fun y z S4 e mm hz => ev_tupS (K := K) (R := IntR) (ev_v (R := SeqR K IntR) rfl hz))) fun u S4 _ h => .inl (by rw [List.map_id'] at h; exact h))) w3 (s03.kp _ _ n0 hx) (s03.fr _ (ne_none hx) hs) T.cl_Machine T.na_Machine_kept_steps (pfL pf0) fun v4 S4 H4 w4 s4 a4 h4 e4 => ?_
    obtain ⟨r4, rfl, t4⟩ := tupref e4
    refine sq_fld n0 (vv_var rfl) (ev_tupS (K := K) (R := IntR) (ev_v (R := SeqR K IntR) rfl (Mono.up (s03.ex.trans s4.ex) ha0))) w4 h4 a4 T.cl_Machine T.na_Machine_kept_answers (pfL (pfS pf0)) fun v5 S5 H5 w5 s5 a5 h5 e5 => ?_
    obtain ⟨r5, rfl, t5⟩ := tupref e5
    refine st_fld n0 (vv_var rfl) (vv_var rfl) w5 h5 a5 T.cl_Machine T.na_Machine_kept_start (pfL (pfS (pfS pf0))) fun v S6 H6 w6 s6 a6 h6 e6 => ?_
    subst e6
    rw [mc_put] at h6
    exact q S6 H6 _ w6 (((s03.more).trans s4).trans (s5.trans s6)) a6 h6 ⟨r4, r5, rfl, Mono.up (s5.ex.trans s6.ex) t4, Mono.up s6.ex t5⟩
theorem G_Machine_steps (T : TX P w K mg) : FnOk P w K mg base CX0 1 T.f_Machine_steps T.fd_Machine_steps ["self"] (getSp T.C_Machine "kept_steps") := by
  refine T.F_Machine_steps.ok sc_Machine_steps (fun vs H Q E h => ?_) (fun cdv A outer s H vs Q E hr h => ?_)
  · obtain ⟨a, dx, fs, v, e, _⟩ := h
    rw [e]
    rfl
  · obtain ⟨a, dx, fs, v, e, ea, l, q⟩ := h
    subst e
    exact ⟨_, (pss_one (ps_ret (pe_fldK (K := K) (pv 0)))), .ref a, rfl, a, _, dx, fs, v, rfl, ea, T.cl_Machine, T.na_Machine_kept_steps, l, q⟩
theorem G_Machine_answers (T : TX P w K mg) : FnOk P w K mg base CX0 1 T.f_Machine_answers T.fd_Machine_answers ["self"] (getSp T.C_Machine "kept_answers") := by
  refine T.F_Machine_answers.ok sc_Machine_answers (fun vs H Q E h => ?_) (fun cdv A outer s H vs Q E hr h => ?_)
  · obtain ⟨a, dx, fs, v, e, _⟩ := h
    rw [e]
    rfl
  · obtain ⟨a, dx, fs, v, e, ea, l, q⟩ := h
    subst e
    exact ⟨_, (pss_one (ps_ret (pe_fldK (K := K) (pv 0)))), .ref a, rfl, a, _, dx, fs, v, rfl, ea, T.cl_Machine, T.na_Machine_kept_answers, l, q⟩
theorem G_Machine_start (T : TX P w K mg) : FnOk P w K mg base CX0 1 T.f_Machine_start T.fd_Machine_start ["self"] (getSp T.C_Machine "kept_start") := by
  refine T.F_Machine_start.ok sc_Machine_start (fun vs H Q E h => ?_) (fun cdv A outer s H vs Q E hr h => ?_)
  · obtain ⟨a, dx, fs, v, e, _⟩ := h
    rw [e]
    rfl
  · obtain ⟨a, dx, fs, v, e, ea, l, q⟩ := h
    subst e
    exact ⟨_, (pss_one (ps_ret (pe_fldK (K := K) (pv 0)))), .ref a, rfl, a, _, dx, fs, v, rfl, ea, T.cl_Machine, T.na_Machine_kept_start, l, q⟩
/-- m's fields -/
theorem mc_f {r : Rs} {s : L2.St} {S : Hp} {i : Nat} {m : MachD} {v : V} {C : Addr} {w : Nat} (h : s[i]? = some (some v)) (hb : MachR K C w m v S) (c : Cls K C) (n1 : NoAttr K C "kept_steps") (n2 : NoAttr K C "kept_answers") (n3 : NoAttr K C "kept_start") :
    EvS r (tFld K (tVar i) "kept_steps") s S (fun v S1 => TupR K (TupR K IntR) m.rows v S1) ∧ EvS r (tFld K (tVar i) "kept_answers") s S (fun v S1 => TupR K IntR m.ans v S1) ∧ EvV r (tFld K (tVar i) "kept_start") s S (.int m.st) := by
  obtain ⟨x, dx, p, a, rfl, hx, ⟨h1, h2⟩, _⟩ := hb
  exact ⟨(vv_fld (vv_var h) hx c n1 (mc_s _ _ _)).imp fun u S1 e eu => by subst eu; exact Mono.up e h1, (vv_fld (vv_var h) hx c n2 (mc_a _ _ _)).imp fun u S1 e eu => by subst eu; exact Mono.up e h2, vv_fld (vv_var h) hx c n3 (mc_t _ _ _)⟩
/-- m.steps, m.answers, m.start -/
theorem mc_p {r : Rs} {s : L2.St} {S : Hp} {i : Nat} {m : MachD} {v : V} {C : Addr} {E : XK} {w : Nat} (h : s[i]? = some (some v)) (hb : MachR K C w m v S) :
    EvS r (tProp C (getSp C "kept_steps") [] E (tVar i)) s S (fun v S1 => TupR K (TupR K IntR) m.rows v S1) ∧ EvS r (tProp C (getSp C "kept_answers") [] E (tVar i)) s S (fun v S1 => TupR K IntR m.ans v S1) ∧ EvV r (tProp C (getSp C "kept_start") [] E (tVar i)) s S (.int m.st) := by
  obtain ⟨x, dx, p, a, rfl, hx, ⟨h1, h2⟩, _⟩ := hb
  exact ⟨(vv_prop (vv_var h) hx (mc_s _ _ _)).imp fun u S1 e eu => by subst eu; exact Mono.up e h1, (vv_prop (vv_var h) hx (mc_a _ _ _)).imp fun u S1 e eu => by subst eu; exact Mono.up e h2, vv_prop (vv_var h) hx (mc_t _ _ _)⟩
def sp_Machine_letters (K : PySem.W.Frag) (C : Addr) : Sp := SpP (A := MachD × Nat) (fun a vs S => ∃ v, vs = [v] ∧ MachR K C a.2 a.1 v S) (fun a v _ => v = .str (lettersS a.2))
theorem G_Machine_letters (T : TX P w K mg) : FnOk P w K mg base CX0 1 T.f_Machine_letters T.fd_Machine_letters ["self"] (sp_Machine_letters K T.C_Machine) := by
  refine T.F_Machine_letters.ok sc_Machine_letters (fun vs H Q E h => ?_) (fun cdv A outer s H vs Q E hr h => ?_)
  · obtain ⟨a, S, ⟨v, rfl, _⟩, _⟩ := h
    rfl
  · obtain ⟨⟨m, w⟩, S, ⟨v, rfl, hv⟩, w0, q⟩ := h.body
    refine ⟨_, (pss_one (ps_ret (pe_slice (sl_K (K := K)) (pe_const (by rfl) T.c_ALL_LETTERS) po_none (po_some (pe_callB (call_lenK (K := K)) (by rfl) T.z_len (by decide +kernel) (pa_cons (pe_ix (ix_K (K := K)) (pe_fldK (K := K) (pv 0)) pe_int (fun _ _ => rfl)) pa_nil)))))), ?_⟩
    dsimp only at hv q
    obtain ⟨_, _, _, _, _, _, _, ok⟩ := id hv
    have n1 := ok.steps.n1
    obtain ⟨r0, g0⟩ : ∃ r0, m.rows[0]? = some r0 := ⟨m.rows[0], List.getElem?_eq_getElem (by omega)⟩
    obtain ⟨hw0, _⟩ := ok.steps.each r0 (List.mem_of_getElem? g0)
    have f := (mc_f (K := K) (r := Rs.nil) (s := [some v]) (i := 0) rfl hv T.cl_Machine T.na_Machine_kept_steps T.na_Machine_kept_answers T.na_Machine_kept_start).1
    refine st_ret (R := fun v _ => v = .str (lettersS w)) (vv_cutAbc vv_c (fun H Q h => h) fun S1 H1 e1 w1 Q k => ?_) w0 fun v S1 H1 w1 s1 p => q v S1 H1 w1 s1 p
    refine (vv_len (X := IntR) (ev_ixT (R := TupR K IntR) (j := 0) (EvS.mono e1 f) (fun _ _ => vv_c) g0 rfl |>.imp fun u S2 _ h => Or.inr h)) S1 H1 (Ex.refl _) w1 _ fun u S2 H2 w2 s2 eu => ?_
    subst eu
    exact ⟨_, rfl, by rw [hw0]; exact k S2 H2 w2 s2⟩
/-! ### what a word leads to -/
def goM (rows : List (List Int)) (st : Int) (l : List Nat) : Int := l.foldl (fun s i => (rows.getD s.toNat []).getD i 0) st
theorem goM_in {rows : List (List Int)} {w : Nat} (ok : StOk rows w) : ∀ (l : List Nat) {st : Int}, (∀ i ∈ l, i < w) → 0 ≤ st → st < (rows.length : Int) → 0 ≤ goM rows st l ∧ goM rows st l < (rows.length : Int)
  | [], _, _, h0, h1 => ⟨h0, h1⟩
  | i :: l, st, hl, h0, h1 => by
    have hj : st.toNat < rows.length := by omega
    have e : rows.getD st.toNat [] = rows[st.toNat] := by rw [List.getD_eq_getElem?_getD, List.getElem?_eq_getElem hj]; rfl
    obtain ⟨a1, a2⟩ := ok.each _ (List.getElem_mem hj)
    have hi := hl i (.head _)
    have e2 : (rows[st.toNat]).getD i 0 = (rows[st.toNat])[i]'(by omega) := by rw [List.getD_eq_getElem?_getD, List.getElem?_eq_getElem (by omega)]; rfl
    have a3 := a2 _ (List.getElem_mem (l := rows[st.toNat]) (n := i) (by omega))
    show 0 ≤ goM rows ((rows.getD st.toNat []).getD i 0) l ∧ goM rows ((rows.getD st.toNat []).getD i 0) l < _
    rw [e, e2]
    exact goM_in ok l (fun j hj => hl j (.tail _ hj)) a3.1 a3.2
theorem goM_more {rows : List (List Int)} {st : Int} {l : List Nat} {i c : Nat} (h : l[i]? = some c) : goM rows st (l.take (i + 1)) = (rows.getD (goM rows st (l.take i)).toNat []).getD c 0 := by
  unfold goM
  rw [List.take_add_one, h, List.foldl_append]
  rfl
/-- a state, at a row, its letter -/
theorem rows_at {rows : List (List Int)} {w : Nat} (ok : StOk rows w) {st : Int} {c : Nat} (h0 : 0 ≤ st) (h1 : st < (rows.length : Int)) (hc : c < w) : ∃ row, rows[st.toNat]? = some row ∧ row[c]? = some ((rows.getD st.toNat []).getD c 0) := by
  have hj : st.toNat < rows.length := by omega
  obtain ⟨a1, a2⟩ := ok.each _ (List.getElem_mem hj)
  refine ⟨rows[st.toNat], List.getElem?_eq_getElem hj, ?_⟩
  have e : rows.getD st.toNat [] = rows[st.toNat] := by rw [List.getD_eq_getElem?_getD, List.getElem?_eq_getElem hj]; rfl
  rw [e, List.getD_eq_getElem?_getD, List.getElem?_eq_getElem (by omega), Option.getD_some]
def sp_Machine_check (K : PySem.W.Frag) (C : Addr) : Sp := SpP (A := MachD × Nat × Int) (fun a vs S => ∃ v, vs = [v, .int a.2.2] ∧ MachR K C a.2.1 a.1 v S ∧ 0 ≤ a.2.2 ∧ a.2.2 < (a.1.rows.length : Int)) (fun _ v _ => v = .non)
def sp_Machine_len (K : PySem.W.Frag) (C : Addr) : Sp := SpP (A := MachD × Nat) (fun a vs S => ∃ v, vs = [v] ∧ MachR K C a.2 a.1 v S) (fun a v _ => v = .int (a.1.rows.length : Int))
theorem mc_back {C : Addr} {w : Nat} {m : MachD} {v : V} {S : Hp} (h : MachR K C w m v S) : ∃ z dx fs, v = .ref z ∧ S z = some (.ins C dx fs) ∧ fs.lookup ("check_state" : Str) = none ∧ fs.lookup ("is_word" : Str) = none ∧ fs.lookup ("led" : Str) = none ∧ fs.lookup ("behind" : Str) = none := by
  obtain ⟨x, dx, p, a, rfl, hx, _⟩ := h
  exact ⟨x, dx, _, rfl, hx, mc_no _ _ _⟩
section
variable {r : Rs} {s : L2.St} {S : Hp} {ts tk : TA} {ta tb te : TE} {C : Addr} {m : MachD} {w : Nat} {v : V} {E : XK}
theorem vv_mlet {i : Nat} (h : s[i]? = some (some v)) (hm : MachR K C w m v S) : EvV r (tProp C (sp_Machine_letters K C) [] E (tVar i)) s S (.str (lettersS w)) :=
  ev_propP (Q1 := fun u _ => u = v) (vv_var h) fun x S1 e ex => by
    subst ex
    obtain ⟨z, dx, fs, rfl, hz, _⟩ := mc_back hm
    exact ⟨z, dx, fs, rfl, e _ _ hz, (m, w), ⟨_, rfl, Mono.up e hm⟩, fun u S2 _ p => p⟩
theorem vv_mcheck {i : Nat} {j : Int} (h : s[i]? = some (some v)) (h2 : EvAV r ts s S [.int j]) (hm : MachR K C w m v S) (h0 : 0 ≤ j) (h1 : j < (m.rows.length : Int)) : EvV r (tMeth C ("check_state" : Str) (sp_Machine_check K C) [] E (tVar i) ts) s S .non :=
  ev_methP (Q1 := fun u _ => u = v) (vv_var h) h2 fun x S1 S2 e1 ex e2 => by
    subst ex
    obtain ⟨z, dx, fs, rfl, hz, n1, _⟩ := mc_back hm
    exact ⟨z, dx, fs, rfl, e1 _ _ hz, n1, (m, w, j), ⟨_, rfl, Mono.up (e1.trans e2) hm, h0, h1⟩, fun u S3 _ p => p⟩
end
def sp_Machine_get (K : PySem.W.Frag) (C : Addr) : Sp := SpP (A := MachD × Nat × Int) (fun a vs S => ∃ v, vs = [v, .int a.2.2] ∧ MachR K C a.2.1 a.1 v S ∧ 0 ≤ a.2.2 ∧ a.2.2 < (a.1.rows.length : Int)) (fun a v S => TupR K IntR (a.1.rows.getD a.2.2.toNat []) v S)
def sp_Machine_eq (K : PySem.W.Frag) (C : Addr) : Sp := SpP (A := (MachD × Nat) × MachD × Nat) (fun a vs S => ∃ v v', vs = [v, v'] ∧ MachR K C a.1.2 a.1.1 v S ∧ MachR K C a.2.2 a.2.1 v' S) (fun a v _ => v = .bl (decide (a.1.1 = a.2.1)))
theorem G_Machine_eq (T : TX P w K mg) : FnOk P w K mg base CX0 3 T.f_Machine_eq T.fd_Machine_eq ["self", "other"] (sp_Machine_eq K T.C_Machine) := by
  refine T.F_Machine_eq.ok sc_Machine_eq (fun vs H Q E h => ?_) (fun cdv A outer s H vs Q E hr h => ?_)
  · obtain ⟨a, S, ⟨v, v', rfl, _⟩, _⟩ := h
    rfl
  · obtain ⟨⟨⟨m, w⟩, m', w'⟩, S, ⟨v, v', rfl, hv, hv'⟩, w0, q⟩ := h.body
    refine ⟨_, (pss_cons (ps_if (pt_not (pt_val (pe_callB (call_isiK2 (K := K)) (by rfl) T.z_isinstance (by decide +kernel) (pa_cons (pv 1) (pa_cons (pe_glob (v := .ref T.C_Machine) (by rfl) T.g_Machine rfl) pa_nil))))) (pss_one (ps_ret pe_bl)) pss_nil)
      (pss_cons (ps_if (PW.pt (pw_or (pt_cmpR (op_neK (K := K) hr.units) (pe_fldK (K := K) (pv 0)) (pe_prop (pv 1) T.cl_Machine T.p_Machine_steps (G_Machine_steps T) (hr.mono (by decide)) T.b_Machine_steps .nil pass0 rfl) (nomark _)) (pw_or1 (pt_cmpR (op_neK (K := K) hr.units) (pe_fldK (K := K) (pv 0)) (pe_prop (pv 1) T.cl_Machine T.p_Machine_answers (G_Machine_answers T) (hr.mono (by decide)) T.b_Machine_answers .nil pass0 rfl) (nomark _))))) (pss_one (ps_ret pe_bl)) pss_nil)
      (pss_one (ps_ret (pe_cmpR (op_eqK (K := K) hr.units) (pe_fldK (K := K) (pv 0)) (pe_prop (pv 1) T.cl_Machine T.p_Machine_start (G_Machine_start T) (hr.mono (by decide)) T.b_Machine_start .nil pass0 rfl) (nomark _)))))), ?_⟩
    dsimp only at hv hv' q
    obtain ⟨y, dy, p, a, ey, hy, _⟩ := id hv'
    subst ey
    refine sq_ifNo (tb_not (a := true) (tb_B (vv_isC (vv_var rfl) vv_c hy T.cl_Machine T.ty_Machine))) w0 fun S1 H1 w1 s1 => ?_
    have hv1 := Mono.up s1.ex hv
    have hv1' := Mono.up s1.ex hv'
    obtain ⟨f1, f2, f3⟩ := mc_f (K := K) (r := Rs.nil) (s := [some v, some (.ref y)]) (i := 0) rfl hv1 T.cl_Machine T.na_Machine_kept_steps T.na_Machine_kept_answers T.na_Machine_kept_start
    obtain ⟨p1, p2, p3⟩ := mc_p (K := K) (r := Rs.nil) (s := [some v, some (.ref y)]) (i := 1) (E := E0) rfl hv1'
    refine sq_if (b := !decide (m.rows = m'.rows) || !decide (m.ans = m'.ans)) (tb_or (tb_test (vv_neD (R := TupR K (TupR K IntR)) f1 fun S2 e => EvS.mono e p1)) fun _ => tb_test (vv_neD (R := TupR K IntR) f2 fun S2 e => EvS.mono e p2)) w1 (fun hb S2 H2 w2 s2 => ?_) fun hb S2 H2 w2 s2 => ?_
    · refine st_ret (R := fun v _ => v = .bl false) vv_c w2 fun v S3 H3 w3 s3 e => q v S3 H3 w3 (s1.trans (s2.trans s3)) ?_
      rw [e, decide_eq_false]
      rintro rfl
      simp at hb
    · simp only [Bool.or_eq_false_iff, Bool.not_eq_false', decide_eq_true_eq] at hb
      obtain ⟨_, _, f3⟩ := mc_f (K := K) (r := Rs.nil) (s := [some v, some (.ref y)]) (i := 0) rfl (Mono.up s2.ex hv1) T.cl_Machine T.na_Machine_kept_steps T.na_Machine_kept_answers T.na_Machine_kept_start
      obtain ⟨_, _, p3⟩ := mc_p (K := K) (r := Rs.nil) (s := [some v, some (.ref y)]) (i := 1) (E := E0) rfl (Mono.up s2.ex hv1')
      refine st_ret (R := fun v _ => v = .bl (decide (m.st = m'.st))) (vv_eqD (R := IntR) f3 fun S3 e => EvS.mono e p3) w2 fun v S3 H3 w3 s3 e => q v S3 H3 w3 (s1.trans (s2.trans s3)) ?_
      rw [e]
      obtain ⟨a1, a2, a3⟩ := m
      obtain ⟨b1, b2, b3⟩ := m'
      obtain ⟨rfl, rfl⟩ := hb
      simp
def WdOk (l : List Nat) (w : Nat) : Prop := l.length ≤ 200 ∧ ∀ i ∈ l, i < w
theorem is_str {r : Rs} {s : L2.St} {S : Hp} {i : Nat} {z : Str} (h : s[i]? = some (some (.str z))) : EvV r (tCB (rIsiU K) (tCons (tVar i) (tCons (tC (.ty "str")) tNil))) s S (.bl true) := vv_isT (vv_var h) vv_c (.base (.str z)) (by decide +kernel)
def sp_Machine_is_word (K : PySem.W.Frag) (C : Addr) : Sp := SpP (A := MachD × Nat × List Nat) (fun a vs S => ∃ v, vs = [v, .str (wS a.2.2)] ∧ MachR K C a.2.1 a.1 v S ∧ WdOk a.2.2 a.2.1) (fun _ v _ => v = .bl true)
def sp_Machine_led (K : PySem.W.Frag) (C : Addr) : Sp := SpP (A := MachD × Nat × Int × List Nat) (fun a vs S => ∃ v, vs = [v, .int a.2.2.1, .str (wS a.2.2.2)] ∧ MachR K C a.2.1 a.1 v S ∧ (∀ i ∈ a.2.2.2, i < a.2.1) ∧ 0 ≤ a.2.2.1 ∧ a.2.2.1 < (a.1.rows.length : Int)) (fun a v _ => v = .int (goM a.1.rows a.2.2.1 a.2.2.2))
theorem G_Machine_led (T : TX P w K mg) : FnOk P w K mg base CX0 1 T.f_Machine_led T.fd_Machine_led ["self", "state", "word"] (sp_Machine_led K T.C_Machine) := by
  refine T.F_Machine_led.ok sc_Machine_led (fun vs H Q E h => ?_) (fun cdv A outer s H vs Q E hr h => ?_)
  · obtain ⟨a, S, ⟨v, rfl, _⟩, _⟩ := h
    rfl
  · obtain ⟨⟨m, w, st, l⟩, S, ⟨v, rfl, hv, hl, h0, h1⟩, w0, q⟩ := h.body
    refine ⟨_, (pss_cons (ps_for PassesOwn.never (by rfl) (pi_K (K := K) (pv 2)) (pg_name (i := 3) sc_Machine_led.nd rfl (Or.inl rfl)) (pss_one (ps_set (i := 1) sc_Machine_led.nd rfl (Or.inl rfl) (pe_ix (ix_K (K := K)) (pe_ix (ix_K (K := K)) (pe_fldK (K := K) (pv 0)) (pv 1) (fun _ _ => rfl)) (pe_bm PySem.F.plainAttrs_str PySem.F.slot_str_index PySem.F.type_str_index mt_sindex (pe_const (by rfl) T.c_ALL_LETTERS) (pa_cons (pv 3) pa_nil)) (fun _ _ => rfl)))))
      (pss_one (ps_ret (pv 1)))), ?_⟩
    dsimp only at hv hl h0 h1 q
    obtain ⟨_, _, _, _, _, _, _, ok⟩ := id hv
    have q3 := ok.steps.w3
    refine sq_for (ei_str (vv_var rfl)) w0 fun S2 H2 w2 s2 => ?_
    refine ⟨fun i s' S' H' => Wd Rs.nil S' H' ∧ Ex S2 S' ∧ Stp Rs.nil S H S' H' ∧ ∃ y3, s' = [some v, some (.int (goM m.rows st (l.take i))), some (.str (wS l)), y3], ⟨w2, Ex.refl _, s2, none, rfl⟩, fun i s' S' H' p => ⟨p.1, p.2.1⟩, ?_, ?_⟩
    · rintro i c u s' S3 H3 S4 H4 hi ⟨w3, e3, s3, y3, rfl⟩ w4 s4 hu
      obtain rfl : u = .str ⟨#[c]⟩ := hu
      rw [wS_cps, List.getElem?_map] at hi
      obtain ⟨k, hk, rfl⟩ := Option.map_eq_some_iff.mp hi
      have hkw := hl k (List.mem_of_getElem? hk)
      obtain ⟨g1, g2⟩ := goM_in ok.steps (l.take i) (st := st) (fun j hj => hl j (List.mem_of_mem_take hj)) h0 h1
      obtain ⟨row, r1, r2⟩ := rows_at ok.steps g1 g2 hkw
      have hv4 := Mono.up (s2.ex.trans (e3.trans s4.ex)) hv
      have f := (mc_f (K := K) (r := Rs.nil) (s := [some v, some (.int (goM m.rows st (l.take i))), some (.str (wS l)), some (.str ⟨#[97 + k]⟩)]) (i := 0) rfl hv4 T.cl_Machine T.na_Machine_kept_steps T.na_Machine_kept_answers T.na_Machine_kept_start).1
      refine st_asg (R := fun v _ => v = .int (goM m.rows st (l.take (i + 1)))) ?_ w4 fun x S5 H5 w5 s5 ex => by subst ex; exact ⟨S5, w5, e3.trans (s4.ex.trans s5.ex), s3.trans (s4.trans s5), _, rfl⟩
      rw [goM_more hk]
      exact ev_ixT (R := IntR) (j := k) (ev_ixT (R := TupR K IntR) f (fun _ _ => vv_var rfl) r1 (by omega)) (fun _ _ => vv_idxAbc (by omega) vv_c (vv_var rfl)) r2 rfl
    · rintro s' S3 H3 ⟨w3, e3, s3, y3, rfl⟩
      rw [wS_cps, List.length_map, List.take_of_length_le (Nat.le_refl _)] at *
      exact st_ret (R := fun v _ => v = .int (goM m.rows st l)) (vv_var rfl) w3 fun v S4 H4 w4 s4 p => q v S4 H4 w4 (s3.trans s4) p
end
end K63

namespace K63
open PySem PySem.Spec PyProof.Rows L2 Evl J RZ
section
variable {P : Program} {w : World} {K : PySem.W.Frag} {mg : Str → Option Value} {base : Heap}
/-! ### behind a word; the answer -/
def oV : Option Int → V
  | none => .non
  | some i => .int i
section
variable {r : Rs} {s : L2.St} {S : Hp} {ts tk : TA} {ta tb te : TE} {C : Addr} {m : MachD} {w : Nat} {v : V} {E : XK}
theorem vv_mword {i : Nat} {l : List Nat} (h : s[i]? = some (some v)) (h2 : EvAV r ts s S [.str (wS l)]) (hm : MachR K C w m v S) (hl : WdOk l w) : EvV r (tMeth C ("is_word" : Str) (sp_Machine_is_word K C) [] E (tVar i) ts) s S (.bl true) :=
  ev_methP (Q1 := fun u _ => u = v) (vv_var h) h2 fun x S1 S2 e1 ex e2 => by
    subst ex
    obtain ⟨z, dx, fs, rfl, hz, _, n1, _⟩ := mc_back hm
    exact ⟨z, dx, fs, rfl, e1 _ _ hz, n1, (m, w, l), ⟨_, rfl, Mono.up (e1.trans e2) hm, hl⟩, fun u S3 _ p => p⟩
theorem vv_mled {i : Nat} {st : Int} {l : List Nat} (h : s[i]? = some (some v)) (h2 : EvAV r ts s S [.int st, .str (wS l)]) (hm : MachR K C w m v S) (hl : WdOk l w) (h0 : 0 ≤ st) (h1 : st < (m.rows.length : Int)) : EvV r (tMeth C ("led" : Str) (sp_Machine_led K C) [] E (tVar i) ts) s S (.int (goM m.rows st l)) :=
  ev_methP (Q1 := fun u _ => u = v) (vv_var h) h2 fun x S1 S2 e1 ex e2 => by
    subst ex
    obtain ⟨z, dx, fs, rfl, hz, _, _, n1, _⟩ := mc_back hm
    exact ⟨z, dx, fs, rfl, e1 _ _ hz, n1, (m, w, st, l), ⟨_, rfl, Mono.up (e1.trans e2) hm, hl.2, h0, h1⟩, fun u S3 _ p => p⟩
end
def sp_Machine_behind (K : PySem.W.Frag) (C : Addr) : Sp := SpP (A := MachD × Nat × List Nat × Option Int) (fun a vs S => ∃ v, vs = [v, .str (wS a.2.2.1), oV a.2.2.2] ∧ MachR K C a.2.1 a.1 v S ∧ WdOk a.2.2.1 a.2.1 ∧ ∀ i, a.2.2.2 = some i → 0 ≤ i ∧ i < (a.1.rows.length : Int)) (fun a v _ => v = .int (goM a.1.rows (a.2.2.2.getD a.1.st) a.2.2.1))
def sp_Machine_call (K : PySem.W.Frag) (C : Addr) : Sp := SpP (A := MachD × Nat × List Nat) (fun a vs S => ∃ v, vs = [v, .str (wS a.2.2)] ∧ MachR K C a.2.1 a.1 v S ∧ WdOk a.2.2 a.2.1) (fun a v _ => v = .int (a.1.ans.getD (goM a.1.rows a.1.st a.2.2).toNat 0))
end
end K63

namespace K63
open PySem PySem.Spec PyProof.Rows L2 Evl J RZ
section
variable {P : Program} {w : World} {K : PySem.W.Frag} {mg : Str → Option Value} {base : Heap}
/-! ### pairs of states -/
abbrev P2 (K : PySem.W.Frag) : Rl (Int × Int) := PairS IntR IntR
def InM (m : MachD) (p : Int × Int) : Prop := (0 ≤ p.1 ∧ p.1 < (m.rows.length : Int)) ∧ 0 ≤ p.2 ∧ p.2 < (m.rows.length : Int)
def rowM (m : MachD) (i : Int) : List Int := m.rows.getD i.toNat []
def ansM (m : MachD) (i : Int) : Int := m.ans.getD i.toNat 0
def nextP (m : MachD) (p : Int × Int) : List (Int × Int) := (rowM m p.1).zip (rowM m p.2)
def firstP (m : MachD) (c : Nat) : Int × Int := (goM m.rows m.st [c], m.st)
def goodP (m : MachD) (c : Nat) (p : Int × Int) : Bool := decide (ansM m p.1 = ansM m (goM m.rows p.2 [c]))
theorem row_at {m : MachD} {i : Int} (h0 : 0 ≤ i) (h1 : i < (m.rows.length : Int)) : m.rows[i.toNat]? = some (rowM m i) := by
  unfold rowM
  rw [List.getD_eq_getElem?_getD, List.getElem?_eq_getElem (by omega)]
  rfl
theorem row_ok {m : MachD} {w : Nat} (ok : MOk m w) {i : Int} (h0 : 0 ≤ i) (h1 : i < (m.rows.length : Int)) : (rowM m i).length = w ∧ ∀ q ∈ rowM m i, 0 ≤ q ∧ q < (m.rows.length : Int) := ok.steps.each _ (List.mem_of_getElem? (row_at h0 h1))
theorem ans_at {m : MachD} {w : Nat} (ok : MOk m w) {i : Int} (h0 : 0 ≤ i) (h1 : i < (m.rows.length : Int)) : m.ans[i.toNat]? = some (ansM m i) := by
  have al := ok.ans.1
  unfold ansM
  rw [List.getD_eq_getElem?_getD, List.getElem?_eq_getElem (by omega)]
  rfl
theorem next_in {m : MachD} {w : Nat} (ok : MOk m w) {p q : Int × Int} (h : InM m p) (hq : q ∈ nextP m p) : InM m q := by
  obtain ⟨h1, h2⟩ := List.of_mem_zip (show (q.1, q.2) ∈ _ from hq)
  exact ⟨(row_ok ok h.1.1 h.1.2).2 _ h1, (row_ok ok h.2.1 h.2.2).2 _ h2⟩
theorem first_in {m : MachD} {w c : Nat} (ok : MOk m w) (hc : c < w) : InM m (firstP m c) := by
  have := goM_in ok.steps [c] (fun i hi => by rw [List.mem_singleton.mp hi]; exact hc) ok.s0 ok.s1
  exact ⟨this, ok.s0, ok.s1⟩
theorem w1 {c w : Nat} (hc : c < w) : WdOk [c] w := ⟨Nat.le_of_ble_eq_true rfl, fun i hi => by rw [List.mem_singleton.mp hi]; exact hc⟩
section
variable {r : Rs} {s : L2.St} {S : Hp} {ta tb te : TE} {v : V} {p : Int × Int}
theorem p2_f {i : Nat} (h : s[i]? = some (some v)) (hp : P2 K p v S) : EvV r (tOp (rIx K) (tVar i) (tC (.int 0))) s S (.int p.1) ∧ EvV r (tOp (rIx K) (tVar i) (tC (.int 1))) s S (.int p.2) := by
  obtain ⟨a, x, y, rfl, h1, e1, e2⟩ := hp
  obtain rfl : x = .int p.1 := e1
  obtain rfl : y = .int p.2 := e2
  exact ⟨vv_op (vv_var h) vv_c (rs_ixT' (SqT.of h1) (atI_nat (j := 0) rfl)), vv_op (vv_var h) vv_c (rs_ixT' (SqT.of h1) (atI_nat (j := 1) rfl))⟩
end
def sp_first_pair (K : PySem.W.Frag) (C : Addr) : Sp := SpP (A := MachD × Nat × Nat) (fun a vs S => ∃ v, vs = [v, .str (wS [a.2.2])] ∧ MachR K C a.2.1 a.1 v S ∧ a.2.2 < a.2.1) (fun a v S => P2 K (firstP a.1 a.2.2) v S)
theorem G_first_pair (T : TX P w K mg) : FnOk P w K mg base CX0 3 T.f_first_pair T.fd_first_pair ["machine", "letter"] (sp_first_pair K T.C_Machine) := by
  refine T.F_first_pair.ok sc_first_pair (fun vs H Q E h => ?_) (fun cdv A outer s H vs Q E hr h => ?_)
  · obtain ⟨a, S, ⟨v, rfl, _⟩, _⟩ := h
    rfl
  · obtain ⟨⟨m, w, c⟩, S, ⟨v, rfl, hv, hc⟩, w0, q⟩ := h.body
    refine ⟨_, (pss_one (ps_ret (pe_tup (pa_cons (pe_meth (pv 0) T.cl_Machine T.m_Machine_led (G_Machine_led T) (hr.mono (by decide)) T.b_Machine_led .nil pass0 (pa_cons (pe_prop (pv 0) T.cl_Machine T.p_Machine_start (G_Machine_start T) (hr.mono (by decide)) T.b_Machine_start .nil pass0 rfl) (pa_cons (pv 1) pa_nil))) (pa_cons (pe_prop (pv 0) T.cl_Machine T.p_Machine_start (G_Machine_start T) (hr.mono (by decide)) T.b_Machine_start .nil pass0 rfl) pa_nil))))), ?_⟩
    dsimp only at hv hc q
    obtain ⟨_, _, _, _, _, _, _, ok⟩ := id hv
    exact st_ret (ev_pairS (R := IntR) (R' := IntR) (a := goM m.rows m.st [c]) (b := m.st) (vv_mled rfl (va_cons (mc_p rfl hv).2.2 (va_cons (vv_var rfl) va_nil)) hv (w1 hc) ok.s0 ok.s1) fun S1 e => EvS.mono e (mc_p (K := K) rfl hv).2.2) w0 fun v S1 H1 w1 s1 p => q v S1 H1 w1 s1 p
def sp_next_pairs (K : PySem.W.Frag) (C : Addr) : Sp := SpP (A := MachD × Nat × Int × Int) (fun a vs S => ∃ v v', vs = [v, v'] ∧ MachR K C a.2.1 a.1 v S ∧ P2 K a.2.2 v' S ∧ InM a.1 a.2.2) (fun a v S => LstR (P2 K) (nextP a.1 a.2.2) v S)
theorem G_next_pairs (T : TX P w K mg) : FnOk P w K mg base CX0 3 T.f_next_pairs T.fd_next_pairs ["machine", "pair"] (sp_next_pairs K T.C_Machine) := by
  refine T.F_next_pairs.ok sc_next_pairs (fun vs H Q E h => ?_) (fun cdv A outer s H vs Q E hr h => ?_)
  · obtain ⟨a, S, ⟨v, v', rfl, _⟩, _⟩ := h
    rfl
  · obtain ⟨⟨m, w, p⟩, S, ⟨v, v', rfl, hv, hp, hi⟩, w0, q⟩ := h.body
    refine ⟨_, (pss_one (ps_ret (pe_lzip (by rfl) T.z_list (by rfl) T.z_zip (pa_cons (pe_ix (ix_K (K := K)) (pe_prop (pv 0) T.cl_Machine T.p_Machine_steps (G_Machine_steps T) (hr.mono (by decide)) T.b_Machine_steps .nil pass0 rfl) (pe_ix (ix_K (K := K)) (pv 1) pe_int (fun _ _ => rfl)) (fun _ _ => rfl)) (pa_cons (pe_ix (ix_K (K := K)) (pe_prop (pv 0) T.cl_Machine T.p_Machine_steps (G_Machine_steps T) (hr.mono (by decide)) T.b_Machine_steps .nil pass0 rfl) (pe_ix (ix_K (K := K)) (pv 1) pe_int (fun _ _ => rfl)) (fun _ _ => rfl)) pa_nil))))), ?_⟩
    dsimp only at hv hp hi q
    obtain ⟨_, _, _, _, _, _, _, ok⟩ := id hv
    obtain ⟨i1, i2⟩ := p2_f (K := K) (r := Rs.nil) (s := [some v, some v']) (i := 1) rfl hp
    refine st_ret (ev_lzip (R := IntR) (R' := IntR) (xs := rowM m p.1) (ys := rowM m p.2) (ev_ixT (R := TupR K IntR) (mc_p rfl hv).1 (fun S1 e => EvS.mono e i1) (row_at hi.1.1 hi.1.2) (by have := hi.1.1; omega)) (fun S1 e => ev_ixT (R := TupR K IntR) (EvS.mono e (mc_p (K := K) rfl hv).1) (fun S2 e2 => EvS.mono (e.trans e2) i2) (row_at hi.2.1 hi.2.2) (by have := hi.2.1; omega)) (by rw [(row_ok ok hi.1.1 hi.1.2).1, (row_ok ok hi.2.1 hi.2.2).1])) w0 fun v S1 H1 w1 s1 p => q v S1 H1 w1 s1 p
def sp_is_good (K : PySem.W.Frag) (C : Addr) : Sp := SpP (A := MachD × Nat × Nat × Int × Int) (fun a vs S => ∃ v v', vs = [v, .str (wS [a.2.2.1]), v'] ∧ MachR K C a.2.1 a.1 v S ∧ a.2.2.1 < a.2.1 ∧ P2 K a.2.2.2 v' S ∧ InM a.1 a.2.2.2) (fun a v _ => v = .bl (goodP a.1 a.2.2.1 a.2.2.2))
theorem G_is_good (T : TX P w K mg) : FnOk P w K mg base CX0 3 T.f_is_good T.fd_is_good ["machine", "letter", "pair"] (sp_is_good K T.C_Machine) := by
  refine T.F_is_good.ok sc_is_good (fun vs H Q E h => ?_) (fun cdv A outer s H vs Q E hr h => ?_)
  · obtain ⟨a, S, ⟨v, v', rfl, _⟩, _⟩ := h
    rfl
  · obtain ⟨⟨m, w, c, p⟩, S, ⟨v, v', rfl, hv, hc, hp, hi⟩, w0, q⟩ := h.body
    refine ⟨_, (pss_one (ps_ret (pe_cmpR (op_eqK (K := K) hr.units) (pe_ix (ix_K (K := K)) (pe_prop (pv 0) T.cl_Machine T.p_Machine_answers (G_Machine_answers T) (hr.mono (by decide)) T.b_Machine_answers .nil pass0 rfl) (pe_ix (ix_K (K := K)) (pv 2) pe_int (fun _ _ => rfl)) (fun _ _ => rfl)) (pe_ix (ix_K (K := K)) (pe_prop (pv 0) T.cl_Machine T.p_Machine_answers (G_Machine_answers T) (hr.mono (by decide)) T.b_Machine_answers .nil pass0 rfl) (pe_meth (pv 0) T.cl_Machine T.m_Machine_led (G_Machine_led T) (hr.mono (by decide)) T.b_Machine_led .nil pass0 (pa_cons (pe_ix (ix_K (K := K)) (pv 2) pe_int (fun _ _ => rfl)) (pa_cons (pv 1) pa_nil))) (fun _ _ => rfl)) (nomark _)))), ?_⟩
    dsimp only at hv hc hp hi q
    obtain ⟨_, _, _, _, _, _, _, ok⟩ := id hv
    obtain ⟨i1, i2⟩ := p2_f (K := K) (r := Rs.nil) (s := [some v, some (.str (wS [c])), some v']) (i := 2) rfl hp
    have hg := goM_in ok.steps [c] (w1 hc).2 hi.2.1 hi.2.2
    refine st_ret (R := fun v _ => v = .bl (goodP m c p)) (vv_eqD (R := IntR) (a := ansM m p.1) (b := ansM m (goM m.rows p.2 [c])) (ev_ixT (R := IntR) (mc_p rfl hv).2.1 (fun S1 e => EvS.mono e i1) (ans_at ok hi.1.1 hi.1.2) (by have := hi.1.1; omega)) fun S1 e => ev_ixT (R := IntR) (EvS.mono e (mc_p (K := K) rfl hv).2.1) (fun S2 e2 => vv_mled rfl (va_cons (EvS.mono (e.trans e2) i2) (va_cons (vv_var rfl) va_nil)) (Mono.up (e.trans e2) hv) (w1 hc) hi.2.1 hi.2.2) (ans_at ok hg.1 hg.2) (by have := hg.1; dsimp only; omega)) w0 fun v S1 H1 w1 s1 p => q v S1 H1 w1 s1 p
end
end K63

namespace K63
open PySem PySem.Spec PyProof.Rows L2 Evl J RZ
section
variable {P : Program} {w : World} {K : PySem.W.Frag} {mg : Str → Option Value} {base : Heap}
/-! ### what was raised, told: fifteen kinds -/
def kindL : List Str := ["number", "name", "rule", "reader", "book", "move", "text", "machine", "word", "times", "ways", "edit", "command", "many", "undo"]
def kdRow (T : TX P w K mg) (j : Nat) : List (Addr × Bool) := [(T.C_InvalidNumber, decide (j = 0)), (T.C_InvalidName, decide (j = 1)), (T.C_InvalidRule, decide (j = 2)), (T.C_InvalidReader, decide (j = 3)), (T.C_InvalidBook, decide (j = 4)), (T.C_InvalidMove, decide (j = 5)), (T.C_InvalidText, decide (j = 6)), (T.C_InvalidMachine, decide (j = 7)), (T.C_InvalidWord, decide (j = 8)), (T.C_InvalidTimes, decide (j = 9)), (T.C_InvalidWays, decide (j = 10)), (T.C_InvalidEdit, decide (j = 11)), (T.C_InvalidCommand, decide (j = 12)), (T.C_TooMany, decide (j = 13)), (T.C_NothingToUndo, decide (j = 14)), (T.C_RoundError, true)]
/-- C is an error class, told as z -/
def Kd (T : TX P w K mg) (C : Addr) (z : Str) : Prop := ∃ j, j < 13 ∧ kitRow K C (kdRow T j) = true ∧ kindL[j]? = some z ∧ xiAll K C = true ∧ PySem.W.findIn K (.ref C) "value" = some none ∧ PySem.W.exmOne K (.ref C) (.ref T.C_RoundError) = some true
theorem kd_InvalidName (T : TX P w K mg) : Kd T T.C_InvalidName "name" := ⟨1, by decide, T.kr_InvalidName, rfl, T.xi_InvalidName, T.xc_InvalidName.fno, T.em_InvalidName⟩
theorem kd_InvalidMachine (T : TX P w K mg) : Kd T T.C_InvalidMachine "machine" := ⟨7, by decide, T.kr_InvalidMachine, rfl, T.xi_InvalidMachine, T.xc_InvalidMachine.fno, T.em_InvalidMachine⟩
def sp_which (T : TX P w K mg) : Addr → Value → Option Addr → Sp := fun a cls d vs H Q _ => ∃ (C dd : Addr) (v : V) (z : Str) (S : Hp), cls = .ref C ∧ d = some dd ∧ vs = [.ref a] ∧ Kd T C z ∧ Wd Rs.nil S H ∧ S dd = some (.xd [("value", v)]) ∧ ∀ S1 H1, Wd Rs.nil S1 H1 → Stp Rs.nil S H S1 H1 → Q (.str z) H1
theorem kd_nth : ∀ j, j < 13 → ([decide (j = 0), decide (j = 1), decide (j = 2), decide (j = 3), decide (j = 4), decide (j = 5), decide (j = 6), decide (j = 7), decide (j = 8), decide (j = 9), decide (j = 10), decide (j = 11), decide (j = 12), decide (j = 13), decide (j = 14)].map V.bl).countP (fun z => eqV z (.bl true)) = 1 ∧ ([decide (j = 0), decide (j = 1), decide (j = 2), decide (j = 3), decide (j = 4), decide (j = 5), decide (j = 6), decide (j = 7), decide (j = 8), decide (j = 9), decide (j = 10), decide (j = 11), decide (j = 12), decide (j = 13), decide (j = 14)].map V.bl)[j]? = some (.bl true) ∧ ∀ m, m < j → ([decide (j = 0), decide (j = 1), decide (j = 2), decide (j = 3), decide (j = 4), decide (j = 5), decide (j = 6), decide (j = 7), decide (j = 8), decide (j = 9), decide (j = 10), decide (j = 11), decide (j = 12), decide (j = 13), decide (j = 14)].map V.bl)[m]? = some (.bl false) := by
  decide +kernel
theorem kd_flat (bs : List Bool) : (bs.map V.bl).all flatV = true := by
  induction bs with
  | nil => rfl
  | cons b r ih => simp only [List.map_cons, List.all_cons, ih, Bool.and_true]; rfl
theorem G_L_which (T : TX P w K mg) : FnK P w K mg base 1 T.f_L_which T.fd_L_which ["_law_error"] (sp_which T) := by
  refine ok_K T.F_L_which sc_L_which (fun a cls d vs H Q E h => ?_) (fun cdv A outer s H vs Q E p cls d hot zn hr h => ?_)
  · obtain ⟨C, dd, v, z, S, _, _, rfl, _⟩ := h
    rfl
  · obtain ⟨C, dd, v, z, S, ec, ed, rfl, ⟨j, hj, row, hz, xi, no, em⟩, w0, hd, q⟩ := h
    refine ⟨_, (pss_cons (ps_set (i := 1) sc_L_which.nd rfl (Or.inl rfl) (pe_lst (pa_cons (pe_callB (call_isX (List.mem_singleton.mpr rfl) zn (hot.2.imp fun _ z => z.1)) (by rfl) T.z_isinstance (by decide +kernel) (pa_cons (pv 0) (pa_cons (pe_glob (v := .ref T.C_InvalidNumber) (by rfl) T.g_InvalidNumber rfl) pa_nil))) (pa_cons (pe_callB (call_isX (List.mem_singleton.mpr rfl) zn (hot.2.imp fun _ z => z.1)) (by rfl) T.z_isinstance (by decide +kernel) (pa_cons (pv 0) (pa_cons (pe_glob (v := .ref T.C_InvalidName) (by rfl) T.g_InvalidName rfl) pa_nil))) (pa_cons (pe_callB (call_isX (List.mem_singleton.mpr rfl) zn (hot.2.imp fun _ z => z.1)) (by rfl) T.z_isinstance (by decide +kernel) (pa_cons (pv 0) (pa_cons (pe_glob (v := .ref T.C_InvalidRule) (by rfl) T.g_InvalidRule rfl) pa_nil))) pa_nil)))))
      (pss_cons (ps_set (i := 1) sc_L_which.nd rfl (Or.inl rfl) (pe_op (op_addK (K := K)) (pv 1) (pe_lst (pa_cons (pe_callB (call_isX (List.mem_singleton.mpr rfl) zn (hot.2.imp fun _ z => z.1)) (by rfl) T.z_isinstance (by decide +kernel) (pa_cons (pv 0) (pa_cons (pe_glob (v := .ref T.C_InvalidReader) (by rfl) T.g_InvalidReader rfl) pa_nil))) (pa_cons (pe_callB (call_isX (List.mem_singleton.mpr rfl) zn (hot.2.imp fun _ z => z.1)) (by rfl) T.z_isinstance (by decide +kernel) (pa_cons (pv 0) (pa_cons (pe_glob (v := .ref T.C_InvalidBook) (by rfl) T.g_InvalidBook rfl) pa_nil))) (pa_cons (pe_callB (call_isX (List.mem_singleton.mpr rfl) zn (hot.2.imp fun _ z => z.1)) (by rfl) T.z_isinstance (by decide +kernel) (pa_cons (pv 0) (pa_cons (pe_glob (v := .ref T.C_InvalidMove) (by rfl) T.g_InvalidMove rfl) pa_nil))) pa_nil))))))
      (pss_cons (ps_set (i := 1) sc_L_which.nd rfl (Or.inl rfl) (pe_op (op_addK (K := K)) (pv 1) (pe_lst (pa_cons (pe_callB (call_isX (List.mem_singleton.mpr rfl) zn (hot.2.imp fun _ z => z.1)) (by rfl) T.z_isinstance (by decide +kernel) (pa_cons (pv 0) (pa_cons (pe_glob (v := .ref T.C_InvalidText) (by rfl) T.g_InvalidText rfl) pa_nil))) (pa_cons (pe_callB (call_isX (List.mem_singleton.mpr rfl) zn (hot.2.imp fun _ z => z.1)) (by rfl) T.z_isinstance (by decide +kernel) (pa_cons (pv 0) (pa_cons (pe_glob (v := .ref T.C_InvalidMachine) (by rfl) T.g_InvalidMachine rfl) pa_nil))) (pa_cons (pe_callB (call_isX (List.mem_singleton.mpr rfl) zn (hot.2.imp fun _ z => z.1)) (by rfl) T.z_isinstance (by decide +kernel) (pa_cons (pv 0) (pa_cons (pe_glob (v := .ref T.C_InvalidWord) (by rfl) T.g_InvalidWord rfl) pa_nil))) pa_nil))))))
      (pss_cons (ps_set (i := 1) sc_L_which.nd rfl (Or.inl rfl) (pe_op (op_addK (K := K)) (pv 1) (pe_lst (pa_cons (pe_callB (call_isX (List.mem_singleton.mpr rfl) zn (hot.2.imp fun _ z => z.1)) (by rfl) T.z_isinstance (by decide +kernel) (pa_cons (pv 0) (pa_cons (pe_glob (v := .ref T.C_InvalidTimes) (by rfl) T.g_InvalidTimes rfl) pa_nil))) (pa_cons (pe_callB (call_isX (List.mem_singleton.mpr rfl) zn (hot.2.imp fun _ z => z.1)) (by rfl) T.z_isinstance (by decide +kernel) (pa_cons (pv 0) (pa_cons (pe_glob (v := .ref T.C_InvalidWays) (by rfl) T.g_InvalidWays rfl) pa_nil))) (pa_cons (pe_callB (call_isX (List.mem_singleton.mpr rfl) zn (hot.2.imp fun _ z => z.1)) (by rfl) T.z_isinstance (by decide +kernel) (pa_cons (pv 0) (pa_cons (pe_glob (v := .ref T.C_InvalidEdit) (by rfl) T.g_InvalidEdit rfl) pa_nil))) pa_nil))))))
      (pss_cons (ps_set (i := 1) sc_L_which.nd rfl (Or.inl rfl) (pe_op (op_addK (K := K)) (pv 1) (pe_lst (pa_cons (pe_callB (call_isX (List.mem_singleton.mpr rfl) zn (hot.2.imp fun _ z => z.1)) (by rfl) T.z_isinstance (by decide +kernel) (pa_cons (pv 0) (pa_cons (pe_glob (v := .ref T.C_InvalidCommand) (by rfl) T.g_InvalidCommand rfl) pa_nil))) (pa_cons (pe_callB (call_isX (List.mem_singleton.mpr rfl) zn (hot.2.imp fun _ z => z.1)) (by rfl) T.z_isinstance (by decide +kernel) (pa_cons (pv 0) (pa_cons (pe_glob (v := .ref T.C_TooMany) (by rfl) T.g_TooMany rfl) pa_nil))) (pa_cons (pe_callB (call_isX (List.mem_singleton.mpr rfl) zn (hot.2.imp fun _ z => z.1)) (by rfl) T.z_isinstance (by decide +kernel) (pa_cons (pv 0) (pa_cons (pe_glob (v := .ref T.C_NothingToUndo) (by rfl) T.g_NothingToUndo rfl) pa_nil))) pa_nil))))))
      (pss_cons (ps_if (PW.pt (pw_or (pt_cmpR (op_neK (K := K) (hot_units hr)) (pe_bm PySem.F.plainAttrs_list PySem.F.slot_list_count PySem.F.type_list_count mt_countF (pv 1) (pa_cons pe_bl pa_nil)) pe_int (nomark _)) (pw_or1 (pt_cmpR (op_neK (K := K) (hot_units hr)) (pe_callB (call_isX (List.mem_singleton.mpr rfl) zn (hot.2.imp fun _ z => z.1)) (by rfl) T.z_isinstance (by decide +kernel) (pa_cons (pv 0) (pa_cons (pe_glob (v := .ref T.C_RoundError) (by rfl) T.g_RoundError rfl) pa_nil))) (pe_cmpR op_lt (pe_bm PySem.F.plainAttrs_list PySem.F.slot_list_index PySem.F.type_list_index (mt_indexK (K := K)) (pv 1) (pa_cons pe_bl pa_nil)) pe_int (nomark _)) (nomark _))))) (pss_one (ps_ret pe_str)) pss_nil)
      (pss_cons (ps_set (i := 2) sc_L_which.nd rfl (Or.inl rfl) (pe_lst (pa_cons pe_str (pa_cons pe_str (pa_cons pe_str (pa_cons pe_str (pa_cons pe_str (pa_cons pe_str (pa_cons pe_str (pa_cons pe_str (pa_cons pe_str (pa_cons pe_str (pa_cons pe_str (pa_cons pe_str pa_nil))))))))))))))
      (pss_one (ps_ret (pe_ix (ix_K (K := K)) (pe_op (op_addK (K := K)) (pv 2) (pe_lst (pa_cons pe_str (pa_cons pe_str (pa_cons pe_str pa_nil))))) (pe_bm PySem.F.plainAttrs_list PySem.F.slot_list_index PySem.F.type_list_index (mt_indexK (K := K)) (pv 1) (pa_cons pe_bl pa_nil)) (fun _ _ => rfl))))))))))), ?_⟩
    obtain ⟨xe, xf⟩ := xi_ok xi
    obtain ⟨k0, row⟩ := kitRow_cons row
    obtain ⟨k1, row⟩ := kitRow_cons row
    obtain ⟨k2, row⟩ := kitRow_cons row
    obtain ⟨k3, row⟩ := kitRow_cons row
    obtain ⟨k4, row⟩ := kitRow_cons row
    obtain ⟨k5, row⟩ := kitRow_cons row
    obtain ⟨k6, row⟩ := kitRow_cons row
    obtain ⟨k7, row⟩ := kitRow_cons row
    obtain ⟨k8, row⟩ := kitRow_cons row
    obtain ⟨k9, row⟩ := kitRow_cons row
    obtain ⟨k10, row⟩ := kitRow_cons row
    obtain ⟨k11, row⟩ := kitRow_cons row
    obtain ⟨k12, row⟩ := kitRow_cons row
    obtain ⟨k13, row⟩ := kitRow_cons row
    obtain ⟨k14, row⟩ := kitRow_cons row
    obtain ⟨k15, row⟩ := kitRow_cons row
    have is : ∀ {s : L2.St} {S1 : Hp} {D : Addr} {b : Bool}, s[0]? = some (some (.ref p.1)) → Ex S S1 → PySem.W.kitOne K (.ref C) (.ref D) = some b → EvV Rs.nil (tCB (rIsX K p.1 cls d) (tCons (tVar 0) (tCons (tC (.ref D)) tNil))) s S1 (.bl b) := fun hs e k => vv_isX (va_cons (vv_var hs) (va_cons vv_c va_nil)) ec ed xe k (e _ _ hd)
    have three : ∀ {s : L2.St} {S1 : Hp} {D1 D2 D3 : Addr} {b1 b2 b3 : Bool}, s[0]? = some (some (.ref p.1)) → Ex S S1 → PySem.W.kitOne K (.ref C) (.ref D1) = some b1 → PySem.W.kitOne K (.ref C) (.ref D2) = some b2 → PySem.W.kitOne K (.ref C) (.ref D3) = some b3 →
        EvS Rs.nil (tLst (tCons (tCB (rIsX K p.1 cls d) (tCons (tVar 0) (tCons (tC (.ref D1)) tNil))) (tCons (tCB (rIsX K p.1 cls d) (tCons (tVar 0) (tCons (tC (.ref D2)) tNil))) (tCons (tCB (rIsX K p.1 cls d) (tCons (tVar 0) (tCons (tC (.ref D3)) tNil))) tNil)))) s S1 fun v S2 => LstR BoolR [b1, b2, b3] v S2 :=
      fun hs e h1 h2 h3 => ev_lstA (ar_cons (R := BoolR) (is hs e h1) fun S2 e2 => ar_cons (R := BoolR) (is hs (e.trans e2) h2) fun S3 e3 => ar_cons (R := BoolR) (is hs (e.trans (e2.trans e3)) h3) fun S4 e4 => ar_nil) (by simp)
    refine sq_asg (three rfl (Ex.refl _) k0 k1 k2) w0 fun v1 S1 H1 w1 s1 h1 => ?_
    refine sq_asg (ev_cat (R := BoolR) (ev_v (R := LstR BoolR) rfl h1) (fun S' e => three rfl (s1.ex.trans e) k3 k4 k5) (by simp)) w1 fun v2 S2 H2 w2 s2 h2 => ?_
    have e2 := s1.ex.trans s2.ex
    refine sq_asg (ev_cat (R := BoolR) (ev_v (R := LstR BoolR) rfl h2) (fun S' e => three rfl (e2.trans e) k6 k7 k8) (by simp)) w2 fun v3 S3 H3 w3 s3 h3 => ?_
    have e3 := e2.trans s3.ex
    refine sq_asg (ev_cat (R := BoolR) (ev_v (R := LstR BoolR) rfl h3) (fun S' e => three rfl (e3.trans e) k9 k10 k11) (by simp)) w3 fun v4 S4 H4 w4 s4 h4 => ?_
    have e4 := e3.trans s4.ex
    refine sq_asg (R := fun v S' => LstR BoolR [decide (j = 0), decide (j = 1), decide (j = 2), decide (j = 3), decide (j = 4), decide (j = 5), decide (j = 6), decide (j = 7), decide (j = 8), decide (j = 9), decide (j = 10), decide (j = 11), decide (j = 12), decide (j = 13), decide (j = 14)] v S') (ev_cat (R := BoolR) (ev_v (R := LstR BoolR) rfl h4) (fun S' e => three rfl (e4.trans e) k12 k13 k14) (by simp)) w4 fun v5 S5 H5 w5 s5 h5 => ?_
    have e5 := e4.trans s5.ex
    obtain ⟨c1, c2, c3⟩ := kd_nth j hj
    have fl := kd_flat [decide (j = 0), decide (j = 1), decide (j = 2), decide (j = 3), decide (j = 4), decide (j = 5), decide (j = 6), decide (j = 7), decide (j = 8), decide (j = 9), decide (j = 10), decide (j = 11), decide (j = 12), decide (j = 13), decide (j = 14)]
    obtain ⟨l, ws, rfl, hl, hws⟩ := h5
    rw [hws.bools] at hl
    clear hws
    generalize [decide (j = 0), decide (j = 1), decide (j = 2), decide (j = 3), decide (j = 4), decide (j = 5), decide (j = 6), decide (j = 7), decide (j = 8), decide (j = 9), decide (j = 10), decide (j = 11), decide (j = 12), decide (j = 13), decide (j = 14)].map V.bl = xs at *
    have ix : ∀ {s : L2.St} {S1 : Hp}, s[1]? = some (some (.ref l)) → Ex S5 S1 → EvV Rs.nil (tBM K "list" (rIndex K) (tVar 1) (tCons (tC (.bl true)) tNil)) s S1 (.int (j : Nat)) := fun hs e => vv_index1 (vv_var hs) (va_cons vv_c va_nil) (e _ _ hl) rfl fl c2 rfl fun m z' hm hz' => by
      rw [c3 m hm] at hz'
      cases hz'
      rfl
    refine sq_ifNo (tb_or (a := false) (b := false) (tb_test (EvV.is (vv_op (vv_count1 (n := 1) (vv_var rfl) (va_cons vv_c va_nil) hl rfl fl c1) vv_c rs_neI) rfl)) fun _ => tb_test (EvV.is (vv_op (is rfl e5 k15) (vv_op (ix rfl (Ex.refl _)) vv_c rs_I0) (rs_ne' rfl)) ?_)) w5 fun S6 H6 w6 s6 => ?_
    · rw [show decide ((j : Int) < 13) = true from decide_eq_true (by omega)]
      rfl
    refine sq_asg (R := fun v S' => LstR StrR (kindL.take 12) v S') (ev_lstA (ar_cons (R := StrR) vv_c fun _ _ => ar_cons (R := StrR) vv_c fun _ _ => ar_cons (R := StrR) vv_c fun _ _ => ar_cons (R := StrR) vv_c fun _ _ => ar_cons (R := StrR) vv_c fun _ _ => ar_cons (R := StrR) vv_c fun _ _ => ar_cons (R := StrR) vv_c fun _ _ => ar_cons (R := StrR) vv_c fun _ _ => ar_cons (R := StrR) vv_c fun _ _ => ar_cons (R := StrR) vv_c fun _ _ => ar_cons (R := StrR) vv_c fun _ _ => ar_cons (R := StrR) vv_c fun _ _ => ar_nil) (by decide)) w6 fun v7 S7 H7 w7 s7 h7 => ?_
    refine st_ret (R := fun v _ => v = .str z) (ev_ixL (R := StrR) (xs := kindL) (ev_cat (K := K) (R := StrR) (xs := kindL.take 12) (ys := kindL.drop 12) (ev_v (R := LstR StrR) rfl h7) (fun S' e => ev_w3 "command" "many" "undo") (by decide)) (fun S' e => ix rfl (s6.ex.trans (s7.ex.trans e))) hz rfl) w7 fun v8 S8 H8 w8 s8 e8 => ?_
    subst e8
    exact q S8 H8 w8 (s1.trans (s2.trans (s3.trans (s4.trans (s5.trans (s6.trans (s7.trans s8)))))))
/-- what _law_caught does with what it gets -/
theorem Gv_L_caught {X : Cx} (T : TX X.prog X.w X.K X.mg) (g : Gd X.A) {j : Nat} (hj : 1 ≤ j) {q : Str} (cdg : Value) : Gives X j N_L_caught "_law_caught" "_law_call" (defScope s_L_caught) T.f_L_caught cdg (defBody s_L_caught) q (TTw X.K (Kd T)) := by
  intro f c s H Q tl hr act hc h
  have hot : ∀ {a : Addr} {oe : Obj} {cls : Value} {d : Option Addr}, L2N.Zn cls d oe → (∃ vs, oe.data = .fields vs) → L2H.Hot1 ((cxG X N_L_caught "_law_caught" (defScope s_L_caught) T.f_L_caught cdg s H).A.mark (some (.ref a))) (a, oe) := fun zn hf => ⟨rfl, hf.elim fun vs e => ⟨vs, e, zn.2.2 vs e⟩⟩
  refine ⟨_, pss_cons (ps_try_nm (X := (cxG X N_L_caught "_law_caught" (defScope s_L_caught) T.f_L_caught cdg s H).nox) (Wout := fun _ _ _ _ => False)
    (tb := fun W D σ H' => ∃ Ech : XK, (∀ cls d σ' H', Ech cls d H' → W cls d σ' H') ∧ σ[0]? = some (some (.ref f)) ∧ H' c = some (LamX.CodeO c q) ∧ tl Ech H' fun v H2 => D.nx σ H2)
    rfl rfl sc_L_caught.nd (fun _ _ ⟨_, _, _, _, _, _, _, _, _, _, _, _, _, _, _, _, z⟩ => z.elim)
    (fun W pn xe tk _ => ⟨fun pins s' σ H' D I ⟨Ech, hW, h1, h2, h3⟩ => (pss_one (ps_expr (act W pn xe Ech _ _ tk hW))).run pins s' σ H' D I ⟨h1, h2, h3⟩⟩)
    (HdsAs.cons (i := 1) (ts := fun a cls d => tRet (tLst (tCons (tCall (sp_which T a cls d) [] E0 (tCons (tVar 1) tNil)) (tCons (tCB (rReprD X.K) (tCons (tXv X.K a cls d "value" (tVar 1)) tNil)) tNil)))) rfl rfl ⟨rfl, by decide, .inl T.g_RoundError⟩
      (fun a oe cls d pn zn hf => pss_one (ps_ret (pe_lst (pa_cons (pe_callK (p := (a, oe)) (G_L_which T) ((room_hot hr).mono hj) (hot zn hf) List.mem_cons_self zn (by rfl) T.g_L_which T.F_L_which.kp T.b_L_which (pa_cons (pv 1) pa_nil))
        (pa_cons (pe_callB (call_reprD (show Gd _ from g) hr.units) (by rfl) T.z_repr (by decide +kernel) (pa_cons (pe_xv (p := (a, oe)) List.mem_cons_self zn hf (pv 1)) pa_nil)) pa_nil)))))
      (HdsAs.cons (i := 1) (ts := fun a cls d => tRet (tLst (tCons (tCall (sp_which T a cls d) [] E0 (tCons (tVar 1) tNil)) (tCons (tCB (rReprD X.K) (tCons (tXv X.K a cls d "limit" (tVar 1)) tNil)) tNil)))) rfl rfl ⟨rfl, by decide, .inl T.g_TooMany⟩
        (fun a oe cls d pn zn hf => pss_one (ps_ret (pe_lst (pa_cons (pe_callK (p := (a, oe)) (G_L_which T) ((room_hot hr).mono hj) (hot zn hf) List.mem_cons_self zn (by rfl) T.g_L_which T.F_L_which.kp T.b_L_which (pa_cons (pv 1) pa_nil))
          (pa_cons (pe_callB (call_reprD (show Gd _ from g) hr.units) (by rfl) T.z_repr (by decide +kernel) (pa_cons (pe_xv (p := (a, oe)) List.mem_cons_self zn hf (pv 1)) pa_nil)) pa_nil)))))
        (HdsAs.cons (i := 1) (ts := fun a cls d => tRet (tLst (tCons (tCall (sp_which T a cls d) [] E0 (tCons (tVar 1) tNil)) (tCons (tC (.str "")) tNil)))) rfl rfl ⟨rfl, by decide, .inl T.g_NothingToUndo⟩
          (fun a oe cls d pn zn hf => pss_one (ps_ret (pe_lst (pa_cons (pe_callK (p := (a, oe)) (G_L_which T) ((room_hot hr).mono hj) (hot zn hf) List.mem_cons_self zn (by rfl) T.g_L_which T.F_L_which.kp T.b_L_which (pa_cons (pv 1) pa_nil)) (pa_cons pe_str pa_nil))))) .nil)))) (pss_one (ps_ret pe_non)), ?_⟩
  refine ⟨_, fun cls d σ' H' hE hlen => ?_, rfl, hc, h⟩
  obtain ⟨C, dd, v, D, z, S, rfl, rfl, hk, ex, hd, hD, hs, k⟩ := hE
  have hk' := hk
  obtain ⟨_, _, _, _, xi, no, em⟩ := hk'
  refine ⟨true, em, fun _ a na => ?_, fun z => nomatch z⟩
  obtain ⟨x0, x1, rfl⟩ : ∃ x0 x1, σ' = [x0, x1] := by
    match σ', hlen with
    | [x0, x1], _ => exact ⟨x0, x1, rfl⟩
  have w0 : Wd Rs.nil S H' := ⟨ex, True.intro, fun a h => by cases h⟩
  refine st_ret (R := fun u S1 => LstR StrR [z, D.shown] u S1) (ev_lstA (ar_cons (R := StrR) (fun S1 H1 e1 w1 Q1 q1 => ?_) fun S1 e1 => ar_cons (R := StrR) (vv_reprE (d := D) ((vv_xv (vv_var rfl) rfl rfl (xi_ok xi).2 no (e1 _ _ hd) (by rfl)).imp fun u S2 e2 eu => ?_) hs.show_ hs.low hs.fits) fun S2 e2 => ar_nil) (by simp)) w0 fun u S1 H1 w1 s1 hu => k u S1 H1 w1 s1 hu
  · have h0 : EvAV Rs.nil (tCons (tVar 1) tNil) ([x0, x1].set 1 (some (V.ref a))) S [.ref a] := va_cons (vv_var rfl) va_nil
    refine h0 S1 H1 e1 w1 _ fun us S2 H2 w2 s2 eu => ?_
    subst eu
    exact ⟨C, dd, v, z, S2, rfl, rfl, rfl, hk, w2, s2.ex _ _ (e1 _ _ hd), fun S3 H3 w3 s3 => q1 _ S3 H3 w3 (s2.trans s3) rfl⟩
  · rw [eu]
    exact de_up (e1.trans e2) hD
theorem Gw_L_caught (T : TX P w K mg) {N : List Str} {qual : Str} {sc : Scope} {f0 : Addr} {cd : Value} {A : Around} {outer : List Env} {s : Shared} {H : Hp} {E : XK} (g : Gd A) {j : Nat} (hj : 1 ≤ j) {q : Str} (cdg : Value) :
    Gives (cxOf CX0 P w K mg base N qual sc f0 cd A outer s H E).nox j N_L_caught "_law_caught" "_law_call" (defScope s_L_caught) T.f_L_caught cdg (defBody s_L_caught) q (TTw K (Kd T)) :=
  Gv_L_caught (X := (cxOf CX0 P w K mg base N qual sc f0 cd A outer s H E).nox) T g hj cdg
/-- _law_kind hands on what it gets -/
theorem Gk_L_kind (T : TX P w K mg) {N : List Str} {qual : Str} {sc : Scope} {f0 : Addr} {cd : Value} {A : Around} {outer : List Env} {s : Shared} {H : Hp} {E : XK} (g : Gd A) {k : Nat} (hk : 1 ≤ k + 1) {q : Str} (cdg : Value) :
    GivesK (cxOf CX0 P w K mg base N qual sc f0 cd A outer s H E).nox k N_L_kind "_law_kind" (defScope s_L_kind) T.f_L_kind cdg (defBody s_L_kind) q (TTk K (Kd T)) := by
  intro f c s' H' Q tl hr act hc h
  refine ⟨_, pss_cons (ps_set (i := 1) sc_L_kind.nd rfl (Or.inl rfl) (pe_passK (Y := (cxG (cxOf CX0 P w K mg base N qual sc f0 cd A outer s H E).nox N_L_kind "_law_kind" (defScope s_L_kind) T.f_L_kind cdg s' H').nox) (a := "_law_call") (k := k) T.F_L_caught T.b_L_caught sc_L_caught
    (fun cdg2 => Gv_L_caught (X := (cxG (cxOf CX0 P w K mg base N qual sc f0 cd A outer s H E).nox N_L_kind "_law_kind" (defScope s_L_kind) T.f_L_kind cdg s' H').nox) T g hk cdg2) hr (by rfl) T.g_L_caught (pa_cons (pv 0) pa_nil)
    (fun pins1 σ1 H1 s1 I1 cdg2 hr2 W pn xe E p1 p2 tk hW => act pins1 σ1 H1 s1 I1 N_L_caught "_law_caught" "_law_call" (defScope s_L_caught) T.f_L_caught cdg2 rfl (Or.inl rfl) (by decide) (by decide) hr2 W pn xe E p1 p2 tk hW)))
    (pss_one (ps_ret (pe_ifExp (pt_cmpR op_isU (pv 1) pe_non (nomark _)) pe_str (pe_ix (ix_K (K := K)) (pv 1) pe_int (fun _ _ => rfl))))), ?_⟩
  exact ⟨rfl, hc, h f⟩
/-! ### no number -/
def BadN (K : PySem.W.Frag) : Rl PyData := fun d v S => DE K S v d ∧ Shw d ∧ (NonInt K v S ∨ ∃ i : Int, v = .int i ∧ i < 0)
instance : Mono (BadN K) := ⟨fun e h => ⟨de_up e h.1, h.2.1, h.2.2.imp (ni_up e) id⟩⟩
theorem bn_val {r : Rs} {s : L2.St} {S : Hp} {te : TE} {v : V} {d : PyData} (h : EvV r te s S v) (hd : ∀ S, Dp K S v d) (hs : Shw d) (hn : ∀ S, NonInt K v S ∨ ∃ i : Int, v = .int i ∧ i < 0) : EvS r te s S fun v S1 => BadN K d v S1 := h.imp fun u S1 _ e => by
  rw [show u = _ from e]
  exact ⟨.inl (hd S1), hs, hn S1⟩
def sp_bad_number (K : PySem.W.Frag) : Sp := SpR (A := Addr × Addr) (fun a => poolR a.1 a.2) (fun a vs _ _ => vs = [.ref a.1]) (fun _ v S _ => ∃ d, BadN K d v S)
theorem vv_drawP {p c : Addr} {s : L2.St} {S : Hp} {i : Nat} {n : Int} (h : s[i]? = some (some (.ref p))) (h1 : 1 ≤ n) (h2 : n < 10 ^ 40) : EvS (poolR p c) (tCall sp_draw [] E0 (tCons (tVar i) (tCons (tC (.int n)) tNil))) s S fun v _ => ∃ i, v = .int i ∧ 0 ≤ i ∧ i < n := ev_draw (va_cons (vv_var h) (va_cons vv_c va_nil)) h1 h2
theorem shw_one : Shw (.tuple [.int 1]) := shw_tup (ns := [1]) (by decide +kernel) (by decide)
theorem shw_oneL : Shw (.list [.int 1]) := shw_lst (ns := [1]) (by decide +kernel) (by decide)
theorem shw_far : Shw (.int (0 - 10 ^ 30)) := .mk' (by decide +kernel) (by decide +kernel) (by decide +kernel) (by decide +kernel)
/-! ### a law with tables, out of a pool -/
def sp_lawT (K : PySem.W.Frag) (T' : List (Addr × Str)) : Sp := fun vs H Q _ => ∃ (a : Addr) (ns : List Int), vs = [.ref a] ∧ SqL K H a (ns.map V.int) ∧ ns.length ≤ 63 ∧ (∀ y ∈ T', H y.1 = some (.tbl #[])) ∧ ∀ H', Q (.bl true) H'
theorem sq_beginPT {i : Nat} {a : Addr} {ns : List Int} {s : L2.St} {H : Hp} {tz : TS} {D : Ends} {T' : List (Addr × Str)} (h : s[0]? = some (some (.ref a))) (hS : SqL K H a (ns.map V.int)) (hl : ns.length ≤ 63) (t : ∀ y ∈ T', H y.1 = some (.tbl #[])) (k : ∀ p c S1 H1, Wd ((poolR p c).tabs T') S1 H1 → tz D (s.set i (some (.ref p))) H1) : tSeq (tAsg (tCall (sp_begin K) [] E0 (tCons (tVar 0) tNil)) (gName i)) tz D s H :=
  have h0 : EvAV Rs.nil (tCons (tVar 0) tNil) s (offT T' H) [.ref a] := va_cons (vv_var h) va_nil
  sq_asgRun (call_run (h0 (offT T' H) H (Ex.refl _) ⟨offT_ex, True.intro, fun a h => by cases h⟩ (fun vs H1 => sp_begin K (vs ++ []) H1 (fun v H1 => tz D (s.set i (some v)) H1) E0) fun us S1 H1 w1 s1 eu => by
    subst eu
    exact ⟨a, ns, S1, rfl, ex_l s1.ex (offT_sq t hS), hl, w1, fun p c S2 H2 _ _ w2 s2 => k p c S2 H2 (Wd.beginP t w2 (s1.trans s2))⟩))
section
variable {r : Rs} {s : L2.St} {S : Hp} {te : TE}
theorem ev_told2 {d : PyData} {z : Str} (h : EvS r te s S fun v S1 => DE K S1 v d) (hs : Shw d) : EvS r (tLst (tCons (tC (.str z)) (tCons (tCB (rReprD K) (tCons te tNil)) tNil))) s S fun v S1 => LstR StrR [z, d.shown] v S1 :=
  ev_lstA (ar_cons (R := StrR) vv_c fun S1 e => ar_cons (R := StrR) (EvS.mono e (vv_reprE h hs.show_ hs.low hs.fits)) fun _ _ => ar_nil) (by simp)
end
end
end K63

namespace K63
open PySem PySem.Spec PyProof.Rows L2 Evl J RZ
section
variable {P : Program} {w : World} {K : PySem.W.Frag} {mg : Str → Option Value} {base : Heap}
/-! ### the pairs that a walk comes to -/
inductive ReachP (m : MachD) (c : Nat) : Int × Int → Prop
  | first : ReachP m c (firstP m c)
  | step {p q : Int × Int} : ReachP m c p → q ∈ nextP m p → ReachP m c q
theorem reach_in {m : MachD} {w c : Nat} (ok : MOk m w) (hc : c < w) {p : Int × Int} (h : ReachP m c p) : InM m p := by
  induction h with
  | first => exact first_in ok hc
  | step _ hq ih => exact next_in ok ih hq
structure WL (m : MachD) (c : Nat) (F ws : List (Int × Int)) : Prop where
  nd : F.Nodup
  sub : ∀ q ∈ ws, q ∈ F
  re : ∀ q ∈ F, ReachP m c q
  fst : firstP m c ∈ F
  cl : ∀ p ∈ F, p ∉ ws → ∀ q ∈ nextP m p, q ∈ F
/-- k of p's next pairs have been looked at -/
structure WI (m : MachD) (c : Nat) (p : Int × Int) (k : Nat) (F ws : List (Int × Int)) : Prop where
  nd : F.Nodup
  sub : ∀ q ∈ ws, q ∈ F
  re : ∀ q ∈ F, ReachP m c q
  fst : firstP m c ∈ F
  cl : ∀ p' ∈ F, p' ∉ ws → p' ≠ p → ∀ q ∈ nextP m p', q ∈ F
  done : ∀ (j : Nat) (q : Int × Int), j < k → (nextP m p)[j]? = some q → q ∈ F
  pF : p ∈ F
section
variable {m : MachD} {c k : Nat} {p q : Int × Int} {F ws : List (Int × Int)}
theorem WL.start : WL m c [firstP m c] [firstP m c] :=
  ⟨by simp, fun q h => h, fun q h => by rw [List.mem_singleton.mp h]; exact .first, List.mem_singleton.mpr rfl, fun p h n => absurd h n⟩
theorem WL.pop (h : WL m c F (ws ++ [p])) : WI m c p 0 F ws :=
  ⟨h.nd, fun q hq => h.sub q (List.mem_append_left _ hq), h.re, h.fst, fun p' hp hn ne => h.cl p' hp fun z => (List.mem_append.mp z).elim hn fun z => ne (List.mem_singleton.mp z), fun j q hj => absurd hj (Nat.not_lt_zero _), h.sub p (List.mem_append_right _ (List.mem_singleton.mpr rfl))⟩
theorem WI.old (h : WI m c p k F ws) (g : (nextP m p)[k]? = some q) (hq : q ∈ F) : WI m c p (k + 1) F ws :=
  ⟨h.nd, h.sub, h.re, h.fst, h.cl, fun j q' hj g' => by
    rcases Nat.lt_succ_iff_lt_or_eq.mp hj with hj | rfl
    · exact h.done j q' hj g'
    · rw [g] at g'
      cases g'
      exact hq, h.pF⟩
theorem WI.new (h : WI m c p k F ws) (g : (nextP m p)[k]? = some q) (hq : q ∉ F) : WI m c p (k + 1) (F ++ [q]) (ws ++ [q]) :=
  ⟨List.nodup_append.mpr ⟨h.nd, by simp, fun a ha b hb => by
    rw [List.mem_singleton.mp hb]
    exact fun e => hq (e ▸ ha)⟩, fun a ha => (List.mem_append.mp ha).elim (fun z => List.mem_append_left _ (h.sub a z)) fun z => List.mem_append_right _ z, fun a ha => (List.mem_append.mp ha).elim (h.re a) fun z => by
      rw [List.mem_singleton.mp z]
      exact .step (h.re p h.pF) (List.mem_of_getElem? g), List.mem_append_left _ h.fst, fun p' hp hn ne a ha => by
      rcases List.mem_append.mp hp with hp | hp
      · exact List.mem_append_left _ (h.cl p' hp (fun z => hn (List.mem_append_left _ z)) ne a ha)
      · exact absurd (List.mem_append_right _ hp) hn, fun j q' hj g' => by
      rcases Nat.lt_succ_iff_lt_or_eq.mp hj with hj | rfl
      · exact List.mem_append_left _ (h.done j q' hj g')
      · rw [g] at g'
        cases g'
        exact List.mem_append_right _ (List.mem_singleton.mpr rfl), List.mem_append_left _ h.pF⟩
theorem WI.all (h : WI m c p k F ws) (hk : (nextP m p).length ≤ k) : WL m c F ws :=
  ⟨h.nd, h.sub, h.re, h.fst, fun p' hp hn q hq => by
    by_cases e : p' = p
    · subst e
      obtain ⟨j, hj⟩ := List.mem_iff_getElem?.mp hq
      have := (List.getElem?_eq_some_iff.mp hj).1
      exact h.done j q (by omega) hj
    · exact h.cl p' hp hn e q hq⟩
theorem WL.end_ (h : WL m c F []) (q : Int × Int) : q ∈ F ↔ ReachP m c q := by
  refine ⟨h.re q, fun r => ?_⟩
  induction r with
  | first => exact h.fst
  | step _ hq ih => exact h.cl _ ih (fun z => nomatch z) _ hq
end
theorem nodup_subP : ∀ {l m : List Int}, l.Nodup → (∀ x, x ∈ l → x ∈ m) → l.length ≤ m.length
  | [], _, _, _ => Nat.zero_le _
  | a :: l, m, hn, h => by
    obtain ⟨h1, h2⟩ := List.nodup_cons.mp hn
    have ha := h a (.head _)
    have := nodup_subP (l := l) (m := m.erase a) h2 fun x hx => by
      have ne : x ≠ a := fun e => h1 (e ▸ hx)
      exact (List.mem_erase_of_ne ne).mpr (h x (.tail _ hx))
    rw [List.length_erase_of_mem ha] at this
    have hp : 0 < m.length := List.length_pos_of_mem ha
    rw [List.length_cons]
    omega
def codeP (p : Int × Int) : Int := 10 * p.1 + p.2
theorem pairs_few {m : MachD} {w : Nat} (ok : MOk m w) {F : List (Int × Int)} (nd : F.Nodup) (h : ∀ q ∈ F, InM m q) : F.length ≤ 60 := by
  have n6 := ok.steps.n6
  have h1 : (F.map codeP).Nodup := by
    unfold List.Nodup
    rw [List.pairwise_map]
    refine List.Pairwise.imp_of_mem (fun {a b} ha hb ne => ?_) nd
    intro e
    have ia := h a ha
    have ib := h b hb
    unfold InM at ia ib
    unfold codeP at e
    exact ne (Prod.ext (by omega) (by omega))
  have h2 := nodup_subP (m := (List.range 60).map fun i : Nat => (i : Int)) h1 fun x hx => by
    obtain ⟨p, hp, rfl⟩ := List.mem_map.mp hx
    have ip := h p hp
    unfold InM at ip
    exact List.mem_map.mpr ⟨(codeP p).toNat, List.mem_range.mpr (show (10 * p.1 + p.2).toNat < 60 by omega), (show (((10 * p.1 + p.2).toNat : Nat) : Int) = 10 * p.1 + p.2 by omega)⟩
  rw [List.length_map, List.length_map, List.length_range] at h2
  exact h2
/-- the keys' texts -/
theorem key_pair : ∀ a, a < 6 → ∀ b, b < 6 → isBox (keyD (keyP ((a : Nat), (b : Nat)))) = true ∧ (keyD (keyP ((a : Nat), (b : Nat)))).showable = true ∧ (keyD (keyP ((a : Nat), (b : Nat)))).depth ≤ 40 ∧ (keyD (keyP ((a : Nat), (b : Nat)))).shown.length ≤ sizeLine := by decide +kernel
theorem key_ok {m : MachD} {w : Nat} (ok : MOk m w) {p : Int × Int} (h : InM m p) : KeyD (keyD (keyP p)) := by
  have n6 := ok.steps.n6
  unfold InM at h
  have := key_pair p.1.toNat (by omega) p.2.toNat (by omega)
  rw [show ((p.1.toNat : Nat) : Int) = p.1 by omega, show ((p.2.toNat : Nat) : Int) = p.2 by omega] at this
  exact ⟨this.1, this.2.1, this.2.2.1, this.2.2.2⟩
end
end K63

namespace K63
open PySem PySem.Spec PyProof.Rows L2 Evl J RZ
section
variable {P : Program} {w : World} {K : PySem.W.Frag} {mg : Str → Option Value} {base : Heap}
/-! ### pairs_of -/
section
variable {r : Rs} {s : L2.St} {S : Hp}
theorem hp_fields (q : Str) (n : Nat) : ∃ (h : Heap) (oc : Obj) (vs : Array Value), oc.data = .fields vs ∧ vs[1]? = some (.str q default) ∧ ∀ a, a < n → h.get? a = some oc := by
  refine ⟨⟨Array.replicate n ⟨.none, none, .fields #[.none, .str q default], #[]⟩, {}⟩, ⟨.none, none, .fields #[.none, .str q default], #[]⟩, #[.none, .str q default], rfl, rfl, fun a ha => ?_⟩
  unfold Heap.get?
  simp only [Array.getElem?_replicate, if_pos ha]
theorem dkO_code {w : World} {d : Addr} {ks : List (List Key × Addr)} {c : Addr} {q : Str} : dkO P w d ks ≠ LamX.CodeO c q := fun e => by
  obtain ⟨h, oc, vs, h1, h2, h3⟩ := hp_fields q (c + d + 1)
  have e1 := congrFun (HO.ext.inj e) h
  have y : ∃ (oc : Obj) (vs : Array Value) (t : Tok), h.get? c = some oc ∧ oc.data = .fields vs ∧ vs[1]? = some (.str q t) := ⟨oc, vs, default, h3 c (by omega), h1, h2⟩
  obtain ⟨_, _, o, es, ep, ho, _, hd, _⟩ := Eq.mpr e1 y
  rw [h3 d (by omega)] at ho
  cases ho
  rw [h1] at hd
  cases hd
/-- {x: True}, x a tuple; the key's own tuple is told -/
theorem en_dispE {i : Nat} {b : Addr} {k : List Key} (h : s[i]? = some (some (.ref b))) (hb : S b = some (.tup (k.map kV))) : ∀ S1 H, Ex S S1 → Wd r S1 H → ∀ Q : VK, (∀ p o S2 H2, H p = none → H2 p = some o → S2 p = none → Wd r S2 H2 → Stp r S1 H S2 H2 → o = dkO P w p [(k, b)] → Q (.ref p) H2) → tDispE P w (tVar i) (tC (.bl true)) s H Q := fun S1 H e ww Q q p hp => by
  have hb1 := ww.ex _ _ (e _ _ hb)
  have nb : b ≠ p := fun z => by
    rw [z, hp] at hb1
    cases hb1
  refine (vv_var h : EvV r (tVar i) s S (.ref b)) S1 _ e (ww.new hp) _ fun v S2 H2 w2 s2 ev => ?_
  subst ev
  have hp2 : H2 p = some (.dT []) := s2.kp p _ (ww.notM hp) upd_same
  have n2 : S2 p = none := s2.fr p (by rw [upd_same]; exact fun z => nomatch z) (ww.fresh hp)
  refine ⟨hp2, b, k, rfl, rfl, w2.ex _ _ (s2.ex _ _ (e _ _ hb)), ?_⟩
  have w3 : Wd r S2 (L2.upd H2 p (dkO P w p [(k, b)])) := w2.upd n2 (ww.notM hp) (fun q z => by rw [hp2] at z; cases z)
  refine q p _ S2 _ hp upd_same n2 w3 ⟨s2.ex, fun a o na ea => ?_, fun a ea na => s2.fr a (by rw [upd_ne (fun z => by rw [z] at ea; exact ea hp)]; exact ea) na, fun a ea => ?_⟩ rfl
  · have ne : a ≠ p := fun z => by
      rw [z, hp] at ea
      cases ea
    rw [upd_ne ne]
    exact s2.kp a o na (by rw [upd_ne ne]; exact ea)
  · have ne : a ≠ p := fun z => by
      rw [z] at ea
      exact ea hp
    rw [upd_ne ne]
    exact s2.dm a (by rw [upd_ne ne]; exact ea)
end
/-- the keys of the dict: the pairs F, their tuples in sight -/
def KsR (S : Hp) (F : List (Int × Int)) (ks : List (List Key × Addr)) : Prop := ks.map (·.1) = F.map keyP ∧ ∀ z ∈ ks, S z.2 = some (.tup (z.1.map kV))
theorem KsR.up {S S' : Hp} {F : List (Int × Int)} {ks : List (List Key × Addr)} (e : Ex S S') (h : KsR S F ks) : KsR S' F ks := ⟨h.1, fun z hz => e _ _ (h.2 z hz)⟩
theorem ks_any {q : Int × Int} : ∀ {F : List (Int × Int)} {ks : List (List Key × Addr)}, ks.map (·.1) = F.map keyP → (ks.any fun z => decide (z.1 = keyP q)) = decide (q ∈ F)
  | [], [], _ => rfl
  | [], _ :: _, h => by cases h
  | _ :: _, [], h => by cases h
  | p :: F, z :: ks, h => by
    rw [List.map_cons, List.map_cons] at h
    obtain ⟨h1, h2⟩ := List.cons.inj h
    rw [List.any_cons, ks_any h2, h1, ← Bool.decide_or]
    exact decide_eq_decide.mpr ⟨fun x => x.elim (fun e => by rw [keyP_inj e]; exact .head _) fun e => .tail _ e, fun x => (List.mem_cons.mp x).imp (fun e => by rw [e]) id⟩
theorem all2_snoc {α : Type} {R : Rl α} {S : Hp} : ∀ {xs : List α} {x : α} {vs : List V}, All2 R S (xs ++ [x]) vs → ∃ us u, vs = us ++ [u] ∧ All2 R S xs us ∧ R x u S
  | [], x, _, .cons h t => by
    cases t
    exact ⟨[], _, rfl, .nil, h⟩
  | y :: xs, x, _, .cons h t => by
    obtain ⟨us, u, rfl, h1, h2⟩ := all2_snoc t
    exact ⟨_ :: us, u, rfl, .cons h h1, h2⟩
theorem ks_all {S : Hp} : ∀ {F : List (Int × Int)} {ks : List (List Key × Addr)}, KsR S F ks → All2 (P2 K) S F (ks.map fun z => V.ref z.2)
  | [], [], _ => .nil
  | [], _ :: _, h => by cases h.1
  | _ :: _, [], h => by cases h.1
  | p :: F, z :: ks, ⟨h, h2⟩ => by
    rw [List.map_cons, List.map_cons] at h
    obtain ⟨h1, h3⟩ := List.cons.inj h
    have hz := h2 z (.head _)
    rw [h1] at hz
    exact .cons ⟨z.2, _, _, rfl, hz, rfl, rfl⟩ (ks_all ⟨h3, fun y hy => h2 y (.tail _ hy)⟩)
theorem wh_goP {tu : TS} {s : L2.St} {H : Hp} {rt : VK} {bk : L2.St → Hp → Prop} {m : Nat} {P : Nat → L2.St → Hp → Hp → Prop} {X : Prop} (h : tu { nx := fun s2 H2 => ∃ m2 S2, m2 < m ∧ P m2 s2 S2 H2, ct := fun s2 H2 => ∃ m2 S2, m2 < m ∧ P m2 s2 S2 H2, bk := bk, rt := rt } s H) : if true = true then ∃ N : L2.St → Hp → Prop, (∀ s2 H2, N s2 H2 → ∃ m2, m2 < m ∧ ∃ S2, P m2 s2 S2 H2) ∧ tu { nx := N, ct := N, bk := bk, rt := rt } s H else X := ⟨_, fun s2 H2 ⟨m2, S2, hm, p⟩ => ⟨m2, hm, S2, p⟩, h⟩
theorem for_pop {te te' : TE} {g : TG} {tu : TS} {D : Ends} {s : L2.St} {H H1 : Hp} (h : ∀ Q : VK, te' s H1 Q → te s H Q) (k : tFor (iU K te') g tu D s H1) : tFor (iU K te) g tu D s H := by
  rcases k with (k | k) | k
  · exact .inl (.inl (h _ k))
  · exact .inl (.inr (h _ k))
  · exact .inr (h _ k)
instance : Dt K (PairR K IntR IntR) := inferInstance
theorem p2_all {S : Hp} {ws : List (Int × Int)} {us : List V} (h : All2 (P2 K) S ws us) : All2 (PairR K IntR IntR) S ws us := by
  induction h with
  | nil => exact .nil
  | cons h _ ih => exact .cons h.r ih
theorem nodupless {m : MachD} {c : Nat} {F ws : List (Int × Int)} (h : WL m c F ws) : True := trivial
def dPair (p : Int × Int) : PyData := keyD (keyP p)
def sp_pairs_of (K : PySem.W.Frag) (C : Addr) (T : List (Addr × Str)) : Sp := SpR (A := (Addr × Addr) × MachD × Nat × Nat) (fun a => (poolR a.1.1 a.1.2).tabs T) (fun a vs S _ => ∃ v, vs = [v, .str (wS [a.2.2.2])] ∧ MachR K C a.2.2.1 a.2.1 v S ∧ a.2.2.2 < a.2.2.1) (fun a v S _ => ∃ F : List (Int × Int), F.Nodup ∧ (∀ q, q ∈ F ↔ ReachP a.2.1 a.2.2.2 q) ∧ LstR (P2 K) (sortA dPair F) v S)
theorem G_pairs_of (T : TX P w K mg) (TB : ∀ y ∈ lamC T, LamX.TabB base mg y.1 y.2) : FnG P w K mg base 4 T.f_pairs_of T.fd_pairs_of ["machine", "letter"] (sp_pairs_of K T.C_Machine (lamT T)) := by
  refine ok_GC T.FC_pairs_of sc_pairs_of (fun vs H Q E h => ?_) (fun A outer s H vs Q E g hr h => ?_)
  · obtain ⟨a, S, ⟨v, rfl, _⟩, _⟩ := h
    rfl
  · obtain ⟨⟨⟨p, cc⟩, m, wn, c⟩, S, ⟨v, rfl, hv, hc⟩, w0, q⟩ := h
    dsimp only at hv hc w0 q
    refine ⟨_, (pss_cons (ps_set (i := 2) sc_pairs_of.nd rfl (Or.inl rfl) (pe_call (G_first_pair T) (hr.mono (by decide)) (by rfl) T.g_first_pair T.F_first_pair.kp T.b_first_pair .nil pass0 (pa_cons (pv 0) (pa_cons (pv 1) pa_nil))))
      (pss_cons (ps_par (i := 3) (j := 4) (by rfl) sc_pairs_of.nd rfl rfl (by decide) rfl rfl (pa_cons (pe_dispE (show _ from Nat.lt_of_succ_lt (units1 hr)) (pv 2) pe_bl) (pa_cons (pe_lst (pa_cons (pv 2) pa_nil)) pa_nil)) (by rfl))
      (pss_cons (ps_while PassesOwn.never (pt_cmpR (op_neK (K := K) hr.units) (pv 4) (pe_lst pa_nil) (nomark _)) (pss_one (ps_for PassesOwn.never (by rfl) (pi_K (K := K) (pe_call (G_next_pairs T) (hr.mono (by decide)) (by rfl) T.g_next_pairs T.F_next_pairs.kp T.b_next_pairs .nil pass0 (pa_cons (pv 0) (pa_cons (pe_bm0 PySem.F.plainAttrs_list PySem.F.slot_list_pop PySem.F.type_list_pop mt_pop (pv 4)) pa_nil)))) (pg_name (i := 5) sc_pairs_of.nd rfl (Or.inl rfl)) (pss_one (ps_if (pt_cmpR (op_notInE (units1 hr)) (pv 5) (pv 3) (by with_unfolding_all rfl)) (pss_cons (ps_dputE (units1 hr) (pv 3) (pv 5) pe_bl (by rfl))
            (pss_one (ps_expr (pe_bm PySem.F.plainAttrs_list PySem.F.slot_list_append PySem.F.type_list_append mt_append (pv 4) (pa_cons (pv 5) pa_nil))))) pss_nil)))))
      (pss_one (ps_ret (pe_sortE (k := 0) g (hr.mono (by decide)) (by rfl) T.z_sorted T.z_str (pv 3) (TB _ (lc_pairs_of T)) rfl (lm_pairs_of T) (lu_pairs_of T) (strS_by (by decide +kernel)) rfl)))))), ?_⟩
    obtain ⟨_, _, _, _, _, _, _, ok⟩ := id hv
    refine sq_asg (R := fun v S => P2 K (firstP m c) v S) (vv_call (m, wn, c) (va_cons (vv_var rfl) (va_cons (vv_var rfl) va_nil)) (fun S e => ⟨v, rfl, Mono.up e hv, hc⟩) fun v _ _ h => h) w0 fun v2 S1 H1 w1 s1 hf => ?_
    obtain ⟨f0, x0, y0, rfl, hf0, ex0, ey0⟩ := id hf
    obtain rfl : x0 = .int (firstP m c).1 := ex0
    obtain rfl : y0 = .int (firstP m c).2 := ey0
    refine sq_par ((en_dispE (P := P) (w := w) (k := keyP (firstP m c)) rfl hf0) S1 H1 (Ex.refl _) w1 _ fun d o S2 H2 d0 d1 d2 w2 s2 eo => (en_lst (P := fun us _ => us = [V.ref f0]) (va_cons (vv_var rfl) va_nil) (fun us S e => by
      rw [e]
      show 1 ≤ 100000
      decide)) S2 H2 (Ex.refl _) w2 _ fun l o2 S3 H3 l0 l1 l2 w3 s3 ⟨us, eo2, eus⟩ => ⟨_, _, rfl, ?_⟩)
    subst eo
    subst eus
    subst eo2
    have nd := w1.notM d0
    have nl := w2.notM l0
    have hd3 := s3.kp d _ nd d1
    have dn3 := s3.fr d (ne_none d1) d2
    have hl0 : H1 l = none := pre_none s2 l0
    have ndl : d ≠ l := fun z => by
      rw [z, l0] at d1
      cases d1
    have e13 := s2.ex.trans s3.ex
    have st03 := s1.trans (s2.trans s3)
    have d00 := pre_none s1 d0
    have l00 := pre_none s1 hl0
    have ef : upd = L2.upd := rfl
    refine sq_while (S := S3) (fun μ s' S' H' => ∃ F ws us y5, μ = 2 * (60 - F.length) + ws.length ∧ 2 * (60 - F.length) + ws.length ≤ 119 ∧ s' = [some v, some (.str (wS [c])), some (.ref f0), some (.ref d), some (.ref l), y5] ∧ Wd ((poolR p cc).tabs (lamT T)) S' H' ∧ Ex S3 S' ∧ Stp ((poolR p cc).tabs (lamT T)) S H S' H' ∧ S' d = none ∧ (∃ ks, H' d = some (dkO P w d ks) ∧ KsR S' F ks) ∧ S' l = none ∧ H' l = some (.lst us) ∧ All2 (P2 K) S' ws us ∧ WL m c F ws)
      ⟨[firstP m c], [firstP m c], [.ref f0], none, rfl, Nat.le_of_ble_eq_true rfl, rfl, w3, Ex.refl _, st03, dn3, ⟨_, hd3, rfl, fun z hz => by rw [List.mem_singleton.mp hz]; exact e13 _ _ hf0⟩, l2, l1, .cons (Mono.up e13 hf) .nil, WL.start⟩ ?_
    rintro μ s' S' H' ⟨F, ws, us, y5, rfl, h119, rfl, w', e', st', dn', ⟨ks, hd', hks⟩, ln', hl', hall, hwl⟩
    have hfew := pairs_few ok hwl.nd fun q hq => reach_in ok hc (hwl.re q hq)
    refine borrowT (b := !decide (ws = [])) (tb_test (vv_neD (R := LstR (PairR K IntR IntR)) (a := ws) (b := []) ((vv_var rfl).imp fun u S4 e ev => ⟨l, us, ev, e _ _ upd_same, p2_all (hall.up ((Ex.new ln').trans e))⟩) fun S4 e => ev_nilL)) w' hl' (by exact fun z => nl z) ln' fun S4 H4 w4 s4 n4 => ?_
    have hd4 := s4.kp d _ (by exact fun z => nd z) hd'
    have hl4 := s4.kp l _ (by exact fun z => nl z) hl'
    have dn4 := s4.fr d (ne_none hd') dn'
    have e4 := e'.trans s4.ex
    have st4 := st'.trans s4
    have hall4 := hall.up s4.ex
    rcases List.eq_nil_or_concat ws with rfl | ⟨ws, pp, rfl⟩
    · -- the end
      rw [decide_eq_true rfl, Bool.not_true, if_neg Bool.false_ne_true]
      have hks4 := hks.up s4.ex
      refine ⟨_, rfl, w4.inv.2, fun H5 k5 t5 => ?_⟩
      obtain ⟨w5, s5⟩ := w4.grown (lm_pairs_of T) k5 t5
      have dP : d ≠ T.P_pairs_of := fun z => nd (List.mem_append_left _ (List.mem_map.mpr ⟨_, lm_pairs_of T, z.symm⟩))
      have ek : (ks.map fun z => keyD z.1) = F.map dPair := by
        have := congrArg (List.map keyD) hks.1
        rw [List.map_map, List.map_map] at this
        exact this
      refine ⟨d, ks, rfl, k5 d _ dP hd4, fun z hz => w5.ex _ _ (hks4.2 z hz), fun z hz => ?_, fun p' hp' => ?_⟩
      · have : z.1 ∈ F.map keyP := by
          rw [← hks.1]
          exact List.mem_map.mpr ⟨z, hz, rfl⟩
        obtain ⟨pz, hpz, ez⟩ := List.mem_map.mp this
        rw [← ez]
        exact key_ok ok (reach_in ok hc (hwl.re pz hpz))
      · refine q (.ref p') (L2.upd S4 p' (.lst (sortS (ks.map fun z => V.ref z.2) (ks.map fun z => keyD z.1)))) _ (w5.newS hp') (st4.trans (s5.trans (Stp.newS w5 hp'))) ⟨F, hwl.nd, hwl.end_, p', _, rfl, upd_same, ?_⟩
        rw [ek]
        exact all2_sort dPair (ks_all (hks4.up (Ex.new (w5.fresh hp'))))
    · rw [decide_eq_false (by simp), Bool.not_false]
      rw [List.concat_eq_append] at hall4 hwl ⊢
      rw [List.concat_eq_append, List.length_append, List.length_singleton] at h119
      refine wh_goP ?_
      obtain ⟨us', u, rfl, ha4, hu4⟩ := all2_snoc hall4
      have hin : InM m pp := reach_in ok hc (hwl.re pp (hwl.sub pp (List.mem_append_right _ (List.mem_singleton.mpr rfl))))
      have hdl : (us' ++ [u]).dropLast = us' := List.dropLast_concat
      have hlast : (us' ++ [u])[(us' ++ [u]).length - 1]? = some u := by simp
      refine for_pop (te' := tCall (sp_next_pairs K T.C_Machine) [] E0 (tCons (tVar 0) (tCons (tC u) tNil))) (H1 := L2.upd H4 l (.lst us')) (fun Q ⟨v0, e0, hQ⟩ => ⟨v0, e0, .ref l, rfl, .inl ⟨rfl, _, SqL.of hl4⟩, l, us' ++ [u], u, rfl, rfl, hl4, hlast, by rw [hdl]; exact hQ⟩) ?_
      have w4' : Wd ((poolR p cc).tabs (lamT T)) S4 (L2.upd H4 l (.lst us')) := w4.upd n4 nl (nco_lst hl4)
      have st4' : Stp ((poolR p cc).tabs (lamT T)) S H S4 (L2.upd H4 l (.lst us')) := st4.drop (Stp.upd1 (ne_none hl4)) (fun b hb => by rw [List.mem_singleton.mp hb]; exact l00)
      have hv4 := Mono.up (s1.ex.trans (e13.trans e4)) hv
      have hks4 := hks.up s4.ex
      refine st_for (ei_list (X := P2 K) (ys := nextP m pp) (vv_call (m, wn, pp) (va_cons (vv_var rfl) (va_cons vv_c va_nil)) (fun S e => ⟨v, u, rfl, Mono.up e hv4, Mono.up e hu4, hin⟩) fun v _ _ h => h)) w4' fun S5 H5 w5 s5 => ?_
      refine ⟨fun i s'' S'' H'' => ∃ F' ws' us'' y5, 2 * (60 - F'.length) + ws'.length ≤ 2 * (60 - F.length) + ws.length ∧ s'' = [some v, some (.str (wS [c])), some (.ref f0), some (.ref d), some (.ref l), y5] ∧ Wd ((poolR p cc).tabs (lamT T)) S'' H'' ∧ Ex S5 S'' ∧ Stp ((poolR p cc).tabs (lamT T)) S H S'' H'' ∧ S'' d = none ∧ (∃ ks, H'' d = some (dkO P w d ks) ∧ KsR S'' F' ks) ∧ S'' l = none ∧ H'' l = some (.lst us'') ∧ All2 (P2 K) S'' ws' us'' ∧ WI m c pp i F' ws',
        ⟨F, ws, us', y5, Nat.le_refl _, rfl, w5, Ex.refl _, st4'.trans s5, s5.fr d (by rw [upd_ne ndl]; exact ne_none hd4) dn4, ⟨ks, s5.kp d _ nd (by rw [upd_ne ndl]; exact hd4), hks4.up s5.ex⟩, s5.fr l (by rw [upd_same]; exact fun z => nomatch z) n4, s5.kp l _ nl upd_same, ha4.up s5.ex, hwl.pop⟩, fun i s'' S'' H'' ⟨_, _, _, _, _, _, h1, h2, _⟩ => ⟨h1, h2⟩, ?_, ?_⟩
      · rintro i qq uq s'' S6 H6 S7 H7 hi ⟨F', ws', us'', y5, hle, rfl, w6, e6, st6, dn6, ⟨ks6, hd6, hks6⟩, ln6, hl6, ha6, hwi⟩ w7 s7 hu
        obtain ⟨b, x, y, rfl, hb, rfl, rfl⟩ := id hu
        have hd7 := s7.kp d _ nd hd6
        have dn7 := s7.fr d (ne_none hd6) dn6
        have hks7 := hks6.up s7.ex
        refine st_ifB (l := d) (o := dkO P w d ks6) (b := !decide (qq ∈ F')) (tb_test (vv_op (vv_var rfl) (vv_var rfl) fun H9 e9 Q9 q9 => ⟨d, ks6, b, keyP qq, rfl, rfl, e9 _ _ upd_same, fun z hz => e9 _ _ (Ex.new dn7 _ _ (hks7.2 z hz)), e9 _ _ (Ex.new dn7 _ _ hb), by rw [ks_any hks7.1]; exact q9⟩)) w7 hd7 nd dn7 (fun hq S8 H8 w8 s8 dn8 => ?_) fun hq S8 H8 w8 s8 dn8 => ?_
        · have hq : qq ∉ F' := by simpa using hq
          have hwi2 := hwi.new hi hq
          have few2 := pairs_few ok hwi2.nd fun a ha => reach_in ok hc (hwi2.re a ha)
          rw [List.length_append, List.length_singleton] at few2
          have hd8 := s8.kp d _ nd hd7
          have hks8 := hks7.up s8.ex
          have hb8 := s8.ex _ _ hb
          have hl8 := s8.kp l _ nl (s7.kp l _ nl hl6)
          have ln8 := s8.fr l (ne_none (s7.kp l _ nl hl6)) (s7.fr l (ne_none hl6) ln6)
          have kl : ks6.length = F'.length := by
            have := congrArg List.length hks6.1
            rw [List.length_map, List.length_map] at this
            exact this
          have ul := ha6.len
          refine ⟨_, rfl, _, rfl, d, ks6, b, keyP qq, rfl, rfl, rfl, hd8, fun z hz => w8.ex _ _ (hks8.2 z hz), w8.ex _ _ hb8, by rw [ks_any hks8.1]; exact decide_eq_false hq, by omega, ?_⟩
          have w9 : Wd ((poolR p cc).tabs (lamT T)) S8 (L2.upd H8 d (dkO P w d (ks6 ++ [(keyP qq, b)]))) := w8.upd dn8 nd (fun q z => by rw [hd8] at z; exact dkO_code (Option.some.inj z))
          have st9 : Stp ((poolR p cc).tabs (lamT T)) S H S8 (L2.upd H8 d (dkO P w d (ks6 ++ [(keyP qq, b)]))) := ((st6.trans s7).trans s8).drop (Stp.upd1 (ne_none hd8)) (fun b hb => by rw [List.mem_singleton.mp hb]; exact d00)
          refine st_append (R := fun v _ => v = .ref b) nl (vv_var rfl) (vv_var rfl) w9 (by rw [upd_ne (Ne.symm ndl)]; exact hl8) ln8 (by omega) fun v10 S10 H10 w10 s10 n10 hl10 ev10 => ?_
          subst ev10
          have st10 := st9.drop s10 (fun b hb => by rw [List.mem_singleton.mp hb]; exact l00)
          refine ⟨S10, F' ++ [qq], ws' ++ [qq], us'' ++ [.ref b], _, by rw [List.length_append, List.length_append, List.length_singleton]; omega, rfl, w10, e6.trans (s7.ex.trans (s8.ex.trans s10.ex)), st10, ?_, ⟨ks6 ++ [(keyP qq, b)], ?_, ?_, fun z hz => ?_⟩, n10, hl10, ?_, hwi2⟩
          · exact s10.fr d (by rw [upd_same]; exact fun z => nomatch z) dn8
          · exact s10.kp d _ (fun z => (List.mem_append.mp z).elim (fun z => ndl (List.mem_singleton.mp z)) nd) upd_same
          · rw [List.map_append, List.map_append, hks8.1]
            rfl
          · rcases List.mem_append.mp hz with hz | hz
            · exact s10.ex _ _ (hks8.2 z hz)
            · rw [List.mem_singleton.mp hz]
              exact s10.ex _ _ hb8
          · exact (ha6.up (s7.ex.trans (s8.ex.trans s10.ex))).append (.cons (Mono.up (s8.ex.trans s10.ex) hu) .nil)
        · have hq : qq ∈ F' := by simpa using hq
          exact ⟨S8, F', ws', us'', _, hle, rfl, w8, e6.trans (s7.ex.trans s8.ex), st6.trans (s7.trans s8), dn8, ⟨ks6, s8.kp d _ nd hd7, hks7.up s8.ex⟩, s8.fr l (ne_none (s7.kp l _ nl hl6)) (s7.fr l (ne_none hl6) ln6), s8.kp l _ nl (s7.kp l _ nl hl6), ha6.up (s7.ex.trans s8.ex), hwi.old hi hq⟩
      · rintro s'' S6 H6 ⟨F', ws', us'', y5', hle, rfl, w6, e6, st6, dn6, ⟨ks6, hd6, hks6⟩, ln6, hl6, ha6, hwi⟩
        exact ⟨_, S6, by rw [List.length_append, List.length_singleton]; omega, F', ws', us'', y5', rfl, by omega, rfl, w6, e4.trans (s5.ex.trans e6), st6, dn6, ⟨ks6, hd6, hks6⟩, ln6, hl6, ha6, hwi.all (Nat.le_refl _)⟩
end
end K63

namespace K63
open PySem PySem.Spec PyProof.Rows L2 Evl J RZ
section
variable {P : Program} {w : World} {K : PySem.W.Frag} {mg : Str → Option Value} {base : Heap}
/-! ### is_turnable -/
section
variable {r : Rs} {s : L2.St} {S : Hp} {α : Type}
theorem lc_pop {te te' : TE} {g : TG} {tt : TT} {tv : TE} {vs : List Nat} {H H1 : Hp} {Q : VK} (h : ∀ Q : VK, te' s H1 Q → te s H Q) (k : tLc (iU K te') g tt tv vs s H1 Q) : tLc (iU K te) g tt tv vs s H Q := by
  rcases k with (k | k) | k
  · exact .inl (.inl (h _ k))
  · exact .inl (.inr (h _ k))
  · exact .inr (h _ k)
theorem ev_lcP {te0 te : TE} {j : Nat} {vs : List Nat} {P : List α → Prop} {X : Rl α} [Mono X] (f : α → Bool) (h : EvS r te0 s S fun v S1 => ∃ ys, P ys ∧ LstR X ys v S1) (hP : ∀ ys, P ys → ys.length ≤ 100000) (hw : ∀ v, wipe ((wipe s vs).set j (some v)) vs = wipe s vs)
    (ht : ∀ ys y v S1, P ys → Ex S S1 → y ∈ ys → X y v S1 → EvV r te ((wipe s vs).set j (some v)) S1 (.bl (f y))) : EvS r (tLc (iU K te0) (gName j) tYes te vs) s S fun v S1 => ∃ ys, P ys ∧ LstR BoolR (ys.map f) v S1 := fun S1 H e w Q q =>
  .inl (.inl (h S1 H e w _ fun v S2 H2 w2 s2 ⟨ys, p, hl⟩ => by
    have hc : EvS r (tLc (iList K (tC v)) (gName j) tYes te vs) s S2 fun v S1 => LstR BoolR (ys.map f) v S1 := EvN.lst (X := BoolR) (en_lcn (X := X) f (ei_list0 ((vv_c (v := v)).imp fun u S3 e3 eu => by
      subst eu
      obtain ⟨a, us, e1, e2, e4⟩ := Mono.up (R := LstR X) e3 hl
      exact ⟨a, us, e1, SqL.of e2, e4⟩)) (hP ys p) hw fun y u S3 e3 hy hx => ht ys y u S3 p (e.trans (s2.ex.trans e3)) hy hx)
    exact hc S2 H2 (Ex.refl _) w2 Q fun u S3 H3 w3 s3 p3 => q u S3 H3 w3 (s2.trans s3) ⟨ys, p, p3⟩))
theorem ev_allP {ta : TE} {P : List α → Prop} {f : α → Bool} (h : EvS r ta s S fun v S1 => ∃ ys, P ys ∧ LstR BoolR (ys.map f) v S1) : EvS r (tCB (rAll K) (tCons ta tNil)) s S fun v _ => ∃ ys, P ys ∧ v = .bl (ys.all f) :=
  ev_cb (ea_one h) fun us S1 _ ⟨v, e1, ys, p, a, vs, e2, e3, e4⟩ H eH Q q => by
    subst e1
    subst e2
    rw [e4.bools] at e3
    exact rc_all (SqL.of e3) H eH Q (q _ ⟨ys, p, by rw [List.all_map]; rfl⟩)
end
def sp_is_turnable (K : PySem.W.Frag) (C : Addr) (T : List (Addr × Str)) : Sp := SpR (A := (Addr × Addr) × MachD × Nat) (fun a => (poolR a.1.1 a.1.2).tabs T) (fun a vs S _ => ∃ v, vs = [v] ∧ MachR K C a.2.2 a.2.1 v S) (fun a v _ _ => ∃ b : Bool, v = .bl b ∧ (b = true ↔ ∀ c, c < a.2.2 → ∀ p, ReachP a.2.1 c p → goodP a.2.1 c p = true))
theorem G_is_turnable (T : TX P w K mg) (TB : ∀ y ∈ lamC T, LamX.TabB base mg y.1 y.2) : FnG P w K mg base 5 T.f_is_turnable T.fd_is_turnable ["machine"] (sp_is_turnable K T.C_Machine (lamT T)) := by
  refine ok_G T.F_is_turnable sc_is_turnable (fun vs H Q E h => ?_) (fun cdv A outer s H vs Q E g hr h => ?_)
  · obtain ⟨a, S, ⟨v, rfl, _⟩, _⟩ := h
    rfl
  · obtain ⟨⟨⟨p, cc⟩, m, wn⟩, S, ⟨v, rfl, hv⟩, w0, q⟩ := h
    dsimp only at hv w0 q
    refine ⟨_, (pss_cons (ps_for PassesOwn.never (by rfl) (pi_K (K := K) (pe_prop (pv 0) T.cl_Machine T.p_Machine_letters (G_Machine_letters T) (hr.mono (by decide)) T.b_Machine_letters .nil pass0 rfl)) (pg_name (i := 1) sc_is_turnable.nd rfl (Or.inr rfl)) (pss_one (ps_if (pt_not (pt_val (pe_callB (call_allK (K := K)) (by rfl) T.z_all (by decide +kernel) (pa_cons (pe_lc (own := [("pair", 2)]) (by rfl) sc_is_turnable.nd (pi_K (K := K) (pe_callG (G_pairs_of T TB) g (hr.mono (by decide)) (by rfl) T.g_pairs_of T.F_pairs_of.kp T.b_pairs_of .nil (pa_cons (pv 0) (pa_cons (pv 1) pa_nil)))) (blkOk_by (own := [("pair", 2)]) (N := N_is_turnable) (sc := (defScope s_is_turnable)) (by decide +kernel)) (fun _ _ _ _ _ => (pg_name (i := 2) sc_is_turnable.nd rfl (Or.inl rfl))) (fun _ _ _ _ _ => pts_nil) (fun _ _ _ _ _ => (pe_call (G_is_good T) (hr.mono (by decide)) (by rfl) T.g_is_good T.F_is_good.kp T.b_is_good .nil pass0 (pa_cons (pv 0) (pa_cons (pv 1) (pa_cons (pv 2) pa_nil)))))) pa_nil)))) (pss_one (ps_ret pe_bl)) pss_nil)))
      (pss_one (ps_ret pe_bl))), ?_⟩
    obtain ⟨_, _, _, _, _, _, _, ok⟩ := id hv
    have w3 := ok.steps.w3
    have hlet := letters_cps wn (by omega)
    refine sq_for (ei_str (vv_mlet rfl hv)) w0 fun S1 H1 w1 s1 => ?_
    refine ⟨fun i s' S' H' => Wd ((poolR p cc).tabs (lamT T)) S' H' ∧ Ex S1 S' ∧ Stp ((poolR p cc).tabs (lamT T)) S H S' H' ∧ (∀ c, c < i → ∀ q, ReachP m c q → goodP m c q = true) ∧ ∃ y1 y2, s' = [some v, y1, y2], ⟨w1, Ex.refl _, s1, (fun c hc => absurd hc (Nat.not_lt_zero c)), none, none, rfl⟩, fun i s' S' H' p => ⟨p.1, p.2.1⟩, ?_, ?_⟩
    · rintro i y u s' S2 H2 S3 H3 hi ⟨w2, e2, s2, hg, y1, y2, rfl⟩ w3 s3 hu
      rw [hlet] at hi
      obtain ⟨hi1, hi2⟩ := List.getElem?_eq_some_iff.mp hi
      rw [List.length_map, List.length_range] at hi1
      rw [List.getElem_map, List.getElem_range] at hi2
      subst hi2
      obtain rfl : u = .str (wS [i]) := hu
      have hv3 := Mono.up (s1.ex.trans (e2.trans s3.ex)) hv
      have hall : ∀ b : Bool, (b = true ↔ ∀ q, ReachP m i q → goodP m i q = true) → EvV ((poolR p cc).tabs (lamT T)) (tCB (rAll K) (tCons (tLc (iU K (tCall (sp_pairs_of K T.C_Machine (lamT T)) [] E0 (tCons (tVar 0) (tCons (tVar 1) tNil)))) (gName 2) tYes (tCall (sp_is_good K T.C_Machine) [] E0 (tCons (tVar 0) (tCons (tVar 1) (tCons (tVar 2) tNil)))) [2]) tNil)) [some v, some (.str (wS [i])), y2] S3 (.bl b) := fun b hb => by
        have h1 : EvS ((poolR p cc).tabs (lamT T)) (tCall (sp_pairs_of K T.C_Machine (lamT T)) [] E0 (tCons (tVar 0) (tCons (tVar 1) tNil))) [some v, some (.str (wS [i])), y2] S3 fun v S1 => ∃ ys, (ys.length ≤ 60 ∧ ∀ q, q ∈ ys ↔ ReachP m i q) ∧ LstR (P2 K) ys v S1 := ev_callR ((p, cc), m, wn, i) rfl (va_cons (vv_var rfl) (va_cons (vv_var rfl) va_nil)) (fun S4 H4 e4 _ => ⟨v, rfl, Mono.up e4 hv3, hi1⟩) fun v4 S4 H4 e4 _ ⟨F, nd, hF, hl⟩ => ⟨sortA dPair F, ⟨by rw [sortA_perm.length_eq]; exact pairs_few ok nd fun q hq => reach_in ok hi1 ((hF q).mp hq), fun q => sortA_mem.trans (hF q)⟩, hl⟩
        have h2 : ∀ (ys : List (Int × Int)) (y : Int × Int) (u : V) (S4 : Hp), (ys.length ≤ 60 ∧ ∀ q, q ∈ ys ↔ ReachP m i q) → Ex S3 S4 → y ∈ ys → P2 K y u S4 → EvV ((poolR p cc).tabs (lamT T)) (tCall (sp_is_good K T.C_Machine) [] E0 (tCons (tVar 0) (tCons (tVar 1) (tCons (tVar 2) tNil)))) ((wipe [some v, some (.str (wS [i])), y2] [2]).set 2 (some u)) S4 (.bl (goodP m i y)) := fun ys y u S4 hys e4 hy hu => vv_call (m, wn, i, y) (va_cons (vv_var rfl) (va_cons (vv_var rfl) (va_cons (vv_var rfl) va_nil))) (fun S5 e5 => ⟨v, u, rfl, Mono.up (e4.trans e5) hv3, hi1, Mono.up e5 hu, reach_in ok hi1 ((hys.2 y).mp hy)⟩) fun v _ _ h => h
        have h3 := ev_allP (K := K) (ev_lcP (K := K) (X := P2 K) (goodP m i) h1 (fun ys h => Nat.le_trans h.1 (by decide)) (fun _ => rfl) h2)
        refine h3.imp fun v5 S5 _ ⟨ys, hys, e5⟩ => ?_
        rw [e5]
        congr 1
        rw [Bool.eq_iff_iff, hb, List.all_eq_true]
        exact ⟨fun h q hq => h q ((hys.2 q).mpr hq), fun h q hq => h q ((hys.2 q).mp hq)⟩
      by_cases hb : ∀ q, ReachP m i q → goodP m i q = true
      · refine st_if (b := false) (tb_not (a := true) (tb_B (hall true ⟨fun _ => hb, fun _ => rfl⟩))) w3 (fun z => nomatch z) fun _ S4 H4 w4 s4 => ⟨S4, w4, e2.trans (s3.ex.trans s4.ex), s2.trans (s3.trans s4), fun c hc => ?_, _, _, rfl⟩
        rcases Nat.lt_succ_iff_lt_or_eq.mp hc with hc | rfl
        · exact hg c hc
        · exact hb
      · refine st_if (b := true) (tb_not (a := false) (tb_B (hall false ⟨fun z => (nomatch z), fun z => absurd z hb⟩))) w3 (fun _ S4 H4 w4 s4 => ?_) fun z => nomatch z
        exact st_ret (R := fun v _ => v = .bl false) vv_c w4 fun v S5 H5 w5 s5 p5 => q v S5 H5 w5 (s2.trans (s3.trans (s4.trans s5))) ⟨false, p5, fun z => (nomatch z), fun z => absurd (z i hi1) hb⟩
    · rintro s' S3 H3 ⟨w3, e3, s3, hg, y1, y2, rfl⟩
      rw [hlet, List.length_map, List.length_range] at hg
      exact st_ret (R := fun v _ => v = .bl true) vv_c w3 fun v S4 H4 w4 s4 p => q v S4 H4 w4 (s3.trans s4) ⟨true, p, fun _ => hg, fun _ => rfl⟩
end
end K63

namespace K63
open PySem PySem.Spec PyProof.Rows L2 Evl J RZ
section
variable {P : Program} {w : World} {K : PySem.W.Frag} {mg : Str → Option Value} {base : Heap}
/-! ### machines drawn, out of a pool -/
def sp_pickP (K : PySem.W.Frag) : Sp := SpR (A := (Addr × Addr) × Addr × List V) (fun a => poolR a.1.1 a.1.2) (fun a vs S _ => vs = [.ref a.1.1, .ref a.2.1] ∧ S a.2.1 = some (.lst a.2.2) ∧ 1 ≤ a.2.2.length ∧ a.2.2.length ≤ 100000) (fun a v _ _ => v ∈ a.2.2)
theorem G_L_pick (T : TX P w K mg) : FnOk P w K mg base CX0 3 T.f_L_pick T.fd_L_pick ["_law_pool", "_law_some"] (sp_pickP K) := by
  refine T.F_L_pick.ok sc_L_pick (fun vs H Q E h => ?_) (fun cdv A outer s H vs Q E hr h => ?_)
  · obtain ⟨a, S, ⟨rfl, _⟩, _⟩ := h
    rfl
  · obtain ⟨⟨⟨p, c⟩, l, xs⟩, S, ⟨rfl, hx, h1, h2⟩, w0, q⟩ := h
    dsimp only at w0 q hx h1 h2
    refine ⟨_, (pss_one (ps_ret (pe_ix (ix_K (K := K)) (pv 1) (pe_call (G_L_draw T) (hr.mono (by decide)) (by rfl) T.g_L_draw T.F_L_draw.kp T.b_L_draw .nil pass0 (pa_cons (pv 0) (pa_cons (pe_callB (call_lenK (K := K)) (by rfl) T.z_len (by decide +kernel) (pa_cons (pv 1) pa_nil)) pa_nil))) (fun _ _ => rfl)))), ?_⟩
    refine st_ret (R := fun v _ => v ∈ xs) (ev_op2 (A := fun v _ => v = .ref l) (vv_var rfl) (fun _ S1 e _ => ev_draw (n := (xs.length : Int)) (va_cons (vv_var rfl) (va_cons (vv_cb (va_cons (vv_var rfl) va_nil) (rc_lenL (SqL.of (e _ _ hx)))) va_nil)) (by omega) (by
      have : (100000 : Int) < 10 ^ 40 := by decide +kernel
      omega)) fun x y S1 S2 e1 ex e2 ⟨i, ey, hi0, hi1⟩ => ?_) w0 fun v S1 H1 w1 s1 h => q v S1 H1 w1 s1 h
    subst ex
    subst ey
    obtain ⟨j, rfl⟩ : ∃ j : Nat, i = (j : Int) := ⟨i.toNat, by omega⟩
    have hj : j < xs.length := by omega
    exact ⟨xs[j], rs_ixL' (SqL.of (e2 _ _ (e1 _ _ hx))) (atI_nat (List.getElem?_eq_getElem hj)), List.getElem_mem hj⟩
/-- pick(pool, a list told by a relation) -/
theorem ev_pickP {α : Type} {R : Rl α} [Mono R] {p c : Addr} {s : L2.St} {S : Hp} {ta tl : TE} {xs : List α} (h : EvV (poolR p c) ta s S (.ref p)) (hl : EvS (poolR p c) tl s S fun v S1 => LstR R xs v S1) (h1 : 1 ≤ xs.length ∧ xs.length ≤ 100000) : EvS (poolR p c) (tCall (sp_pickP K) [] E0 (tCons ta (tCons tl tNil))) s S fun v S1 => ∃ x, x ∈ xs ∧ R x v S1 := fun S1 H e w Q q =>
  h S1 H e w _ fun v S2 H2 w2 s2 ev => hl S2 H2 (e.trans s2.ex) w2 _ fun v' S3 H3 w3 s3 ⟨l, vs, ev', hv, ha⟩ => by
    subst ev
    subst ev'
    have hlen := ha.len
    refine ⟨((p, c), l, vs), S3, ⟨rfl, hv, by dsimp only; omega, by dsimp only; omega⟩, w3, fun v S4 H4 w4 s4 h4 => q v S4 H4 w4 (s2.trans (s3.trans s4)) ?_⟩
    obtain ⟨j, hj⟩ := List.mem_iff_getElem?.mp (show v ∈ vs from h4)
    obtain ⟨x, g1, g2⟩ := (ha.up s4.ex).get hj
    exact ⟨x, List.mem_of_getElem? g1, g2⟩
/-- the machine as the law keeps it: its table, its answers, its start -/
def RawR : Rl MachD := fun m v S => ∃ x a b, v = .ref x ∧ S x = some (.lst [.ref a, .ref b, .int m.st]) ∧ LstR (LstR IntR) m.rows (.ref a) S ∧ LstR IntR m.ans (.ref b) S
instance : Mono RawR := ⟨fun e ⟨x, a, b, h1, h2, h3, h4⟩ => ⟨x, a, b, h1, e _ _ h2, Mono.up e h3, Mono.up e h4⟩⟩
structure DrM (m : MachD) (w : Nat) : Prop where
  ok : MOk m w
  low : ∀ a ∈ m.ans, a ≤ 9
theorem ev_drawM {p c : Addr} {s : L2.St} {S : Hp} {t : TA} {n : Int} (h : EvAV (poolR p c) t s S [.ref p, .int n]) (h1 : 1 ≤ n) (h2 : n < 10 ^ 40) : EvS (poolR p c) (tOp (rAddU K) (tC (.int 1)) (tCall sp_draw [] E0 t)) s S fun v _ => ∃ i, v = .int i ∧ 1 ≤ i ∧ i ≤ n :=
  ev_op2 vv_c (fun _ S e _ => ev_draw (EvAS.mono' e h) h1 h2) fun x y S S' _ hx _ ⟨i, hy, h1, h2⟩ => by
    subst hx
    subst hy
    exact ⟨_, rs_add, _, rfl, by omega, by omega⟩
theorem big40 {i : Int} (h : i ≤ 100000) : i < 10 ^ 40 := by
  have : (100000 : Int) < 10 ^ 40 := by decide +kernel
  omega
theorem ev_drawB {p c : Addr} {s : L2.St} {S : Hp} {t : TA} {n : Int} (h : EvAV (poolR p c) t s S [.ref p, .int n]) (h1 : 1 ≤ n) (h2 : n ≤ 100000) : EvS (poolR p c) (tCall sp_draw [] E0 t) s S fun v S1 => ∃ i : Int, (0 ≤ i ∧ i < n) ∧ IntR i v S1 :=
  (ev_draw h h1 (big40 h2)).imp fun u S3 _ ⟨i, h1, h2, h3⟩ => ⟨i, ⟨h2, h3⟩, h1⟩
def sp_draw_machine : Sp := SpR (A := (Addr × Addr) × Nat × Nat) (fun a => poolR a.1.1 a.1.2) (fun a vs _ _ => vs = [.ref a.1.1, .int (a.2.1 : Int), .int (a.2.2 : Int)] ∧ (1 ≤ a.2.1 ∧ a.2.1 ≤ 6) ∧ 1 ≤ a.2.2 ∧ a.2.2 ≤ 3) (fun _ v S _ => ∃ m w, RawR m v S ∧ DrM m w)
theorem G_L_draw_machine (T : TX P w K mg) : FnOk P w K mg base CX0 3 T.f_L_draw_machine T.fd_L_draw_machine ["_law_pool", "_law_most_states", "_law_most_letters"] sp_draw_machine := by
  refine T.F_L_draw_machine.ok sc_L_draw_machine (fun vs H Q E h => ?_) (fun cdv A outer s H vs Q E hr h => ?_)
  · obtain ⟨i, S, ⟨rfl, _⟩, _⟩ := h
    rfl
  · obtain ⟨⟨⟨p, c⟩, N, L⟩, S, ⟨rfl, ⟨hN1, hN6⟩, hL1, hL3⟩, w0, q⟩ := h
    dsimp only at hN1 hN6 hL1 hL3 w0 q
    refine ⟨_, (pss_cons (ps_asg (pe_tup (pa_cons (pe_op (op_addK (K := K)) pe_int (pe_call (G_L_draw T) (hr.mono (by decide)) (by rfl) T.g_L_draw T.F_L_draw.kp T.b_L_draw .nil pass0 (pa_cons (pv 0) (pa_cons (pv 1) pa_nil)))) (pa_cons (pe_op (op_addK (K := K)) pe_int (pe_call (G_L_draw T) (hr.mono (by decide)) (by rfl) T.g_L_draw T.F_L_draw.kp T.b_L_draw .nil pass0 (pa_cons (pv 0) (pa_cons (pv 2) pa_nil)))) pa_nil))) (pg_tupK (K := K) (n := 2) (by rfl) (pgs_cons (pg_name (i := 3) sc_L_draw_machine.nd rfl (Or.inr rfl)) (pgs_cons (pg_name (i := 4) sc_L_draw_machine.nd rfl (Or.inr rfl)) pgs_nil))))
      (pss_cons (ps_setLc (i := 5) (own := [("_law_at", 6)]) (by rfl) sc_L_draw_machine.nd rfl rfl (sw_true rfl rfl rfl (by decide +kernel)) (pi_range1 (by rfl) T.z_range (pa_cons (pv 3) pa_nil)) (blkOk_by (own := [("_law_at", 6)]) (N := N_L_draw_machine) (sc := (defScope s_L_draw_machine)) (by decide +kernel)) (fun _ _ _ _ _ => (pg_name (i := 6) sc_L_draw_machine.nd rfl (Or.inl rfl))) (fun _ _ _ _ _ => pts_nil) (fun _ _ _ _ _ => (pe_lc (own := [("_law_k", 7)]) (by rfl) sc_L_draw_machine.nd (pi_range1 (by rfl) T.z_range (pa_cons (pv 4) pa_nil)) (blkOk_by (own := [("_law_k", 7)]) (N := N_L_draw_machine) (sc := (relS _ (defScope s_L_draw_machine))) (by decide +kernel)) (fun _ _ _ _ _ => (pg_name (i := 7) sc_L_draw_machine.nd rfl (Or.inl rfl))) (fun _ _ _ _ _ => pts_nil) (fun _ _ _ _ _ => (pe_call (G_L_draw T) (hr.mono (by decide)) (by rfl) T.g_L_draw T.F_L_draw.kp T.b_L_draw .nil pass0 (pa_cons (pv 0) (pa_cons (pv 3) pa_nil)))))))
      (pss_one (ps_ret (pe_lst (pa_cons (pv 5) (pa_cons (pe_lc (own := [("_law_at", 6)]) (by rfl) sc_L_draw_machine.nd (pi_range1 (by rfl) T.z_range (pa_cons (pv 3) pa_nil)) (blkOk_by (own := [("_law_at", 6)]) (N := N_L_draw_machine) (sc := (defScope s_L_draw_machine)) (by decide +kernel)) (fun _ _ _ _ _ => (pg_name (i := 6) sc_L_draw_machine.nd rfl (Or.inl rfl))) (fun _ _ _ _ _ => pts_nil) (fun _ _ _ _ _ => (pe_call (G_L_draw T) (hr.mono (by decide)) (by rfl) T.g_L_draw T.F_L_draw.kp T.b_L_draw .nil pass0 (pa_cons (pv 0) (pa_cons pe_int pa_nil))))) (pa_cons (pe_call (G_L_draw T) (hr.mono (by decide)) (by rfl) T.g_L_draw T.F_L_draw.kp T.b_L_draw .nil pass0 (pa_cons (pv 0) (pa_cons (pv 3) pa_nil))) pa_nil)))))))), ?_⟩
    refine sq_tup2 rfl (A := fun v _ => ∃ i, v = .int i ∧ 1 ≤ i ∧ i ≤ (N : Int)) (B := fun v _ => ∃ i, v = .int i ∧ 1 ≤ i ∧ i ≤ (L : Int)) (ev_drawM (n := (N : Int)) (va_cons (vv_var rfl) (va_cons (vv_var rfl) va_nil)) (by omega) (big40 (by omega))) (fun S e => ev_drawM (n := (L : Int)) (va_cons (vv_var rfl) (va_cons (vv_var rfl) va_nil)) (by omega) (big40 (by omega))) (fun _ _ _ _ h => h) w0 fun v3 v4 S1 H1 w1 s1 ⟨n, e3, n1, n2⟩ ⟨k, e4, k1, k2⟩ => ?_
    subst e3
    subst e4
    refine sq_asg (R := fun v S => ∃ rows : List (List Int), rows.length = n.toNat ∧ (∀ row, row ∈ rows → row.length = k.toNat ∧ ∀ q, q ∈ row → 0 ≤ q ∧ q < n) ∧ LstR (LstR IntR) rows v S) ((ev_lcx (R := LstR IntR) (fun row => row.length = k.toNat ∧ ∀ q, q ∈ row → 0 ≤ q ∧ q < n) (ei_range1 (n := n) (va_cons (vv_var rfl) va_nil) (by omega)) (by rw [List.length_range]; omega) (by intro _; rfl) fun y v S2 e m hy => (ev_lcx (R := IntR) (fun q => 0 ≤ q ∧ q < n) (ei_range1 (n := k) (va_cons (vv_var rfl) va_nil) (by omega)) (by rw [List.length_range]; omega) (by intro _; rfl) fun y' v' S3 e' m' hy' => ev_drawB (va_cons (vv_var rfl) (va_cons (vv_var rfl) va_nil)) n1 (by omega)).imp fun u S3 _ ⟨zs, h1, h2, h3⟩ => ⟨zs, ⟨by rw [h1, List.length_range], h2⟩, h3⟩).imp fun u S3 _ ⟨zs, h1, h2, h3⟩ => ⟨zs, by rw [h1, List.length_range], h2, h3⟩) w1 fun v5 S2 H2 w2 s2 ⟨rows, r1, r2, r3⟩ => ?_
    obtain ⟨a, ra, e5, g1, g2⟩ := id r3
    subst e5
    refine st_ret (R := fun v S => ∃ m w, RawR m v S ∧ DrM m w) (EvN.stable (en_lst (P := fun us S1 => ∃ (b : Addr) (ans : List Int) (i : Int), us = [.ref a, .ref b, .int i] ∧ ans.length = n.toNat ∧ (∀ x, x ∈ ans → 0 ≤ x ∧ x < 3) ∧ LstR IntR ans (.ref b) S1 ∧ (0 ≤ i ∧ i < n) ∧ LstR (LstR IntR) rows (.ref a) S1) (J.ea_cons (R := fun v _ => v = .ref a) (vv_var rfl) fun x1 S3 e3 h3 => J.ea_cons (ev_lcx (R := IntR) (fun q => 0 ≤ q ∧ q < 3) (ei_range1 (n := n) (va_cons (vv_var rfl) va_nil) (by omega)) (by rw [List.length_range]; omega) (by intro _; rfl) fun y' v' S4 e' m' hy' => ev_drawB (va_cons (vv_var rfl) (va_cons vv_c va_nil)) (by decide) (by decide)) fun x2 S4 e4 ⟨ans, a1, a2, a3⟩ => J.ea_cons (ev_drawB (va_cons (vv_var rfl) (va_cons (vv_var rfl) va_nil)) n1 (by omega)) fun x3 S5 e5 ⟨i, i1, i2⟩ => J.ea_nil.imp' fun us S6 e6 eu => ?_) fun us S3 ⟨_, _, _, eu, _⟩ => ?_) fun x o S3 e3 n3 ⟨us, eo, b, ans, i, eu, a1, a2, a3, i1, a4⟩ => ?_) w2 fun v S3 H3 w3 s3 h => q v S3 H3 w3 (s1.trans (s2.trans s3)) h
    · subst h3
      obtain ⟨b, vb, rfl, b1, b2⟩ := id a3
      obtain rfl : x3 = .int i := i2
      subst eu
      exact ⟨b, ans, i, rfl, by rw [a1, List.length_range], a2, Mono.up (e5.trans e6) a3, i1, Mono.up (e3.trans (e4.trans (e5.trans e6))) r3⟩
    · rw [eu]
      show 3 ≤ 100000
      decide
    · subst eo
      subst eu
      have up := Ex.new n3 (o := .lst [.ref a, .ref b, .int i])
      have hn : (n.toNat : Int) = n := by omega
      refine ⟨⟨rows, ans, i⟩, k.toNat, ⟨x, a, b, rfl, upd_same, Mono.up up a4, Mono.up up a3⟩, ⟨⟨by dsimp only; omega, by dsimp only; omega, by omega, by omega, fun row hrow => ⟨(r2 row hrow).1, fun q hq => ?_⟩⟩, ⟨by dsimp only; omega, fun x hx => ?_⟩, i1.1, ?_⟩, fun x hx => ?_⟩
      · have := (r2 row hrow).2 q hq
        dsimp only
        omega
      · have := a2 x hx
        omega
      · dsimp only
        omega
      · have := a2 x hx
        omega
section
variable {r : Rs} {s : L2.St} {S : Hp} {ts tk : TA} {ta tb te : TE} {C : Addr} {m : MachD} {w : Nat} {v : V} {E : XK}
theorem ev_mkM {dvs us : List V} {vs va : V} (h : EvAV r ts s S us) (he : us ++ dvs = [vs, va, .int m.st]) (h1 : SeqR K (SeqR K IntR) m.rows vs S) (h2 : SeqR K IntR m.ans va S) (ok : MOk m w) : EvS r (tMake C (sp_Machine_init K C) dvs E ts) s S fun v S1 => MachR K C w m v S1 :=
  EvN.stable (R' := fun v S1 => MachR K C w m v S1) (en_make (P := fun us' _ => us' = us) (R := fun o S1 => ∃ dx s a, o = .ins C dx (mcF s a m.st) ∧ MachAt K m s a S1) h fun us' S1 e1 eu => ⟨(m, w), ⟨vs, va, by rw [eu]; exact he, Mono.up e1 h1, Mono.up e1 h2, ok⟩, fun dx fs S2 _ ⟨s, t, ef, ha⟩ => ⟨dx, s, t, by rw [ef], ha⟩⟩) fun p o S1 _ n0 ⟨dx, s, t, eo, ha⟩ => ⟨p, dx, s, t, rfl, by rw [eo]; exact upd_same, ⟨Mono.up (Ex.new n0) ha.1, Mono.up (Ex.new n0) ha.2⟩, ok⟩
theorem all_in {xs : List (List Int)} {us : List V} {S : Hp} (h : All2 (LstR IntR) S xs us) : All2 (SeqR K IntR) S xs us := by
  induction h with
  | nil => exact .nil
  | cons h _ ih => exact .cons (.inl h) ih
theorem all_inT {xs : List (List Int)} {us : List V} {S : Hp} (h : All2 (TupR K IntR) S xs us) : All2 (SeqR K IntR) S xs us := by
  induction h with
  | nil => exact .nil
  | cons h _ ih => exact .cons (.inr h) ih
theorem rowsL {xs : List (List Int)} {v : V} {S : Hp} (h : LstR (LstR IntR) xs v S) : SeqR K (SeqR K IntR) xs v S := by
  obtain ⟨a, us, rfl, h1, h2⟩ := h
  exact .inl ⟨a, us, rfl, h1, all_in h2⟩
theorem rowsT {xs : List (List Int)} {v : V} {S : Hp} (h : TupR K (TupR K IntR) xs v S) : SeqR K (SeqR K IntR) xs v S := by
  obtain ⟨a, us, rfl, h1, h2⟩ := h
  exact .inr ⟨a, us, rfl, h1, all_inT h2⟩
/-- m[0], m[1], m[2] -/
theorem raw_f {i : Nat} (h : s[i]? = some (some v)) (hr : RawR m v S) : (EvS r (tOp (rIx K) (tVar i) (tC (.int 0))) s S fun v S1 => LstR (LstR IntR) m.rows v S1) ∧ (EvS r (tOp (rIx K) (tVar i) (tC (.int 1))) s S fun v S1 => LstR IntR m.ans v S1) ∧ EvV r (tOp (rIx K) (tVar i) (tC (.int 2))) s S (.int m.st) := by
  obtain ⟨x, a, b, rfl, hx, h1, h2⟩ := hr
  exact ⟨(vv_ix0 h hx rfl).imp fun u S1 e eu => by rw [show u = _ from eu]; exact Mono.up e h1, (vv_ix1 h hx rfl).imp fun u S1 e eu => by rw [show u = _ from eu]; exact Mono.up e h2, vv_ix2 h hx rfl⟩
end
def sp_make_machine (K : PySem.W.Frag) (C : Addr) : Sp := SpP (A := MachD × Nat) (fun a vs S => ∃ v, vs = [v] ∧ RawR a.1 v S ∧ MOk a.1 a.2) (fun a v S => MachR K C a.2 a.1 v S)
theorem G_L_make_machine (T : TX P w K mg) : FnOk P w K mg base CX0 6 T.f_L_make_machine T.fd_L_make_machine ["_law_m"] (sp_make_machine K T.C_Machine) := by
  refine T.F_L_make_machine.ok sc_L_make_machine (fun vs H Q E h => ?_) (fun cdv A outer s H vs Q E hr h => ?_)
  · obtain ⟨a, S, ⟨v, rfl, _⟩, _⟩ := h
    rfl
  · obtain ⟨⟨m, w⟩, S, ⟨v, rfl, hv, ok⟩, w0, q⟩ := h.body
    refine ⟨_, (pss_one (ps_ret (pe_make T.mk_Machine (G_Machine_init T) (hr.mono (by decide)) (by rfl) T.g_Machine T.b3_Machine_init.choose_spec.2 T.b3_Machine_init.choose_spec.1 pass0 (pa_cons (pe_ix (ix_K (K := K)) (pv 0) pe_int (fun _ _ => rfl)) (pa_cons (pe_ix (ix_K (K := K)) (pv 0) pe_int (fun _ _ => rfl)) (pa_cons (pe_ix (ix_K (K := K)) (pv 0) pe_int (fun _ _ => rfl)) pa_nil)))))), ?_⟩
    dsimp only at hv ok q
    obtain ⟨x, a, b, rfl, hx, h1, h2⟩ := id hv
    exact st_ret (ev_mkM (m := m) (w := w) (va_cons (vv_ix0 rfl hx rfl) (va_cons (vv_ix1 rfl hx rfl) (va_cons (vv_ix2 rfl hx rfl) va_nil))) rfl (rowsL h1) (.inl h2) ok) w0 fun v S1 H1 w1 s1 p => q v S1 H1 w1 s1 p
/-! ### the law's own walk -/
def sp_go : Sp := SpP (A := MachD × Nat × List Nat × Int) (fun a vs S => ∃ v, vs = [v, .str (wS a.2.2.1), .int a.2.2.2] ∧ RawR a.1 v S ∧ MOk a.1 a.2.1 ∧ (∀ i ∈ a.2.2.1, i < a.2.1) ∧ 0 ≤ a.2.2.2 ∧ a.2.2.2 < (a.1.rows.length : Int)) (fun a v _ => v = .int (goM a.1.rows a.2.2.2 a.2.2.1))
section
variable {r : Rs} {s : L2.St} {S : Hp} {ts tk : TA} {ta tb te : TE} {m : MachD} {w : Nat} {v : V}
theorem vv_go {l : List Nat} {st : Int} (h : EvAV r ts s S [v, .str (wS l), .int st]) (hr : RawR m v S) (ok : MOk m w) (hl : ∀ i ∈ l, i < w) (h0 : 0 ≤ st) (h1 : st < (m.rows.length : Int)) : EvV r (tCall sp_go [] E0 ts) s S (.int (goM m.rows st l)) :=
  vv_call (m, w, l, st) h (fun S1 e => ⟨v, rfl, Mono.up e hr, ok, hl, h0, h1⟩) fun v _ _ p => p
end
def sp_says : Sp := SpP (A := MachD × Nat × List Nat) (fun a vs S => ∃ v, vs = [v, .str (wS a.2.2)] ∧ RawR a.1 v S ∧ MOk a.1 a.2.1 ∧ (∀ i ∈ a.2.2, i < a.2.1)) (fun a v _ => v = .int (a.1.ans.getD (goM a.1.rows a.1.st a.2.2).toNat 0))
def sp_letters : Sp := SpP (A := MachD × Nat) (fun a vs S => ∃ v, vs = [v] ∧ RawR a.1 v S ∧ StOk a.1.rows a.2) (fun a v _ => v = .str (lettersS a.2))
def sp_draw_word : Sp := SpR (A := (Addr × Addr) × Nat × Nat) (fun a => poolR a.1.1 a.1.2) (fun a vs _ _ => vs = [.ref a.1.1, .str (lettersS a.2.1), .int (a.2.2 : Int)] ∧ (1 ≤ a.2.1 ∧ a.2.1 ≤ 3) ∧ a.2.2 ≤ 100) (fun a v _ _ => ∃ l, v = .str (wS l) ∧ l.length ≤ a.2.2 ∧ ∀ i, i ∈ l → i < a.2.1)
end
end K63

namespace K63
open PySem PySem.Spec PyProof.Rows L2 Evl J RZ
section
variable {P : Program} {w : World} {K : PySem.W.Frag} {mg : Str → Option Value} {base : Heap}
/-! ### the other machines of the law: written ones, counters, sums -/
def litA : List Int → TA
  | [] => tNil
  | n :: r => tCons (tC (.int n)) (litA r)
def litR : List (List Int) → TA
  | [] => tNil
  | row :: r => tCons (tLst (litA row)) (litR r)
section
variable {r : Rs} {s : L2.St} {S : Hp} {ta tb tc : TE}
theorem va_lit : ∀ (ns : List Int), EvAV r (litA ns) s S (ns.map V.int)
  | [] => va_nil
  | _ :: ns => va_cons vv_c (va_lit ns)
theorem ev_lit (ns : List Int) (h : ns.length ≤ 100000) : EvS r (tLst (litA ns)) s S fun v S1 => LstR IntR ns v S1 :=
  EvN.stable (en_lst (P := fun us _ => us = ns.map V.int) (va_lit ns) fun us S1 e => by
    rw [e, List.length_map]
    exact h) fun q o S1 _ n ⟨us, eo, eu⟩ => ⟨q, ns.map V.int, rfl, by rw [eo, eu]; exact upd_same, All2.of_ints _⟩
theorem ea_lits : ∀ (rows : List (List Int)) (S : Hp), (∀ row ∈ rows, row.length ≤ 100000) → EvAS r (litR rows) s S fun us S1 => All2 (LstR IntR) S1 rows us
  | [], _, _ => J.ea_nil.imp' fun us S1 _ eu => by
      rw [eu]
      exact .nil
  | row :: rows, S, h => J.ea_cons (ev_lit row (h row (.head _))) fun x S1 e h1 => (ea_lits rows S1 fun q hq => h q (.tail _ hq)).imp' fun us S2 e2 h2 => .cons (Mono.up e2 h1) h2
theorem ev_lits (rows : List (List Int)) (h : rows.length ≤ 1000 ∧ ∀ row ∈ rows, row.length ≤ 100000) : EvS r (tLst (litR rows)) s S fun v S1 => LstR (LstR IntR) rows v S1 :=
  EvN.stable (en_lst (P := fun us S1 => All2 (LstR IntR) S1 rows us) (ea_lits rows S h.2) fun us S1 e => by
    rw [e.len]
    omega) fun q o S1 _ n ⟨us, eo, eu⟩ => ⟨q, us, rfl, by rw [eo]; exact upd_same, eu.up (Ex.new n)⟩
theorem ev_rawG {rows : List (List Int)} {A : List Int → Prop} {B : Int → Prop} (h1 : EvS r ta s S fun v S1 => LstR (LstR IntR) rows v S1) (h2 : ∀ S1, Ex S S1 → EvS r tb s S1 fun v S2 => ∃ ans, A ans ∧ LstR IntR ans v S2) (h3 : ∀ S1, Ex S S1 → EvS r tc s S1 fun v _ => ∃ i, B i ∧ v = .int i) : EvS r (tLst (tCons ta (tCons tb (tCons tc tNil)))) s S fun v S1 => ∃ ans i, A ans ∧ B i ∧ RawR ⟨rows, ans, i⟩ v S1 :=
  EvN.stable (en_lst (P := fun us S1 => ∃ (a b : Addr) (ans : List Int) (i : Int), us = [.ref a, .ref b, .int i] ∧ A ans ∧ B i ∧ LstR (LstR IntR) rows (.ref a) S1 ∧ LstR IntR ans (.ref b) S1) (J.ea_cons h1 fun x1 S3 e3 g1 => J.ea_cons (h2 S3 e3) fun x2 S4 e4 ⟨ans, a1, a2⟩ => J.ea_cons (h3 S4 (e3.trans e4)) fun x3 S5 e5 ⟨i, b1, b2⟩ => J.ea_nil.imp' fun us S6 e6 eu => by
    obtain ⟨a, va, rfl, g2⟩ := id g1
    obtain ⟨b, vb, rfl, g3⟩ := id a2
    subst b2
    subst eu
    exact ⟨a, b, ans, i, rfl, a1, b1, Mono.up (e4.trans (e5.trans e6)) g1, Mono.up (e5.trans e6) a2⟩) fun us S1 ⟨_, _, _, _, eu, _⟩ => by
      rw [eu]
      show 3 ≤ 100000
      decide) fun x o S1 _ n ⟨us, eo, a, b, ans, i, eu, h1, h2, h3, h4⟩ => by
    subst eo
    subst eu
    exact ⟨ans, i, h1, h2, x, a, b, rfl, upd_same, Mono.up (Ex.new n) h3, Mono.up (Ex.new n) h4⟩
theorem ev_rawV {m : MachD} (h1 : EvS r ta s S fun v S1 => LstR (LstR IntR) m.rows v S1) (h2 : ∀ S1, Ex S S1 → EvS r tb s S1 fun v S2 => LstR IntR m.ans v S2) (h3 : ∀ S1, Ex S S1 → EvV r tc s S1 (.int m.st)) : EvS r (tLst (tCons ta (tCons tb (tCons tc tNil)))) s S fun v S1 => RawR m v S1 :=
  (ev_rawG (A := fun a => a = m.ans) (B := fun i => i = m.st) h1 (fun S1 e => (h2 S1 e).imp fun v S2 _ h => ⟨_, rfl, h⟩) fun S1 e => EvS.imp (h3 S1 e) fun v S2 _ h => ⟨_, rfl, h⟩).imp fun v S1 _ ⟨ans, i, h1, h2, h3⟩ => by
    subst h1
    subst h2
    exact h3
end
def drB (m : MachD) (w : Nat) : Bool := decide (1 ≤ m.rows.length) && (decide (m.rows.length ≤ 6) && (decide (1 ≤ w) && (decide (w ≤ 3) && (m.rows.all (fun row => decide (row.length = w) && row.all fun q => decide (0 ≤ q) && decide (q < (m.rows.length : Int))) && (decide (m.ans.length = m.rows.length) && (m.ans.all (fun a => decide (0 ≤ a) && decide (a ≤ 9)) && (decide (0 ≤ m.st) && decide (m.st < (m.rows.length : Int)))))))))
theorem drB_ok {m : MachD} {w : Nat} (h : drB m w = true) : DrM m w := by
  unfold drB at h
  simp only [Bool.and_eq_true, decide_eq_true_eq, List.all_eq_true] at h
  obtain ⟨h1, h2, h3, h4, h5, h6, h7, h8, h9⟩ := h
  exact ⟨⟨⟨h1, h2, h3, h4, h5⟩, ⟨h6, fun a ha => ⟨(h7 a ha).1, by have := (h7 a ha).2; omega⟩⟩, h8, h9⟩, fun a ha => (h7 a ha).2⟩
def sp_lit0 (m : MachD) : Sp := SpP (A := Unit) (fun _ vs _ => vs = []) (fun _ v S => RawR m v S)
def roundM : MachD := ⟨[[2, 3, 1], [2, 1, 1], [2, 5, 1], [4, 3, 3], [4, 5, 3], [5, 5, 5]], [0, 0, 0, 0, 1, 1], 0⟩
def seenM : MachD := ⟨[[1, 0, 0], [1, 2, 0], [2, 2, 2]], [0, 0, 1], 0⟩
def sixM : MachD := ⟨[[1], [2], [3], [4], [5], [5]], [0, 0, 0, 0, 0, 1], 0⟩
theorem G_L_round_pair (T : TX P w K mg) : FnOk P w K mg base CX0 1 T.f_L_round_pair T.fd_L_round_pair [] (sp_lit0 roundM) := by
  refine T.F_L_round_pair.ok sc_L_round_pair (fun vs H Q E h => ?_) (fun cdv A outer s H vs Q E hr h => ?_)
  · obtain ⟨a, S, rfl, _⟩ := h
    rfl
  · obtain ⟨_, S, rfl, w0, q⟩ := h.body
    refine ⟨_, (pss_cons (ps_set (i := 0) sc_L_round_pair.nd rfl (Or.inl rfl) (pe_lst (pa_cons (pe_lst (pa_cons pe_int (pa_cons pe_int (pa_cons pe_int pa_nil)))) (pa_cons (pe_lst (pa_cons pe_int (pa_cons pe_int (pa_cons pe_int pa_nil)))) (pa_cons (pe_lst (pa_cons pe_int (pa_cons pe_int (pa_cons pe_int pa_nil)))) (pa_cons (pe_lst (pa_cons pe_int (pa_cons pe_int (pa_cons pe_int pa_nil)))) (pa_cons (pe_lst (pa_cons pe_int (pa_cons pe_int (pa_cons pe_int pa_nil)))) (pa_cons (pe_lst (pa_cons pe_int (pa_cons pe_int (pa_cons pe_int pa_nil)))) pa_nil))))))))
      (pss_one (ps_ret (pe_lst (pa_cons (pv 0) (pa_cons (pe_lst (pa_cons pe_int (pa_cons pe_int (pa_cons pe_int (pa_cons pe_int (pa_cons pe_int (pa_cons pe_int pa_nil))))))) (pa_cons pe_int pa_nil))))))), ?_⟩
    refine sq_asg (R := fun v S => LstR (LstR IntR) roundM.rows v S) (ev_lits roundM.rows ⟨by decide, by decide⟩) w0 fun v1 S1 H1 w1 s1 h1 => ?_
    exact st_ret (ev_rawV (m := roundM) (ev_v (R := LstR (LstR IntR)) rfl h1) (fun S e => ev_lit roundM.ans (by decide)) fun S e => vv_c) w1 fun v S2 H2 w2 s2 h => q v S2 H2 w2 (s1.trans s2) h
theorem G_L_seen_pair (T : TX P w K mg) : FnOk P w K mg base CX0 1 T.f_L_seen_pair T.fd_L_seen_pair [] (sp_lit0 seenM) := by
  refine T.F_L_seen_pair.ok sc_L_seen_pair (fun vs H Q E h => ?_) (fun cdv A outer s H vs Q E hr h => ?_)
  · obtain ⟨a, S, rfl, _⟩ := h
    rfl
  · obtain ⟨_, S, rfl, w0, q⟩ := h.body
    refine ⟨_, (pss_cons (ps_set (i := 0) sc_L_seen_pair.nd rfl (Or.inl rfl) (pe_lst (pa_cons (pe_lst (pa_cons pe_int (pa_cons pe_int (pa_cons pe_int pa_nil)))) (pa_cons (pe_lst (pa_cons pe_int (pa_cons pe_int (pa_cons pe_int pa_nil)))) (pa_cons (pe_lst (pa_cons pe_int (pa_cons pe_int (pa_cons pe_int pa_nil)))) pa_nil)))))
      (pss_one (ps_ret (pe_lst (pa_cons (pv 0) (pa_cons (pe_lst (pa_cons pe_int (pa_cons pe_int (pa_cons pe_int pa_nil)))) (pa_cons pe_int pa_nil))))))), ?_⟩
    refine sq_asg (R := fun v S => LstR (LstR IntR) seenM.rows v S) (ev_lits seenM.rows ⟨by decide, by decide⟩) w0 fun v1 S1 H1 w1 s1 h1 => ?_
    exact st_ret (ev_rawV (m := seenM) (ev_v (R := LstR (LstR IntR)) rfl h1) (fun S e => ev_lit seenM.ans (by decide)) fun S e => vv_c) w1 fun v S2 H2 w2 s2 h => q v S2 H2 w2 (s1.trans s2) h
/-! counters -/
def cntM (n k : Nat) : MachD := ⟨(List.range n).map fun at_ : Nat => (List.range 3).map fun j : Nat => (((at_ : Int) + if j = k then 1 else 0) % (n : Int)), rgI 0 n, 0⟩
theorem cntM_ok : ∀ n, n < 7 → 1 ≤ n → ∀ k, k < 3 → drB (cntM n k) 3 = true := by decide +kernel
def sp_counter : Sp := SpP (A := Nat × Nat) (fun a vs _ => vs = [.int (a.1 : Int), .int (a.2 : Int)] ∧ 1 ≤ a.1 ∧ a.1 ≤ 6) (fun a v S => RawR (cntM a.1 a.2) v S)
theorem G_L_counter (T : TX P w K mg) : FnOk P w K mg base CX0 1 T.f_L_counter T.fd_L_counter ["_law_modulus", "_law_letter"] sp_counter := by
  refine T.F_L_counter.ok sc_L_counter (fun vs H Q E h => ?_) (fun cdv A outer s H vs Q E hr h => ?_)
  · obtain ⟨a, S, ⟨rfl, _⟩, _⟩ := h
    rfl
  · obtain ⟨⟨n, k⟩, S, ⟨rfl, hn1, hn6⟩, w0, q⟩ := h.body
    dsimp only at hn1 hn6 q
    refine ⟨_, (pss_cons (ps_set (i := 2) sc_L_counter.nd rfl (Or.inl rfl) (pe_lst pa_nil))
      (pss_cons (ps_for PassesOwn.never (by rfl) (pi_range1 (by rfl) T.z_range (pa_cons (pv 0) pa_nil)) (pg_name (i := 3) sc_L_counter.nd rfl (Or.inr rfl)) (pss_one (ps_expr (pe_bm PySem.F.plainAttrs_list PySem.F.slot_list_append PySem.F.type_list_append mt_append (pv 2) (pa_cons (pe_lc (own := [("_law_k", 4)]) (by rfl) sc_L_counter.nd (pi_range1 (by rfl) T.z_range (pa_cons pe_int pa_nil)) (blkOk_by (own := [("_law_k", 4)]) (N := N_L_counter) (sc := (defScope s_L_counter)) (by decide +kernel)) (fun _ _ _ _ _ => (pg_name (i := 4) sc_L_counter.nd rfl (Or.inl rfl))) (fun _ _ _ _ _ => pts_nil) (fun _ _ _ _ _ => (pe_op op_mod (pe_op (op_addK (K := K)) (pv 3) (pe_callTy call_int1 (by rfl) T.z_int (by decide +kernel) (pa_cons (pe_cmpR (op_eqK (K := K) hr.units) (pv 4) (pv 1) (nomark _)) pa_nil))) (pv 0)))) pa_nil)))))
      (pss_one (ps_ret (pe_lst (pa_cons (pv 2) (pa_cons (pe_listRg rfl (by rfl) T.z_list (prg_1 (by rfl) T.z_range (pv 0))) (pa_cons pe_int pa_nil)))))))), ?_⟩
    refine sq_asgN (i := 2) (R := fun o _ => o = .lst []) en_nil w0 fun l o S2 H2 l0 hl sl w2 s2 eo => ?_
    subst eo
    have nl := w0.notM l0
    refine sq_forA (Y := LstR IntR) (X := FromR 0) (ys := List.range n) (fun at_ : Nat => [(List.range 3).map fun j : Nat => (((at_ : Int) + if j = k then 1 else 0) % (n : Int))]) 1 (fun s => ∃ x3 x4, s = [some (.int (n : Int)), some (.int (k : Int)), some (.ref l), x3, x4]) (fun i hi => Nat.le_refl _) nl (ei_range1 (n := (n : Int)) (va_cons (vv_var rfl) va_nil) (by omega)) w2 ⟨[], hl, sl, .nil⟩ ⟨none, none, rfl⟩ (fun i v s' S3 H3 zs hi hv ⟨x3, x4, es⟩ w3 e3 a3 l3 D3 k3 => ?_) fun s3 S3 H3 ⟨x3, x4, es⟩ w3 st3 a3 => ?_
    · subst es
      obtain rfl : v = .int (0 + (i : Int)) := hv
      rw [Int.zero_add] at *
      refine st_appendA (D := D3) (Y := LstR IntR) nl (vv_var rfl) (EvN.lst (X := IntR) (en_lcn (X := FromR 0) (Yr := IntR) (fun j : Nat => ((i : Int) + if j = k then 1 else 0) % (n : Int)) (ei_range1 (n := 3) (va_cons vv_c va_nil) (by decide)) (by decide) (by intro _; rfl) fun j u S4 e4 mj hu => ?_)) w3 a3 (by
        have := List.length_range (n := n)
        simp only [List.length_nil] at l3
        omega) fun S4 H4 w4 s4 a4 => k3 _ S4 H4 ⟨_, _, rfl⟩ w4 s4 a4
      obtain rfl : u = .int (0 + (j : Int)) := hu
      rw [Int.zero_add]
      refine EvV.is (vv_op (vv_op (vv_var rfl) (vv_cb (va_cons (vv_op (vv_var rfl) (vv_var rfl) rs_eqI) va_nil) rc_intB) rs_add) (vv_var rfl) (rs_I (C := fun _ j => 0 < j) (g := fun i j => .int (i % j)) (by omega))) ?_
      congr 1
      by_cases e : j = k
      · subst e
        simp
      · have e2 : ¬ (j : Int) = (k : Int) := by omega
        simp [e, e2]
    · subst es
      obtain ⟨S4, w4, s4, h4⟩ := AccS.settle (r := Rs.nil) nl a3 w3 l0 (Stp.more s2 |>.trans st3) Stp.refl
      refine st_ret (ev_rawV (m := cntM n k) (ev_v (R := LstR (LstR IntR)) rfl ?_) (fun S e => ev_listRg1 (vv_var rfl) (by omega)) fun S e => vv_c) w4 fun v S5 H5 w5 s5 h => q v S5 H5 w5 (s4.trans s5) h
      have e : ([] : List (List Int)) ++ (List.range n).flatMap (fun at_ : Nat => [(List.range 3).map fun j : Nat => (((at_ : Int) + if j = k then 1 else 0) % (n : Int))]) = (cntM n k).rows := by
        rw [List.nil_append]
        exact (List.map_eq_flatMap ..).symm
      rw [← e]
      exact h4

theorem ev_plusD {p c : Addr} {s : L2.St} {S : Hp} {t : TA} {n lo : Int} (h : EvAV (poolR p c) t s S [.ref p, .int n]) (h1 : 1 ≤ n) (h2 : n ≤ 100000) : EvS (poolR p c) (tOp (rAddU K) (tC (.int lo)) (tCall sp_draw [] E0 t)) s S fun v _ => ∃ i, v = .int i ∧ lo ≤ i ∧ i < lo + n :=
  ev_op2 vv_c (fun _ S e _ => ev_draw (EvAS.mono' e h) h1 (big40 h2)) fun x y S S' _ hx _ ⟨i, hy, h1, h2⟩ => by
    subst hx
    subst hy
    exact ⟨_, rs_add, _, rfl, by omega, by omega⟩
def sp_mixM : Sp := SpR (A := Addr × Addr) (fun a => poolR a.1 a.2) (fun a vs _ _ => vs = [.ref a.1]) (fun _ v S _ => ∃ m w, RawR m v S ∧ DrM m w)
theorem G_L_commuting (T : TX P w K mg) : FnOk P w K mg base CX0 3 T.f_L_commuting T.fd_L_commuting ["_law_pool"] sp_mixM := by
  refine T.F_L_commuting.ok sc_L_commuting (fun vs H Q E h => ?_) (fun cdv A outer s H vs Q E hr h => ?_)
  · obtain ⟨a, S, rfl, _⟩ := h
    rfl
  · obtain ⟨⟨p, c⟩, S, rfl, w0, q⟩ := h
    dsimp only at w0 q
    refine ⟨_, (pss_cons (ps_asg (pe_tup (pa_cons (pe_op (op_addK (K := K)) pe_int (pe_call (G_L_draw T) (hr.mono (by decide)) (by rfl) T.g_L_draw T.F_L_draw.kp T.b_L_draw .nil pass0 (pa_cons (pv 0) (pa_cons pe_int pa_nil)))) (pa_cons (pe_lc (own := [("_law_k", 4)]) (by rfl) sc_L_commuting.nd (pi_range1 (by rfl) T.z_range (pa_cons (pe_op (op_addK (K := K)) pe_int (pe_call (G_L_draw T) (hr.mono (by decide)) (by rfl) T.g_L_draw T.F_L_draw.kp T.b_L_draw .nil pass0 (pa_cons (pv 0) (pa_cons pe_int pa_nil)))) pa_nil)) (blkOk_by (own := [("_law_k", 4)]) (N := N_L_commuting) (sc := (defScope s_L_commuting)) (by decide +kernel)) (fun _ _ _ _ _ => (pg_name (i := 4) sc_L_commuting.nd rfl (Or.inl rfl))) (fun _ _ _ _ _ => pts_nil) (fun _ _ _ _ _ => (pe_call (G_L_draw T) (hr.mono (by decide)) (by rfl) T.g_L_draw T.F_L_draw.kp T.b_L_draw .nil pass0 (pa_cons (pv 0) (pa_cons pe_int pa_nil))))) pa_nil))) (pg_tupK (K := K) (n := 2) (by rfl) (pgs_cons (pg_name (i := 1) sc_L_commuting.nd rfl (Or.inr rfl)) (pgs_cons (pg_name (i := 2) sc_L_commuting.nd rfl (Or.inr rfl)) pgs_nil))))
      (pss_cons (ps_setLc (i := 3) (own := [("_law_at", 5)]) (by rfl) sc_L_commuting.nd rfl rfl (sw_true rfl rfl rfl (by decide +kernel)) (pi_range1 (by rfl) T.z_range (pa_cons (pv 1) pa_nil)) (blkOk_by (own := [("_law_at", 5)]) (N := N_L_commuting) (sc := (defScope s_L_commuting)) (by decide +kernel)) (fun _ _ _ _ _ => (pg_name (i := 5) sc_L_commuting.nd rfl (Or.inr rfl))) (fun _ _ _ _ _ => pts_nil) (fun _ _ _ _ _ => (pe_lc (own := [("_law_add", 6)]) (by rfl) sc_L_commuting.nd (pi_K (K := K) (pv 2)) (blkOk_by (own := [("_law_add", 6)]) (N := N_L_commuting) (sc := (relS _ (defScope s_L_commuting))) (by decide +kernel)) (fun _ _ _ _ _ => (pg_name (i := 6) sc_L_commuting.nd rfl (Or.inl rfl))) (fun _ _ _ _ _ => pts_nil) (fun _ _ _ _ _ => (pe_op op_mod (pe_op (op_addK (K := K)) (pv 5) (pv 6)) (pv 1))))))
      (pss_one (ps_ret (pe_lst (pa_cons (pv 3) (pa_cons (pe_lc (own := [("_law_at", 5)]) (by rfl) sc_L_commuting.nd (pi_range1 (by rfl) T.z_range (pa_cons (pv 1) pa_nil)) (blkOk_by (own := [("_law_at", 5)]) (N := N_L_commuting) (sc := (defScope s_L_commuting)) (by decide +kernel)) (fun _ _ _ _ _ => (pg_name (i := 5) sc_L_commuting.nd rfl (Or.inl rfl))) (fun _ _ _ _ _ => pts_nil) (fun _ _ _ _ _ => (pe_call (G_L_draw T) (hr.mono (by decide)) (by rfl) T.g_L_draw T.F_L_draw.kp T.b_L_draw .nil pass0 (pa_cons (pv 0) (pa_cons pe_int pa_nil))))) (pa_cons (pe_call (G_L_draw T) (hr.mono (by decide)) (by rfl) T.g_L_draw T.F_L_draw.kp T.b_L_draw .nil pass0 (pa_cons (pv 0) (pa_cons (pv 1) pa_nil))) pa_nil)))))))), ?_⟩
    refine sq_tup2 rfl (A := fun v _ => ∃ n : Int, v = .int n ∧ 2 ≤ n ∧ n < 2 + 4) (B := fun v S => ∃ adds : List Int, (1 ≤ adds.length ∧ adds.length ≤ 3) ∧ (∀ x ∈ adds, 0 ≤ x ∧ x < 5) ∧ LstR IntR adds v S) (ev_plusD (n := 4) (va_cons (vv_var rfl) (va_cons vv_c va_nil)) (by decide) (by decide)) (fun S e => (ev_lcr (R := IntR) (P := fun n => 1 ≤ n ∧ n < 1 + 3) (fun x => 0 ≤ x ∧ x < 5) (ev_plusD (n := 3) (va_cons (vv_var rfl) (va_cons vv_c va_nil)) (by decide) (by decide)) (fun n hn => by omega) (by intro _; rfl) fun y S2 e => ev_drawB (n := 5) (va_cons (vv_var rfl) (va_cons vv_c va_nil)) (by decide) (by decide)).imp fun v S2 _ ⟨zs, n, h1, h2, h3, h4⟩ => ⟨zs, by omega, h3, h4⟩) (fun _ _ _ _ h => h) w0 fun v1 v2 S1 H1 w1 s1 ⟨n, e1, n1, n2⟩ ⟨adds, al, ha, h2⟩ => ?_
    subst e1
    refine sq_asg (R := fun v S => LstR (LstR IntR) ((List.range n.toNat).map fun at_ : Nat => adds.map fun add => ((at_ : Int) + add) % n) v S) (EvN.lst (X := LstR IntR) (en_lcn (X := FromR 0) (Yr := LstR IntR) (fun at_ : Nat => adds.map fun add => ((at_ : Int) + add) % n) (ei_range1 (n := n) (va_cons (vv_var rfl) va_nil) (by omega)) (by rw [List.length_range]; omega) (by intro _; rfl) fun y v S4 e4 my hy => EvN.lst (X := IntR) (en_lcn (X := IntR) (Yr := IntR) (fun add => ((y : Int) + add) % n) (ei_list (ev_v (R := LstR IntR) rfl (Mono.up e4 h2))) (by omega) (by intro _; rfl) fun y2 v' S5 e5 my2 hy2 => by
      obtain rfl : v = .int (0 + (y : Int)) := hy
      obtain rfl : v' = .int y2 := hy2
      rw [Int.zero_add]
      exact vv_op (vv_op (vv_var rfl) (vv_var rfl) rs_add) (vv_var rfl) (rs_I (C := fun _ j => 0 < j) (g := fun i j => .int (i % j)) (by omega))))) w1 fun v3 S2 H2 w2 s2 h3 => ?_
    refine st_ret (R := fun v S => ∃ m w, RawR m v S ∧ DrM m w) ((ev_rawG (rows := (List.range n.toNat).map fun at_ : Nat => adds.map fun add => ((at_ : Int) + add) % n) (A := fun ans => ans.length = n.toNat ∧ ∀ x ∈ ans, 0 ≤ x ∧ x < 3) (B := fun i => 0 ≤ i ∧ i < n) (ev_v (R := LstR (LstR IntR)) rfl h3) (fun S3 e3 => (ev_lcx (R := IntR) (fun x => 0 ≤ x ∧ x < 3) (ei_range1 (n := n) (va_cons (vv_var rfl) va_nil) (by omega)) (by rw [List.length_range]; omega) (by intro _; rfl) fun y' v' S4 e' m' hy' => ev_drawB (n := 3) (va_cons (vv_var rfl) (va_cons vv_c va_nil)) (by decide) (by decide)).imp fun v S4 _ ⟨zs, l1, l2, l3⟩ => ⟨zs, ⟨by rw [l1, List.length_range], l2⟩, l3⟩) (fun S3 e3 => (ev_drawB (n := n) (va_cons (vv_var rfl) (va_cons (vv_var rfl) va_nil)) (by omega) (by omega)).imp fun v S4 _ ⟨i, l1, l2⟩ => ⟨i, l1, l2⟩)).imp fun v S3 _ ⟨ans, i, ⟨a1, a2⟩, i1, hr⟩ => ?_) w2 fun v S3 H3 w3 s3 h => q v S3 H3 w3 (s1.trans (s2.trans s3)) h
    have lr : ((List.range n.toNat).map fun at_ : Nat => adds.map fun add => ((at_ : Int) + add) % n).length = n.toNat := by rw [List.length_map, List.length_range]
    have hn : (n.toNat : Int) = n := by omega
    refine ⟨_, adds.length, hr, ⟨⟨by dsimp only; omega, by dsimp only; omega, al.1, al.2, fun row hrow => ?_⟩, ⟨by dsimp only; omega, fun x hx => ?_⟩, i1.1, by dsimp only; omega⟩, fun x hx => ?_⟩
    · obtain ⟨y, hy, rfl⟩ := List.mem_map.mp hrow
      refine ⟨by rw [List.length_map], fun z hz => ?_⟩
      obtain ⟨x, hx, rfl⟩ := List.mem_map.mp hz
      have g1 := Int.emod_nonneg ((y : Int) + x) (show n ≠ 0 by omega)
      have g2 := Int.emod_lt_of_pos ((y : Int) + x) (show 0 < n by omega)
      dsimp only
      omega
    · have := a2 x hx
      omega
    · have := a2 x hx
      omega
section
variable {p c : Addr} {s : L2.St} {S : Hp} {t : TA}
theorem ev_dm {N L : Nat} (h : EvAV (poolR p c) t s S [.ref p, .int (N : Int), .int (L : Int)]) (hN : 1 ≤ N ∧ N ≤ 6) (hL : 1 ≤ L ∧ L ≤ 3) : EvS (poolR p c) (tCall sp_draw_machine [] E0 t) s S fun v S1 => ∃ m w, RawR m v S1 ∧ DrM m w :=
  ev_callR ((p, c), N, L) rfl h (fun _ _ _ _ => ⟨rfl, hN, hL⟩) fun v S1 H1 _ _ h => h
theorem ev_mx (h : EvAV (poolR p c) t s S [.ref p]) : EvS (poolR p c) (tCall sp_mixM [] E0 t) s S fun v S1 => ∃ m w, RawR m v S1 ∧ DrM m w :=
  ev_callR (p, c) rfl h (fun _ _ _ _ => rfl) fun v S1 H1 _ _ h => h
end
theorem G_L_mix_machine (T : TX P w K mg) : FnOk P w K mg base CX0 4 T.f_L_mix_machine T.fd_L_mix_machine ["_law_pool"] sp_mixM := by
  refine T.F_L_mix_machine.ok sc_L_mix_machine (fun vs H Q E h => ?_) (fun cdv A outer s H vs Q E hr h => ?_)
  · obtain ⟨a, S, rfl, _⟩ := h
    rfl
  · obtain ⟨⟨p, c⟩, S, rfl, w0, q⟩ := h
    dsimp only at w0 q
    refine ⟨_, (pss_cons (ps_set (i := 1) sc_L_mix_machine.nd rfl (Or.inl rfl) (pe_call (G_L_draw T) (hr.mono (by decide)) (by rfl) T.g_L_draw T.F_L_draw.kp T.b_L_draw .nil pass0 (pa_cons (pv 0) (pa_cons pe_int pa_nil))))
      (pss_cons (ps_if (pt_cmpR (op_eqK (K := K) hr.units) (pv 1) pe_int (nomark _)) (pss_one (ps_ret (pe_call0 (G_L_round_pair T) (hr.mono (by decide)) (by rfl) T.g_L_round_pair T.F_L_round_pair.kp T.b_L_round_pair .nil pass0))) pss_nil)
      (pss_cons (ps_if (pt_cmpR (op_eqK (K := K) hr.units) (pv 1) pe_int (nomark _)) (pss_one (ps_ret (pe_call (G_L_counter T) (hr.mono (by decide)) (by rfl) T.g_L_counter T.F_L_counter.kp T.b_L_counter .nil pass0 (pa_cons (pe_op (op_addK (K := K)) pe_int (pe_call (G_L_draw T) (hr.mono (by decide)) (by rfl) T.g_L_draw T.F_L_draw.kp T.b_L_draw .nil pass0 (pa_cons (pv 0) (pa_cons pe_int pa_nil)))) (pa_cons (pe_call (G_L_draw T) (hr.mono (by decide)) (by rfl) T.g_L_draw T.F_L_draw.kp T.b_L_draw .nil pass0 (pa_cons (pv 0) (pa_cons pe_int pa_nil))) pa_nil))))) pss_nil)
      (pss_cons (ps_if (pt_cmpR (op_eqK (K := K) hr.units) (pv 1) pe_int (nomark _)) (pss_one (ps_ret (pe_call0 (G_L_seen_pair T) (hr.mono (by decide)) (by rfl) T.g_L_seen_pair T.F_L_seen_pair.kp T.b_L_seen_pair .nil pass0))) pss_nil)
      (pss_cons (ps_set (i := 2) sc_L_mix_machine.nd rfl (Or.inl rfl) (pe_call (G_L_draw_machine T) (hr.mono (by decide)) (by rfl) T.g_L_draw_machine T.F_L_draw_machine.kp T.b_L_draw_machine .nil pass0 (pa_cons (pv 0) (pa_cons pe_int (pa_cons pe_int pa_nil)))))
      (pss_cons (ps_if (pt_cmpR (op_eqK (K := K) hr.units) (pv 1) pe_int (nomark _)) (pss_one (ps_set (i := 2) sc_L_mix_machine.nd rfl (Or.inl rfl) (pe_call (G_L_commuting T) (hr.mono (by decide)) (by rfl) T.g_L_commuting T.F_L_commuting.kp T.b_L_commuting .nil pass0 (pa_cons (pv 0) pa_nil)))) pss_nil)
      (pss_one (ps_ret (pv 2))))))))), ?_⟩
    refine sq_asg (R := fun v _ => ∃ i, v = .int i ∧ 0 ≤ i ∧ i < 6) (ev_draw (n := 6) (va_cons (vv_var rfl) (va_cons vv_c va_nil)) (by decide) (big40 (by decide))) w0 fun v1 S1 H1 w1 s1 ⟨i, e1, i1, i2⟩ => ?_
    subst e1
    refine sq_if (b := decide (i = 5)) (tb_test (vv_op (vv_var rfl) vv_c rs_eqI)) w1 (fun hc S2 H2 w2 s2 => ?_) fun hc S2 H2 w2 s2 => ?_
    · exact st_ret (R := fun v S => ∃ m w, RawR m v S ∧ DrM m w) (vv_call () va_nil (fun S e => rfl) fun v _ _ h => ⟨roundM, 3, h, drB_ok (by decide +kernel)⟩) w2 fun v S3 H3 w3 s3 h => q v S3 H3 w3 (s1.trans (s2.trans s3)) h
    refine sq_if (b := decide (i = 0)) (tb_test (vv_op (vv_var rfl) vv_c rs_eqI)) w2 (fun hc S3 H3 w3 s3 => ?_) fun hc S3 H3 w3 s3 => ?_
    · refine st_ret (R := fun v S => ∃ m w, RawR m v S ∧ DrM m w) (J.ev_call (P := fun us _ => ∃ n k : Nat, us = [.int (n : Int), .int (k : Int)] ∧ (2 ≤ n ∧ n < 4) ∧ k < 3) (J.ea_cons (ev_plusD (n := 2) (va_cons (vv_var rfl) (va_cons vv_c va_nil)) (by decide) (by decide)) fun x1 S4 e4 ⟨n, en, n1, n2⟩ => J.ea_cons (ev_draw (n := 3) (va_cons (vv_var rfl) (va_cons vv_c va_nil)) (by decide) (big40 (by decide))) fun x2 S5 e5 ⟨k, ek, k1, k2⟩ => J.ea_nil.imp' fun us S6 e6 eu => ?_) fun us S6 e6 ⟨n, k, eu, hn, hk⟩ => ⟨(n, k), ⟨by rw [eu]; rfl, by dsimp only; omega, by dsimp only; omega⟩, fun v S7 e7 h => ⟨_, 3, h, drB_ok (cntM_ok n (by omega) (by omega) k hk)⟩⟩) w3 fun v S4 H4 w4 s4 h => q v S4 H4 w4 (s1.trans (s2.trans (s3.trans s4))) h
      subst en
      subst ek
      subst eu
      exact ⟨n.toNat, k.toNat, by rw [show ((n.toNat : Nat) : Int) = n by omega, show ((k.toNat : Nat) : Int) = k by omega], by omega, by omega⟩
    refine sq_if (b := decide (i = 1)) (tb_test (vv_op (vv_var rfl) vv_c rs_eqI)) w3 (fun hc S4 H4 w4 s4 => ?_) fun hc S4 H4 w4 s4 => ?_
    · exact st_ret (R := fun v S => ∃ m w, RawR m v S ∧ DrM m w) (vv_call () va_nil (fun S e => rfl) fun v _ _ h => ⟨seenM, 3, h, drB_ok (by decide +kernel)⟩) w4 fun v S5 H5 w5 s5 h => q v S5 H5 w5 (s1.trans (s2.trans (s3.trans (s4.trans s5)))) h
    refine sq_asg (R := fun v S => ∃ m w, RawR m v S ∧ DrM m w) (ev_dm (N := 4) (L := 3) (va_cons (vv_var rfl) (va_cons vv_c (va_cons vv_c va_nil))) (by decide) (by decide)) w4 fun v5 S5 H5 w5 s5 h5 => ?_
    have st := s1.trans (s2.trans (s3.trans (s4.trans s5)))
    refine sq_if (b := decide (i = 2)) (tb_test (vv_op (vv_var rfl) vv_c rs_eqI)) w5 (fun hc S6 H6 w6 s6 => ?_) fun hc S6 H6 w6 s6 => ?_
    · refine st_asg (R := fun v S => ∃ m w, RawR m v S ∧ DrM m w) (ev_mx (va_cons (vv_var rfl) va_nil)) w6 fun v7 S7 H7 w7 s7 h7 => ?_
      exact st_ret (R := fun v S => ∃ m w, RawR m v S ∧ DrM m w) ((vv_var rfl).imp fun u S8 e eu => by
        obtain ⟨m, w, g1, g2⟩ := h7
        rw [show u = v7 from eu]
        exact ⟨m, w, Mono.up e g1, g2⟩) w7 fun v S8 H8 w8 s8 h => q v S8 H8 w8 (st.trans (s6.trans (s7.trans s8))) h
    · dsimp only [tNext]
      exact st_ret (R := fun v S => ∃ m w, RawR m v S ∧ DrM m w) ((vv_var rfl).imp fun u S8 e eu => by
        obtain ⟨m, w, g1, g2⟩ := h5
        rw [show u = v5 from eu]
        exact ⟨m, w, Mono.up (s6.ex.trans e) g1, g2⟩) w6 fun v S8 H8 w8 s8 h => q v S8 H8 w8 (st.trans (s6.trans s8)) h
end
end K63

namespace K63
open PySem PySem.Spec PyProof.Rows L2 Evl J RZ
section
variable {P : Program} {w : World} {K : PySem.W.Frag} {mg : Str → Option Value} {base : Heap}
/-! ### all words of at most so many letters, as the law lists them -/
def levelM (w : Nat) : Nat → List (List Nat)
  | 0 => [[]]
  | n + 1 => (levelM w n).flatMap fun l => (List.range w).map fun i => l ++ [i]
def wordsM (w : Nat) : Nat → List (List Nat)
  | 0 => [[]]
  | n + 1 => wordsM w n ++ levelM w (n + 1)
theorem level_few : ∀ w, w < 4 → ∀ n, n < 6 → (levelM w n).length ≤ 243 ∧ (wordsM w n).length ≤ 364 := by decide +kernel
theorem mem_levelM {w : Nat} : ∀ {n : Nat} {l : List Nat}, l ∈ levelM w n ↔ l.length = n ∧ ∀ i ∈ l, i < w
  | 0, l => by
    unfold levelM
    rw [List.mem_singleton]
    constructor
    · rintro rfl
      exact ⟨rfl, fun i hi => nomatch hi⟩
    · rintro ⟨h, _⟩
      exact List.eq_nil_of_length_eq_zero h
  | n + 1, l => by
    unfold levelM
    rw [List.mem_flatMap]
    constructor
    · rintro ⟨l', h1, h2⟩
      obtain ⟨i, hi, rfl⟩ := List.mem_map.mp h2
      obtain ⟨g1, g2⟩ := mem_levelM.mp h1
      refine ⟨by rw [List.length_append, g1]; rfl, fun j hj => ?_⟩
      rcases List.mem_append.mp hj with hj | hj
      · exact g2 j hj
      · rw [List.mem_singleton.mp hj]
        exact List.mem_range.mp hi
    · rintro ⟨h1, h2⟩
      rcases List.eq_nil_or_concat l with rfl | ⟨l', i, rfl⟩
      · cases h1
      · rw [List.concat_eq_append] at *
        rw [List.length_append, List.length_singleton] at h1
        exact ⟨l', mem_levelM.mpr ⟨by omega, fun j hj => h2 j (List.mem_append_left _ hj)⟩, List.mem_map.mpr ⟨i, List.mem_range.mpr (h2 i (List.mem_append_right _ (List.mem_singleton.mpr rfl))), rfl⟩⟩
theorem mem_wordsM {w : Nat} : ∀ {n : Nat} {l : List Nat}, l ∈ wordsM w n ↔ l.length ≤ n ∧ ∀ i ∈ l, i < w
  | 0, l => by
    have h := mem_levelM (w := w) (n := 0) (l := l)
    unfold levelM at h
    unfold wordsM
    rw [h]
    exact and_congr ⟨fun z => by omega, fun z => by omega⟩ Iff.rfl
  | n + 1, l => by
    unfold wordsM
    rw [List.mem_append, mem_wordsM, mem_levelM]
    constructor
    · rintro (⟨h1, h2⟩ | ⟨h1, h2⟩)
      · exact ⟨by omega, h2⟩
      · exact ⟨by omega, h2⟩
    · rintro ⟨h1, h2⟩
      by_cases e : l.length = n + 1
      · exact .inr ⟨e, h2⟩
      · exact .inl ⟨by omega, h2⟩
theorem st_parW {r : Rs} {s : L2.St} {S H : Hp} {ta tb : TE} {D : Ends} {A B : V → Hp → Prop} {i j : Nat} (h : EvS r ta s S A) (h2 : ∀ S1, Ex S S1 → EvS r tb s S1 B) (m : ∀ v S1 S2, Ex S1 S2 → A v S1 → A v S2) (w0 : Wd r S H) (k : ∀ v v' S1 H1, Wd r S1 H1 → Stp r S H S1 H1 → A v S1 → B v' S1 → D.nx ((s.set i (some v)).set j (some v')) H1) : tPar i j (tCons ta (tCons tb tNil)) D s H :=
  h S H (Ex.refl _) w0 _ fun v S2 H2 w2 s2 hv => h2 S2 s2.ex S2 H2 (Ex.refl _) w2 _ fun v' S3 H3 w3 s3 hv' => ⟨v, v', rfl, k v v' S3 H3 w3 (s2.trans s3) (m _ _ _ s3.ex hv) hv'⟩
/-- a word -/
def WR : Rl (List Nat) := fun l v _ => v = .str (wS l)
instance : Mono WR := ⟨fun _ h => h⟩
theorem wS_nil : ("" : Str) = wS [] := by decide +kernel
theorem wS_snoc {l : List Nat} {i : Nat} : wS l ++ (⟨#[97 + i]⟩ : Str) = wS (l ++ [i]) := by
  show (⟨(l.map (97 + ·)).toArray ++ #[97 + i]⟩ : Str) = ⟨((l ++ [i]).map (97 + ·)).toArray⟩
  congr 1
  simp
def sp_words (K : PySem.W.Frag) : Sp := SpP (A := Nat × Nat) (fun a vs _ => vs = [.str (lettersS a.1), .int (a.2 : Int)] ∧ a.1 ≤ 3 ∧ a.2 ≤ 5) (fun a v S => LstR WR (wordsM a.1 a.2) v S)
end
end K63

namespace K63
open PySem PySem.Spec PyProof.Rows L2 Evl J RZ
section
variable {P : Program} {w : World} {K : PySem.W.Frag} {mg : Str → Option Value} {base : Heap}
/-! ### names -/
def nameB (z : Str) : Bool := decide (1 ≤ z.length) && decide (z.length ≤ 8) && z.cps.toList.all fun c => decide (97 ≤ c) && decide (c < 123)
theorem in_az : ∀ c, c < 128 → (!(Builtin.Str.occurrences ("abcdefghijklmnopqrstuvwxyz" : Str) ⟨#[c]⟩ 0 ("abcdefghijklmnopqrstuvwxyz" : Str).length 1).isEmpty) = (decide (97 ≤ c) && decide (c < 123)) := by decide +kernel
inductive NmR (K : PySem.W.Frag) (b : Bool) (v : V) (S : Hp) : Prop
  | text {z : Str} : v = .str z → z.length ≤ 1000 → (∀ c ∈ z.cps.toList, c < 128) → nameB z = b → NmR K b v S
  | notstr {t : String} : TyX K S v (.type t) → kitB t "str" = some false → b = false → NmR K b v S
theorem nm_up {b : Bool} {v : V} {S S' : Hp} (e : Ex S S') (h : NmR K b v S) : NmR K b v S' := by
  cases h with
  | text h1 h2 h3 h4 => exact .text h1 h2 h3 h4
  | notstr h1 h2 h3 => exact .notstr (tyx_up e h1) h2 h3
def sp_is_name (K : PySem.W.Frag) : Sp := SpP (A := V × Bool) (fun a vs S => vs = [a.1] ∧ NmR K a.2 a.1 S) (fun a v _ => v = .bl a.2)
theorem G_is_name (T : TX P w K mg) : FnOk P w K mg base CX0 1 T.f_is_name T.fd_is_name ["value"] (sp_is_name K) := by
  refine T.F_is_name.ok sc_is_name (fun vs H Q E h => ?_) (fun cdv A outer s H vs Q E hr h => ?_)
  · obtain ⟨a, S, ⟨rfl, _⟩, _⟩ := h
    rfl
  · obtain ⟨⟨v, b⟩, S, ⟨rfl, hn⟩, w0, q⟩ := h.body
    refine ⟨_, (pss_cons (ps_if (PW.pt (pw_or (pt_not (pt_val (pe_callB (call_isiK2 (K := K)) (by rfl) T.z_isinstance (by decide +kernel) (pa_cons (pv 0) (pa_cons (pe_bltn (v := .ty "str") (by rfl) T.z_str (by decide +kernel) rfl) pa_nil))))) (pw_or1 (pt_not (pt_chain op_le op_le pe_int (pe_callB (call_lenK (K := K)) (by rfl) T.z_len (by decide +kernel) (pa_cons (pv 0) pa_nil)) (pe_const (by rfl) T.c_MOST_LETTERS)))))) (pss_one (ps_ret pe_bl)) pss_nil)
      (pss_one (ps_ret (pe_callB (call_allK (K := K)) (by rfl) T.z_all (by decide +kernel) (pa_cons (pe_lc (own := [("sign", 1)]) (by rfl) sc_is_name.nd (pi_K (K := K) (pv 0)) (blkOk_by (own := [("sign", 1)]) (N := N_is_name) (sc := (defScope s_is_name)) (by decide +kernel)) (fun _ _ _ _ _ => (pg_name (i := 1) sc_is_name.nd rfl (Or.inl rfl))) (fun _ _ _ _ _ => pts_nil) (fun _ _ _ _ _ => (pe_cmpR (op_inK (K := K)) (pv 1) (pe_const (by rfl) T.c_LETTERS) (by with_unfolding_all rfl)))) pa_nil))))), ?_⟩
    dsimp only at hn q
    cases hn with
    | notstr ht hk eb =>
      subst eb
      refine sq_if (b := true) (EvB.is (tb_or (a := true) (b := true) (tb_not (a := false) (tb_B (vv_isT (vv_var rfl) vv_c ht hk))) fun z => nomatch z) rfl) w0 (fun _ S1 H1 w1 s1 => ?_) (fun z => nomatch z)
      exact st_ret (R := fun v _ => v = .bl false) vv_c w1 fun v S2 H2 w2 s2 p => q v S2 H2 w2 (s1.trans s2) p
    | @text z ev h1 h2 eb =>
      subst ev
      subst eb
      have hlen : EvV Rs.nil (tCB (rLenU K) (tCons (tVar 0) tNil)) [some (.str z), none] S (.int (z.length : Int)) := vv_cb (va_cons (vv_var rfl) va_nil) (rc_lenS (Nat.le_trans h1 (Nat.le_of_ble_eq_true rfl)))
      refine sq_if (b := !(decide ((1 : Int) ≤ z.length) && decide ((z.length : Int) ≤ 8))) (EvB.is (tb_or (a := false) (tb_not (a := true) (tb_B (is_str rfl))) fun _ => tb_not (tb_test (vv_chain vv_c hlen rs_I0 (fun _ => vv_c) fun _ => rs_I0))) rfl) w0 (fun hb S1 H1 w1 s1 => ?_) fun hb S1 H1 w1 s1 => ?_
      · refine st_ret (R := fun v _ => v = .bl false) vv_c w1 fun v S2 H2 w2 s2 p => q v S2 H2 w2 (s1.trans s2) ?_
        rw [p]
        congr 1
        symm
        unfold nameB
        have e1 : (decide (1 ≤ z.length) && decide (z.length ≤ 8)) = false := by
          have hb := nt hb
          rw [← hb]
          congr 1 <;> exact decide_eq_decide.mpr (by omega)
        rw [e1]
        rfl
      · have hb := nf hb
        simp only [Bool.and_eq_true, decide_eq_true_eq] at hb
        refine st_ret (R := fun v _ => v = .bl (nameB z)) (EvV.is (vv_allF (R := SignR) (fun c => decide (97 ≤ c) && decide (c < 123)) (ei_str (vv_var rfl)) (by
          show z.length ≤ 100000
          omega) (by intro _; rfl) fun y u S2 e m hu => ?_) ?_) w1 fun v S2 H2 w2 s2 p => q v S2 H2 w2 (s1.trans s2) p
        · rw [show u = _ from hu]
          exact vv_op (vv_var rfl) vv_c fun H _ Q q => .inr ⟨_, _, rfl, rfl, by
            rw [in_az y (h2 y m)]
            exact q⟩
        · unfold nameB
          rw [decide_eq_true (show 1 ≤ z.length by omega), decide_eq_true (show z.length ≤ 8 by omega)]
          rfl
/-! ### the order of texts -/
theorem ltc_anti : ∀ (a b : List Nat), ltCps b a = false → ltCps a b = false → a = b
  | [], [], _, _ => rfl
  | [], _ :: _, _, h => by cases h
  | _ :: _, [], h, _ => by cases h
  | a :: r, b :: t, h1, h2 => by
    simp only [ltCps, Bool.or_eq_false_iff, decide_eq_false_iff_not, Bool.and_eq_false_imp, beq_iff_eq] at h1 h2
    have e : a = b := by omega
    subst e
    rw [ltc_anti r t (h1.2 rfl) (h2.2 rfl)]
theorem ltc_trans : ∀ (a b c : List Nat), ltCps b a = false → ltCps c b = false → ltCps c a = false
  | [], _, [], _, _ => rfl
  | [], _, _ :: _, _, _ => rfl
  | _ :: _, [], _, h, _ => by cases h
  | _ :: _, _ :: _, [], _, h => by cases h
  | a :: r, b :: t, c :: u, h1, h2 => by
    simp only [ltCps, Bool.or_eq_false_iff, decide_eq_false_iff_not, Bool.and_eq_false_imp, beq_iff_eq] at h1 h2 ⊢
    refine ⟨by omega, fun e => ?_⟩
    have e1 : b = a := by omega
    have e2 : c = b := by omega
    exact ltc_trans r t u (h1.2 e1) (h2.2 e2)
theorem rise_pw : ∀ (r : List Str) (p : Str), risingS p r = true → (p :: r).Pairwise fun a b => ltCps b.cps.toList a.cps.toList = false
  | [], _, _ => List.pairwise_singleton _ _
  | x :: r, p, h => by
    unfold risingS at h
    rw [Bool.and_eq_true, Bool.not_eq_true'] at h
    have ih := rise_pw r x h.2
    refine List.pairwise_cons.mpr ⟨fun y hy => ?_, ih⟩
    rcases List.mem_cons.mp hy with rfl | hy
    · exact h.1
    · exact ltc_trans _ _ _ h.1 ((List.pairwise_cons.mp ih).1 y hy)
theorem sort_pw : ∀ {xs : List Str}, sortedS xs = true → xs.Pairwise fun a b => ltCps b.cps.toList a.cps.toList = false
  | [], _ => .nil
  | x :: r, h => rise_pw r x h
theorem sort_same {xs ys : List Str} (p : xs.Perm ys) (h1 : sortedS xs = true) (h2 : sortedS ys = true) : xs = ys :=
  p.eq_of_pairwise (fun a b _ _ h h' => by
    have := ltc_anti _ _ h h'
    obtain ⟨a⟩ := a
    obtain ⟨b⟩ := b
    have e : a = b := Array.toList_inj.mp this
    rw [e]) (sort_pw h1) (sort_pw h2)
section
variable {r : Rs} {s : L2.St} {S : Hp} {ta tb te ti : TE} {kvs : List (Key × V)} {k : Key} {a d x : Addr} {v : V}
theorem en_sortS63 {zs : List Str} (hz : zs.length < 64) (h : EvS r ta s S fun v S1 => LstR StrR zs v S1) : EvN r (tCB (rSortedU K) (tCons ta tNil)) s S fun o _ => ∃ ms : List Str, o = .lst (ms.map V.str) ∧ ms.Perm zs ∧ sortedS ms = true :=
  en_cb (ea_one h) fun us S1 _ ⟨v, e1, a, vs, e2, e3, e4⟩ H eH Q q => by
    subst e1
    subst e2
    rw [e4.strs] at e3
    exact .inr ⟨a, zs, rfl, SqL.of (eH _ _ e3), hz, fun ms p h1 h2 hp => q p _ hp ⟨ms, rfl, h1, h2⟩⟩
theorem ev_sortS63 {zs : List Str} (hz : zs.length < 64) (h : EvS r ta s S fun v S1 => LstR StrR zs v S1) : EvS r (tCB (rSortedU K) (tCons ta tNil)) s S fun v S1 => ∃ ms : List Str, LstR StrR ms v S1 ∧ ms.Perm zs ∧ sortedS ms = true :=
  EvN.stable (en_sortS63 hz h) fun p o S1 _ n0 ⟨ms, eo, h1, h2⟩ => ⟨ms, ⟨p, _, rfl, by rw [eo]; exact upd_same, All2.of_strs ms⟩, h1, h2⟩
/-! ### dicts by texts -/
theorem rd_up {S S' : Hp} {u : HO} (e : Ex S S') (h : Rd S a u) : Rd S' a u := h.elim (fun h => .inl (e _ _ h)) fun ⟨o, h⟩ => .inr ⟨o, e _ _ h⟩
theorem vv_dgR (h : EvV r ta s S (.ref a)) (hi : EvV r ti s S (kV k)) (ha : Rd S a (.dK kvs)) (hk : valV kvs k = some v) : EvV r (tDGet ta ti) s S v := fun S1 H e w0 Q q =>
  h S1 H e w0 _ fun x S2 H2 w2 s2 ex => hi S2 H2 (e.trans s2.ex) w2 _ fun y S3 H3 w3 s3 ey => ⟨a, v, ex, .inl ⟨kvs, k, rd_up (e.trans (s2.ex.trans (s3.ex.trans w3.ex))) ha, ey, hk.symm⟩, q v S3 H3 w3 (s2.trans s3) rfl⟩
theorem vv_inDR (hi : EvV r ti s S (kV k)) (h : EvV r ta s S (.ref a)) (ha : Rd S a (.dK kvs)) : EvV r (tOp rInDD ti ta) s S (.bl (valV kvs k).isSome) := vv_op hi h fun H e Q q => ⟨a, _, rfl, .inl ⟨kvs, k, rd_up e ha, rfl, rfl⟩, q⟩
theorem vv_notInDR (hi : EvV r ti s S (kV k)) (h : EvV r ta s S (.ref a)) (ha : Rd S a (.dK kvs)) : EvV r (tOp rNotInDD ti ta) s S (.bl (!(valV kvs k).isSome)) := vv_op hi h fun H e Q q => ⟨a, _, rfl, .inl ⟨kvs, k, rd_up e ha, rfl, rfl⟩, q⟩
/-- the keys of a locked dict, texts -/
theorem ei_keysS {ks : List Str} {od : Obj} (h : EvV r te s S (.ref d)) (hd : S d = some (.frz od (.dK kvs))) (hk : kvs.map (·.1) = ks.map (Sum.inr : Str → Key)) : EvI r (iKeys te) s S ks StrR := fun S1 H a w R q =>
  h S1 H a w _ fun v S2 H2 w2 s2 ev => by
    have hlen : kvs.length = ks.length := by
      have := congrArg List.length hk
      rw [List.length_map, List.length_map] at this
      exact this
    have f2 := s2.ex _ _ (a _ _ hd)
    refine ⟨d, od, ev, .inl ⟨kvs, w2.ex _ _ f2, q (Itk d od kvs) S2 H2 (fun H => H d = some (.frz od (.dK kvs))) (fun i H x H' => H' = H ∧ ∃ k v, kvs[i]? = some (k, v) ∧ x = kV k) w2 s2 (by
      have wk := walk_keys (d := d) (o := od) (kvs := kvs)
      rw [hlen] at wk
      exact wk) (fun S' H' e w' => w'.ex _ _ (e _ _ f2)) fun i S' H' v H'' hi e w' ⟨e4, k, v', e5, e6⟩ => ?_⟩⟩
    subst e4
    have h3 : (kvs.map (·.1))[i]? = some k := by rw [List.getElem?_map, e5]; rfl
    rw [hk, List.getElem?_map, List.getElem?_eq_getElem hi] at h3
    have h4 : (Sum.inr ks[i] : Key) = k := Option.some.inj h3
    exact ⟨S', ks[i], List.getElem?_eq_getElem hi, w', Stp.refl, by rw [e6, ← h4]; rfl⟩
/-- a list of texts made while a dict was locked -/
theorem strs_lock {zs : List Str} {u o : HO} (h : LstR StrR zs v S) (hd : S d = some o) (n : ∀ xs, o ≠ .lst xs) : LstR StrR zs v (upd S d u) := by
  obtain ⟨b, vs, e1, e2, e3⟩ := h
  have nb : b ≠ d := fun z => by
    rw [z, hd] at e2
    exact n _ (Option.some.inj e2)
  rw [e3.strs] at e2
  exact ⟨b, _, e1, by rw [upd_ne nb]; exact e2, All2.of_strs zs⟩
theorem ev_lockS {zs : List Str} (hd : S d = some (.dK kvs)) (n : d ∉ r.M)
    (h : ∀ od S1, S1 d = some (.frz od (.dK kvs)) → (∀ a o, a ≠ d → S a = some o → S1 a = some o) → EvS r te s S1 fun v S2 => LstR StrR zs v S2) : EvS r (tLockE te) s S fun v S1 => LstR StrR zs v S1 :=
  ev_lock hd n (fun v S2 od h1 h2 => strs_lock h2 h1 fun xs z => nomatch z) h
/-! ### entries -/
end
structure NtE where
  name : Str
  v : V
  m : MachD
  w : Nat
def kvN (ns : List NtE) : List (Key × V) := ns.map fun e => ((Sum.inr e.name : Key), e.v)
def valN (ns : List NtE) (z : Str) : Option NtE := ns.find? fun e => decide (e.name = z)
def putN (ns : List NtE) (n : NtE) : List NtE := if (ns.any fun e => decide (e.name = n.name)) = true then ns.map (fun e => if e.name = n.name then n else e) else ns ++ [n]
theorem key_dec {a b : Str} : decide ((Sum.inr a : Key) = Sum.inr b) = decide (a = b) := decide_eq_decide.mpr ⟨fun h => Sum.inr.inj h, fun h => by rw [h]⟩
theorem valV_N {z : Str} : ∀ (ns : List NtE), valV (kvN ns) (.inr z) = (valN ns z).map (·.v)
  | [] => rfl
  | e :: ns => by
    have ih := valV_N (z := z) ns
    unfold valV kvN valN at ih ⊢
    rw [List.map_cons, List.find?_cons, List.find?_cons]
    dsimp only
    rw [key_dec]
    by_cases c : e.name = z
    · rw [decide_eq_true c]
      rfl
    · rw [decide_eq_false c]
      exact ih
theorem putK_N (ns : List NtE) (n : NtE) : putK (kvN ns) (.inr n.name) n.v = kvN (putN ns n) := by
  unfold putK putN kvN
  rw [List.any_map]
  have e : ((fun kv : Key × V => decide (kv.1 = (Sum.inr n.name : Key))) ∘ fun e : NtE => ((Sum.inr e.name : Key), e.v)) = fun e : NtE => decide (e.name = n.name) := funext fun e => key_dec
  rw [e]
  by_cases c : (ns.any fun e => decide (e.name = n.name)) = true
  · rw [if_pos c, if_pos c, List.map_map, List.map_map]
    refine List.map_congr_left fun e _ => ?_
    show (if (Sum.inr e.name : Key) = Sum.inr n.name then ((Sum.inr e.name : Key), n.v) else ((Sum.inr e.name : Key), e.v)) = ((Sum.inr (if e.name = n.name then n else e).name : Key), (if e.name = n.name then n else e).v)
    by_cases z : e.name = n.name
    · rw [if_pos z, if_pos (by rw [z]), z]
    · rw [if_neg z, if_neg (fun h => z (Sum.inr.inj h))]
  · rw [if_neg c, if_neg c, List.map_append]
    rfl
theorem putN_mem {ns : List NtE} {n e : NtE} (h : e ∈ putN ns n) : e = n ∨ e ∈ ns := by
  unfold putN at h
  split at h
  · obtain ⟨f, hf, rfl⟩ := List.mem_map.mp h
    by_cases z : f.name = n.name
    · rw [if_pos z]
      exact .inl rfl
    · rw [if_neg z]
      exact .inr hf
  · rcases List.mem_append.mp h with h | h
    · exact .inr h
    · exact .inl (List.mem_singleton.mp h)
theorem putN_names (ns : List NtE) (n : NtE) : (putN ns n).map (·.name) = if n.name ∈ ns.map (·.name) then ns.map (·.name) else ns.map (·.name) ++ [n.name] := by
  unfold putN
  have e : (ns.any fun e => decide (e.name = n.name)) = decide (n.name ∈ ns.map (·.name)) := by
    rw [Bool.eq_iff_iff, List.any_eq_true, decide_eq_true_iff, List.mem_map]
    exact ⟨fun ⟨x, h, e⟩ => ⟨x, h, of_decide_eq_true e⟩, fun ⟨x, h, e⟩ => ⟨x, h, decide_eq_true e⟩⟩
  rw [e]
  by_cases c : n.name ∈ ns.map (·.name)
  · rw [if_pos (decide_eq_true c), if_pos c, List.map_map]
    refine List.map_congr_left fun e _ => ?_
    show (if e.name = n.name then n else e).name = e.name
    split
    · next h => exact h.symm
    · rfl
  · rw [if_neg (by rw [decide_eq_false c]; decide), if_neg c, List.map_append]
    rfl
theorem kvN_keys (ns : List NtE) : (kvN ns).map (·.1) = (ns.map (·.name)).map (Sum.inr : Str → Key) := by
  unfold kvN
  rw [List.map_map, List.map_map]
  rfl
theorem kvN_len (ns : List NtE) : (kvN ns).length = ns.length := by unfold kvN; rw [List.length_map]
theorem valN_get {ns : List NtE} {z : Str} {f : NtE} (h : valN ns z = some f) : f ∈ ns ∧ f.name = z := by
  unfold valN at h
  have := List.find?_some h
  exact ⟨List.mem_of_find?_eq_some h, of_decide_eq_true this⟩
theorem valN_some {ns : List NtE} {z : Str} (h : z ∈ ns.map (·.name)) : ∃ e, valN ns z = some e ∧ e ∈ ns ∧ e.name = z := by
  obtain ⟨e, he, hz⟩ := List.mem_map.mp h
  cases c : valN ns z with
  | none =>
    have := List.find?_eq_none.mp c e he
    exact absurd (decide_eq_true hz) this
  | some f => exact ⟨f, rfl, valN_get c⟩
theorem valN_iff {ns : List NtE} {z : Str} : (valN ns z).isSome = decide (z ∈ ns.map (·.name)) := by
  by_cases c : z ∈ ns.map (·.name)
  · obtain ⟨e, h, _⟩ := valN_some c
    rw [h, decide_eq_true c]
    rfl
  · rw [decide_eq_false c]
    cases e : valN ns z with
    | none => rfl
    | some f => exact absurd (List.mem_map.mpr ⟨f, valN_get e⟩) c
theorem valV_some {ns : List NtE} {z : Str} : (valV (kvN ns) (.inr z)).isSome = decide (z ∈ ns.map (·.name)) := by
  rw [valV_N, Option.isSome_map, valN_iff]
end
end K63

namespace K63
open PySem PySem.Spec PyProof.Rows L2 Evl J RZ
section
variable {P : Program} {w : World} {K : PySem.W.Frag} {mg : Str → Option Value} {base : Heap}
/-! ### Notes: what it keeps, what it says -/
theorem ltc_tot : ∀ (a b : List Nat), ltCps b a = false ∨ ltCps a b = false
  | [], [] => .inl rfl
  | [], _ :: _ => .inl rfl
  | _ :: _, [] => .inr rfl
  | a :: r, b :: t => by
    simp only [ltCps, Bool.or_eq_false_iff, decide_eq_false_iff_not, Bool.and_eq_false_imp, beq_iff_eq]
    rcases Nat.lt_trichotomy a b with h | h | h
    · exact .inl ⟨by omega, fun e => by omega⟩
    · subst h
      rcases ltc_tot r t with h | h
      · exact .inl ⟨by omega, fun _ => h⟩
      · exact .inr ⟨by omega, fun _ => h⟩
    · exact .inr ⟨by omega, fun e => by omega⟩
def leS63 (a b : Str) : Bool := !ltCps b.cps.toList a.cps.toList
def srtN (zs : List Str) : List Str := zs.mergeSort leS63
theorem srtN_perm (zs : List Str) : (srtN zs).Perm zs := List.mergeSort_perm _ _
theorem srtN_sorted (zs : List Str) : sortedS (srtN zs) = true := by
  refine sortedS_of_pairwise _ ((List.pairwise_mergeSort (le := leS63) (fun a b c h1 h2 => ?_) (fun a b => ?_) zs).imp fun h => ?_)
  · unfold leS63 at *
    rw [Bool.not_eq_true'] at *
    exact ltc_trans _ _ _ h1 h2
  · unfold leS63
    rw [Bool.or_eq_true, Bool.not_eq_true', Bool.not_eq_true']
    exact ltc_tot _ _
  · unfold leS63 at h
    rw [Bool.not_eq_true'] at h
    exact h
section
variable {r : Rs} {s : L2.St} {S H H1 : Hp} {ta tb te ti : TE} {kvs : List (Key × V)} {k : Key} {a d x : Addr} {v : V} {C CM : Addr}
theorem ev_srt {zs : List Str} (hz : zs.length < 64) (h : EvS r ta s S fun v S1 => LstR StrR zs v S1) : EvS r (tCB (rSortedU K) (tCons ta tNil)) s S fun v S1 => LstR StrR (srtN zs) v S1 :=
  (ev_sortS63 hz h).imp fun v S1 _ ⟨ms, h1, h2, h3⟩ => by
    rw [sort_same ((srtN_perm zs).trans h2.symm) (srtN_sorted zs) h3]
    exact h1
theorem en_dnew63 : EvN r tDNewK s S fun o _ => o = .dK [] := fun S1 H e w Q q p hp => q p (.dK []) S1 (L2.upd H p (.dK [])) hp upd_same (w.fresh hp) (w.new hp) (Stp.new hp) rfl
def ntF (d : Addr) : List (Str × V) := [("by_name", .ref d)]
theorem nt_g (d : Addr) : (ntF d).lookup ("by_name" : Str) = some (V.ref d) := by kernel_rfl
theorem nt_no (d : Addr) : (ntF d).lookup ("names" : Str) = none ∧ (ntF d).lookup ("turnable" : Str) = none := ⟨by kernel_rfl, by kernel_rfl⟩
def NtI (C x d : Addr) (S : Hp) : Prop := ∃ dx, S x = some (.ins C dx (ntF d))
theorem nti_up {S S' : Hp} (e : Ex S S') (h : NtI C x d S) : NtI C x d S' := h.imp fun dx h => e _ _ h
theorem nt_f {i : Nat} (h : s[i]? = some (some (.ref x))) (hx : NtI C x d S) (c : Cls K C) (n : NoAttr K C "by_name") : EvV r (tFld K (tVar i) "by_name") s S (.ref d) := by
  obtain ⟨dx, h1⟩ := hx
  exact vv_fld (vv_var h) h1 c n (nt_g _)
theorem nt_back (h : NtI C x d S) : ∃ z dx fs, V.ref x = .ref z ∧ S z = some (.ins C dx fs) := h.elim fun dx h => ⟨x, dx, _, rfl, h⟩
theorem kp_stp {u : HO} (s : Stp (Rs.nil.more [d]) S H S1 H1) (hd : H d = some u) (n : ∀ q, u ≠ LamX.CodeO d q) : Kp [d] H H1 := by
  have k : ∀ a o, a ∉ [d] → H a = some o → H1 a = some o := fun a o m e => s.kp a o (fun z => (List.mem_append.mp z).elim m fun z => nomatch z) e
  exact ⟨k, s.dm, fun a q e => k a _ (fun z => by
    rw [List.mem_singleton.mp z, hd] at e
    exact n q (Option.some.inj e)) e⟩
end
def NmOk (z : Str) : Prop := z.length ≤ 1000 ∧ (∀ c ∈ z.cps.toList, c < 128) ∧ nameB z = true
theorem NmOk.r {z : Str} {S : Hp} (h : NmOk z) : NmR K true (.str z) S := .text rfl h.1 h.2.1 h.2.2
def IsM (CM : Addr) (v : V) (S : Hp) : Prop := ∃ y dy fs, v = .ref y ∧ S y = some (.ins CM dy fs)
def NotM (K : PySem.W.Frag) (CM : Addr) (v : V) (S : Hp) : Prop := ∃ t, TyX K S v (.type t) ∧ PySem.W.kitOne K (.type t) (.ref CM) = some false
theorem notm_up {CM : Addr} {v : V} {S S' : Hp} (e : Ex S S') (h : NotM K CM v S) : NotM K CM v S' := h.imp fun t h => ⟨tyx_up e h.1, h.2⟩
theorem vv_isnm {r : Rs} {s : L2.St} {S : Hp} {i : Nat} {v : V} {b : Bool} (h : s[i]? = some (some v)) (hn : NmR K b v S) : EvV r (tCall (sp_is_name K) [] E0 (tCons (tVar i) tNil)) s S (.bl b) :=
  vv_call (v, b) (va_cons (vv_var h) va_nil) (fun S1 e => ⟨rfl, nm_up e hn⟩) fun v _ _ p => p
def sp_nt_init (C : Addr) : Sp := fun vs H Q _ => ∃ x dx, vs = [.ref x] ∧ H x = some (.ins C dx []) ∧ ∀ d H', H d = none → Kp [x] H H' → H' x = some (.ins C dx (ntF d)) → H' d = some (.dK []) → Q .non H'
theorem G_Notes_init (T : TX P w K mg) : FnOk P w K mg base CX0 1 T.f_Notes_init T.fd_Notes_init ["self"] (sp_nt_init T.C_Notes) := by
  refine T.F_Notes_init.ok sc_Notes_init (fun vs H Q E h => ?_) (fun cdv A outer s H vs Q E hr h => ?_)
  · obtain ⟨x, dx, rfl, _⟩ := h
    rfl
  · obtain ⟨x, dx, rfl, hx, q⟩ := h
    refine ⟨_, PSs.nox (pss_one (ps_fldK (K := K) (pv 0) pe_dnewK)), ?_⟩
    refine ht_fldN (a := x) (Rn := fun o _ => o = .dK []) (vv_var rfl) en_dnew63 hx T.cl_Notes T.na_Notes_by_name (by decide) fun p o S1 H1 n0 e1 e2 n1 h1 eo => ?_
    subst eo
    have hx1 := (e1.trans e2) _ _ hx
    have np : p ≠ x := fun z => by
      rw [z, hx] at n0
      cases n0
    exact q p _ n0 ((Kp.ex (e1.trans e2)).trans (Kp.upd (by simp) (nco_ins hx1))) upd_same (by rw [upd_ne np]; exact h1)
def sp_nt_set (C CM : Addr) : Sp := SpM (A := Addr × Addr × List (Key × V) × Str × V) (fun a => [a.2.1]) (fun a vs H => vs = [.ref a.1, .str a.2.2.2.1, a.2.2.2.2] ∧ NtI C a.1 a.2.1 H ∧ H a.2.1 = some (.dK a.2.2.1) ∧ a.2.2.1.length < 1000 ∧ NmOk a.2.2.2.1 ∧ IsM CM a.2.2.2.2 H) (fun a v _ H' => v = .non ∧ H' a.2.1 = some (.dK (putK a.2.2.1 (.inr a.2.2.2.1) a.2.2.2.2)))
theorem G_Notes_setitem (T : TX P w K mg) : FnOk P w K mg base CX0 2 T.f_Notes_setitem T.fd_Notes_setitem ["self", "name", "machine"] (sp_nt_set T.C_Notes T.C_Machine) := by
  refine T.F_Notes_setitem.ok sc_Notes_setitem (fun vs H Q E h => ?_) (fun cdv A outer s H vs Q E hr h => ?_)
  · obtain ⟨a, ⟨rfl, _⟩, _⟩ := h
    rfl
  · obtain ⟨⟨x, d, kvs, z, v⟩, ⟨rfl, hx, hd, hl, hz, hm⟩, q⟩ := h
    dsimp only at hx hd hl hz hm q
    refine ⟨_, PSs.nox (pss_cons (ps_if (pt_not (pt_val (pe_call (G_is_name T) (hr.mono (by decide)) (by rfl) T.g_is_name T.F_is_name.kp T.b_is_name .nil pass0 (pa_cons (pv 1) pa_nil)))) (pss_one ps_never) pss_nil)
      (pss_cons (ps_if (pt_not (pt_val (pe_callB (call_isiK2 (K := K)) (by rfl) T.z_isinstance (by decide +kernel) (pa_cons (pv 2) (pa_cons (pe_glob (v := .ref T.C_Machine) (by rfl) T.g_Machine rfl) pa_nil))))) (pss_one ps_never) pss_nil)
      (pss_one (ps_dput (units1 hr) (pe_fldK (K := K) (pv 0)) (pv 1) (pv 2) (by rfl))))), ?_⟩
    refine hs_ifNo (tb_not (a := true) (tb_B (vv_isnm rfl hz.r))) fun H1 e1 => ?_
    obtain ⟨y, dy, fs, rfl, hy⟩ := hm
    refine hs_ifNo (tb_not (a := true) (tb_B (vv_isC (vv_var rfl) vv_c (e1 _ _ hy) T.cl_Machine T.ty_Machine))) fun H2 e2 => ?_
    have e02 := e1.trans e2
    have hd2 := e02 _ _ hd
    have hx2 := nti_up e02 hx
    have xd : x ≠ d := fun z => by
      obtain ⟨dx, h⟩ := hx2
      rw [z, hd2] at h
      cases h
    have w2 : Wd Rs.nil (J.delL [d] H2) H2 := (w0 H2).delL
    have hx3 : NtI T.C_Notes x d (J.delL [d] H2) := hx2.imp fun dx h => by
      rw [delL_out (by simp [xd])]
      exact h
    refine st_dput (r := Rs.nil) (kk := .inr z) (R := fun u _ => u = .ref y) (fun z => nomatch z) (vv_var rfl) (nt_f rfl hx3 T.cl_Notes T.na_Notes_by_name) (vv_var rfl) w2 hd2 (delL_in (by simp)) (by omega) fun v S1 H3 w3 s3 n3 h3 ev => ?_
    subst ev
    exact q .non H3 ((Kp.ex e02).trans (kp_stp s3 hd2 (fun q z => by
      unfold LamX.CodeO at z
      cases z))) ⟨rfl, h3⟩
/-! refused -/
def spx_ntM (K : PySem.W.Frag) (CM CE : Addr) : Sp := SpX (B := V × Str × V) CE "value" (fun b vs S => vs = [b.1, .str b.2.1, b.2.2] ∧ NmOk b.2.1 ∧ NotM K CM b.2.2 S) (fun b v _ => v = b.2.2)
def spx_nt_set (K : PySem.W.Frag) (CM C1 C2 : Addr) : Sp := fun vs H Q E => SpX (B := V × V × V) C1 "value" (fun b vs S => vs = [b.1, b.2.1, b.2.2] ∧ NmR K false b.2.1 S) (fun b v _ => v = b.2.1) vs H Q E ∨ spx_ntM K CM C2 vs H Q E
theorem GX_Notes_setitem (T : TX P w K mg) : FnOk P w K mg base (L2N.CX P w) 3 T.f_Notes_setitem T.fd_Notes_setitem ["self", "name", "machine"] (spx_nt_set K T.C_Machine T.C_InvalidName T.C_InvalidMachine) := by
  refine ok_N T.F_Notes_setitem sc_Notes_setitem (fun vs H Q E h => ?_) (fun cdv A outer s H vs Q E hr h => ?_)
  · rcases h with ⟨a, S, ⟨rfl, _⟩, _⟩ | ⟨a, S, ⟨rfl, _⟩, _⟩ <;> rfl
  · refine ⟨_, (pss_cons (ps_if (pt_not (pt_val (pe_call (G_is_name T) (hr.mono (by decide)) (by rfl) T.g_is_name T.F_is_name.kp T.b_is_name .nil pass0 (pa_cons (pv 1) pa_nil)))) (pss_one (ps_rs T.xc_InvalidName (hr.mono (by decide)) T.bx_InvalidName (by rfl) T.g_InvalidName (pa_cons (pv 1) pa_nil))) pss_nil)
      (pss_cons (ps_if (pt_not (pt_val (pe_callB (call_isiK2 (K := K)) (by rfl) T.z_isinstance (by decide +kernel) (pa_cons (pv 2) (pa_cons (pe_glob (v := .ref T.C_Machine) (by rfl) T.g_Machine rfl) pa_nil))))) (pss_one (ps_rs T.xc_InvalidMachine (hr.mono (by decide)) T.bx_InvalidMachine (by rfl) T.g_InvalidMachine (pa_cons (pv 2) pa_nil))) pss_nil)
      (pss_one (ps_dput (units1 hr) (pe_fldK (K := K) (pv 0)) (pv 1) (pv 2) (by rfl))))), ?_⟩
    rcases h with ⟨⟨x, y, v⟩, S, ⟨rfl, hb⟩, w0, q⟩ | ⟨⟨x, z, v⟩, S, ⟨rfl, hz, t, ht, hk⟩, w0, q⟩
    · dsimp only at hb q
      exact sq_if (b := true) (tb_not (a := false) (tb_B (vv_isnm rfl hb))) w0 (fun _ S1 H1 w1 s1 => st_rsV (va_cons (vv_var rfl) va_nil) w1 fun d v S2 H2 w2 s2 ev hd => q d v S2 H2 w2 (s1.trans s2) ev hd) (fun z => nomatch z)
    · dsimp only at hz ht q
      refine sq_ifNo (tb_not (a := true) (tb_B (vv_isnm rfl hz.r))) w0 fun S1 H1 w1 s1 => ?_
      exact sq_if (b := true) (tb_not (a := false) (tb_B (vv_cb (va_cons (vv_var rfl) (va_cons vv_c va_nil)) (rc_isi (.own T.C_Machine) (tyx_up s1.ex ht) hk)))) w1 (fun _ S2 H2 w2 s2 => st_rsV (va_cons (vv_var rfl) va_nil) w2 fun d v S3 H3 w3 s3 ev hd => q d v S3 H3 w3 (s1.trans (s2.trans s3)) ev hd) (fun z => nomatch z)
/-! what is in it -/
inductive NmK (K : PySem.W.Frag) (b : Bool) (kvs : List (Key × V)) (v : V) (S : Hp) : Prop
  | bad : NmR K false v S → b = false → NmK K b kvs v S
  | name {z : Str} : v = .str z → NmOk z → (valV kvs (.inr z)).isSome = b → NmK K b kvs v S
theorem nmk_up {b : Bool} {kvs : List (Key × V)} {v : V} {S S' : Hp} (e : Ex S S') (h : NmK K b kvs v S) : NmK K b kvs v S' := by
  cases h with
  | bad h1 h2 => exact .bad (nm_up e h1) h2
  | name h1 h2 h3 => exact .name h1 h2 h3
def sp_nt_in (K : PySem.W.Frag) (C : Addr) : Sp := SpP (A := (Addr × Addr × List (Key × V)) × V × Bool) (fun a vs S => vs = [.ref a.1.1, a.2.1] ∧ NtI C a.1.1 a.1.2.1 S ∧ Rd S a.1.2.1 (.dK a.1.2.2) ∧ NmK K a.2.2 a.1.2.2 a.2.1 S) (fun a v _ => v = .bl a.2.2)
theorem G_Notes_contains (T : TX P w K mg) : FnOk P w K mg base CX0 2 T.f_Notes_contains T.fd_Notes_contains ["self", "name"] (sp_nt_in K T.C_Notes) := by
  refine T.F_Notes_contains.ok sc_Notes_contains (fun vs H Q E h => ?_) (fun cdv A outer s H vs Q E hr h => ?_)
  · obtain ⟨a, S, ⟨rfl, _⟩, _⟩ := h
    rfl
  · obtain ⟨⟨⟨x, d, kvs⟩, v, b⟩, S, ⟨rfl, hx, hd, hk⟩, w0, q⟩ := h.body
    dsimp only at hx hd hk q
    refine ⟨_, (pss_one (ps_ret (pe_and (pe_call (G_is_name T) (hr.mono (by decide)) (by rfl) T.g_is_name T.F_is_name.kp T.b_is_name .nil pass0 (pa_cons (pv 1) pa_nil)) (pe_one (pe_cmpR (op_inDD (units1 hr)) (pv 1) (pe_fldK (K := K) (pv 0)) (by with_unfolding_all rfl)))))), ?_⟩
    cases hk with
    | bad h1 h2 =>
      subst h2
      exact st_ret (R := fun v _ => v = .bl false) (vv_and (a := false) (b := false) (vv_isnm rfl h1) fun z => nomatch z) w0 fun v S1 H1 w1 s1 p => q v S1 H1 w1 s1 p
    | @name z h1 h2 h3 =>
      subst h1
      subst h3
      exact st_ret (R := fun v _ => v = .bl (valV kvs (.inr z)).isSome) (EvV.is (vv_and (a := true) (vv_isnm rfl h2.r) fun _ => vv_inDR (k := .inr z) (vv_var rfl) (nt_f rfl hx T.cl_Notes T.na_Notes_by_name) hd) (Bool.true_and _ ▸ rfl)) w0 fun v S1 H1 w1 s1 p => q v S1 H1 w1 s1 p
def sp_nt_get (C : Addr) : Sp := SpP (A := (Addr × Addr × List (Key × V)) × Str × V) (fun a vs S => vs = [.ref a.1.1, .str a.2.1] ∧ NtI C a.1.1 a.1.2.1 S ∧ Rd S a.1.2.1 (.dK a.1.2.2) ∧ NmOk a.2.1 ∧ valV a.1.2.2 (.inr a.2.1) = some a.2.2) (fun a v _ => v = a.2.2)
theorem vv_ntnot {r : Rs} {s : L2.St} {S : Hp} {ta tb : TE} {C x d : Addr} {kvs : List (Key × V)} {v : V} {b : Bool} {E : XK} (hv : EvV r ta s S v) (h : EvV r tb s S (.ref x)) (hx : NtI C x d S) (hd : Rd S d (.dK kvs)) (hk : NmK K b kvs v S) : EvV r (tOp (rNotInO C (sp_nt_in K C) E) ta tb) s S (.bl (!b)) :=
  vv_notInO ((x, d, kvs), v, b) hv h (nt_back hx) (fun S1 e => ⟨rfl, nti_up e hx, rd_up e hd, nmk_up e hk⟩) fun u S1 p => p
theorem vv_ntin {r : Rs} {s : L2.St} {S : Hp} {ta tb : TE} {C x d : Addr} {kvs : List (Key × V)} {v : V} {b : Bool} {E : XK} (hv : EvV r ta s S v) (h : EvV r tb s S (.ref x)) (hx : NtI C x d S) (hd : Rd S d (.dK kvs)) (hk : NmK K b kvs v S) : EvV r (tOp (rInO C (sp_nt_in K C) E) ta tb) s S (.bl b) :=
  vv_inO ((x, d, kvs), v, b) hv h (nt_back hx) (fun S1 e => ⟨rfl, nti_up e hx, rd_up e hd, nmk_up e hk⟩) fun u S1 p => p
theorem G_Notes_getitem (T : TX P w K mg) : FnOk P w K mg base CX0 3 T.f_Notes_getitem T.fd_Notes_getitem ["self", "name"] (sp_nt_get T.C_Notes) := by
  refine T.F_Notes_getitem.ok sc_Notes_getitem (fun vs H Q E h => ?_) (fun cdv A outer s H vs Q E hr h => ?_)
  · obtain ⟨a, S, ⟨rfl, _⟩, _⟩ := h
    rfl
  · obtain ⟨⟨⟨x, d, kvs⟩, z, v⟩, S, ⟨rfl, hx, hd, hz, hv⟩, w0, q⟩ := h.body
    dsimp only at hx hd hz hv q
    refine ⟨_, (pss_cons (ps_if (pt_cmpR (op_notInO (G_Notes_contains T) T.m_Notes_contains (hr.mono (by decide)) T.b_Notes_contains pass0) (pv 1) (pv 0) (by with_unfolding_all rfl)) (pss_one ps_never) pss_nil)
      (pss_one (ps_ret (pe_dget (units1 hr) (pe_fldK (K := K) (pv 0)) (pv 1) (fun _ _ => rfl))))), ?_⟩
    refine sq_ifNo (tb_test (vv_ntnot (b := true) (vv_var rfl) (vv_var rfl) hx hd (.name rfl hz (by rw [hv]; rfl)))) w0 fun S1 H1 w1 s1 => ?_
    exact st_ret (R := fun u _ => u = v) (vv_dgR (k := .inr z) (nt_f rfl (nti_up s1.ex hx) T.cl_Notes T.na_Notes_by_name) (vv_var rfl) (rd_up s1.ex hd) hv) w1 fun v S2 H2 w2 s2 p => q v S2 H2 w2 (s1.trans s2) p
def spx_nt_get (K : PySem.W.Frag) (C CE : Addr) : Sp := SpX (B := (Addr × Addr × List (Key × V)) × V) CE "value" (fun a vs S => vs = [.ref a.1.1, a.2] ∧ NtI C a.1.1 a.1.2.1 S ∧ Rd S a.1.2.1 (.dK a.1.2.2) ∧ NmK K false a.1.2.2 a.2 S) (fun a v _ => v = a.2)
theorem GX_Notes_getitem (T : TX P w K mg) : FnOk P w K mg base (L2N.CX P w) 3 T.f_Notes_getitem T.fd_Notes_getitem ["self", "name"] (spx_nt_get K T.C_Notes T.C_InvalidName) := by
  refine ok_N T.F_Notes_getitem sc_Notes_getitem (fun vs H Q E h => ?_) (fun cdv A outer s H vs Q E hr h => ?_)
  · obtain ⟨a, S, ⟨rfl, _⟩, _⟩ := h
    rfl
  · obtain ⟨⟨⟨x, d, kvs⟩, v⟩, S, ⟨rfl, hx, hd, hk⟩, w0, q⟩ := h
    dsimp only at hx hd hk q
    refine ⟨_, (pss_cons (ps_if (pt_cmpR (op_notInO (G_Notes_contains T) T.m_Notes_contains (hr.mono (by decide)) T.b_Notes_contains pass0) (pv 1) (pv 0) (by with_unfolding_all rfl)) (pss_one (ps_rs T.xc_InvalidName (hr.mono (by decide)) T.bx_InvalidName (by rfl) T.g_InvalidName (pa_cons (pv 1) pa_nil))) pss_nil)
      (pss_one (ps_ret (pe_dget (units1 hr) (pe_fldK (K := K) (pv 0)) (pv 1) (fun _ _ => rfl))))), ?_⟩
    exact sq_if (b := true) (tb_test (vv_ntnot (b := false) (vv_var rfl) (vv_var rfl) hx hd hk)) w0 (fun _ S1 H1 w1 s1 => st_rsV (va_cons (vv_var rfl) va_nil) w1 fun d v S2 H2 w2 s2 ev hd => q d v S2 H2 w2 (s1.trans s2) ev hd) (fun z => nomatch z)
def sp_nt_len (C : Addr) : Sp := SpP (A := Addr × Addr × List (Key × V)) (fun a vs S => vs = [.ref a.1] ∧ NtI C a.1 a.2.1 S ∧ S a.2.1 = some (.dK a.2.2)) (fun a v _ => v = .int (a.2.2.length : Int))
theorem G_Notes_len (T : TX P w K mg) : FnOk P w K mg base CX0 1 T.f_Notes_len T.fd_Notes_len ["self"] (sp_nt_len T.C_Notes) := by
  refine T.F_Notes_len.ok sc_Notes_len (fun vs H Q E h => ?_) (fun cdv A outer s H vs Q E hr h => ?_)
  · obtain ⟨a, S, ⟨rfl, _⟩, _⟩ := h
    rfl
  · obtain ⟨⟨x, d, kvs⟩, S, ⟨rfl, hx, hd⟩, w0, q⟩ := h.body
    dsimp only at hx hd q
    refine ⟨_, (pss_one (ps_ret (pe_callB (call_lenK (K := K)) (by rfl) T.z_len (by decide +kernel) (pa_cons (pe_fldK (K := K) (pv 0)) pa_nil)))), ?_⟩
    exact st_ret (R := fun u _ => u = .int (kvs.length : Int)) (vv_cb (va_cons (nt_f rfl hx T.cl_Notes T.na_Notes_by_name) va_nil) fun H e Q q => .inr ⟨d, kvs, rfl, e _ _ hd, q⟩) w0 fun v S1 H1 w1 s1 p => q v S1 H1 w1 s1 p
/-- sorted([str(z) for z in d]) -/
theorem ev_names {r : Rs} {s : L2.St} {S : Hp} {te : TE} {j : Nat} {vs : List Nat} {d : Addr} {ns : List NtE} (h : ∀ S1, (∀ a o, a ≠ d → S a = some o → S1 a = some o) → EvV r te s S1 (.ref d)) (hd : S d = some (.dK (kvN ns))) (n : d ∉ r.M) (hz : ns.length < 64) (hw : ∀ v, wipe ((wipe s vs).set j (some v)) vs = wipe s vs) (hj : ∀ v, ((wipe s vs).set j (some v))[j]? = some (some v)) :
    EvS r (tCB (rSortedU K) (tCons (tLockE (tLc (iKeys te) (gName j) tYes (tCB rStrX (tCons (tVar j) tNil)) vs)) tNil)) s S fun v S1 => LstR StrR (srtN (ns.map (·.name))) v S1 := by
  refine ev_srt (by rw [List.length_map]; exact hz) (ev_lockS hd n fun od S1 h1 ho => ?_)
  have h2 := EvN.lst (X := StrR) (en_lcn (X := StrR) (Yr := StrR) (te := tCB rStrX (tCons (tVar j) tNil)) (fun z : Str => z) (ei_keysS (h S1 ho) h1 (kvN_keys ns)) (by rw [List.length_map]; omega) hw fun y v S2 e m hy => by
    rw [show v = _ from hy]
    exact vv_cb (va_cons (vv_var (hj _)) va_nil) fun H e Q q => .inr ⟨_, rfl, q⟩)
  rw [List.map_id'] at h2
  exact h2
def sp_nt_names (K : PySem.W.Frag) (C : Addr) : Sp := SpP (A := Addr × Addr × List NtE) (fun a vs S => vs = [.ref a.1] ∧ NtI C a.1 a.2.1 S ∧ S a.2.1 = some (.dK (kvN a.2.2)) ∧ a.2.2.length < 64) (fun a v S => TupR K StrR (srtN (a.2.2.map (·.name))) v S)
theorem G_Notes_names (T : TX P w K mg) : FnOk P w K mg base CX0 1 T.f_Notes_names T.fd_Notes_names ["self"] (sp_nt_names K T.C_Notes) := by
  refine T.F_Notes_names.ok sc_Notes_names (fun vs H Q E h => ?_) (fun cdv A outer s H vs Q E hr h => ?_)
  · obtain ⟨a, S, ⟨rfl, _⟩, _⟩ := h
    rfl
  · obtain ⟨⟨x, d, ns⟩, S, ⟨rfl, hx, hd, hl⟩, w0, q⟩ := h.body
    dsimp only at hx hd hl q
    refine ⟨_, (pss_one (ps_ret (pe_callTy (call_tupleK (K := K)) (by rfl) T.z_tuple (by decide +kernel) (pa_cons (pe_callB (call_sortedK (K := K)) (by rfl) T.z_sorted (by decide +kernel) (pa_cons (pe_lock (pe_lc (own := [("name", 1)]) (by rfl) sc_Notes_names.nd (pi_keys (pe_fldK (K := K) (pv 0))) (blkOk_by (own := [("name", 1)]) (N := N_Notes_names) (sc := (defScope s_Notes_names)) (by decide +kernel)) (fun _ _ _ _ _ => (pg_name (i := 1) sc_Notes_names.nd rfl (Or.inl rfl))) (fun _ _ _ _ _ => pts_nil) (fun _ _ _ _ _ => (pe_callTy call_strX (by rfl) T.z_str (by decide +kernel) (pa_cons (pv 1) pa_nil))))) pa_nil)) pa_nil)))), ?_⟩
    have xd : x ≠ d := fun z => by
      obtain ⟨dx, h⟩ := hx
      rw [z, hd] at h
      cases h
    exact st_ret (R := fun v S => TupR K StrR (srtN (ns.map (·.name))) v S) (ev_tupS (R := StrR) ((ev_names (r := Rs.nil) (fun S1 ho => nt_f rfl (hx.imp fun dx h => ho _ _ xd h) T.cl_Notes T.na_Notes_by_name) hd (fun z => by cases z) hl (by intro _; rfl) (by intro _; rfl)).imp fun v S1 _ h => .inl h)) w0 fun v S1 H1 w1 s1 p => q v S1 H1 w1 s1 p
/-- which of the names -/
noncomputable def turnB (e : NtE) : Bool := @decide (∀ c, c < e.w → ∀ p, ReachP e.m c p → goodP e.m c p = true) (Classical.propDecidable _)
noncomputable def turnN (ns : List NtE) (z : Str) : Bool := match valN ns z with
  | some e => turnB e
  | none => false
theorem vv_turn {p c : Addr} {s : L2.St} {S : Hp} {te : TE} {ns : List NtE} {z : Str} {e : NtE} {C : Addr} {T' : List (Addr × Str)} (h : EvV ((poolR p c).tabs T') te s S e.v) (he : valN ns z = some e) (hm : MachR K C e.w e.m e.v S) : EvV ((poolR p c).tabs T') (tCall (sp_is_turnable K C T') [] E0 (tCons te tNil)) s S (.bl (turnN ns z)) :=
  ev_callR ((p, c), e.m, e.w) rfl (va_cons h va_nil) (fun S1 H1 e1 _ => ⟨_, rfl, Mono.up e1 hm⟩) fun v S1 H1 _ _ ⟨b, ev, hb⟩ => by
    rw [ev]
    unfold turnN
    rw [he]
    dsimp only
    unfold turnB
    cases b with
    | true => rw [@decide_eq_true _ (Classical.propDecidable _) (hb.mp rfl)]
    | false => rw [@decide_eq_false _ (Classical.propDecidable _) (fun z => nomatch hb.mpr z)]
def sp_nt_turnable (K : PySem.W.Frag) (C CM : Addr) (T' : List (Addr × Str)) : Sp := SpR (A := (Addr × Addr) × Addr × Addr × List NtE) (fun a => (poolR a.1.1 a.1.2).tabs T') (fun a vs S _ => vs = [.ref a.2.1] ∧ NtI C a.2.1 a.2.2.1 S ∧ S a.2.2.1 = some (.dK (kvN a.2.2.2)) ∧ a.2.2.2.length < 64 ∧ ∀ e, e ∈ a.2.2.2 → MachR K CM e.w e.m e.v S) (fun a v S _ => TupR K StrR ((srtN (a.2.2.2.map (·.name))).filter (turnN a.2.2.2)) v S)
/-- [z for z in names if is_turnable(d[z])] -/
theorem ev_turns {p c : Addr} {s : L2.St} {S : Hp} {wi : TI} {te : TE} {j : Nat} {vs : List Nat} {d : Addr} {ns : List NtE} {CM : Addr} {T' : List (Addr × Str)} (hi : EvI ((poolR p c).tabs T') wi s S (srtN (ns.map (·.name))) StrR) (hd : S d = some (.dK (kvN ns))) (hz : ns.length < 64) (hm : ∀ e, e ∈ ns → MachR K CM e.w e.m e.v S) (hw : ∀ v, wipe ((wipe s vs).set j (some v)) vs = wipe s vs) (hj : ∀ v, ((wipe s vs).set j (some v))[j]? = some (some v))
    (h : ∀ v S1, Ex S S1 → EvV ((poolR p c).tabs T') te ((wipe s vs).set j (some v)) S1 (.ref d)) :
    EvS ((poolR p c).tabs T') (tCB (rTupleU K) (tCons (tLc wi (gName j) (tTest (tCall (sp_is_turnable K CM T') [] E0 (tCons (tDGet te (tVar j)) tNil))) (tVar j) vs) tNil)) s S fun v S1 => TupR K StrR ((srtN (ns.map (·.name))).filter (turnN ns)) v S1 := by
  have hl : (srtN (ns.map (·.name))).length = ns.length := by rw [(srtN_perm _).length_eq, List.length_map]
  have h2 := EvN.lst (X := StrR) (en_lct (X := StrR) (Yr := StrR) (tt := tTest (tCall (sp_is_turnable K CM T') [] E0 (tCons (tDGet te (tVar j)) tNil))) (te := tVar j) (turnN ns) (fun z : Str => z) hi (by rw [hl]; omega) hw (fun y v S1 e m hy => by
    obtain ⟨f, hf, hmf, _⟩ := valN_some ((srtN_perm _).mem_iff.mp m)
    rw [show v = _ from hy]
    exact tb_test (vv_turn (vv_dgR (k := .inr y) (h _ S1 e) (vv_var (hj _)) (.inl (e _ _ hd)) (by rw [valV_N, hf]; rfl)) hf (Mono.up e (hm f hmf)))) fun y v S1 e m _ hy => ev_v (R := StrR) (hj v) hy)
  rw [List.map_id'] at h2
  exact ev_tupS (R := StrR) (h2.imp fun v S1 _ h => .inl h)
theorem G_Notes_turnable (T : TX P w K mg) (TB : ∀ y ∈ lamC T, LamX.TabB base mg y.1 y.2) : FnG P w K mg base 6 T.f_Notes_turnable T.fd_Notes_turnable ["self"] (sp_nt_turnable K T.C_Notes T.C_Machine (lamT T)) := by
  refine ok_G T.F_Notes_turnable sc_Notes_turnable (fun vs H Q E h => ?_) (fun cdv A outer s H vs Q E g hr h => ?_)
  · obtain ⟨a, S, ⟨rfl, _⟩, _⟩ := h
    rfl
  · obtain ⟨⟨⟨p, c⟩, x, d, ns⟩, S, ⟨rfl, hx, hd, hl, hm⟩, w0, q⟩ := h
    dsimp only at hx hd hl hm w0 q
    refine ⟨_, (pss_one (ps_ret (pe_callTy (call_tupleK (K := K)) (by rfl) T.z_tuple (by decide +kernel) (pa_cons (pe_lc (own := [("name", 1)]) (by rfl) sc_Notes_turnable.nd (pi_K (K := K) (pe_meth0 (pv 0) T.cl_Notes T.m_Notes_names (G_Notes_names T) (hr.mono (by decide)) T.b_Notes_names .nil pass0)) (blkOk_by (own := [("name", 1)]) (N := N_Notes_turnable) (sc := (defScope s_Notes_turnable)) (by decide +kernel)) (fun _ _ _ _ _ => (pg_name (i := 1) sc_Notes_turnable.nd rfl (Or.inl rfl))) (fun _ _ _ _ _ => (pts_one (pt_val (pe_callG (G_is_turnable T TB) g (hr.mono (by decide)) (by rfl) T.g_is_turnable T.F_is_turnable.kp T.b_is_turnable .nil (pa_cons (pe_dget (units1 hr) (pe_fldK (K := K) (pv 0)) (pv 1) (fun _ _ => rfl)) pa_nil))))) (fun _ _ _ _ _ => (pv 1))) pa_nil)))), ?_⟩
    exact st_ret (R := fun v S => TupR K StrR ((srtN (ns.map (·.name))).filter (turnN ns)) v S) (ev_turns (ei_tup (ev_methP (Q1 := fun u _ => u = .ref x) (vv_var rfl) va_nil fun y S1 S2 e1 ey e2 => by
      obtain ⟨dx, hx1⟩ := nti_up e1 hx
      exact ⟨x, dx, _, ey, hx1, (nt_no d).1, (x, d, ns), ⟨by rw [ey], nti_up (e1.trans e2) hx, (e1.trans e2) _ _ hd, hl⟩, fun v S3 _ h => h⟩)) hd hl hm (by intro _; rfl) (by intro _; rfl) fun v S1 e => nt_f rfl (nti_up e hx) T.cl_Notes T.na_Notes_by_name) w0 fun v S1 H1 w1 s1 p => q v S1 H1 w1 s1 p
/-! the law's put -/
def sp_L_set : Sp := fun _ _ _ _ => False
theorem G_L_set (T : TX P w K mg) : FnOk P w K mg base CX0 3 T.f_L_set T.fd_L_set ["_law_table", "_law_name", "_law_thing"] sp_L_set := by
  refine T.F_L_set.ok sc_L_set (fun vs H Q E h => ?_) (fun cdv A outer s H vs Q E hr h => ?_)
  · cases h
  · cases h
def spx_L_set (K : PySem.W.Frag) (C CM C1 C2 : Addr) : Sp := fun vs H Q E => SpX (B := Addr × V × V) C1 "value" (fun b vs S => vs = [.ref b.1, b.2.1, b.2.2] ∧ NmR K false b.2.1 S ∧ ∃ d, NtI C b.1 d S) (fun b v _ => v = b.2.1) vs H Q E ∨ SpX (B := Addr × Str × V) C2 "value" (fun b vs S => vs = [.ref b.1, .str b.2.1, b.2.2] ∧ (NmOk b.2.1 ∧ NotM K CM b.2.2 S) ∧ ∃ d, NtI C b.1 d S) (fun b v _ => v = b.2.2) vs H Q E
section
variable {r : Rs} {s : L2.St} {S H : Hp} {ta te ti : TE} {D : Ends} {o i v : V} {rs : TSet}
theorem st_setV (hv : EvV r te s S v) (ho : EvV r ta s S o) (hi : EvV r ti s S i) (w : Wd r S H) (k : ∀ S1 H1, Wd r S1 H1 → Stp r S H S1 H1 → rs o i v H1 (fun H2 => D.nx s H2)) : tAsg te (gSub ta ti rs) D s H :=
  hv S H (Ex.refl _) w _ fun v1 S1 H1 w1 s1 e1 => by
    subst e1
    exact ho S1 H1 s1.ex w1 _ fun o1 S2 H2 w2 s2 e2 => by
      subst e2
      exact hi S2 H2 (s1.trans s2).ex w2 _ fun j S3 H3 w3 s3 e3 => by
        subst e3
        exact k S3 H3 w3 (s1.trans (s2.trans s3))
end
theorem GX_L_set (T : TX P w K mg) : FnOk P w K mg base (L2N.CX P w) 4 T.f_L_set T.fd_L_set ["_law_table", "_law_name", "_law_thing"] (spx_L_set K T.C_Notes T.C_Machine T.C_InvalidName T.C_InvalidMachine) := by
  refine ok_N T.F_L_set sc_L_set (fun vs H Q E h => ?_) (fun cdv A outer s H vs Q E hr h => ?_)
  · rcases h with ⟨a, S, ⟨rfl, _⟩, _⟩ | ⟨a, S, ⟨rfl, _⟩, _⟩ <;> rfl
  · refine ⟨_, (pss_one (ps_asg (pv 2) (pg_sub (pv 0) (pv 1) (set_alt (set_own (G_Notes_setitem T) T.m_Notes_setitem T.nq_Notes (hr.mono (by decide)) T.b_Notes_setitem pass0) (set_own (GX_Notes_setitem T) T.m_Notes_setitem T.nq_Notes (hr.mono (by decide)) T.b_Notes_setitem passN))))), ?_⟩
    rcases h with ⟨⟨x, y, v⟩, S, ⟨rfl, hb, d0, dx, hx⟩, w0, q⟩ | ⟨⟨x, z, v⟩, S, ⟨rfl, ⟨hz, hm⟩, d0, dx, hx⟩, w0, q⟩
    · dsimp only at hb hx q
      refine st_setV (o := .ref x) (i := y) (v := v) (vv_var rfl) (vv_var rfl) (vv_var rfl) w0 fun S1 H1 w1 s1 => ?_
      exact .inr ⟨x, dx, _, rfl, w1.ex _ _ (s1.ex _ _ hx), .inl ⟨(.ref x, y, v), S1, ⟨rfl, nm_up s1.ex hb⟩, w1, fun d v S2 H2 w2 s2 ev hd => q d v S2 H2 w2 (s1.trans s2) ev hd⟩⟩
    · dsimp only at hz hm hx q
      refine st_setV (o := .ref x) (i := .str z) (v := v) (vv_var rfl) (vv_var rfl) (vv_var rfl) w0 fun S1 H1 w1 s1 => ?_
      exact .inr ⟨x, dx, _, rfl, w1.ex _ _ (s1.ex _ _ hx), .inr ⟨(.ref x, z, v), S1, ⟨rfl, hz, notm_up s1.ex hm⟩, w1, fun d v S2 H2 w2 s2 ev hd => q d v S2 H2 w2 (s1.trans s2) ev hd⟩⟩
end
end K63

namespace K63
open PySem PySem.Spec PyProof.Rows L2 Evl J RZ
section
variable {P : Program} {w : World} {K : PySem.W.Frag} {mg : Str → Option Value} {base : Heap}
/-! ### the law's words, its machines -/
def lastM : MachD := ⟨[[1, 2], [1, 2], [1, 2]], [0, 1, 2], 0⟩
theorem last_ok : drB lastM 2 = true := by decide +kernel
section
variable {r : Rs} {s : L2.St} {S : Hp} {ts tk : TA} {C : Addr} {E : XK} {m : MachD} {w : Nat}
theorem ev_mkMS {dvs : List V} (h : EvAS r ts s S fun us S1 => ∃ vs va, us ++ dvs = [vs, va, .int m.st] ∧ SeqR K (SeqR K IntR) m.rows vs S1 ∧ SeqR K IntR m.ans va S1) (ok : MOk m w) : EvS r (tMake C (sp_Machine_init K C) dvs E ts) s S fun v S1 => MachR K C w m v S1 :=
  EvN.stable (R' := fun v S1 => MachR K C w m v S1) (en_make (R := fun o S1 => ∃ dx s a, o = .ins C dx (mcF s a m.st) ∧ MachAt K m s a S1) h fun us' S1 e1 ⟨vs, va, eu, h1, h2⟩ => ⟨(m, w), ⟨vs, va, eu, h1, h2, ok⟩, fun dx fs S2 _ ⟨s, t, ef, ha⟩ => ⟨dx, s, t, by rw [ef], ha⟩⟩) fun p o S1 _ n0 ⟨dx, s, t, eo, ha⟩ => ⟨p, dx, s, t, rfl, by rw [eo]; exact upd_same, ⟨Mono.up (Ex.new n0) ha.1, Mono.up (Ex.new n0) ha.2⟩, ok⟩
end
def sp_mlast (K : PySem.W.Frag) (C : Addr) : Sp := SpP (A := Unit) (fun _ vs _ => vs = []) (fun _ v S => MachR K C 2 lastM v S)
theorem G_Machine_last (T : TX P w K mg) : FnOk P w K mg base CX0 6 T.f_Machine_last T.fd_Machine_last [] (sp_mlast K T.C_Machine) := by
  refine T.F_Machine_last.ok sc_Machine_last (fun vs H Q E h => ?_) (fun cdv A outer s H vs Q E hr h => ?_)
  · obtain ⟨a, S, rfl, _⟩ := h
    rfl
  · obtain ⟨_, S, rfl, w0, q⟩ := h.body
    refine ⟨_, (pss_one (ps_ret (pe_make T.mk_Machine (G_Machine_init T) (hr.mono (by decide)) (by rfl) T.g_Machine T.b2_Machine_init.choose_spec.2 T.b2_Machine_init.choose_spec.1 pass0 (pa_cons (pe_lst (pa_cons (pe_lst (pa_cons pe_int (pa_cons pe_int pa_nil))) (pa_cons (pe_lst (pa_cons pe_int (pa_cons pe_int pa_nil))) (pa_cons (pe_lst (pa_cons pe_int (pa_cons pe_int pa_nil))) pa_nil)))) (pa_cons (pe_lst (pa_cons pe_int (pa_cons pe_int (pa_cons pe_int pa_nil)))) pa_nil))))), ?_⟩
    exact st_ret (R := fun v S => MachR K T.C_Machine 2 lastM v S) (ev_mkMS (m := lastM) (w := 2) (J.ea_cons (R := fun v S => LstR (LstR IntR) lastM.rows v S) (ev_lits lastM.rows ⟨by decide, by decide⟩) fun y1 S4 e4 h1 => J.ea_cons (R := fun v S => LstR IntR lastM.ans v S) (ev_lit lastM.ans (by decide)) fun y2 S5 e5 h5 => J.ea_nil.imp' fun us S6 e6 eu => ⟨y1, y2, by rw [eu]; rfl, rowsL (Mono.up (e5.trans e6) h1), .inl (Mono.up e6 h5)⟩) (drB_ok last_ok).ok) w0 fun v4 S4 H4 w4 s4 h4 => q v4 S4 H4 w4 s4 h4
def more63 : List Str := ["b", "ab", "ba", "z", "az", "abc", "abcdefgh", "hgfedcba", "aa", "bb", "cc", "za"]
def words63 : List Str := ("a" : Str) :: more63
theorem words_ok : ∀ z, z ∈ words63 → NmOk z := by
  have h : ∀ z ∈ words63, z.length ≤ 1000 ∧ (∀ c ∈ z.cps.toList, c < 128) ∧ nameB z = true := by decide +kernel
  exact h
theorem zz_ok : NmOk "zz" := by
  have h : ("zz" : Str).length ≤ 1000 ∧ (∀ c ∈ ("zz" : Str).cps.toList, c < 128) ∧ nameB "zz" = true := by decide +kernel
  exact h
theorem words_lay : ∀ z ∈ words63, (PyData.str z).canLay0 = true ∧ (PyData.str z).showable = true ∧ (PyData.str z).weight ≤ 8 := by decide +kernel
theorem names_lay : ∀ {zs : List Str}, (∀ z, z ∈ zs → z ∈ words63) → PyData.canLayAll0 (zs.map PyData.str) = true ∧ PyData.showableAll (zs.map PyData.str) = true ∧ PyData.weightAll (zs.map PyData.str) ≤ 9 * zs.length
  | [], _ => ⟨rfl, rfl, Nat.zero_le _⟩
  | z :: zs, h => by
    obtain ⟨a1, a2, a3⟩ := words_lay z (h z List.mem_cons_self)
    obtain ⟨b1, b2, b3⟩ := names_lay fun y hy => h y (List.mem_cons_of_mem _ hy)
    rw [List.map_cons]
    refine ⟨?_, ?_, ?_⟩
    · rw [PyData.canLayAll0, a1, b1]
      rfl
    · rw [PyData.showableAll, a2, b2]
      rfl
    · rw [PyData.weightAll, List.length_cons]
      omega
theorem shw_names {zs : List Str} (h : ∀ z, z ∈ zs → z ∈ words63) (hl : zs.length ≤ 40) : Shw (.tuple (zs.map PyData.str)) := by
  obtain ⟨h1, h2, h3⟩ := names_lay h
  exact .mk' (by rw [PyData.canLay0]; exact h1) (by rw [PyData.showable]; exact h2) (by rw [PyData.weight]; omega) (by
    have := depth_strs zs
    rw [PyData.depth]
    omega)
theorem shw_word {z : Str} (h : z ∈ words63) : Shw (.str z) := by
  obtain ⟨h1, h2, h3⟩ := words_lay z h
  exact .mk' h1 h2 (by omega) (Nat.zero_le _)
theorem dp_strT {S : Hp} {zs : List Str} {v : V} (h : TupR K StrR zs v S) : Dp K S v (.tuple (zs.map PyData.str)) := by
  obtain ⟨a, vs, rfl, h1, h2⟩ := h
  exact .tup h1 (dp_strs h2)
/-! ### odd names, odd things -/
def OddN (K : PySem.W.Frag) : Rl PyData := fun d v S => Dp K S v d ∧ Shw d ∧ NmR K false v S
instance : Mono (OddN K) := ⟨fun e h => ⟨dp_up e _ _ h.1, h.2.1, nm_up e h.2.2⟩⟩
def OddM (K : PySem.W.Frag) (CM : Addr) : Rl PyData := fun d v S => Dp K S v d ∧ Shw d ∧ NotM K CM v S
instance {CM : Addr} : Mono (OddM K CM) := ⟨fun e h => ⟨dp_up e _ _ h.1, h.2.1, notm_up e h.2.2⟩⟩
section
variable {r : Rs} {s : L2.St} {S : Hp} {te : TE}
theorem odd_val {v : V} {d : PyData} (h : EvV r te s S v) (hd : ∀ S, Dp K S v d) (hs : Shw d) (hn : ∀ S, NmR K false v S) : EvS r te s S fun v S1 => OddN K d v S1 := h.imp fun u S1 _ e => by
  rw [show u = _ from e]
  exact ⟨hd S1, hs, hn S1⟩
theorem odd_str {z : Str} (hz : nameB z = false) (hl : (PyData.str z).canLay0 = true ∧ (PyData.str z).showable = true ∧ (PyData.str z).weight ≤ 1000) (ha : z.length ≤ 1000 ∧ ∀ c ∈ z.cps.toList, c < 128) : EvS r (tC (.str z)) s S fun v S1 => OddN K (.str z) v S1 :=
  odd_val vv_c (fun _ => .str _) (.mk' hl.1 hl.2.1 (by omega) (Nat.zero_le _)) fun _ => .text rfl ha.1 ha.2 hz
theorem oddm_val {CM : Addr} {v : V} {d : PyData} (h : EvV r te s S v) (hd : ∀ S, Dp K S v d) (hs : Shw d) (hn : ∀ S, NotM K CM v S) : EvS r te s S fun v S1 => OddM K CM d v S1 := h.imp fun u S1 _ e => by
  rw [show u = _ from e]
  exact ⟨hd S1, hs, hn S1⟩
end
theorem shw_dec {d : PyData} (h : d.canLay0 = true ∧ d.showable = true ∧ d.weight ≤ 8000 ∧ d.depth ≤ 40) : Shw d := .mk' h.1 h.2.1 h.2.2.1 h.2.2.2
section
variable {r : Rs} {s : L2.St} {S : Hp}
theorem ev_odds : EvS r (tLst (tCons (tC (.str ("" : Str))) (tCons (tC (.str ("abcdefghi" : Str))) (tCons (tC (.str ("A" : Str))) (tCons (tC (.str ("a1" : Str))) (tCons (tC .non) (tCons (tC (.int 0)) (tCons (tC (.bl true)) (tCons (tTup (tCons (tC (.str ("a" : Str))) tNil)) (tCons (tLst (tCons (tC (.str ("a" : Str))) tNil)) (tCons (tC (.str ("a b" : Str))) tNil))))))))))) s S fun v S1 => LstR (OddN K) [.str "", .str "abcdefghi", .str "A", .str "a1", .none, .int 0, .bool true, .tuple [.str "a"], .list [.str "a"], .str "a b"] v S1 :=
  ev_lstA (ar_cons (R := OddN K) (odd_str (by decide +kernel) (by decide +kernel) (by decide +kernel)) fun _ _ =>
    ar_cons (R := OddN K) (odd_str (by decide +kernel) (by decide +kernel) (by decide +kernel)) fun _ _ =>
    ar_cons (R := OddN K) (odd_str (by decide +kernel) (by decide +kernel) (by decide +kernel)) fun _ _ =>
    ar_cons (R := OddN K) (odd_str (by decide +kernel) (by decide +kernel) (by decide +kernel)) fun _ _ =>
    ar_cons (R := OddN K) (odd_val vv_c (fun _ => .non) shw_none fun _ => .notstr (.base .non) (by decide +kernel) rfl) fun _ _ =>
    ar_cons (R := OddN K) (odd_val vv_c (fun _ => .int _) (shw_int (by decide)) fun _ => .notstr (.base (.int 0)) (by decide +kernel) rfl) fun _ _ =>
    ar_cons (R := OddN K) (odd_val vv_c (fun _ => .bl _) shw_bool fun _ => .notstr (.base (.bl true)) (by decide +kernel) rfl) fun _ _ =>
    ar_cons (R := OddN K) (EvN.stable (en_tup (P := fun us _ => us = [V.str "a"]) (va_cons vv_c va_nil) fun us S1 e => by
        rw [e]
        show 1 ≤ 100000
        decide) fun q o S1 _ n ⟨us, eo, eu⟩ => ⟨.tup (SqT.of (by rw [eo, eu]; exact upd_same)) (.cons (.str _) .nil), shw_dec (by decide +kernel), .notstr (.base (.tup (xs := [V.str "a"]) (by rw [eo, eu]; exact upd_same))) (by decide +kernel) rfl⟩) fun _ _ =>
    ar_cons (R := OddN K) (EvN.stable (en_lst (P := fun us _ => us = [V.str "a"]) (va_cons vv_c va_nil) fun us S1 e => by
        rw [e]
        show 1 ≤ 100000
        decide) fun q o S1 _ n ⟨us, eo, eu⟩ => ⟨.lst (SqL.of (by rw [eo, eu]; exact upd_same)) (.cons (.str _) .nil), shw_dec (by decide +kernel), .notstr (.base (.lst (xs := [V.str "a"]) (by rw [eo, eu]; exact upd_same))) (by decide +kernel) rfl⟩) fun _ _ =>
    ar_cons (R := OddN K) (odd_str (by decide +kernel) (by decide +kernel) (by decide +kernel)) fun _ _ => ar_nil) (by decide)
theorem ev_oddm (T : TX P w K mg) : EvS r (tLst (tCons (tC .non) (tCons (tC (.int 3)) (tCons (tLst (tCons (tC (.int 1)) tNil)) (tCons (tC (.str ("last" : Str))) tNil))))) s S fun v S1 => LstR (OddM K T.C_Machine) [.none, .int 3, .list [.int 1], .str "last"] v S1 :=
  ev_lstA (ar_cons (R := OddM K T.C_Machine) (oddm_val vv_c (fun _ => .non) shw_none fun _ => ⟨_, .base .non, T.ko_Machine_NoneType⟩) fun _ _ =>
    ar_cons (R := OddM K T.C_Machine) (oddm_val vv_c (fun _ => .int _) (shw_int (by decide)) fun _ => ⟨_, .base (.int 3), T.ko_Machine_int⟩) fun _ _ =>
    ar_cons (R := OddM K T.C_Machine) (EvN.stable (en_lst (P := fun us _ => us = [V.int 1]) (va_cons vv_c va_nil) fun us S1 e => by
        rw [e]
        show 1 ≤ 100000
        decide) fun q o S1 _ n ⟨us, eo, eu⟩ => ⟨.lst (SqL.of (by rw [eo, eu]; exact upd_same)) (.cons (.int _) .nil), shw_oneL, ⟨_, .base (.lst (xs := [V.int 1]) (by rw [eo, eu]; exact upd_same)), T.ko_Machine_list⟩⟩) fun _ _ =>
    ar_cons (R := OddM K T.C_Machine) (oddm_val vv_c (fun _ => .str _) (shw_dec (by decide +kernel)) fun _ => ⟨_, .base (.str _), T.ko_Machine_str⟩) fun _ _ => ar_nil) (by decide)
end
/-! ### calls and what is raised -/
section
variable {r : Rs} {s : L2.St} {S H H1 : Hp} {ta tb te ti : TE} {ts : TA} {R : V → Hp → Prop} {E : XK} {C CM CE x d : Addr} {v : V} {PA : List V → Hp → Prop}
theorem ev_callE {A : Type} {pre : A → List V → Hp → Prop} {post : A → V → Hp → Prop} (h : EvAS r ts s S PA) (hp : ∀ us S1, Ex S S1 → PA us S1 → ∃ a, pre a us S1 ∧ ∀ v S2, Ex S1 S2 → post a v S2 → R v S2) : EvS r (tCall (SpP pre post) [] E ts) s S R := fun S1 H e w Q q =>
  h S1 H e w _ fun us S2 H2 w2 s2 p => by
    obtain ⟨a, p1, p2⟩ := hp us S2 (e.trans s2.ex) p
    exact ⟨a, S2, by rw [List.append_nil]; exact p1, w2.ex, fun v S3 H3 w3 s3 h3 => q v S3 H3 (w2.lift w3 s3) (s2.trans s3.lift) (p2 v S3 s3.ex h3)⟩
theorem ex_callO {B : Type} {fld : Str} {pre : B → List V → Hp → Prop} {val : B → V → Hp → Prop} {sp : Sp} (hsp : ∀ vs H Q E, SpX (B := B) CE fld pre val vs H Q E → sp vs H Q E) (h : EvAS r ts s S PA) (hp : ∀ us S1, Ex S S1 → PA us S1 → ∃ b, pre b us S1 ∧ ∀ v S2, Ex S1 S2 → val b v S2 → R v S2) : EvX E CE fld r (tCall sp [] E ts) s S R := fun S1 H e w k Q =>
  h S1 H e w _ fun us S2 H2 w2 s2 p => by
    obtain ⟨b, p1, p2⟩ := hp us S2 (e.trans s2.ex) p
    exact hsp _ _ _ _ ⟨b, S2, by rw [List.append_nil]; exact p1, w2.bare, fun d v S4 H4 w4 s4 hv hd => k d v S4 H4 (w2.lift w4 s4) (s2.trans s4.lift) (p2 v S4 s4.ex hv) hd⟩
theorem ev_methRR {A : Type} {rs : A → Rs} {pre : A → List V → Hp → Hp → Prop} {post : A → V → Hp → Hp → Prop} {dx : Addr} {fs : List (Str × V)} {mn : Str} (a : A) (hr : rs a = r) (hx : EvV r te s S (.ref x)) (hi : S x = some (.ins C dx fs)) (no : fs.lookup mn = none) (hp : ∀ S1 H1, Ex S S1 → Wd r S1 H1 → pre a [.ref x] S1 H1) (hq : ∀ v S2 H2, Ex S S2 → Wd r S2 H2 → post a v S2 H2 → R v S2) : EvS r (tMeth C mn (SpR rs pre post) [] E te tNil) s S R := fun S1 H e w Q q =>
  hx S1 H e w _ fun u S2 H2 w2 s2 eu => by
    subst eu
    subst hr
    exact ⟨x, dx, fs, rfl, w2.ex _ _ (s2.ex _ _ (e _ _ hi)), no, a, S2, hp S2 H2 (e.trans s2.ex) w2, w2, fun v S3 H3 w3 s3 p3 => q v S3 H3 w3 (s2.trans s3) (hq v S3 H3 (e.trans (s2.ex.trans s3.ex)) w3 p3)⟩
theorem vv_neM {m : MachD} {w : Nat} (h1 : EvV r ta s S v) (h2 : EvV r tb s S v) (hm : MachR K CM w m v S) : EvV r (tOp (rNeO CM (sp_Machine_eq K CM) E) ta tb) s S (.bl false) := fun S1 H e wd Q q =>
  h1 S1 H e wd _ fun u S2 H2 w2 s2 eu => h2 S2 H2 (e.trans s2.ex) w2 _ fun u' S3 H3 w3 s3 eu' => by
    subst eu
    subst eu'
    have e3 := e.trans (s2.ex.trans s3.ex)
    obtain ⟨y, dy, s', a, ey, hy, _⟩ := id hm
    have hy3 := w3.ex _ _ (e3 _ _ hy)
    have hm3 := Mono.up e3 hm
    subst ey
    refine ⟨y, dy, _, y, dy, _, rfl, rfl, hy3, hy3, ((m, w), m, w), S3, ⟨_, _, rfl, hm3, hm3⟩, w3.ex, fun u S4 H4 w4 s4 p4 => ⟨true, by rw [p4]; simp, q _ S4 H4 (w3.lift w4 s4) ((s2.trans s3).trans s4.lift) rfl⟩⟩
theorem vv_eqM {m : MachD} {w : Nat} (h1 : EvV r ta s S v) (h2 : ∀ S1, Ex S S1 → EvS r tb s S1 fun u S2 => MachR K CM w m u S2) (hm : MachR K CM w m v S) : EvV r (tOp (rEqO CM (sp_Machine_eq K CM) E) ta tb) s S (.bl true) := fun S1 H e w0 Q q =>
  h1 S1 H e w0 _ fun u S2 H2 w2 s2 eu => h2 S2 (e.trans s2.ex) S2 H2 (Ex.refl _) w2 _ fun u' S3 H3 w3 s3 hu => by
    subst eu
    have e3 := e.trans (s2.ex.trans s3.ex)
    obtain ⟨y, dy, s', a, ey, hy, _⟩ := id hm
    obtain ⟨z, dz, s2', a2, ez, hz, _⟩ := id hu
    have hm3 := Mono.up e3 hm
    have hu3 : MachR K CM w m u' S3 := hu
    subst ey
    subst ez
    refine ⟨y, dy, _, z, dz, _, rfl, rfl, w3.ex _ _ (e3 _ _ hy), w3.ex _ _ hz, ((m, w), m, w), S3, ⟨_, _, rfl, hm3, hu3⟩, w3.ex, fun u S4 H4 w4 s4 p4 => ⟨true, by rw [p4]; simp, q _ S4 H4 (w3.lift w4 s4) ((s2.trans s3).trans s4.lift) rfl⟩⟩
/-- a list that is empty != [] -/
theorem vv_neNil (h : EvS r ta s S fun v S1 => LstR StrR [] v S1) : EvV r (tOp (rNeU K) ta (tLst tNil)) s S (.bl false) :=
  EvV.is (vv_neD (K := K) (R := LstR IntR) (a := []) (b := []) (h.imp fun v S1 _ ⟨a, vs, e1, e2, e3⟩ => by
    cases e3
    exact ⟨a, [], e1, e2, .nil⟩) fun S1 e => ev_nilL) (by simp)
theorem borrowE {M : List Addr} (h : EvS r te s (sup M H S) R) (w : Wd r S H) (hM : Loc r M S H) {Q : VK} (q : ∀ v S1 H1, Wd r (J.delL M S1) H1 → Stp r S H (J.delL M S1) H1 → Ex (sup M H S) S1 → R v S1 → Q v H1) : te s H Q :=
  h _ H (Ex.refl _) (w.settleL fun a ha => (hM a ha).1) Q fun u S1 H1 w1 s1 p => q u S1 H1 w1.delL (s1.delL fun a ha => (hM a ha).2.1) s1.ex p
theorem wdK63 {M : List Addr} (w : Wd r S H) (k : Kp M H H1) (n : ∀ a, a ∈ M → a ∉ r.M ∧ S a = none) : Wd r S H1 :=
  ⟨fun a o e => k.1 a o (fun z => by
    rw [(n a z).2] at e
    cases e) (w.ex a o e), r.mono H H1 (fun a o ha e => k.1 a o (fun z => (n a z).1 ha) e) k.2.2 w.inv, w.dj⟩
theorem mk_nt {Q : VK} (k : ∀ x d H', Ex H H' → H x = none → H d = none → x ≠ d → NtI C x d H' → H' d = some (.dK []) → Q (.ref x) H') : tMake C (sp_nt_init C) [] E tNil s H Q := by
  intro x dx hx hdx ne
  have en : Ex H (upd (upd H dx (.own x)) x (.ins C dx [])) := (Ex.new hdx).trans (Ex.new (by rw [upd_ne ne.symm]; exact hx))
  have n1 : ∀ {b}, (upd (upd H dx (.own x)) x (.ins C dx [])) b = none → H b = none := fun {b} h => by
    cases z : H b with
    | none => rfl
    | some u =>
      rw [en _ _ z] at h
      cases h
  refine ⟨x, dx, rfl, upd_same, fun d H' d0 k5 hx5 hd5 => ⟨rfl, k x d H' (fun b o h => k5.1 b o (fun z => ?_) (en _ _ h)) hx (n1 d0) (fun z => ?_) ⟨dx, hx5⟩ hd5⟩⟩
  · rw [List.mem_singleton.mp z, hx] at h
    cases h
  · rw [z, hd5] at hx5
    cases hx5
end
/-! ### where the law stands -/
structure NL (CN CM : Addr) (r : Rs) (x d dd x2 d2 l : Addr) (mv : V) (ns : List NtE) (S H : Hp) : Prop where
  w : Wd r S H
  tab : NtI CN x d S
  oth : NtI CN x2 d2 S
  zz : S d2 = some (.dK (kvN [⟨"zz", mv, lastM, 2⟩]))
  lst : MachR K CM 2 lastM mv S
  wrd : LstR StrR words63 (.ref l) S
  nr : d ∉ r.M ∧ dd ∉ r.M
  sn : S d = none ∧ S dd = none
  hd : H d = some (.dK (kvN ns))
  hdd : H dd = some (.dK (kvN ns))
  ne : d ≠ dd
  ms : ∀ e, e ∈ ns → e.name ∈ words63 ∧ MachR K CM e.w e.m e.v S
section
variable {CN CM : Addr} {r : Rs} {x d dd x2 d2 l : Addr} {mv : V} {ns : List NtE} {S H S1 H1 : Hp}
theorem NL.loc (h : NL (K := K) CN CM r x d dd x2 d2 l mv ns S H) : Loc r [d, dd] S H := fun a ha => by
  rcases List.mem_cons.mp ha with rfl | ha
  · exact ⟨h.nr.1, h.sn.1, ne_none h.hd⟩
  · rw [List.mem_singleton.mp ha]
    exact ⟨h.nr.2, h.sn.2, ne_none h.hdd⟩
theorem NL.step (h : NL (K := K) CN CM r x d dd x2 d2 l mv ns S H) (w : Wd r S1 H1) (s : Stp r S H S1 H1) : NL (K := K) CN CM r x d dd x2 d2 l mv ns S1 H1 :=
  ⟨w, nti_up s.ex h.tab, nti_up s.ex h.oth, s.ex _ _ h.zz, Mono.up s.ex h.lst, Mono.up s.ex h.wrd, h.nr, ⟨s.fr d (ne_none h.hd) h.sn.1, s.fr dd (ne_none h.hdd) h.sn.2⟩, s.kp d _ h.nr.1 h.hd, s.kp dd _ h.nr.2 h.hdd, h.ne, fun e he => ⟨(h.ms e he).1, Mono.up s.ex (h.ms e he).2⟩⟩
theorem NL.U (h : NL (K := K) CN CM r x d dd x2 d2 l mv ns S H) : Ex S (sup [d, dd] H S) ∧ sup [d, dd] H S d = some (.dK (kvN ns)) ∧ sup [d, dd] H S dd = some (.dK (kvN ns)) :=
  ⟨fun a o e => by
    rw [sup_out (fun z => by
      rw [(h.loc a z).2.1] at e
      cases e)]
    exact e, by
    rw [sup_in (by simp)]
    exact h.hd, by
    rw [sup_in (by simp)]
    exact h.hdd⟩
theorem NL.wide (h : NL (K := K) CN CM r x d dd x2 d2 l mv ns S H) : NtI CN x d (sup [d, dd] H S) ∧ LstR StrR words63 (.ref l) (sup [d, dd] H S) ∧ ∀ e, e ∈ ns → MachR K CM e.w e.m e.v (sup [d, dd] H S) :=
  ⟨nti_up h.U.1 h.tab, Mono.up h.U.1 h.wrd, fun e he => Mono.up h.U.1 (h.ms e he).2⟩
end
end
end K63

namespace K63
open PySem PySem.Spec PyProof.Rows L2 Evl J RZ
section
variable {P : Program} {w : World} {K : PySem.W.Frag} {mg : Str → Option Value} {base : Heap}
/-! ### the law's questions, each by itself -/
section
variable {r : Rs} {s : L2.St} {S H H1 : Hp} {ta tb te ti : TE} {ts : TA} {R : V → Hp → Prop} {E : XK} {C CM CE C2 x d dd : Addr} {v v9 v10 mv : V} {ns : List NtE} {D : Ends} {tz tu : TS} {o i : V} {rs : TSet}
theorem asg_four63 {t1 t2 t3 t4 : TE} {g : TG} (h : t1 s H fun a H1 => t2 s H1 fun b H2 => t3 s H2 fun c H3 => t4 s H3 fun e H4 => [a, b, c, e].length ≤ sizeLine ∧ ∀ p, H4 p = none → g (.ref p) s (upd H4 p (.tup [a, b, c, e])) (tz D)) : tSeq (tAsg (tTup (tCons t1 (tCons t2 (tCons t3 (tCons t4 tNil))))) g) tz D s H := h
theorem sq_then {G : L2.St → Hp → Prop} (k : ∀ s1 H1, G s1 H1 → tz D s1 H1) (h : ∀ nx : L2.St → Hp → Prop, (∀ s1 H1, G s1 H1 → nx s1 H1) → tu { D with nx := nx } s H) : tSeq tu tz D s H := h _ k
theorem sq_opIf63 {q : R2} {tw : TS} (h : te s H fun v H1 => tSeq (tIfS (tTest (tOp q (tC v) tb)) tu tw) tz D s H1) : tSeq (tIfS (tTest (tOp q te tb)) tu tw) tz D s H := h
theorem sq_setV63 (hv : EvV r te s S v) (ho : EvV r ta s S o) (hi : EvV r ti s S i) (w : Wd r S H) (k : ∀ S1 H1, Wd r S1 H1 → Stp r S H S1 H1 → rs o i v H1 (fun H2 => tz D s H2)) : tSeq (tAsg te (gSub ta ti rs)) tz D s H := st_setV (D := { D with nx := tz D }) hv ho hi w k
theorem sq_setR63 (hv : EvS r te s S R) (m : ∀ v S1 S2, Ex S1 S2 → R v S1 → R v S2) (ho : EvV r ta s S o) (hi : EvV r ti s S i) (w : Wd r S H) (k : ∀ v S1 H1, Wd r S1 H1 → Stp r S H S1 H1 → R v S1 → rs o i v H1 (fun H2 => tz D s H2)) : tSeq (tAsg te (gSub ta ti rs)) tz D s H :=
  hv S H (Ex.refl _) w _ fun v S1 H1 w1 s1 e1 => ho S1 H1 s1.ex w1 _ fun o1 S2 H2 w2 s2 e2 => by
      subst e2
      exact hi S2 H2 (s1.trans s2).ex w2 _ fun j S3 H3 w3 s3 e3 => by
        subst e3
        exact k v S3 H3 w3 (s1.trans (s2.trans s3)) (m v S1 S3 (s2.trans s3).ex e1)
theorem sq_ifNoL {t : TT} (M : List Addr) (h : EvB r t s (sup M H S) false) (w : Wd r S H) (hM : Loc r M S H) (k : ∀ S1 H1, Wd r S1 H1 → Stp r S H S1 H1 → tz D s H1) : tSeq (tIfS t tu tNext) tz D s H := sq_ifL M h w hM (fun z => nomatch z) fun _ => k
theorem none_back {Ha Hb : Hp} {b : Addr} (e : Ex Ha Hb) (h : Hb b = none) : Ha b = none := by
  cases z : Ha b with
  | none => rfl
  | some u =>
    rw [e _ _ z] at h
    cases h
theorem strs_del {M : List Addr} {zs : List Str} (h : LstR StrR zs v S) (n : ∀ a, a ∈ M → ∃ kvs, S a = some (.dK kvs)) : LstR StrR zs v (J.delL M S) := by
  obtain ⟨b, vs, e1, e2, e3⟩ := h
  rw [e3.strs] at e2
  exact ⟨b, _, e1, by
    rw [delL_out (fun z => by
      obtain ⟨kvs, h⟩ := n b z
      rw [h] at e2
      cases e2)]
    exact e2, All2.of_strs zs⟩
/-- _law_caught(..) != [z, repr(v)]: not so -/
theorem tb_told63 {T : TX P w K mg} [Rs.Plain r] {P' : Addr} {q z : Str} {t : XK → TE} {d : PyData} {i : Nat} {T' : List (Addr × Str)} (hP : (P', q) ∈ T') (h : ∀ E, EvX E CE "value" (r.tabs T') (t E) s S fun u _ => u = v) (hC : Kd T CE z) (hv : s[i]? = some (some v)) (hd : Dp K S v d) (hs : Shw d) :
    EvB (r.tabs T') (tTest (tOp (rNeP K) (tLm P' T' (TTw K (Kd T)) t) (tLst (tCons (tC (.str z)) (tCons (tCB (rReprD K) (tCons (tVar i) tNil)) tNil))))) s S false :=
  tb_test (vv_neT (zs := [z, d.shown]) (ev_wrongE (R := fun u _ => u = v) hP h hC (fun u S1 e ev => by
    rw [ev]
    exact .inl (dp_up e _ _ hd)) hs) fun S1 e => ev_told2 ((vv_var hv).imp fun u S2 e2 eu => by
    rw [show u = _ from eu]
    exact .inl (dp_up (e.trans e2) _ _ hd)) hs)
theorem ex_set_odd {u : TE} (h : EvAV r ts s S [.ref x, v9, v10]) (hx : NtI C x d S) (hn : NmR K false v9 S) : EvX E CE "value" r (tAlt u (tCall (spx_L_set K C CM CE C2) [] E ts)) s S fun v _ => v = v9 :=
  ex_altR (ex_callO (fun _ _ _ _ h => .inl h) h fun us S1 e eu => ⟨(x, v9, v10), ⟨eu, nm_up e hn, d, nti_up e hx⟩, fun v S2 _ h => h⟩)
theorem ex_set_bad {u : TE} {z : Str} (h : EvAV r ts s S [.ref x, .str z, v9]) (hx : NtI C x d S) (hz : NmOk z) (hn : NotM K CM v9 S) : EvX E CE "value" r (tAlt u (tCall (spx_L_set K C CM C2 CE) [] E ts)) s S fun v _ => v = v9 :=
  ex_altR (ex_callO (fun _ _ _ _ h => .inr h) h fun us S1 e eu => ⟨(x, z, v9), ⟨eu, ⟨hz, notm_up e hn⟩, d, nti_up e hx⟩, fun v S2 _ h => h⟩)
theorem ex_get_odd {u : TE} {kvs : List (Key × V)} (h : EvV r ta s S (.ref x)) (hv : EvV r tb s S v) (hx : NtI C x d S) (hd : Rd S d (.dK kvs)) (hn : NmK K false kvs v S) : EvX E CE "value" r (tAlt u (tOp (rIxO C (spx_nt_get K C CE) E) ta tb)) s S fun u _ => u = v :=
  ex_altR (ex_ixO ((x, d, kvs), v) h hv (nt_back hx) (fun S1 e => ⟨rfl, nti_up e hx, rd_up e hd, nmk_up e hn⟩) fun u S1 _ h => h)
/-- d[z] of the notes -/
theorem vv_ntget {E' : XK} {z : Str} {e : NtE} (h : EvV r ta s S (.ref x)) (hv : EvV r tb s S (.str z)) (hx : NtI C x d S) (hd : Rd S d (.dK (kvN ns))) (hz : NmOk z) (he : valN ns z = some e) : EvV r (tOp (rIxO C (sp_nt_get C) E') ta tb) s S e.v :=
  ev_ixO ((x, d, kvN ns), z, e.v) h hv (nt_back hx) (fun S1 e1 => ⟨rfl, nti_up e1 hx, rd_up e1 hd, hz, by rw [valV_N, he]; rfl⟩) fun u S1 _ h => h
/-- repr(len(notes)) != repr(len(due)): not so -/
theorem vv_len63 (h : EvV r ta s S (.ref x)) (h2 : EvV r tb s S (.ref dd)) (hx : NtI C x d S) (hd : S d = some (.dK (kvN ns))) (hdd : S dd = some (.dK (kvN ns))) (hl : ns.length ≤ 40) : EvV r (tOp (rNeU K) (tCB (rReprD K) (tCons (tCB (rLenO C (sp_nt_len C) E) (tCons ta tNil)) tNil)) (tCB (rReprD K) (tCons (tCB (rLenU K) (tCons tb tNil)) tNil))) s S (.bl false) := by
  have hs : Shw (.int ((kvN ns).length : Int)) := shw_int (by
    rw [kvN_len]
    have h2 : (40 : Nat) < 10 ^ 18 := by decide
    omega)
  refine vv_rpNe (vv_rp (d := .int ((kvN ns).length : Int)) ((vv_lenO (x, d, kvN ns) h (nt_back hx) (n := ((kvN ns).length : Int)) ⟨by omega, by rw [kvN_len]; omega⟩ (fun S1 e => ⟨rfl, nti_up e hx, e _ _ hd⟩) fun u S1 p => p).imp fun v S1 _ e => by
    rw [show v = _ from e]
    exact .int _) hs) (vv_rp (d := .int ((kvN ns).length : Int)) ((vv_cb (va_cons h2 va_nil) fun H e Q q => .inr ⟨dd, kvN ns, rfl, e _ _ hdd, q⟩ : EvV r _ s S (.int ((kvN ns).length : Int))).imp fun v S1 _ e => by
    rw [show v = _ from e]
    exact .int _) hs) rfl
/-- repr(a) != repr(b) of two tuples of the same names -/
theorem vv_rpT63 {zs : List Str} (h : EvS r ta s S fun v S1 => TupR K StrR zs v S1) (h2 : EvS r tb s S fun v S1 => TupR K StrR zs v S1) (hz : ∀ z, z ∈ zs → z ∈ words63) (hl : zs.length ≤ 40) : EvV r (tOp (rNeU K) (tCB (rReprD K) (tCons ta tNil)) (tCB (rReprD K) (tCons tb tNil))) s S (.bl false) :=
  vv_rpNe (vv_rp (d := .tuple (zs.map PyData.str)) (h.imp fun v S1 _ h => dp_strT h) (shw_names hz hl)) (vv_rp (d := .tuple (zs.map PyData.str)) (h2.imp fun v S1 _ h => dp_strT h) (shw_names hz hl)) rfl
theorem ev_ntnames (h : EvV r ta s S (.ref x)) (hx : NtI C x d S) (hd : S d = some (.dK (kvN ns))) (hl : ns.length < 64) : EvS r (tMeth C ("names" : Str) (sp_nt_names K C) [] E ta tNil) s S fun v S1 => TupR K StrR (srtN (ns.map (·.name))) v S1 :=
  ev_methP (Q1 := fun u _ => u = .ref x) h va_nil fun y S1 S2 e1 ey e2 => by
    obtain ⟨dx, hx1⟩ := nti_up e1 hx
    exact ⟨x, dx, _, ey, hx1, (nt_no d).1, (x, d, ns), ⟨by rw [ey], nti_up (e1.trans e2) hx, (e1.trans e2) _ _ hd, hl⟩, fun v S3 _ h => h⟩
theorem ev_ntturns {p c : Addr} {T' : List (Addr × Str)} (h : EvV ((poolR p c).tabs T') ta s S (.ref x)) (hx : NtI C x d S) (hd : S d = some (.dK (kvN ns))) (hl : ns.length < 64) (hm : ∀ e, e ∈ ns → MachR K CM e.w e.m e.v S) : EvS ((poolR p c).tabs T') (tMeth C ("turnable" : Str) (sp_nt_turnable K C CM T') [] E ta tNil) s S fun v S1 => TupR K StrR ((srtN (ns.map (·.name))).filter (turnN ns)) v S1 := by
  obtain ⟨dx, hx1⟩ := id hx
  exact ev_methRR ((p, c), x, d, ns) rfl h hx1 (nt_no d).2 (fun S1 H1 e _ => ⟨rfl, nti_up e hx, e _ _ hd, hl, fun f hf => Mono.up e (hm f hf)⟩) fun v S1 H1 _ _ h => h
theorem rows_no {S1 : Hp} (noT : ∀ {a : Addr} {xs : List V}, SqT K S a xs → SqT K S1 a xs) : ∀ {rows : List (List Int)} {vs : List V}, All2 (TupR K IntR) S rows vs → All2 (TupR K IntR) S1 rows vs
  | _, _, .nil => .nil
  | _, _, .cons ⟨b3, vs3, f1, f2, f3⟩ t => .cons ⟨b3, vs3, f1, noT f2, by rw [f3.ints]; exact All2.of_ints _⟩ (rows_no noT t)
/-- [z for z in words if (z in notes) != (z in due)] != []: not so -/
theorem vv_ins63 {j k2 k4 k5 : Nat} {vs : List Nat} {l : Addr} (h5 : s[k5]? = some (some (.ref l))) (hw : ∀ v, wipe ((wipe s vs).set j (some v)) vs = wipe s vs) (hj : ∀ v, ((wipe s vs).set j (some v))[j]? = some (some v)) (h2 : ∀ v, ((wipe s vs).set j (some v))[k2]? = some (some (.ref x))) (h4 : ∀ v, ((wipe s vs).set j (some v))[k4]? = some (some (.ref dd))) (hl : LstR StrR words63 (.ref l) S) (hx : NtI C x d S) (hd : S d = some (.dK (kvN ns))) (hdd : S dd = some (.dK (kvN ns))) :
    EvV r (tOp (rNeU K) (tLc (iU K (tVar k5)) (gName j) (tTest (tOp (rNeU K) (tOp (rInO C (sp_nt_in K C) E) (tVar j) (tVar k2)) (tOp rInDD (tVar j) (tVar k4)))) (tVar j) vs) (tLst tNil)) s S (.bl false) := by
  have h := EvN.lst (X := StrR) (en_lct (wi := iU K (tVar k5)) (X := StrR) (Yr := StrR) (tt := tTest (tOp (rNeU K) (tOp (rInO C (sp_nt_in K C) E) (tVar j) (tVar k2)) (tOp rInDD (tVar j) (tVar k4)))) (te := tVar j) (r := r) (s := s) (S := S) (vs := vs) (fun _ : Str => false) (fun z : Str => z) (ei_list (ev_v (R := LstR StrR) h5 hl)) (by decide) hw (fun y v S1 e m hy => by
    rw [show v = _ from hy]
    exact tb_test (EvV.is (vv_neD (K := K) (R := BoolR) (a := (valV (kvN ns) (.inr y)).isSome) (b := (valV (kvN ns) (.inr y)).isSome) (vv_ntin (b := (valV (kvN ns) (.inr y)).isSome) (vv_var (hj _)) (vv_var (h2 _)) (nti_up e hx) (.inl (e _ _ hd)) (.name rfl (words_ok y m) rfl)) fun S2 e2 => vv_inDR (k := .inr y) (vv_var (hj _)) (vv_var (h4 _)) (.inl ((e.trans e2) _ _ hdd))) (by simp))) fun y v S1 e m _ hy => ev_v (R := StrR) (hj v) hy)
  rw [List.filter_eq_nil_iff.mpr (fun _ _ => by decide)] at h
  exact vv_neNil h
/-- [z for z in due if notes[z] != due[z]] != []: not so -/
theorem vv_same63 {j k2 k4 : Nat} {vs : List Nat} (h40 : s[k4]? = some (some (.ref dd))) (hw : ∀ v, wipe ((wipe s vs).set j (some v)) vs = wipe s vs) (hj : ∀ v, ((wipe s vs).set j (some v))[j]? = some (some v)) (h2 : ∀ v, ((wipe s vs).set j (some v))[k2]? = some (some (.ref x))) (h4 : ∀ v, ((wipe s vs).set j (some v))[k4]? = some (some (.ref dd))) (hx : NtI C x d S) (hd : S d = some (.dK (kvN ns))) (hdd : S dd = some (.dK (kvN ns))) (ne : d ≠ dd) (nr : dd ∉ r.M) (hl : ns.length ≤ 40) (hm : ∀ e, e ∈ ns → e.name ∈ words63 ∧ MachR K CM e.w e.m e.v S) :
    EvV r (tOp (rNeU K) (tLockE (tLc (iKeys (tVar k4)) (gName j) (tTest (tOp (rNeO CM (sp_Machine_eq K CM) E) (tOp (rIxO C (sp_nt_get C) E) (tVar k2) (tVar j)) (tDGet (tVar k4) (tVar j)))) (tVar j) vs)) (tLst tNil)) s S (.bl false) := by
  refine vv_neNil (ev_lockS hdd nr fun od S1 h1 ho => ?_)
  have xdd : x ≠ dd := fun z => by
    obtain ⟨dx, h⟩ := hx
    rw [z, hdd] at h
    cases h
  have hx1 : NtI C x d S1 := hx.imp fun dx h => ho _ _ xdd h
  have hd1 := ho _ _ ne hd
  have hm1 : ∀ e, e ∈ ns → MachR K CM e.w e.m e.v S1 := fun e he => by
    obtain ⟨y, dy, s1, a1, ey, hy, ⟨⟨b1, vs1, g1, g2, g3⟩, b2, vs2, g4, g5, g6⟩, ok⟩ := (hm e he).2
    have no : ∀ {a : Addr} {o : HO}, S a = some o → (∀ k, o ≠ .dK k) → S1 a = some o := fun {a o} h n => ho a o (fun z => by
      rw [z, hdd] at h
      exact n _ (Option.some.inj h).symm) h
    have noT : ∀ {a : Addr} {xs : List V}, SqT K S a xs → SqT K S1 a xs := fun {a xs} h => by
      rcases h with (h | ⟨o, h⟩) | h
      · exact .inl (.inl (no h fun k z => nomatch z))
      · exact .inl (.inr ⟨o, no h fun k z => nomatch z⟩)
      · exact .inr h
    refine ⟨y, dy, s1, a1, ey, no hy (fun k z => nomatch z), ⟨⟨b1, vs1, g1, noT g2, rows_no noT g3⟩, b2, vs2, g4, noT g5, by rw [g6.ints]; exact All2.of_ints _⟩, ok⟩
  have h := EvN.lst (X := StrR) (en_lct (wi := iKeys (tVar k4)) (X := StrR) (Yr := StrR) (tt := tTest (tOp (rNeO CM (sp_Machine_eq K CM) E) (tOp (rIxO C (sp_nt_get C) E) (tVar k2) (tVar j)) (tDGet (tVar k4) (tVar j)))) (te := tVar j) (r := r) (s := s) (S := S1) (vs := vs) (fun _ : Str => false) (fun z : Str => z) (ei_keysS (vv_var h40) h1 (kvN_keys ns)) (by rw [List.length_map]; omega) hw (fun y v S2 e m hy => by
    rw [show v = _ from hy]
    obtain ⟨f, hf, hmf, en⟩ := valN_some m
    exact tb_test (vv_neM (vv_ntget (e := f) (vv_var (h2 _)) (vv_var (hj _)) (nti_up e hx1) (.inl (e _ _ hd1)) (words_ok y (by rw [← en]; exact (hm f hmf).1)) hf) (vv_dgR (k := .inr y) (vv_var (h4 _)) (vv_var (hj _)) (.inr ⟨od, e _ _ h1⟩) (by rw [valV_N, hf]; rfl)) (Mono.up e (hm1 f hmf)))) fun y v S2 e m _ hy => ev_v (R := StrR) (hj v) hy)
  rw [List.filter_eq_nil_iff.mpr (fun _ _ => by decide)] at h
  exact h
end
theorem putN_len (ns : List NtE) (n : NtE) : (putN ns n).length ≤ ns.length + 1 := by
  unfold putN
  split
  · rw [List.length_map]
    omega
  · rw [List.length_append]
    exact Nat.le_refl _
theorem big63 {i : Int} (h : i ≤ 1000) : i < 10 ^ 40 := by
  have : (1000 : Int) < 10 ^ 40 := by decide +kernel
  omega
theorem NL.put {CN CM : Addr} {r : Rs} {x d dd x2 d2 l : Addr} {mv : V} {ns : List NtE} {S H S1 H1 : Hp} (h : NL (K := K) CN CM r x d dd x2 d2 l mv ns S H) (n : NtE) (hn : n.name ∈ words63 ∧ MachR K CM n.w n.m n.v S) (w : Wd r S1 H1) (e : Ex S S1) (n1 : S1 d = none) (n2 : S1 dd = none) (h1 : H1 d = some (.dK (putK (kvN ns) (.inr n.name) n.v))) (h2 : H1 dd = some (.dK (putK (kvN ns) (.inr n.name) n.v))) : NL (K := K) CN CM r x d dd x2 d2 l mv (putN ns n) S1 H1 :=
  ⟨w, nti_up e h.tab, nti_up e h.oth, e _ _ h.zz, Mono.up e h.lst, Mono.up e h.wrd, h.nr, ⟨n1, n2⟩, by rw [← putK_N]; exact h1, by rw [← putK_N]; exact h2, h.ne, fun f hf => (putN_mem hf).elim (fun z => by rw [z]; exact ⟨hn.1, Mono.up e hn.2⟩) fun z => ⟨(h.ms f z).1, Mono.up e (h.ms f z).2⟩⟩
end
end K63

namespace K63
open PySem PySem.Spec PyProof.Rows L2 Evl J RZ
section
variable {P : Program} {w : World} {K : PySem.W.Frag} {mg : Str → Option Value} {base : Heap}
/-! ### the law itself -/
theorem ev_w12 {r : Rs} {s : L2.St} {S : Hp} (a b c d e f g h i j k m : Str) : EvS r (tLst (tCons (tC (.str a)) (tCons (tC (.str b)) (tCons (tC (.str c)) (tCons (tC (.str d)) (tCons (tC (.str e)) (tCons (tC (.str f)) (tCons (tC (.str g)) (tCons (tC (.str h)) (tCons (tC (.str i)) (tCons (tC (.str j)) (tCons (tC (.str k)) (tCons (tC (.str m)) tNil))))))))))))) s S fun v S1 => LstR StrR [a, b, c, d, e, f, g, h, i, j, k, m] v S1 :=
  ev_lstA (ar_cons (R := StrR) vv_c fun _ _ => ar_cons (R := StrR) vv_c fun _ _ => ar_cons (R := StrR) vv_c fun _ _ => ar_cons (R := StrR) vv_c fun _ _ => ar_cons (R := StrR) vv_c fun _ _ => ar_cons (R := StrR) vv_c fun _ _ => ar_cons (R := StrR) vv_c fun _ _ => ar_cons (R := StrR) vv_c fun _ _ => ar_cons (R := StrR) vv_c fun _ _ => ar_cons (R := StrR) vv_c fun _ _ => ar_cons (R := StrR) vv_c fun _ _ => ar_cons (R := StrR) vv_c fun _ _ => ar_nil) (by dsimp only [List.length_cons, List.length_nil]; decide)
theorem wd_all63 {r : Rs} {S H : Hp} (w : Wd r S H) : Wd r (J.delL r.M H) H := ⟨fun a o e => by
  by_cases h : a ∈ r.M
  · rw [delL_in h] at e
    cases e
  · rw [delL_out h] at e
    exact e, w.inv, fun a h => delL_in h⟩
theorem stab63 {M : List Addr} {S : Hp} {rM : List Addr} {H : Hp} {a : Addr} {o : HO} (h : H a = some o) (n : a ∉ rM) (m : a ∉ M) : J.delL M (J.delL rM H) a = some o := by
  rw [delL_out m, delL_out n]
  exact h
theorem more_flat : ("a" : Str) :: more63.flatMap (fun z => [z]) = words63 := rfl
theorem G_law (T : TX P w K mg) (TB : ∀ y ∈ lamC T, LamX.TabB base mg y.1 y.2) : FnG P w K mg base 11 T.f_law T.fd_law ["_law_script"] (sp_lawT K (lamT T)) := by
  refine ok_GC T.FC_law sc_law (fun vs H Q E h => ?_) (fun A outer s H vs Q E g hr h => ?_)
  · obtain ⟨a, ns, rfl, _⟩ := h
    rfl
  · obtain ⟨a0, ns0, rfl, hS, hl, ht, q⟩ := h
    refine ⟨_, (pss_cons (ps_set (i := 1) sc_law.nd rfl (Or.inl rfl) (pe_call (G_L_begin T) (hr.mono (by decide)) (by rfl) T.g_L_begin T.F_L_begin.kp T.b_L_begin .nil pass0 (pa_cons (pv 0) pa_nil)))
      (pss_cons (ps_asg (pe_tup (pa_cons (pe_make0 T.mk_Notes (G_Notes_init T) (hr.mono (by decide)) (by rfl) T.g_Notes T.b_Notes_init .nil pass0) (pa_cons (pe_make0 T.mk_Notes (G_Notes_init T) (hr.mono (by decide)) (by rfl) T.g_Notes T.b_Notes_init .nil pass0) (pa_cons pe_dnewK (pa_cons (pe_lst (pa_cons pe_str pa_nil)) pa_nil))))) (pg_tupK (K := K) (n := 4) (by rfl) (pgs_cons (pg_name (i := 2) sc_law.nd rfl (Or.inr rfl)) (pgs_cons (pg_name (i := 3) sc_law.nd rfl (Or.inl rfl)) (pgs_cons (pg_name (i := 4) sc_law.nd rfl (Or.inr rfl)) (pgs_cons (pg_name (i := 5) sc_law.nd rfl (Or.inl rfl)) pgs_nil))))))
      (pss_cons (ps_asg (pe_static0 (G_Machine_last T) (hr.mono (by decide)) (by rfl) T.g_Machine T.cr_Machine T.sm_Machine_last T.b_Machine_last .nil pass0) (pg_sub (pv 3) pe_str (set_own (G_Notes_setitem T) T.m_Notes_setitem T.nq_Notes (hr.mono (by decide)) T.b_Notes_setitem pass0)))
      (pss_cons (ps_for PassesOwn.never (by rfl) (pi_K (K := K) (pe_lst (pa_cons pe_str (pa_cons pe_str (pa_cons pe_str (pa_cons pe_str (pa_cons pe_str (pa_cons pe_str (pa_cons pe_str (pa_cons pe_str (pa_cons pe_str (pa_cons pe_str (pa_cons pe_str (pa_cons pe_str pa_nil)))))))))))))) (pg_name (i := 6) sc_law.nd rfl (Or.inr rfl)) (pss_one (ps_expr (pe_bm PySem.F.plainAttrs_list PySem.F.slot_list_append PySem.F.type_list_append mt_append (pv 5) (pa_cons (pv 6) pa_nil)))))
      (pss_cons (ps_for PassesOwn.never (by rfl) (pi_range1 (by rfl) T.z_range (pa_cons pe_int pa_nil)) (pg_name (i := 7) sc_law.nd rfl (Or.inl rfl)) (pss_cons (ps_asg (pe_tup (pa_cons (pe_call (G_L_pick T) (hr.mono (by decide)) (by rfl) T.g_L_pick T.F_L_pick.kp T.b_L_pick .nil pass0 (pa_cons (pv 1) (pa_cons (pv 5) pa_nil))) (pa_cons (pe_call (G_L_make_machine T) (hr.mono (by decide)) (by rfl) T.g_L_make_machine T.F_L_make_machine.kp T.b_L_make_machine .nil pass0 (pa_cons (pe_call (G_L_mix_machine T) (hr.mono (by decide)) (by rfl) T.g_L_mix_machine T.F_L_mix_machine.kp T.b_L_mix_machine .nil pass0 (pa_cons (pv 1) pa_nil)) pa_nil)) pa_nil))) (pg_tupK (K := K) (n := 2) (by rfl) (pgs_cons (pg_name (i := 6) sc_law.nd rfl (Or.inr rfl)) (pgs_cons (pg_name (i := 8) sc_law.nd rfl (Or.inl rfl)) pgs_nil))))
        (pss_cons (ps_if (pt_cmpR op_gt (pe_call (G_L_draw T) (hr.mono (by decide)) (by rfl) T.g_L_draw T.F_L_draw.kp T.b_L_draw .nil pass0 (pa_cons (pv 1) (pa_cons pe_int pa_nil))) pe_int (nomark _)) (pss_cons (ps_asg (pv 8) (pg_sub (pv 2) (pv 6) (set_own (G_Notes_setitem T) T.m_Notes_setitem T.nq_Notes (hr.mono (by decide)) T.b_Notes_setitem pass0)))
          (pss_one (ps_dput (units1 hr) (pv 4) (pv 6) (pv 8) (by rfl)))) pss_nil)
        (pss_cons (ps_set (i := 9) sc_law.nd rfl (Or.inr rfl) (pe_ix (ix_K (K := K)) (pe_lst (pa_cons pe_str (pa_cons pe_str (pa_cons pe_str (pa_cons pe_str (pa_cons pe_non (pa_cons pe_int (pa_cons pe_bl (pa_cons (pe_tup (pa_cons pe_str pa_nil)) (pa_cons (pe_lst (pa_cons pe_str pa_nil)) (pa_cons pe_str pa_nil))))))))))) (pe_call (G_L_draw T) (hr.mono (by decide)) (by rfl) T.g_L_draw T.F_L_draw.kp T.b_L_draw .nil pass0 (pa_cons (pv 1) (pa_cons pe_int pa_nil))) (fun _ _ => rfl)))
        (pss_cons (ps_for PassesOwn.never (by rfl) (pi_K (K := K) (pe_lst (pa_cons pe_non (pa_cons (pv 8) pa_nil)))) (pg_name (i := 10) sc_law.nd rfl (Or.inr rfl)) (pss_one (ps_if (PW.pt (pw_or (pt_cmpR (op_neP (K := K) hr.units) (pe_lamN (k := 7) T.F_L_caught T.b_L_caught sc_L_caught (Gw_L_caught (j := 7 + 1) T g (by decide)) (hr.mono (by decide)) (by rfl) T.g_L_caught (TB _ (lc_law T)) rfl (lm_law T) (lu_law T) (show LamX.LamS (defScope s_law) _ from LamX.lamS_by (by decide +kernel)) (fun _ _ _ _ E _ _ hr => (pe_alt (pe_call (G_L_set T) (hr.mono (by decide)) (by rfl) T.g_L_set T.F_L_set.kp T.b_L_set .nil pass0 (pa_cons (pv 2) (pa_cons (pv 9) (pa_cons (pv 10) pa_nil)))) (pe_call (GX_L_set T) (hr.mono (by decide)) (by rfl) T.g_L_set T.F_L_set.kp T.b_L_set .nil lamN_pass (pa_cons (pv 2) (pa_cons (pv 9) (pa_cons (pv 10) pa_nil))))))) (pe_lst (pa_cons pe_str (pa_cons (pe_callB (call_reprD g hr.units) (by rfl) T.z_repr (by decide +kernel) (pa_cons (pv 9) pa_nil)) pa_nil))) (nomark _)) (pw_or1 (pt_cmpR (op_inO (G_Notes_contains T) T.m_Notes_contains (hr.mono (by decide)) T.b_Notes_contains pass0) (pv 9) (pv 2) (by with_unfolding_all rfl))))) (pss_one (ps_ret pe_bl)) pss_nil)))
        (pss_cons (ps_if (pt_cmpR (op_neP (K := K) hr.units) (pe_lamN (k := 7) T.F_L_caught T.b_L_caught sc_L_caught (Gw_L_caught (j := 7 + 1) T g (by decide)) (hr.mono (by decide)) (by rfl) T.g_L_caught (TB _ (lc_law T)) rfl (lm_law T) (lu_law T) (show LamX.LamS (defScope s_law) _ from LamX.lamS_by (by decide +kernel)) (fun _ _ _ _ E _ _ hr => (pe_alt (pe_ixO (G_Notes_getitem T) T.m_Notes_getitem T.fn_Notes_getitem (hr.mono (by decide)) T.b_Notes_getitem pass0 (pv 2) (pv 9)) (pe_ixO (GX_Notes_getitem T) T.m_Notes_getitem T.fn_Notes_getitem (hr.mono (by decide)) T.b_Notes_getitem lamN_pass (pv 2) (pv 9))))) (pe_lst (pa_cons pe_str (pa_cons (pe_callB (call_reprD g hr.units) (by rfl) T.z_repr (by decide +kernel) (pa_cons (pv 9) pa_nil)) pa_nil))) (nomark _)) (pss_one (ps_ret pe_bl)) pss_nil)
        (pss_cons (ps_set (i := 11) sc_law.nd rfl (Or.inr rfl) (pe_ix (ix_K (K := K)) (pe_lst (pa_cons pe_non (pa_cons pe_int (pa_cons (pe_lst (pa_cons pe_int pa_nil)) (pa_cons pe_str pa_nil))))) (pe_call (G_L_draw T) (hr.mono (by decide)) (by rfl) T.g_L_draw T.F_L_draw.kp T.b_L_draw .nil pass0 (pa_cons (pv 1) (pa_cons pe_int pa_nil))) (fun _ _ => rfl)))
        (pss_cons (ps_if (pt_cmpR (op_neP (K := K) hr.units) (pe_lamN (k := 7) T.F_L_caught T.b_L_caught sc_L_caught (Gw_L_caught (j := 7 + 1) T g (by decide)) (hr.mono (by decide)) (by rfl) T.g_L_caught (TB _ (lc_law T)) rfl (lm_law T) (lu_law T) (show LamX.LamS (defScope s_law) _ from LamX.lamS_by (by decide +kernel)) (fun _ _ _ _ E _ _ hr => (pe_alt (pe_call (G_L_set T) (hr.mono (by decide)) (by rfl) T.g_L_set T.F_L_set.kp T.b_L_set .nil pass0 (pa_cons (pv 2) (pa_cons (pv 6) (pa_cons (pv 11) pa_nil)))) (pe_call (GX_L_set T) (hr.mono (by decide)) (by rfl) T.g_L_set T.F_L_set.kp T.b_L_set .nil lamN_pass (pa_cons (pv 2) (pa_cons (pv 6) (pa_cons (pv 11) pa_nil))))))) (pe_lst (pa_cons pe_str (pa_cons (pe_callB (call_reprD g hr.units) (by rfl) T.z_repr (by decide +kernel) (pa_cons (pv 11) pa_nil)) pa_nil))) (nomark _)) (pss_one (ps_ret pe_bl)) pss_nil)
        (pss_cons (ps_set (i := 12) sc_law.nd rfl (Or.inl rfl) (pe_callB (call_sortedK (K := K)) (by rfl) T.z_sorted (by decide +kernel) (pa_cons (pe_lock (pe_lc (own := [("_law_one", 13)]) (by rfl) sc_law.nd (pi_keys (pv 4)) (blkOk_by (own := [("_law_one", 13)]) (N := N_law) (sc := (defScope s_law)) (by decide +kernel)) (fun _ _ _ _ _ => (pg_name (i := 13) sc_law.nd rfl (Or.inl rfl))) (fun _ _ _ _ _ => pts_nil) (fun _ _ _ _ _ => (pe_callTy call_strX (by rfl) T.z_str (by decide +kernel) (pa_cons (pv 13) pa_nil))))) pa_nil)))
        (pss_cons (ps_if (PW.pt (pw_or (pt_cmpR (op_neK (K := K) hr.units) (pe_callB (call_reprD g hr.units) (by rfl) T.z_repr (by decide +kernel) (pa_cons (pe_callB (call_lenO (G_Notes_len T) T.m_Notes_len (hr.mono (by decide)) T.b_Notes_len pass0) (by rfl) T.z_len (by decide +kernel) (pa_cons (pv 2) pa_nil)) pa_nil)) (pe_callB (call_reprD g hr.units) (by rfl) T.z_repr (by decide +kernel) (pa_cons (pe_callB (call_lenK (K := K)) (by rfl) T.z_len (by decide +kernel) (pa_cons (pv 4) pa_nil)) pa_nil)) (nomark _)) (pw_or1 (pt_cmpR (op_neK (K := K) hr.units) (pe_callB (call_reprD g hr.units) (by rfl) T.z_repr (by decide +kernel) (pa_cons (pe_meth0 (pv 2) T.cl_Notes T.m_Notes_names (G_Notes_names T) (hr.mono (by decide)) T.b_Notes_names .nil pass0) pa_nil)) (pe_callB (call_reprD g hr.units) (by rfl) T.z_repr (by decide +kernel) (pa_cons (pe_callTy (call_tupleK (K := K)) (by rfl) T.z_tuple (by decide +kernel) (pa_cons (pv 12) pa_nil)) pa_nil)) (nomark _))))) (pss_one (ps_ret pe_bl)) pss_nil)
        (pss_cons (ps_if (pt_cmpR (op_neK (K := K) hr.units) (pe_callB (call_reprD g hr.units) (by rfl) T.z_repr (by decide +kernel) (pa_cons (pe_methG0 (pv 2) T.cl_Notes T.m_Notes_turnable (G_Notes_turnable T TB) g (hr.mono (by decide)) T.b_Notes_turnable .nil) pa_nil)) (pe_callB (call_reprD g hr.units) (by rfl) T.z_repr (by decide +kernel) (pa_cons (pe_callTy (call_tupleK (K := K)) (by rfl) T.z_tuple (by decide +kernel) (pa_cons (pe_lc (own := [("_law_one", 13)]) (by rfl) sc_law.nd (pi_K (K := K) (pv 12)) (blkOk_by (own := [("_law_one", 13)]) (N := N_law) (sc := (defScope s_law)) (by decide +kernel)) (fun _ _ _ _ _ => (pg_name (i := 13) sc_law.nd rfl (Or.inl rfl))) (fun _ _ _ _ _ => (pts_one (pt_val (pe_callG (G_is_turnable T TB) g (hr.mono (by decide)) (by rfl) T.g_is_turnable T.F_is_turnable.kp T.b_is_turnable .nil (pa_cons (pe_dget (units1 hr) (pv 4) (pv 13) (fun _ _ => rfl)) pa_nil))))) (fun _ _ _ _ _ => (pv 13))) pa_nil)) pa_nil)) (nomark _)) (pss_one (ps_ret pe_bl)) pss_nil)
        (pss_cons (ps_if (pt_cmpR (op_neK (K := K) hr.units) (pe_lc (own := [("_law_one", 13)]) (by rfl) sc_law.nd (pi_K (K := K) (pv 5)) (blkOk_by (own := [("_law_one", 13)]) (N := N_law) (sc := (defScope s_law)) (by decide +kernel)) (fun _ _ _ _ _ => (pg_name (i := 13) sc_law.nd rfl (Or.inl rfl))) (fun _ _ _ _ _ => (pts_one (pt_cmpR (op_neK (K := K) hr.units) (pe_cmpR (op_inO (G_Notes_contains T) T.m_Notes_contains (hr.mono (by decide)) T.b_Notes_contains pass0) (pv 13) (pv 2) (by with_unfolding_all rfl)) (pe_cmpR (op_inDD (units1 hr)) (pv 13) (pv 4) (by with_unfolding_all rfl)) (nomark _)))) (fun _ _ _ _ _ => (pv 13))) (pe_lst pa_nil) (nomark _)) (pss_one (ps_ret pe_bl)) pss_nil)
        (pss_cons (ps_if (pt_cmpR (op_neK (K := K) hr.units) (pe_lock (pe_lc (own := [("_law_one", 13)]) (by rfl) sc_law.nd (pi_keys (pv 4)) (blkOk_by (own := [("_law_one", 13)]) (N := N_law) (sc := (defScope s_law)) (by decide +kernel)) (fun _ _ _ _ _ => (pg_name (i := 13) sc_law.nd rfl (Or.inl rfl))) (fun _ _ _ _ _ => (pts_one (pt_cmpR (op_neO (G_Machine_eq T) T.m_Machine_eq T.ne_Machine (hr.mono (by decide)) T.b_Machine_eq pass0) (pe_ixO (G_Notes_getitem T) T.m_Notes_getitem T.fn_Notes_getitem (hr.mono (by decide)) T.b_Notes_getitem pass0 (pv 2) (pv 13)) (pe_dget (units1 hr) (pv 4) (pv 13) (fun _ _ => rfl)) (nomark _)))) (fun _ _ _ _ _ => (pv 13)))) (pe_lst pa_nil) (nomark _)) (pss_one (ps_ret pe_bl)) pss_nil)
        (pss_one (ps_if (PW.pt (pw_and (pt_cmpR (op_notInDD (units1 hr)) (pv 6) (pv 4) (by with_unfolding_all rfl)) (pw_and1 (pt_cmpR (op_neK (K := K) hr.units) (pe_lamK (k := 7) T.F_L_kind T.b_L_kind sc_L_kind (Gk_L_kind (k := 7) T g (by decide)) (hr.mono (by decide)) (by rfl) T.g_L_kind (TB _ (lc_law T)) rfl (lm_law T) (lu_law T) (show LamX.LamS (defScope s_law) _ from LamX.lamS_by (by decide +kernel)) (fun _ _ _ _ E _ _ hr => (pe_alt (pe_ixO (G_Notes_getitem T) T.m_Notes_getitem T.fn_Notes_getitem (hr.mono (by decide)) T.b_Notes_getitem pass0 (pv 2) (pv 6)) (pe_ixO (GX_Notes_getitem T) T.m_Notes_getitem T.fn_Notes_getitem (hr.mono (by decide)) T.b_Notes_getitem lamN_pass (pv 2) (pv 6))))) pe_str (nomark _))))) (pss_one (ps_ret pe_bl)) pss_nil)))))))))))))))
      (pss_one (ps_ret (pe_and (pe_cmpR (op_eqP (K := K) hr.units) (pe_meth0 (pv 3) T.cl_Notes T.m_Notes_names (G_Notes_names T) (hr.mono (by decide)) T.b_Notes_names .nil pass0) (pe_tup (pa_cons pe_str pa_nil)) (nomark _)) (pe_one (pe_cmpR (op_eqO (G_Machine_eq T) T.m_Machine_eq (hr.mono (by decide)) T.b_Machine_eq pass0) (pe_ixO (G_Notes_getitem T) T.m_Notes_getitem T.fn_Notes_getitem (hr.mono (by decide)) T.b_Notes_getitem pass0 (pv 3) pe_str) (pe_static0 (G_Machine_last T) (hr.mono (by decide)) (by rfl) T.g_Machine T.cr_Machine T.sm_Machine_last T.b_Machine_last .nil pass0) (nomark _))))))))))), ?_⟩
    refine sq_beginPT rfl hS hl ht fun p c S2 H2 w2 => ?_
    clear hS ht
    refine asg_four63 ?_
    refine mk_nt fun x d H3 e3 x0 d0 xd hx3 hd3 => ?_
    refine mk_nt fun x2 d2 H4 e4 x20 d20 xd2 hx4 hd4 => ?_
    intro dd hdd0
    refine ⟨sz_of (by simp), fun l hl0 => ?_⟩
    refine ⟨sz_of (show [V.ref x, V.ref x2, V.ref dd, V.ref l].length ≤ 100000 by simp), fun tt htt => ⟨tt, [.ref x, .ref x2, .ref dd, .ref l], rfl, SqT.of upd_same, rfl, .ref x, _, rfl, .ref x2, _, rfl, .ref dd, _, rfl, .ref l, _, rfl, rfl, ?_⟩⟩
    have e45 : Ex H4 (upd H4 dd (.dK [])) := Ex.new hdd0
    have hdd5 : (upd H4 dd (.dK [])) dd = some (.dK []) := upd_same
    have e56 : Ex (upd H4 dd (.dK [])) (upd (upd H4 dd (.dK [])) l (.lst [.str "a"])) := Ex.new hl0
    have hl6 : (upd (upd H4 dd (.dK [])) l (.lst [.str "a"])) l = some (.lst [.str "a"]) := upd_same
    have e67 := Ex.new (o := .tup [.ref x, .ref x2, .ref dd, .ref l]) htt
    have hdd7 := e67 _ _ (e56 _ _ hdd5)
    have hl7 := e67 _ _ hl6
    have e47 := e45.trans (e56.trans e67)
    have l40 := none_back e45 hl0
    clear hdd5 hl6 e67 htt hl0 e56 e45
    generalize upd (upd (upd H4 dd (.dK [])) l (.lst [.str "a"])) tt (.tup [.ref x, .ref x2, .ref dd, .ref l]) = H7 at *
    have e37 := e4.trans e47
    have e27 := e3.trans e37
    have w7 : Wd ((poolR p c).tabs (lamT T)) S2 H7 := wdK63 w2 (Kp.ex (M := []) e27) fun a ha => by cases ha
    have nM : ∀ {b : Addr}, H2 b = none → b ∉ ((poolR p c).tabs (lamT T)).M := fun h => w2.notM h
    have hd7 := e37 _ _ hd3
    have hd27 := e47 _ _ hd4
    have hx7 := nti_up e37 hx3
    have hx27 := nti_up e47 hx4
    have d2n := none_back e3 d20
    have ddn := none_back (e3.trans e4) hdd0
    have ln := none_back (e3.trans e4) l40
    have nxM := nM x0
    have nx2M := nM (none_back e3 x20)
    have ndM := nM d0
    have nd2M := nM d2n
    have nddM := nM ddn
    have nlM := nM ln
    have dd2 : d ≠ d2 := fun z => by
      rw [z, d20] at hd3
      cases hd3
    have d_dd : d ≠ dd := fun z => by
      rw [← z, e4 _ _ hd3] at hdd0
      cases hdd0
    have d2_dd : d2 ≠ dd := fun z => by
      rw [← z, hd4] at hdd0
      cases hdd0
    have ld : ∀ {b : Addr} {kvs : List (Key × V)}, H7 b = some (.dK kvs) → l ≠ b := fun h z => by
      rw [← z, hl7] at h
      cases h
    have insN : ∀ {y : Addr}, (∃ e, NtI T.C_Notes y e H7) → y ∉ [d, d2, dd, l] := fun ⟨e, dx, h⟩ z => by
      simp only [List.mem_cons, List.mem_nil_iff, or_false] at z
      rcases z with rfl | rfl | rfl | rfl
      · rw [hd7] at h
        cases h
      · rw [hd27] at h
        cases h
      · rw [hdd7] at h
        cases h
      · rw [hl7] at h
        cases h
    have w7b : Wd ((poolR p c).tabs (lamT T)) (J.delL [d, d2, dd, l] (J.delL ((poolR p c).tabs (lamT T)).M H7)) H7 := (wd_all63 w7).delL
    have hx7s : NtI T.C_Notes x d (J.delL [d, d2, dd, l] (J.delL ((poolR p c).tabs (lamT T)).M H7)) := hx7.imp fun dx h => stab63 (S := S2) h nxM (insN ⟨_, hx7⟩)
    have hx27s : NtI T.C_Notes x2 d2 (J.delL [d, d2, dd, l] (J.delL ((poolR p c).tabs (lamT T)).M H7)) := hx27.imp fun dx h => stab63 (S := S2) h nx2M (insN ⟨_, hx27⟩)
    have sd7 : (J.delL [d, d2, dd, l] (J.delL ((poolR p c).tabs (lamT T)).M H7)) d = none := delL_in (by simp)
    have sd27 : (J.delL [d, d2, dd, l] (J.delL ((poolR p c).tabs (lamT T)).M H7)) d2 = none := delL_in (by simp)
    have sdd7 : (J.delL [d, d2, dd, l] (J.delL ((poolR p c).tabs (lamT T)).M H7)) dd = none := delL_in (by simp)
    have sl7 : (J.delL [d, d2, dd, l] (J.delL ((poolR p c).tabs (lamT T)).M H7)) l = none := delL_in (by simp)
    clear insN w7 hx3 hx4 hd3 hd4 e3 e4 e47 e37 e27 x0 x20 d20 hdd0 l40 xd xd2 nM
    generalize J.delL [d, d2, dd, l] (J.delL ((poolR p c).tabs (lamT T)).M H7) = S7 at *
    refine sq_setR63 (R := fun v S => MachR K T.C_Machine 2 lastM v S) (o := .ref x2) (i := .str "zz") (ev_callE (PA := fun us _ => us = []) va_nil fun us S1 _ eu => ⟨(), eu, fun v S3 _ h => h⟩) (fun v S1 S3 e h => Mono.up e h) (vv_var rfl) vv_c w7b fun mv S8 H8 w8 s8 hm8 => ?_
    obtain ⟨dx2, hx28⟩ := nti_up s8.ex hx27s
    refine ⟨x2, dx2, _, rfl, w8.ex _ _ hx28, (x2, d2, [], "zz", mv), ⟨rfl, ⟨dx2, w8.ex _ _ hx28⟩, s8.kp d2 _ nd2M hd27, (by show 0 < 1000; decide), zz_ok, ?_⟩, fun u H9 k9 ⟨_, hd29⟩ => ?_⟩
    · obtain ⟨y, dy, s', a, ey, hy, _⟩ := id hm8
      exact ⟨y, dy, _, ey, w8.ex _ _ hy⟩
    have sd28 := s8.fr d2 (ne_none hd27) sd27
    have w9 : Wd ((poolR p c).tabs (lamT T)) S8 H9 := wdK63 w8 k9 fun a ha => by
      rw [List.mem_singleton.mp ha]
      exact ⟨nd2M, sd28⟩
    have hd9 := k9.1 d _ (by simp [dd2]) (s8.kp d _ ndM hd7)
    have hdd9 := k9.1 dd _ (by simp [d2_dd.symm]) (s8.kp dd _ nddM hdd7)
    have hl9 := k9.1 l _ (by simp [ld hd27]) (s8.kp l _ nlM hl7)
    have w9b : Wd ((poolR p c).tabs (lamT T)) (sup [d2] H9 S8) H9 := w9.settleL fun a ha => by
      rw [List.mem_singleton.mp ha]
      exact nd2M
    have e89 : Ex S8 (sup [d2] H9 S8) := fun a o e => by
      rw [sup_out (fun z => by
        rw [List.mem_singleton.mp z, sd28] at e
        cases e)]
      exact e
    have hz9 : (sup [d2] H9 S8) d2 = some (.dK (kvN [⟨"zz", mv, lastM, 2⟩])) := by
      rw [sup_in (by simp)]
      exact hd29
    have sn9 : ∀ {b : Addr}, b ≠ d2 → S8 b = none → (sup [d2] H9 S8) b = none := fun n h => by
      rw [sup_out (by simp [n])]
      exact h
    have sd9 := sn9 dd2 (s8.fr d (ne_none hd7) sd7)
    have sdd9 := sn9 d2_dd.symm (s8.fr dd (ne_none hdd7) sdd7)
    have sl9 := sn9 (ld hd27) (s8.fr l (ne_none hl7) sl7)
    have hx9 := nti_up (s8.ex.trans e89) hx7s
    have hx29 := nti_up (s8.ex.trans e89) hx27s
    have hm9 := Mono.up e89 hm8
    clear sn9 e89 w9 k9 hd29 sd28 hx28 hx7s hx27s hm8 s8 w8 w7b sd7 sd27 sdd7 sl7
    generalize sup [d2] H9 S8 = S9 at *
    refine sq_forA (Y := StrR) (X := StrR) (ys := more63) (zs := [("a" : Str)]) (fun z => [z]) 1 (fun s => ∃ y6 y7 y8 y9 y10 y11 y12 y13, s = [some (.ref a0), some (.ref p), some (.ref x), some (.ref x2), some (.ref dd), some (.ref l), y6, y7, y8, y9, y10, y11, y12, y13]) (fun _ _ => Nat.le_refl _) nlM (ei_list (X := StrR) (ev_w12 "b" "ab" "ba" "z" "az" "abc" "abcdefgh" "hgfedcba" "aa" "bb" "cc" "za")) w9b ⟨[.str "a"], hl9, sl9, .cons rfl .nil⟩ ⟨_, _, _, _, _, _, _, _, rfl⟩ ?_ ?_
    · rintro y v s' S' H' zs' my hv ⟨y6, y7, y8, y9, y10, y11, y12, y13, rfl⟩ w' e' acc hz D' k
      obtain rfl : v = .str y := hv
      exact st_appendA (Y := StrR) nlM (vv_var rfl) (vv_var rfl) w' acc (by
        have : more63.length = 12 := rfl
        rw [List.length_singleton, this] at hz
        omega) fun S10 H10 w10 s10 a10 => k _ S10 H10 ⟨_, _, _, _, _, _, _, _, rfl⟩ w10 s10 a10
    rintro s' S10 H10 ⟨y6, y7, y8, y9, y10, y11, y12, y13, rfl⟩ w10 s10 ⟨vs, hl10, sl10, a10⟩
    have nr10 : ∀ {b : Addr}, b ∉ ((poolR p c).tabs (lamT T)).M → l ≠ b → b ∉ (((poolR p c).tabs (lamT T)).more [l]).M := fun h n z => (List.mem_append.mp z).elim (fun z => n (List.mem_singleton.mp z).symm) h
    have hd10 := s10.kp d _ (nr10 ndM (ld hd7)) hd9
    have hdd10 := s10.kp dd _ (nr10 nddM (ld hdd7)) hdd9
    have e1011 : Ex S10 (sup [l] H10 S10) := fun a o e => by
      rw [sup_out (fun z => by
        rw [List.mem_singleton.mp z, sl10] at e
        cases e)]
      exact e
    have sn11 : ∀ {b : Addr}, l ≠ b → S10 b = none → (sup [l] H10 S10) b = none := fun n h => by
      rw [sup_out (by simp [n.symm])]
      exact h
    have w11 : Wd ((poolR p c).tabs (lamT T)) (sup [l] H10 S10) H10 := w10.settleL fun a ha => by
      rw [List.mem_singleton.mp ha]
      exact nlM
    have nl11 : NL (K := K) T.C_Notes T.C_Machine ((poolR p c).tabs (lamT T)) x d dd x2 d2 l mv [] (sup [l] H10 S10) H10 :=
      ⟨w11, nti_up (s10.ex.trans e1011) hx9, nti_up (s10.ex.trans e1011) hx29, e1011 _ _ (s10.ex _ _ hz9), Mono.up (s10.ex.trans e1011) hm9, ⟨l, vs, rfl, by rw [sup_in (by simp)]; exact hl10, by
        rw [a10.strs, ← more_flat]
        exact All2.of_strs _⟩, ⟨ndM, nddM⟩, ⟨sn11 (ld hd7) (s10.fr d (ne_none hd9) sd9), sn11 (ld hdd7) (s10.fr dd (ne_none hdd9) sdd9)⟩, hd10, hdd10, d_dd, fun e he => by cases he⟩
    clear w11 sn11 e1011 a10 hl10 sl10 vs hd10 hdd10 s10 w10 hx9 hx29 hm9 hz9 sd9 sdd9 sl9 hd9 hdd9 hl9 w9b hd7 hd27 hdd7 hl7 hx7 hx27 d2n ddn ln nxM nx2M ndM nd2M nddM dd2 d_dd d2_dd ld nr10 nlM
    generalize sup [l] H10 S10 = S11 at *
    refine sq_for (ei_range1 (n := 20) (va_cons vv_c va_nil) (by decide)) nl11.w fun S12 H12 w12 s12 => ?_
    refine ⟨fun i s' S' H' => Ex S12 S' ∧ ∃ ns, ns.length ≤ i ∧ NL (K := K) T.C_Notes T.C_Machine ((poolR p c).tabs (lamT T)) x d dd x2 d2 l mv ns S' H' ∧ ∃ y6 y7 y8 y9 y10 y11 y12 y13, s' = [some (.ref a0), some (.ref p), some (.ref x), some (.ref x2), some (.ref dd), some (.ref l), y6, y7, y8, y9, y10, y11, y12, y13], ⟨Ex.refl _, [], Nat.le_refl _, nl11.step w12 s12, _, _, _, _, _, _, _, _, rfl⟩, fun i s' S' H' ⟨e, ns, _, h, _⟩ => ⟨h.w, e⟩, ?_, ?_⟩
    · rintro i0 it v7 s' S13 H13 S14 H14 hi ⟨e13, ns, hns, h13, y6, y7, y8, y9, y10, y11, y12, y13, rfl⟩ w14 s14 hv
      have hi20 : i0 < 20 := by
        have := (List.getElem?_eq_some_iff.mp hi).1
        rw [List.length_range] at this
        exact this
      clear hi hv nl11 w12 s12
      have h14 := h13.step w14 s14
      have e14 := e13.trans s14.ex
      clear h13 e13 w14 s14
      refine sq_tup2 (A := fun v S => ∃ z, z ∈ words63 ∧ v = .str z) (B := fun v S => ∃ m w, MachR K T.C_Machine w m v S) rfl (EvS.tab (r := poolR p c) ((ev_pickP (R := StrR) (vv_var rfl) (ev_v (R := LstR StrR) rfl h14.wrd) ⟨by decide, by decide⟩).imp fun v S _ ⟨z, hz, e⟩ => ⟨z, hz, e⟩)) (fun S1 e => ev_callE (PA := fun us S => ∃ v, us = [v] ∧ ∃ m w, RawR m v S ∧ DrM m w) (ea_one (EvS.tab (r := poolR p c) (ev_mx (va_cons (vv_var rfl) va_nil)))) fun us S2 e2 ⟨v, eu, m, w, hr, dr⟩ => ⟨(m, w), ⟨v, eu, hr, dr.ok⟩, fun u S3 _ h => ⟨m, w, h⟩⟩) (fun v S1 S2 e h => h) h14.w fun zv mk S15 H15 w15 s15 ⟨z, hz, ez⟩ ⟨m, wn, hm⟩ => ?_
      subst ez
      have h15 := h14.step w15 s15
      have e15 := e14.trans s15.ex
      clear h14 e14 w15 s15
      refine sq_opIf63 ?_
      refine (EvS.tab (r := poolR p c) (ev_draw (va_cons (vv_var rfl) (va_cons vv_c va_nil)) (by decide) (big63 (by decide)))) S15 H15 (Ex.refl _) h15.w _ fun v3 S16 H16 w16 s16 ⟨k3, ek, _, _⟩ => ?_
      subst ek
      have h16 := h15.step w16 s16
      have e16 := e15.trans s16.ex
      have hm16 := Mono.up s16.ex hm
      clear h15 e15 w16 s16 hm
      refine sq_then (G := fun s1 H1 => ∃ S1 ns', Ex S12 S1 ∧ ns'.length ≤ i0 + 1 ∧ NL (K := K) T.C_Notes T.C_Machine ((poolR p c).tabs (lamT T)) x d dd x2 d2 l mv ns' S1 H1 ∧ ∃ y9 y10 y11 y12 y13, s1 = [some (.ref a0), some (.ref p), some (.ref x), some (.ref x2), some (.ref dd), some (.ref l), some (.str z), some v7, some mk, y9, y10, y11, y12, y13]) ?_ ?_
      rotate_left
      · intro nx fin
        refine st_if (b := decide (0 < k3)) (tb_test (vv_op vv_c vv_c rs_I0)) h16.w (fun _ S17 H17 w17 s17 => ?_) fun _ S17 H17 w17 s17 => fin _ _ ⟨S17, ns, e16.trans s17.ex, by omega, h16.step w17 s17, _, _, _, _, _, rfl⟩
        have h17 := h16.step w17 s17
        refine sq_setV63 (o := .ref x) (i := .str z) (v := mk) (vv_var rfl) (vv_var rfl) (vv_var rfl) w17 fun S18 H18 w18 s18 => ?_
        have h18 := h17.step w18 s18
        have hm18 := Mono.up (s17.ex.trans s18.ex) hm16
        obtain ⟨dx, hx18⟩ := h18.tab
        refine ⟨x, dx, _, rfl, w18.ex _ _ hx18, (x, d, kvN ns, z, mk), ⟨rfl, ⟨dx, w18.ex _ _ hx18⟩, h18.hd, by rw [kvN_len]; omega, words_ok z hz, ?_⟩, fun u H19 k19 ⟨_, hd19⟩ => ?_⟩
        · obtain ⟨y, dy, s', a, ey, hy, _⟩ := id hm18
          exact ⟨y, dy, _, ey, w18.ex _ _ hy⟩
        have w19 : Wd ((poolR p c).tabs (lamT T)) S18 H19 := wdK63 w18 k19 fun a ha => by
          rw [List.mem_singleton.mp ha]
          exact ⟨h18.nr.1, h18.sn.1⟩
        have hdd19 := k19.1 dd _ (by simp [h18.ne.symm]) h18.hdd
        refine st_dput (kk := .inr z) (R := fun u _ => u = mk) h18.nr.2 (vv_var rfl) (vv_var rfl) (vv_var rfl) w19 hdd19 h18.sn.2 (by rw [kvN_len]; omega) fun u S20 H20 w20 s20 n20 h20 eu => ?_
        subst eu
        have hd20 := s20.kp d _ (fun hz => (List.mem_append.mp hz).elim (fun z => h18.ne (List.mem_singleton.mp z)) h18.nr.1) hd19
        exact fin _ _ ⟨S20, putN ns ⟨z, u, m, wn⟩, e16.trans (s17.ex.trans (s18.ex.trans s20.ex)), Nat.le_trans (putN_len _ _) (by omega), h18.put ⟨z, u, m, wn⟩ ⟨hz, hm18⟩ w20 s20.ex (s20.fr d (ne_none hd19) h18.sn.1) n20 hd20 h20, _, _, _, _, _, rfl⟩
      rintro s1 H17 ⟨S17, ns', e17, hns', h17, y9, y10, y11, y12, y13, rfl⟩
      clear hns h16 hm16 e16
      refine sq_asg (R := fun v S => ∃ D, OddN K D v S) ((ev_pickR (R := OddN K) (n := 10) ev_odds (fun S1 e => EvS.tab (r := poolR p c) (ev_draw (va_cons (vv_var rfl) (va_cons vv_c va_nil)) (by decide) (big63 (by decide)))) rfl).imp fun v S _ ⟨D, _, h⟩ => ⟨D, h⟩) h17.w fun v9 S18 H18 w18 s18 ⟨D9, hD9⟩ => ?_
      have h18 := h17.step w18 s18
      have e18 := e17.trans s18.ex
      clear h17 e17 w18 s18
      refine sq_for (ei_list (X := ValR) (ys := [V.non, mk]) (ev_lstA (ar_cons (R := ValR) vv_c fun _ _ => ar_cons (R := ValR) (vv_var rfl) fun _ _ => ar_nil) (by show 2 ≤ 100000; decide))) h18.w fun S19 H19 w19 s19 => ?_
      refine ⟨fun j s' S' H' => Ex S19 S' ∧ NL (K := K) T.C_Notes T.C_Machine ((poolR p c).tabs (lamT T)) x d dd x2 d2 l mv ns' S' H' ∧ ∃ y10 y11 y12 y13, s' = [some (.ref a0), some (.ref p), some (.ref x), some (.ref x2), some (.ref dd), some (.ref l), some (.str z), some v7, some mk, some v9, y10, y11, y12, y13], ⟨Ex.refl _, h18.step w19 s19, _, _, _, _, rfl⟩, fun j s' S' H' ⟨e, h, _⟩ => ⟨h.w, e⟩, ?_, ?_⟩
      · rintro j0 th v10 s' S20 H20 S21 H21 hj ⟨e20, h20, y10, y11, y12, y13, rfl⟩ w21 s21 hv10
        clear hj hv10
        have h21 := h20.step w21 s21
        have hO := Mono.up (s19.ex.trans (e20.trans (s21.ex.trans h21.U.1))) hD9
        refine st_ifL [d, dd] (b := false) (EvB.is (tb_or (a := false) (b := false) (tb_told63 (v := v9) (d := D9) (lm_law T) (fun E => ex_set_odd (va_cons (vv_var rfl) (va_cons (vv_var rfl) (va_cons (vv_var rfl) va_nil))) h21.wide.1 hO.2.2) (kd_InvalidName T) rfl hO.1 hO.2.1) fun _ => tb_test (vv_ntin (b := false) (vv_var rfl) (vv_var rfl) h21.wide.1 (.inl h21.U.2.1) (.bad hO.2.2 rfl))) rfl) h21.w h21.loc (fun z => nomatch z) fun _ S22 H22 w22 s22 => ⟨S22, e20.trans (s21.ex.trans s22.ex), h21.step w22 s22, _, _, _, _, rfl⟩
      · rintro s' S20 H20 ⟨e20, h20, y10, y11, y12, y13, rfl⟩
        have e20' := e18.trans (s19.ex.trans e20)
        have hO := Mono.up (s19.ex.trans (e20.trans h20.U.1)) hD9
        refine sq_ifNoL [d, dd] (tb_told63 (v := v9) (d := D9) (lm_law T) (fun E => ex_get_odd (vv_var rfl) (vv_var rfl) h20.wide.1 (.inl h20.U.2.1) (.bad hO.2.2 rfl)) (kd_InvalidName T) rfl hO.1 hO.2.1) h20.w h20.loc fun S21 H21 w21 s21 => ?_
        have h21 := h20.step w21 s21
        have e21 := e20'.trans s21.ex
        clear h20 hO w21 s21 e20' e20 hD9 h18 e18 w19 s19
        refine sq_asg (R := fun v S => ∃ D, OddM K T.C_Machine D v S) ((ev_pickR (R := OddM K T.C_Machine) (n := 4) (ev_oddm T) (fun S1 e => EvS.tab (r := poolR p c) (ev_draw (va_cons (vv_var rfl) (va_cons vv_c va_nil)) (by decide) (big63 (by decide)))) rfl).imp fun v S _ ⟨D, _, h⟩ => ⟨D, h⟩) h21.w fun v11 S22 H22 w22 s22 ⟨D11, hD11⟩ => ?_
        have h22 := h21.step w22 s22
        have e22 := e21.trans s22.ex
        clear h21 e21 w22 s22
        have hB := Mono.up h22.U.1 hD11
        refine sq_ifNoL [d, dd] (tb_told63 (v := v11) (d := D11) (lm_law T) (fun E => ex_set_bad (va_cons (vv_var rfl) (va_cons (vv_var rfl) (va_cons (vv_var rfl) va_nil))) h22.wide.1 (words_ok z hz) hB.2.2) (kd_InvalidMachine T) rfl hB.1 hB.2.1) h22.w h22.loc fun S23 H23 w23 s23 => ?_
        have h23 := h22.step w23 s23
        have e23 := e22.trans s23.ex
        clear h22 hB hD11 e22 w23 s23
        have hn64 : ns'.length < 64 := by omega
        have hn40 : ns'.length ≤ 40 := by omega
        refine borrowE (M := [d, dd]) (ev_names (fun S1 _ => vv_var rfl) h23.U.2.2 h23.nr.2 hn64 (by intro _; rfl) (by intro _; rfl)) h23.w h23.loc fun v12 S24 H24 w24 s24 x24 hl24 => ?_
        have hl12 := strs_del (M := [d, dd]) hl24 fun a ha => ⟨kvN ns', by
          rcases List.mem_cons.mp ha with rfl | ha
          · exact x24 _ _ h23.U.2.1
          · rw [List.mem_singleton.mp ha]
            exact x24 _ _ h23.U.2.2⟩
        have h24 := h23.step w24 s24
        have e24 := e23.trans s24.ex
        clear h23 e23 w24 s24 x24 hl24
        generalize J.delL [d, dd] S24 = S25 at *
        have hmem : ∀ y, y ∈ srtN (ns'.map (·.name)) → y ∈ words63 := fun y hy => by
          obtain ⟨f, hf, ef⟩ := List.mem_map.mp ((srtN_perm _).mem_iff.mp hy)
          rw [← ef]
          exact (h24.ms f hf).1
        have hlen : (srtN (ns'.map (·.name))).length ≤ 40 := by
          rw [(srtN_perm _).length_eq, List.length_map]
          exact hn40
        refine sq_ifNoL [d, dd] (EvB.is (tb_or (a := false) (b := false) (tb_test (vv_len63 (vv_var rfl) (vv_var rfl) h24.wide.1 h24.U.2.1 h24.U.2.2 hn40)) fun _ => tb_test (vv_rpT63 (ev_ntnames (vv_var rfl) h24.wide.1 h24.U.2.1 hn64) (ev_tupS (R := StrR) (ev_v (R := SeqR K StrR) rfl (.inl (Mono.up h24.U.1 hl12)))) hmem hlen)) rfl) h24.w h24.loc fun S26 H26 w26 s26 => ?_
        have h26 := h24.step w26 s26
        have e26 := e24.trans s26.ex
        have hl26 := Mono.up s26.ex hl12
        clear h24 e24 hl12 w26 s26
        refine sq_ifNoL [d, dd] (tb_test (vv_rpT63 (zs := (srtN (ns'.map (·.name))).filter (turnN ns')) (ev_ntturns (vv_var rfl) h26.wide.1 h26.U.2.1 hn64 h26.wide.2.2) (ev_turns (ei_list (ev_v (R := LstR StrR) rfl (Mono.up h26.U.1 hl26))) h26.U.2.2 hn64 h26.wide.2.2 (by intro _; rfl) (by intro _; rfl) fun v S1 e => vv_var rfl) (fun y hy => hmem y (List.mem_filter.mp hy).1) (Nat.le_trans (List.length_filter_le _ _) hlen))) h26.w h26.loc fun S27 H27 w27 s27 => ?_
        have h27 := h26.step w27 s27
        have e27 := e26.trans s27.ex
        clear h26 e26 hl26 w27 s27 hmem hlen
        refine sq_ifNoL [d, dd] (tb_test (vv_ins63 rfl (by intro _; rfl) (by intro _; rfl) (by intro _; rfl) (by intro _; rfl) h27.wide.2.1 h27.wide.1 h27.U.2.1 h27.U.2.2)) h27.w h27.loc fun S28 H28 w28 s28 => ?_
        have h28 := h27.step w28 s28
        have e28 := e27.trans s28.ex
        clear h27 e27 w28 s28
        refine sq_ifNoL [d, dd] (tb_test (vv_same63 rfl (by intro _; rfl) (by intro _; rfl) (by intro _; rfl) (by intro _; rfl) h28.wide.1 h28.U.2.1 h28.U.2.2 h28.ne h28.nr.2 hn40 fun f hf => ⟨(h28.ms f hf).1, h28.wide.2.2 f hf⟩)) h28.w h28.loc fun S29 H29 w29 s29 => ?_
        have h29 := h28.step w29 s29
        have e29 := e28.trans s29.ex
        clear h28 e28 w29 s29
        refine st_ifL [d, dd] (b := false) (EvB.is (tb_and (a := !(valV (kvN ns') (.inr z)).isSome) (b := false) (tb_test (vv_notInDR (k := .inr z) (vv_var rfl) (vv_var rfl) (.inl h29.U.2.2))) fun hno => tb_test (EvV.is (vv_op (ev_kindE (R := fun u _ => u = .str z) (D := .str z) (z := "name") (lm_law T) (fun E => ex_get_odd (vv_var rfl) (vv_var rfl) h29.wide.1 (.inl h29.U.2.1) (.name rfl (words_ok z hz) (nt hno))) (kd_InvalidName T) (fun u S1 e eu => by
          rw [eu]
          exact .inl (.str _)) (shw_word hz)) vv_c rs_neS) (by simp))) (Bool.and_false _)) h29.w h29.loc (fun z => nomatch z) fun _ S30 H30 w30 s30 => ⟨S30, e29.trans s30.ex, ns', hns', h29.step w30 s30, _, _, _, _, _, _, _, _, rfl⟩
    · rintro s' S13 H13 ⟨e13, ns, hns, h13, y6, y7, y8, y9, y10, y11, y12, y13, rfl⟩
      have hone : srtN ([(⟨"zz", mv, lastM, 2⟩ : NtE)].map (·.name)) = [("zz" : Str)] := by
        unfold srtN
        exact List.mergeSort_singleton _
      refine st_ret (R := fun v _ => v = .bl true) (EvV.is (vv_and (a := true) (b := true) (EvV.is (ev_eqP (d := .tuple [.str "zz"]) (e := .tuple [.str "zz"]) ((ev_ntnames (vv_var rfl) h13.oth h13.zz (by show 1 < 64; decide)).imp fun v S1 _ h => by
        rw [hone] at h
        exact dp_strT h) (fun S1 e => EvN.stable (en_tup (P := fun us _ => us = [V.str "zz"]) (va_cons vv_c va_nil) fun us S1 e => by
          rw [e]
          show 1 ≤ 100000
          decide) fun q o S1 _ n ⟨us, eo, eu⟩ => .tup (SqT.of (by rw [eo, eu]; exact upd_same)) (.cons (.str _) .nil)) (by decide +kernel) (by decide +kernel) (by decide +kernel)) (by decide +kernel)) fun _ => vv_eqM (vv_ntget (e := ⟨"zz", mv, lastM, 2⟩) (vv_var rfl) vv_c h13.oth (.inl h13.zz) zz_ok (by
          unfold valN
          rw [List.find?_cons, decide_eq_true rfl])) (fun S1 e => ev_callE (PA := fun us _ => us = []) va_nil fun us S1 _ eu => ⟨(), eu, fun v S3 _ h => h⟩) h13.lst) rfl) h13.w fun v S14 H14 w14 s14 h14 => by rw [h14]; exact q _
end
end K63

namespace K63
open PySem PySem.Spec PyProof.Rows L2 Evl J RZ
theorem lawG_mk {l : PySem.W.OpenLaw} {w : World} {K : PySem.W.Frag} {h : Heap} {mg : Str → Option Value} {fa : Addr} {fd : FuncData} (T : TX l.prog w K mg) (D : Tabd K h (lamC T)) (hb : ∀ (s : Shared) (v : Value), BindsTo s fd ⟨[v], []⟩ [("_law_script", v)]) (hf : ∀ base : Heap, K.In base → base.Ns mainGlobals mg → (∀ q ∈ lamC T, LamX.TabB base mg q.1 q.2) → FnG l.prog w K mg base 11 fa fd ["_law_script"] (sp_lawT K (lamT T))) : LawG l w K 11 63 "_law_script" mg fa h :=
  ⟨fd, lamC T, sp_lawT K (lamT T), D, hb, fun H a ns hl _ ht hS => ⟨a, ns, rfl, hS, hl, List.forall_mem_cons.mpr ⟨ht _ (lc_pairs_of T), List.forall_mem_cons.mpr ⟨ht _ (lc_law T), fun y hy => (by cases hy)⟩⟩, fun _ => rfl⟩, hf⟩
theorem law_of {w : World} {K : PySem.W.Frag} {h : Heap} {mg : Str → Option Value} {fa : Addr} (X : K.In h) (G : h.Ns mainGlobals mg) (hfa : mg "law" = some (.ref fa)) (c : SaysJ hdD w h K) : LawG PySem.Challenge.rw_joinedrounds_k63_notes w K 11 63 "_law_script" mg fa h := by
  have e := hfa.symm.trans (PySem.W.mg_of X G (gloB (c.b 138)))
  cases e
  have z_super : mg "super" = none := PySem.W.mg_none_of X G (isNo_ok (c.b 61))
  have t_super : ((PySem.Challenge.rw_joinedrounds_k63_notes.prog).main.scope.names.lookup ("super" : Str)).isSome = false := by kernel_rfl
  obtain ⟨xa_InvalidMachine, xb_InvalidMachine, xd_InvalidMachine, xe_InvalidMachine, xf_InvalidMachine, xg_InvalidMachine, xh_InvalidMachine, xi_InvalidMachine, xj_InvalidMachine, xk_InvalidMachine, xl_InvalidMachine, xm_InvalidMachine, xn_InvalidMachine, xo_InvalidMachine, xp_InvalidMachine, xq_InvalidMachine, xr_InvalidMachine, xs_InvalidMachine, xt_InvalidMachine, lx_InvalidMachine, lc_InvalidMachine, lk_InvalidMachine, hv_InvalidMachine, hf_InvalidMachine, ha_InvalidMachine⟩ := c.xc 0 (d := xd_InvalidMachine) rfl
  have lx_InvalidMachine : K.lookup (adM "InvalidMachine" "__init__" K) = some ⟨xa_InvalidMachine, xi_InvalidMachine, .func (PySem.W.ksFn "__init__" "InvalidMachine.__init__" (defArgs s_InvalidMachine_init) (defBody s_InvalidMachine_init) (defScope s_InvalidMachine_init) .none xb_InvalidMachine xd_InvalidMachine xe_InvalidMachine xj_InvalidMachine (.ref xs_InvalidMachine) xf_InvalidMachine xt_InvalidMachine), xm_InvalidMachine⟩ := lx_InvalidMachine
  obtain ⟨xa_InvalidName, xb_InvalidName, xd_InvalidName, xe_InvalidName, xf_InvalidName, xg_InvalidName, xh_InvalidName, xi_InvalidName, xj_InvalidName, xk_InvalidName, xl_InvalidName, xm_InvalidName, xn_InvalidName, xo_InvalidName, xp_InvalidName, xq_InvalidName, xr_InvalidName, xs_InvalidName, xt_InvalidName, lx_InvalidName, lc_InvalidName, lk_InvalidName, hv_InvalidName, hf_InvalidName, ha_InvalidName⟩ := c.xc 1 (d := xd_InvalidName) rfl
  have lx_InvalidName : K.lookup (adM "InvalidName" "__init__" K) = some ⟨xa_InvalidName, xi_InvalidName, .func (PySem.W.ksFn "__init__" "InvalidName.__init__" (defArgs s_InvalidName_init) (defBody s_InvalidName_init) (defScope s_InvalidName_init) .none xb_InvalidName xd_InvalidName xe_InvalidName xj_InvalidName (.ref xs_InvalidName) xf_InvalidName xt_InvalidName), xm_InvalidName⟩ := lx_InvalidName
  obtain ⟨fd_is_integer, FD_is_integer⟩ := c.def_ 0 (d := dd_is_integer) rfl
  have F_is_integer : FunD K "is_integer" "is_integer" (defArgs s_is_integer) (defBody s_is_integer) (defScope s_is_integer) [] [] ((adG "is_integer") K) fd_is_integer := FD_is_integer
  have Fu_is_integer : Fun K "is_integer" "is_integer" s_is_integer ((adG "is_integer") K) fd_is_integer := He5.fun_of F_is_integer
  obtain ⟨fd_is_between, FD_is_between⟩ := c.def_ 1 (d := dd_is_between) rfl
  have F_is_between : FunD K "is_between" "is_between" (defArgs s_is_between) (defBody s_is_between) (defScope s_is_between) [] [] ((adG "is_between") K) fd_is_between := FD_is_between
  have Fu_is_between : Fun K "is_between" "is_between" s_is_between ((adG "is_between") K) fd_is_between := He5.fun_of F_is_between
  obtain ⟨fd_is_name, FD_is_name⟩ := c.def_ 2 (d := dd_is_name) rfl
  have F_is_name : FunD K "is_name" "is_name" (defArgs s_is_name) (defBody s_is_name) (defScope s_is_name) [] [] ((adG "is_name") K) fd_is_name := FD_is_name
  have Fu_is_name : Fun K "is_name" "is_name" s_is_name ((adG "is_name") K) fd_is_name := He5.fun_of F_is_name
  obtain ⟨fd_are_steps, FD_are_steps⟩ := c.def_ 3 (d := dd_are_steps) rfl
  have F_are_steps : FunD K "are_steps" "are_steps" (defArgs s_are_steps) (defBody s_are_steps) (defScope s_are_steps) [] [] ((adG "are_steps") K) fd_are_steps := FD_are_steps
  have Fu_are_steps : Fun K "are_steps" "are_steps" s_are_steps ((adG "are_steps") K) fd_are_steps := He5.fun_of F_are_steps
  obtain ⟨fd_are_answers, FD_are_answers⟩ := c.def_ 4 (d := dd_are_answers) rfl
  have F_are_answers : FunD K "are_answers" "are_answers" (defArgs s_are_answers) (defBody s_are_answers) (defScope s_are_answers) [] [] ((adG "are_answers") K) fd_are_answers := FD_are_answers
  have Fu_are_answers : Fun K "are_answers" "are_answers" s_are_answers ((adG "are_answers") K) fd_are_answers := He5.fun_of F_are_answers
  obtain ⟨fd_Machine_init, FD_Machine_init⟩ := c.def_ 5 (d := dd_Machine_init) rfl
  have F_Machine_init : FunD K "__init__" "Machine.__init__" (defArgs s_Machine_init) (defBody s_Machine_init) (defScope s_Machine_init) [.int 0] [] ((adM "Machine" "__init__") K) fd_Machine_init := FD_Machine_init
  obtain ⟨fd_Machine_steps, FD_Machine_steps⟩ := c.def_ 6 (d := dd_Machine_steps) rfl
  have F_Machine_steps : FunD K "steps" "Machine.steps" (defArgs s_Machine_steps) (defBody s_Machine_steps) (defScope s_Machine_steps) [] [] ((adP "Machine" "steps") K) fd_Machine_steps := FD_Machine_steps
  have Fu_Machine_steps : Fun K "steps" "Machine.steps" s_Machine_steps ((adP "Machine" "steps") K) fd_Machine_steps := He5.fun_of F_Machine_steps
  obtain ⟨fd_Machine_answers, FD_Machine_answers⟩ := c.def_ 7 (d := dd_Machine_answers) rfl
  have F_Machine_answers : FunD K "answers" "Machine.answers" (defArgs s_Machine_answers) (defBody s_Machine_answers) (defScope s_Machine_answers) [] [] ((adP "Machine" "answers") K) fd_Machine_answers := FD_Machine_answers
  have Fu_Machine_answers : Fun K "answers" "Machine.answers" s_Machine_answers ((adP "Machine" "answers") K) fd_Machine_answers := He5.fun_of F_Machine_answers
  obtain ⟨fd_Machine_start, FD_Machine_start⟩ := c.def_ 8 (d := dd_Machine_start) rfl
  have F_Machine_start : FunD K "start" "Machine.start" (defArgs s_Machine_start) (defBody s_Machine_start) (defScope s_Machine_start) [] [] ((adP "Machine" "start") K) fd_Machine_start := FD_Machine_start
  have Fu_Machine_start : Fun K "start" "Machine.start" s_Machine_start ((adP "Machine" "start") K) fd_Machine_start := He5.fun_of F_Machine_start
  obtain ⟨fd_Machine_letters, FD_Machine_letters⟩ := c.def_ 9 (d := dd_Machine_letters) rfl
  have F_Machine_letters : FunD K "letters" "Machine.letters" (defArgs s_Machine_letters) (defBody s_Machine_letters) (defScope s_Machine_letters) [] [] ((adP "Machine" "letters") K) fd_Machine_letters := FD_Machine_letters
  have Fu_Machine_letters : Fun K "letters" "Machine.letters" s_Machine_letters ((adP "Machine" "letters") K) fd_Machine_letters := He5.fun_of F_Machine_letters
  obtain ⟨fd_Machine_eq, FD_Machine_eq⟩ := c.def_ 10 (d := dd_Machine_eq) rfl
  have F_Machine_eq : FunD K "__eq__" "Machine.__eq__" (defArgs s_Machine_eq) (defBody s_Machine_eq) (defScope s_Machine_eq) [] [] ((adM "Machine" "__eq__") K) fd_Machine_eq := FD_Machine_eq
  have Fu_Machine_eq : Fun K "__eq__" "Machine.__eq__" s_Machine_eq ((adM "Machine" "__eq__") K) fd_Machine_eq := He5.fun_of F_Machine_eq
  obtain ⟨fd_Machine_led, FD_Machine_led⟩ := c.def_ 11 (d := dd_Machine_led) rfl
  have F_Machine_led : FunD K "led" "Machine.led" (defArgs s_Machine_led) (defBody s_Machine_led) (defScope s_Machine_led) [] [] ((adM "Machine" "led") K) fd_Machine_led := FD_Machine_led
  have Fu_Machine_led : Fun K "led" "Machine.led" s_Machine_led ((adM "Machine" "led") K) fd_Machine_led := He5.fun_of F_Machine_led
  obtain ⟨fd_Machine_last, FD_Machine_last⟩ := c.def_ 12 (d := dd_Machine_last) rfl
  have F_Machine_last : FunD K "last" "Machine.last" (defArgs s_Machine_last) (defBody s_Machine_last) (defScope s_Machine_last) [] [] ((adS "Machine" "last") K) fd_Machine_last := FD_Machine_last
  have Fu_Machine_last : Fun K "last" "Machine.last" s_Machine_last ((adS "Machine" "last") K) fd_Machine_last := He5.fun_of F_Machine_last
  obtain ⟨fd_first_pair, FD_first_pair⟩ := c.def_ 13 (d := dd_first_pair) rfl
  have F_first_pair : FunD K "first_pair" "first_pair" (defArgs s_first_pair) (defBody s_first_pair) (defScope s_first_pair) [] [] ((adG "first_pair") K) fd_first_pair := FD_first_pair
  have Fu_first_pair : Fun K "first_pair" "first_pair" s_first_pair ((adG "first_pair") K) fd_first_pair := He5.fun_of F_first_pair
  obtain ⟨fd_next_pairs, FD_next_pairs⟩ := c.def_ 14 (d := dd_next_pairs) rfl
  have F_next_pairs : FunD K "next_pairs" "next_pairs" (defArgs s_next_pairs) (defBody s_next_pairs) (defScope s_next_pairs) [] [] ((adG "next_pairs") K) fd_next_pairs := FD_next_pairs
  have Fu_next_pairs : Fun K "next_pairs" "next_pairs" s_next_pairs ((adG "next_pairs") K) fd_next_pairs := He5.fun_of F_next_pairs
  obtain ⟨fd_is_good, FD_is_good⟩ := c.def_ 15 (d := dd_is_good) rfl
  have F_is_good : FunD K "is_good" "is_good" (defArgs s_is_good) (defBody s_is_good) (defScope s_is_good) [] [] ((adG "is_good") K) fd_is_good := FD_is_good
  have Fu_is_good : Fun K "is_good" "is_good" s_is_good ((adG "is_good") K) fd_is_good := He5.fun_of F_is_good
  obtain ⟨fd_pairs_of, FD_pairs_of⟩ := c.def_ 16 (d := dd_pairs_of) rfl
  have F_pairs_of : FunD K "pairs_of" "pairs_of" (defArgs s_pairs_of) (defBody s_pairs_of) (defScope s_pairs_of) [] [] ((adG "pairs_of") K) fd_pairs_of := FD_pairs_of
  have Fu_pairs_of : Fun K "pairs_of" "pairs_of" s_pairs_of ((adG "pairs_of") K) fd_pairs_of := He5.fun_of F_pairs_of
  obtain ⟨fd_is_turnable, FD_is_turnable⟩ := c.def_ 17 (d := dd_is_turnable) rfl
  have F_is_turnable : FunD K "is_turnable" "is_turnable" (defArgs s_is_turnable) (defBody s_is_turnable) (defScope s_is_turnable) [] [] ((adG "is_turnable") K) fd_is_turnable := FD_is_turnable
  have Fu_is_turnable : Fun K "is_turnable" "is_turnable" s_is_turnable ((adG "is_turnable") K) fd_is_turnable := He5.fun_of F_is_turnable
  obtain ⟨fd_Notes_init, FD_Notes_init⟩ := c.def_ 18 (d := dd_Notes_init) rfl
  have F_Notes_init : FunD K "__init__" "Notes.__init__" (defArgs s_Notes_init) (defBody s_Notes_init) (defScope s_Notes_init) [] [] ((adM "Notes" "__init__") K) fd_Notes_init := FD_Notes_init
  have Fu_Notes_init : Fun K "__init__" "Notes.__init__" s_Notes_init ((adM "Notes" "__init__") K) fd_Notes_init := He5.fun_of F_Notes_init
  obtain ⟨fd_Notes_setitem, FD_Notes_setitem⟩ := c.def_ 19 (d := dd_Notes_setitem) rfl
  have F_Notes_setitem : FunD K "__setitem__" "Notes.__setitem__" (defArgs s_Notes_setitem) (defBody s_Notes_setitem) (defScope s_Notes_setitem) [] [] ((adM "Notes" "__setitem__") K) fd_Notes_setitem := FD_Notes_setitem
  have Fu_Notes_setitem : Fun K "__setitem__" "Notes.__setitem__" s_Notes_setitem ((adM "Notes" "__setitem__") K) fd_Notes_setitem := He5.fun_of F_Notes_setitem
  obtain ⟨fd_Notes_getitem, FD_Notes_getitem⟩ := c.def_ 20 (d := dd_Notes_getitem) rfl
  have F_Notes_getitem : FunD K "__getitem__" "Notes.__getitem__" (defArgs s_Notes_getitem) (defBody s_Notes_getitem) (defScope s_Notes_getitem) [] [] ((adM "Notes" "__getitem__") K) fd_Notes_getitem := FD_Notes_getitem
  have Fu_Notes_getitem : Fun K "__getitem__" "Notes.__getitem__" s_Notes_getitem ((adM "Notes" "__getitem__") K) fd_Notes_getitem := He5.fun_of F_Notes_getitem
  obtain ⟨fd_Notes_contains, FD_Notes_contains⟩ := c.def_ 21 (d := dd_Notes_contains) rfl
  have F_Notes_contains : FunD K "__contains__" "Notes.__contains__" (defArgs s_Notes_contains) (defBody s_Notes_contains) (defScope s_Notes_contains) [] [] ((adM "Notes" "__contains__") K) fd_Notes_contains := FD_Notes_contains
  have Fu_Notes_contains : Fun K "__contains__" "Notes.__contains__" s_Notes_contains ((adM "Notes" "__contains__") K) fd_Notes_contains := He5.fun_of F_Notes_contains
  obtain ⟨fd_Notes_len, FD_Notes_len⟩ := c.def_ 22 (d := dd_Notes_len) rfl
  have F_Notes_len : FunD K "__len__" "Notes.__len__" (defArgs s_Notes_len) (defBody s_Notes_len) (defScope s_Notes_len) [] [] ((adM "Notes" "__len__") K) fd_Notes_len := FD_Notes_len
  have Fu_Notes_len : Fun K "__len__" "Notes.__len__" s_Notes_len ((adM "Notes" "__len__") K) fd_Notes_len := He5.fun_of F_Notes_len
  obtain ⟨fd_Notes_names, FD_Notes_names⟩ := c.def_ 23 (d := dd_Notes_names) rfl
  have F_Notes_names : FunD K "names" "Notes.names" (defArgs s_Notes_names) (defBody s_Notes_names) (defScope s_Notes_names) [] [] ((adM "Notes" "names") K) fd_Notes_names := FD_Notes_names
  have Fu_Notes_names : Fun K "names" "Notes.names" s_Notes_names ((adM "Notes" "names") K) fd_Notes_names := He5.fun_of F_Notes_names
  obtain ⟨fd_Notes_turnable, FD_Notes_turnable⟩ := c.def_ 24 (d := dd_Notes_turnable) rfl
  have F_Notes_turnable : FunD K "turnable" "Notes.turnable" (defArgs s_Notes_turnable) (defBody s_Notes_turnable) (defScope s_Notes_turnable) [] [] ((adM "Notes" "turnable") K) fd_Notes_turnable := FD_Notes_turnable
  have Fu_Notes_turnable : Fun K "turnable" "Notes.turnable" s_Notes_turnable ((adM "Notes" "turnable") K) fd_Notes_turnable := He5.fun_of F_Notes_turnable
  obtain ⟨fd_L_begin, FD_L_begin⟩ := c.def_ 25 (d := dd_L_begin) rfl
  have F_L_begin : FunD K "_law_begin" "_law_begin" (defArgs s_L_begin) (defBody s_L_begin) (defScope s_L_begin) [] [] ((adG "_law_begin") K) fd_L_begin := FD_L_begin
  have Fu_L_begin : Fun K "_law_begin" "_law_begin" s_L_begin ((adG "_law_begin") K) fd_L_begin := He5.fun_of F_L_begin
  obtain ⟨fd_L_mixed, FD_L_mixed⟩ := c.def_ 26 (d := dd_L_mixed) rfl
  have F_L_mixed : FunD K "_law_mixed" "_law_mixed" (defArgs s_L_mixed) (defBody s_L_mixed) (defScope s_L_mixed) [] [] ((adG "_law_mixed") K) fd_L_mixed := FD_L_mixed
  have Fu_L_mixed : Fun K "_law_mixed" "_law_mixed" s_L_mixed ((adG "_law_mixed") K) fd_L_mixed := He5.fun_of F_L_mixed
  obtain ⟨fd_L_draw, FD_L_draw⟩ := c.def_ 27 (d := dd_L_draw) rfl
  have F_L_draw : FunD K "_law_draw" "_law_draw" (defArgs s_L_draw) (defBody s_L_draw) (defScope s_L_draw) [] [] ((adG "_law_draw") K) fd_L_draw := FD_L_draw
  have Fu_L_draw : Fun K "_law_draw" "_law_draw" s_L_draw ((adG "_law_draw") K) fd_L_draw := He5.fun_of F_L_draw
  obtain ⟨fd_L_pick, FD_L_pick⟩ := c.def_ 28 (d := dd_L_pick) rfl
  have F_L_pick : FunD K "_law_pick" "_law_pick" (defArgs s_L_pick) (defBody s_L_pick) (defScope s_L_pick) [] [] ((adG "_law_pick") K) fd_L_pick := FD_L_pick
  have Fu_L_pick : Fun K "_law_pick" "_law_pick" s_L_pick ((adG "_law_pick") K) fd_L_pick := He5.fun_of F_L_pick
  obtain ⟨fd_L_draw_machine, FD_L_draw_machine⟩ := c.def_ 29 (d := dd_L_draw_machine) rfl
  have F_L_draw_machine : FunD K "_law_draw_machine" "_law_draw_machine" (defArgs s_L_draw_machine) (defBody s_L_draw_machine) (defScope s_L_draw_machine) [] [] ((adG "_law_draw_machine") K) fd_L_draw_machine := FD_L_draw_machine
  have Fu_L_draw_machine : Fun K "_law_draw_machine" "_law_draw_machine" s_L_draw_machine ((adG "_law_draw_machine") K) fd_L_draw_machine := He5.fun_of F_L_draw_machine
  obtain ⟨fd_L_round_pair, FD_L_round_pair⟩ := c.def_ 30 (d := dd_L_round_pair) rfl
  have F_L_round_pair : FunD K "_law_round_pair" "_law_round_pair" (defArgs s_L_round_pair) (defBody s_L_round_pair) (defScope s_L_round_pair) [] [] ((adG "_law_round_pair") K) fd_L_round_pair := FD_L_round_pair
  have Fu_L_round_pair : Fun K "_law_round_pair" "_law_round_pair" s_L_round_pair ((adG "_law_round_pair") K) fd_L_round_pair := He5.fun_of F_L_round_pair
  obtain ⟨fd_L_mix_machine, FD_L_mix_machine⟩ := c.def_ 31 (d := dd_L_mix_machine) rfl
  have F_L_mix_machine : FunD K "_law_mix_machine" "_law_mix_machine" (defArgs s_L_mix_machine) (defBody s_L_mix_machine) (defScope s_L_mix_machine) [] [] ((adG "_law_mix_machine") K) fd_L_mix_machine := FD_L_mix_machine
  have Fu_L_mix_machine : Fun K "_law_mix_machine" "_law_mix_machine" s_L_mix_machine ((adG "_law_mix_machine") K) fd_L_mix_machine := He5.fun_of F_L_mix_machine
  obtain ⟨fd_L_counter, FD_L_counter⟩ := c.def_ 32 (d := dd_L_counter) rfl
  have F_L_counter : FunD K "_law_counter" "_law_counter" (defArgs s_L_counter) (defBody s_L_counter) (defScope s_L_counter) [] [] ((adG "_law_counter") K) fd_L_counter := FD_L_counter
  have Fu_L_counter : Fun K "_law_counter" "_law_counter" s_L_counter ((adG "_law_counter") K) fd_L_counter := He5.fun_of F_L_counter
  obtain ⟨fd_L_commuting, FD_L_commuting⟩ := c.def_ 33 (d := dd_L_commuting) rfl
  have F_L_commuting : FunD K "_law_commuting" "_law_commuting" (defArgs s_L_commuting) (defBody s_L_commuting) (defScope s_L_commuting) [] [] ((adG "_law_commuting") K) fd_L_commuting := FD_L_commuting
  have Fu_L_commuting : Fun K "_law_commuting" "_law_commuting" s_L_commuting ((adG "_law_commuting") K) fd_L_commuting := He5.fun_of F_L_commuting
  obtain ⟨fd_L_seen_pair, FD_L_seen_pair⟩ := c.def_ 34 (d := dd_L_seen_pair) rfl
  have F_L_seen_pair : FunD K "_law_seen_pair" "_law_seen_pair" (defArgs s_L_seen_pair) (defBody s_L_seen_pair) (defScope s_L_seen_pair) [] [] ((adG "_law_seen_pair") K) fd_L_seen_pair := FD_L_seen_pair
  have Fu_L_seen_pair : Fun K "_law_seen_pair" "_law_seen_pair" s_L_seen_pair ((adG "_law_seen_pair") K) fd_L_seen_pair := He5.fun_of F_L_seen_pair
  obtain ⟨fd_L_make_machine, FD_L_make_machine⟩ := c.def_ 35 (d := dd_L_make_machine) rfl
  have F_L_make_machine : FunD K "_law_make_machine" "_law_make_machine" (defArgs s_L_make_machine) (defBody s_L_make_machine) (defScope s_L_make_machine) [] [] ((adG "_law_make_machine") K) fd_L_make_machine := FD_L_make_machine
  have Fu_L_make_machine : Fun K "_law_make_machine" "_law_make_machine" s_L_make_machine ((adG "_law_make_machine") K) fd_L_make_machine := He5.fun_of F_L_make_machine
  obtain ⟨fd_L_which, FD_L_which⟩ := c.def_ 36 (d := dd_L_which) rfl
  have F_L_which : FunD K "_law_which" "_law_which" (defArgs s_L_which) (defBody s_L_which) (defScope s_L_which) [] [] ((adG "_law_which") K) fd_L_which := FD_L_which
  have Fu_L_which : Fun K "_law_which" "_law_which" s_L_which ((adG "_law_which") K) fd_L_which := He5.fun_of F_L_which
  obtain ⟨fd_L_caught, FD_L_caught⟩ := c.def_ 37 (d := dd_L_caught) rfl
  have F_L_caught : FunD K "_law_caught" "_law_caught" (defArgs s_L_caught) (defBody s_L_caught) (defScope s_L_caught) [] [] ((adG "_law_caught") K) fd_L_caught := FD_L_caught
  have Fu_L_caught : Fun K "_law_caught" "_law_caught" s_L_caught ((adG "_law_caught") K) fd_L_caught := He5.fun_of F_L_caught
  obtain ⟨fd_L_kind, FD_L_kind⟩ := c.def_ 38 (d := dd_L_kind) rfl
  have F_L_kind : FunD K "_law_kind" "_law_kind" (defArgs s_L_kind) (defBody s_L_kind) (defScope s_L_kind) [] [] ((adG "_law_kind") K) fd_L_kind := FD_L_kind
  have Fu_L_kind : Fun K "_law_kind" "_law_kind" s_L_kind ((adG "_law_kind") K) fd_L_kind := He5.fun_of F_L_kind
  obtain ⟨fd_L_set, FD_L_set⟩ := c.def_ 39 (d := dd_L_set) rfl
  have F_L_set : FunD K "_law_set" "_law_set" (defArgs s_L_set) (defBody s_L_set) (defScope s_L_set) [] [] ((adG "_law_set") K) fd_L_set := FD_L_set
  have Fu_L_set : Fun K "_law_set" "_law_set" s_L_set ((adG "_law_set") K) fd_L_set := He5.fun_of F_L_set
  obtain ⟨fd_law, FD_law⟩ := c.def_ 40 (d := dd_law) rfl
  have F_law : FunD K "law" "law" (defArgs s_law) (defBody s_law) (defScope s_law) [] [] ((adG "law") K) fd_law := FD_law
  have Fu_law : Fun K "law" "law" s_law ((adG "law") K) fd_law := He5.fun_of F_law
  have hb : ∀ (s : Shared) (v : Value), BindsTo s fd_law ⟨[v], []⟩ [("_law_script", v)] := fun s v => (FunD.bindsA (ps := ["_law_script"]) F_law fun _ _ _ _ _ _ us hl => match us, hl with | [_], _ => rfl) s [v] rfl
  let T : TX PySem.Challenge.rw_joinedrounds_k63_notes.prog w K mg := { z_abs := PySem.W.mg_none_of X G (isNo_ok (c.b 0)), z_all := PySem.W.mg_none_of X G (isNo_ok (c.b 1)), z_bool := PySem.W.mg_none_of X G (isNo_ok (c.b 2)), z_int := PySem.W.mg_none_of X G (isNo_ok (c.b 3)), z_isinstance := PySem.W.mg_none_of X G (isNo_ok (c.b 4)), z_len := PySem.W.mg_none_of X G (isNo_ok (c.b 5)), z_list := PySem.W.mg_none_of X G (isNo_ok (c.b 6)), z_range := PySem.W.mg_none_of X G (isNo_ok (c.b 7)), z_repr := PySem.W.mg_none_of X G (isNo_ok (c.b 8)), z_sorted := PySem.W.mg_none_of X G (isNo_ok (c.b 9)), z_str := PySem.W.mg_none_of X G (isNo_ok (c.b 10)), z_tuple := PySem.W.mg_none_of X G (isNo_ok (c.b 11)), z_zip := PySem.W.mg_none_of X G (isNo_ok (c.b 12)), c_ALL_LETTERS := mgB_ok X G (c.b 13), c_LETTERS := mgB_ok X G (c.b 14), c_MOST_ANSWER := mgB_ok X G (c.b 15), c_MOST_LETTERS := mgB_ok X G (c.b 16), c_MOST_STATES := mgB_ok X G (c.b 17), C_Machine := (adG "Machine" K), g_Machine := PySem.W.mg_of X G (gloB (c.b 18)), cl_Machine := ⟨c.b 19, c.b 20, c.b 21, isBi_ok (c.b 22)⟩, cr_Machine := ⟨c.b 23, isBi_ok (c.b 24)⟩, na_Machine_kept_steps := isNo_ok (c.b 25), na_Machine_kept_answers := isNo_ok (c.b 26), na_Machine_kept_start := isNo_ok (c.b 27), ty_Machine := ⟨isBi_ok (c.b 28), isBi_ok (c.b 29), isB_ok (c.b 30), isB_ok (c.b 31), kit_self⟩, ko_Machine_NoneType := isB_ok (c.b 32), ko_Machine_int := isB_ok (c.b 33), ko_Machine_list := isB_ok (c.b 34), ko_Machine_str := isB_ok (c.b 35), ne_Machine := ⟨isBi_ok (c.b 36), isB_ok (c.b 37)⟩, C_Notes := (adG "Notes" K), g_Notes := PySem.W.mg_of X G (gloB (c.b 38)), cl_Notes := ⟨c.b 39, c.b 40, c.b 41, isBi_ok (c.b 42)⟩, na_Notes_by_name := isNo_ok (c.b 43), nq_Notes := c.b 44, C_InvalidBook := (adG "InvalidBook" K), g_InvalidBook := PySem.W.mg_of X G (gloB (c.b 45)), C_InvalidCommand := (adG "InvalidCommand" K), g_InvalidCommand := PySem.W.mg_of X G (gloB (c.b 46)), C_InvalidEdit := (adG "InvalidEdit" K), g_InvalidEdit := PySem.W.mg_of X G (gloB (c.b 47)), C_InvalidMachine := (adG "InvalidMachine" K), g_InvalidMachine := PySem.W.mg_of X G (gloB (c.b 48)), C_InvalidMove := (adG "InvalidMove" K), g_InvalidMove := PySem.W.mg_of X G (gloB (c.b 49)), C_InvalidName := (adG "InvalidName" K), g_InvalidName := PySem.W.mg_of X G (gloB (c.b 50)), C_InvalidNumber := (adG "InvalidNumber" K), g_InvalidNumber := PySem.W.mg_of X G (gloB (c.b 51)), C_InvalidReader := (adG "InvalidReader" K), g_InvalidReader := PySem.W.mg_of X G (gloB (c.b 52)), C_InvalidRule := (adG "InvalidRule" K), g_InvalidRule := PySem.W.mg_of X G (gloB (c.b 53)), C_InvalidText := (adG "InvalidText" K), g_InvalidText := PySem.W.mg_of X G (gloB (c.b 54)), C_InvalidTimes := (adG "InvalidTimes" K), g_InvalidTimes := PySem.W.mg_of X G (gloB (c.b 55)), C_InvalidWays := (adG "InvalidWays" K), g_InvalidWays := PySem.W.mg_of X G (gloB (c.b 56)), C_InvalidWord := (adG "InvalidWord" K), g_InvalidWord := PySem.W.mg_of X G (gloB (c.b 57)), C_NothingToUndo := (adG "NothingToUndo" K), g_NothingToUndo := PySem.W.mg_of X G (gloB (c.b 58)), C_RoundError := (adG "RoundError" K), g_RoundError := PySem.W.mg_of X G (gloB (c.b 59)), C_TooMany := (adG "TooMany" K), g_TooMany := PySem.W.mg_of X G (gloB (c.b 60)), fi_InvalidMachine := (adM "InvalidMachine" "__init__" K), fdi_InvalidMachine := _, xc_InvalidMachine := XcT.of (metB (c.b 62)) lx_InvalidMachine lc_InvalidMachine lk_InvalidMachine hv_InvalidMachine hf_InvalidMachine ha_InvalidMachine z_super t_super ⟨_, _, _, _, _, _, _, _, _, _, _, _, rfl, fun _ => ⟨_, rfl⟩⟩ rfl rfl rfl rfl (by decide +kernel) rfl rfl rfl rfl (by decide) (by decide), bx_InvalidMachine := .all fun us hl => match us, hl with | [_, _], _ => rfl, xi_InvalidMachine := c.b 63, kr_InvalidMachine := c.b 64, em_InvalidMachine := isB_ok (c.b 65), fi_InvalidName := (adM "InvalidName" "__init__" K), fdi_InvalidName := _, xc_InvalidName := XcT.of (metB (c.b 66)) lx_InvalidName lc_InvalidName lk_InvalidName hv_InvalidName hf_InvalidName ha_InvalidName z_super t_super ⟨_, _, _, _, _, _, _, _, _, _, _, _, rfl, fun _ => ⟨_, rfl⟩⟩ rfl rfl rfl rfl (by decide +kernel) rfl rfl rfl rfl (by decide) (by decide), bx_InvalidName := .all fun us hl => match us, hl with | [_, _], _ => rfl, xi_InvalidName := c.b 67, kr_InvalidName := c.b 68, em_InvalidName := isB_ok (c.b 69), f_is_integer := ((adG "is_integer") K), fd_is_integer := fd_is_integer, F_is_integer := Fu_is_integer, b_is_integer := Fu_is_integer.binds (ps := ["value"]) fun _ _ _ _ _ _ us hl => match us, hl with | [_], _ => rfl, g_is_integer := PySem.W.mg_of X G (gloB (c.b 70)), f_is_between := ((adG "is_between") K), fd_is_between := fd_is_between, F_is_between := Fu_is_between, b_is_between := Fu_is_between.binds (ps := ["value", "low", "high"]) fun _ _ _ _ _ _ us hl => match us, hl with | [_, _, _], _ => rfl, g_is_between := PySem.W.mg_of X G (gloB (c.b 71)), f_is_name := ((adG "is_name") K), fd_is_name := fd_is_name, F_is_name := Fu_is_name, b_is_name := Fu_is_name.binds (ps := ["value"]) fun _ _ _ _ _ _ us hl => match us, hl with | [_], _ => rfl, g_is_name := PySem.W.mg_of X G (gloB (c.b 72)), f_are_steps := ((adG "are_steps") K), fd_are_steps := fd_are_steps, F_are_steps := Fu_are_steps, b_are_steps := Fu_are_steps.binds (ps := ["value"]) fun _ _ _ _ _ _ us hl => match us, hl with | [_], _ => rfl, g_are_steps := PySem.W.mg_of X G (gloB (c.b 73)), f_are_answers := ((adG "are_answers") K), fd_are_answers := fd_are_answers, F_are_answers := Fu_are_answers, b_are_answers := Fu_are_answers.binds (ps := ["value", "many"]) fun _ _ _ _ _ _ us hl => match us, hl with | [_, _], _ => rfl, g_are_answers := PySem.W.mg_of X G (gloB (c.b 74)), f_Machine_init := ((adM "Machine" "__init__") K), fd_Machine_init := fd_Machine_init, F_Machine_init := F_Machine_init, b2_Machine_init := F_Machine_init.binds1 3 0 (fun z => (nomatch z)) rfl fun _ _ _ _ _ _ _ us its hl hi => match us, its, hl, hi with | [_, _, _], [_], _, _ => ⟨_, rfl, rfl⟩, b3_Machine_init := F_Machine_init.binds1 4 1 (fun z => (nomatch z)) rfl fun _ _ _ _ _ _ _ us its hl hi => match us, its, hl, hi with | [_, _, _, _], [_], _, _ => ⟨_, rfl, rfl⟩, mk_Machine := ⟨c.b 77, metB (c.b 75), c.b 76, c.b 78⟩, f_Machine_steps := ((adP "Machine" "steps") K), fd_Machine_steps := fd_Machine_steps, F_Machine_steps := Fu_Machine_steps, b_Machine_steps := Fu_Machine_steps.binds (ps := ["self"]) fun _ _ _ _ _ _ us hl => match us, hl with | [_], _ => rfl, pa_Machine_steps := (adM "Machine" "steps" K), p_Machine_steps := ⟨metB (c.b 79), isBi_ok (c.b 80), isB_ok (c.b 81), prB_ok (c.b 82)⟩, f_Machine_answers := ((adP "Machine" "answers") K), fd_Machine_answers := fd_Machine_answers, F_Machine_answers := Fu_Machine_answers, b_Machine_answers := Fu_Machine_answers.binds (ps := ["self"]) fun _ _ _ _ _ _ us hl => match us, hl with | [_], _ => rfl, pa_Machine_answers := (adM "Machine" "answers" K), p_Machine_answers := ⟨metB (c.b 83), isBi_ok (c.b 84), isB_ok (c.b 85), prB_ok (c.b 86)⟩, f_Machine_start := ((adP "Machine" "start") K), fd_Machine_start := fd_Machine_start, F_Machine_start := Fu_Machine_start, b_Machine_start := Fu_Machine_start.binds (ps := ["self"]) fun _ _ _ _ _ _ us hl => match us, hl with | [_], _ => rfl, pa_Machine_start := (adM "Machine" "start" K), p_Machine_start := ⟨metB (c.b 87), isBi_ok (c.b 88), isB_ok (c.b 89), prB_ok (c.b 90)⟩, f_Machine_letters := ((adP "Machine" "letters") K), fd_Machine_letters := fd_Machine_letters, F_Machine_letters := Fu_Machine_letters, b_Machine_letters := Fu_Machine_letters.binds (ps := ["self"]) fun _ _ _ _ _ _ us hl => match us, hl with | [_], _ => rfl, pa_Machine_letters := (adM "Machine" "letters" K), p_Machine_letters := ⟨metB (c.b 91), isBi_ok (c.b 92), isB_ok (c.b 93), prB_ok (c.b 94)⟩, f_Machine_eq := ((adM "Machine" "__eq__") K), fd_Machine_eq := fd_Machine_eq, F_Machine_eq := Fu_Machine_eq, b_Machine_eq := Fu_Machine_eq.binds (ps := ["self", "other"]) fun _ _ _ _ _ _ us hl => match us, hl with | [_, _], _ => rfl, m_Machine_eq := ⟨metB (c.b 95), c.b 96, F_Machine_eq.kp⟩, f_Machine_led := ((adM "Machine" "led") K), fd_Machine_led := fd_Machine_led, F_Machine_led := Fu_Machine_led, b_Machine_led := Fu_Machine_led.binds (ps := ["self", "state", "word"]) fun _ _ _ _ _ _ us hl => match us, hl with | [_, _, _], _ => rfl, m_Machine_led := ⟨metB (c.b 97), c.b 98, F_Machine_led.kp⟩, f_Machine_last := ((adS "Machine" "last") K), fd_Machine_last := fd_Machine_last, F_Machine_last := Fu_Machine_last, b_Machine_last := Fu_Machine_last.binds (ps := []) fun _ _ _ _ _ _ us hl => match us, hl with | [], _ => rfl, pm_Machine_last := He.ma K (adG "Machine" K) "last", sm_Machine_last := sm_of (C := (adG "Machine" K)) (c.b 99) (c.b 100), f_first_pair := ((adG "first_pair") K), fd_first_pair := fd_first_pair, F_first_pair := Fu_first_pair, b_first_pair := Fu_first_pair.binds (ps := ["machine", "letter"]) fun _ _ _ _ _ _ us hl => match us, hl with | [_, _], _ => rfl, g_first_pair := PySem.W.mg_of X G (gloB (c.b 101)), f_next_pairs := ((adG "next_pairs") K), fd_next_pairs := fd_next_pairs, F_next_pairs := Fu_next_pairs, b_next_pairs := Fu_next_pairs.binds (ps := ["machine", "pair"]) fun _ _ _ _ _ _ us hl => match us, hl with | [_, _], _ => rfl, g_next_pairs := PySem.W.mg_of X G (gloB (c.b 102)), f_is_good := ((adG "is_good") K), fd_is_good := fd_is_good, F_is_good := Fu_is_good, b_is_good := Fu_is_good.binds (ps := ["machine", "letter", "pair"]) fun _ _ _ _ _ _ us hl => match us, hl with | [_, _, _], _ => rfl, g_is_good := PySem.W.mg_of X G (gloB (c.b 103)), f_pairs_of := ((adG "pairs_of") K), fd_pairs_of := fd_pairs_of, F_pairs_of := Fu_pairs_of, b_pairs_of := Fu_pairs_of.binds (ps := ["machine", "letter"]) fun _ _ _ _ _ _ us hl => match us, hl with | [_, _], _ => rfl, c_pairs_of := adC (adG "pairs_of") K, P_pairs_of := adT (adG "pairs_of") K, FC_pairs_of := funC_of Fu_pairs_of, g_pairs_of := PySem.W.mg_of X G (gloB (c.b 104)), f_is_turnable := ((adG "is_turnable") K), fd_is_turnable := fd_is_turnable, F_is_turnable := Fu_is_turnable, b_is_turnable := Fu_is_turnable.binds (ps := ["machine"]) fun _ _ _ _ _ _ us hl => match us, hl with | [_], _ => rfl, g_is_turnable := PySem.W.mg_of X G (gloB (c.b 105)), f_Notes_init := ((adM "Notes" "__init__") K), fd_Notes_init := fd_Notes_init, F_Notes_init := Fu_Notes_init, b_Notes_init := Fu_Notes_init.binds (ps := ["self"]) fun _ _ _ _ _ _ us hl => match us, hl with | [_], _ => rfl, mk_Notes := ⟨c.b 108, metB (c.b 106), c.b 107, c.b 109⟩, f_Notes_setitem := ((adM "Notes" "__setitem__") K), fd_Notes_setitem := fd_Notes_setitem, F_Notes_setitem := Fu_Notes_setitem, b_Notes_setitem := Fu_Notes_setitem.binds (ps := ["self", "name", "machine"]) fun _ _ _ _ _ _ us hl => match us, hl with | [_, _, _], _ => rfl, m_Notes_setitem := ⟨metB (c.b 110), c.b 111, F_Notes_setitem.kp⟩, f_Notes_getitem := ((adM "Notes" "__getitem__") K), fd_Notes_getitem := fd_Notes_getitem, fn_Notes_getitem := c.b 112, F_Notes_getitem := Fu_Notes_getitem, b_Notes_getitem := Fu_Notes_getitem.binds (ps := ["self", "name"]) fun _ _ _ _ _ _ us hl => match us, hl with | [_, _], _ => rfl, m_Notes_getitem := ⟨metB (c.b 113), c.b 114, F_Notes_getitem.kp⟩, f_Notes_contains := ((adM "Notes" "__contains__") K), fd_Notes_contains := fd_Notes_contains, F_Notes_contains := Fu_Notes_contains, b_Notes_contains := Fu_Notes_contains.binds (ps := ["self", "name"]) fun _ _ _ _ _ _ us hl => match us, hl with | [_, _], _ => rfl, m_Notes_contains := ⟨metB (c.b 115), c.b 116, F_Notes_contains.kp⟩, f_Notes_len := ((adM "Notes" "__len__") K), fd_Notes_len := fd_Notes_len, F_Notes_len := Fu_Notes_len, b_Notes_len := Fu_Notes_len.binds (ps := ["self"]) fun _ _ _ _ _ _ us hl => match us, hl with | [_], _ => rfl, m_Notes_len := ⟨metB (c.b 117), c.b 118, F_Notes_len.kp⟩, f_Notes_names := ((adM "Notes" "names") K), fd_Notes_names := fd_Notes_names, F_Notes_names := Fu_Notes_names, b_Notes_names := Fu_Notes_names.binds (ps := ["self"]) fun _ _ _ _ _ _ us hl => match us, hl with | [_], _ => rfl, m_Notes_names := ⟨metB (c.b 119), c.b 120, F_Notes_names.kp⟩, f_Notes_turnable := ((adM "Notes" "turnable") K), fd_Notes_turnable := fd_Notes_turnable, F_Notes_turnable := Fu_Notes_turnable, b_Notes_turnable := Fu_Notes_turnable.binds (ps := ["self"]) fun _ _ _ _ _ _ us hl => match us, hl with | [_], _ => rfl, m_Notes_turnable := ⟨metB (c.b 121), c.b 122, F_Notes_turnable.kp⟩, f_L_begin := ((adG "_law_begin") K), fd_L_begin := fd_L_begin, F_L_begin := Fu_L_begin, b_L_begin := Fu_L_begin.binds (ps := ["_law_script"]) fun _ _ _ _ _ _ us hl => match us, hl with | [_], _ => rfl, g_L_begin := PySem.W.mg_of X G (gloB (c.b 123)), f_L_mixed := ((adG "_law_mixed") K), fd_L_mixed := fd_L_mixed, F_L_mixed := Fu_L_mixed, b_L_mixed := Fu_L_mixed.binds (ps := ["_law_pool", "_law_many"]) fun _ _ _ _ _ _ us hl => match us, hl with | [_, _], _ => rfl, g_L_mixed := PySem.W.mg_of X G (gloB (c.b 124)), f_L_draw := ((adG "_law_draw") K), fd_L_draw := fd_L_draw, F_L_draw := Fu_L_draw, b_L_draw := Fu_L_draw.binds (ps := ["_law_pool", "_law_many"]) fun _ _ _ _ _ _ us hl => match us, hl with | [_, _], _ => rfl, g_L_draw := PySem.W.mg_of X G (gloB (c.b 125)), f_L_pick := ((adG "_law_pick") K), fd_L_pick := fd_L_pick, F_L_pick := Fu_L_pick, b_L_pick := Fu_L_pick.binds (ps := ["_law_pool", "_law_some"]) fun _ _ _ _ _ _ us hl => match us, hl with | [_, _], _ => rfl, g_L_pick := PySem.W.mg_of X G (gloB (c.b 126)), f_L_draw_machine := ((adG "_law_draw_machine") K), fd_L_draw_machine := fd_L_draw_machine, F_L_draw_machine := Fu_L_draw_machine, b_L_draw_machine := Fu_L_draw_machine.binds (ps := ["_law_pool", "_law_most_states", "_law_most_letters"]) fun _ _ _ _ _ _ us hl => match us, hl with | [_, _, _], _ => rfl, g_L_draw_machine := PySem.W.mg_of X G (gloB (c.b 127)), f_L_round_pair := ((adG "_law_round_pair") K), fd_L_round_pair := fd_L_round_pair, F_L_round_pair := Fu_L_round_pair, b_L_round_pair := Fu_L_round_pair.binds (ps := []) fun _ _ _ _ _ _ us hl => match us, hl with | [], _ => rfl, g_L_round_pair := PySem.W.mg_of X G (gloB (c.b 128)), f_L_mix_machine := ((adG "_law_mix_machine") K), fd_L_mix_machine := fd_L_mix_machine, F_L_mix_machine := Fu_L_mix_machine, b_L_mix_machine := Fu_L_mix_machine.binds (ps := ["_law_pool"]) fun _ _ _ _ _ _ us hl => match us, hl with | [_], _ => rfl, g_L_mix_machine := PySem.W.mg_of X G (gloB (c.b 129)), f_L_counter := ((adG "_law_counter") K), fd_L_counter := fd_L_counter, F_L_counter := Fu_L_counter, b_L_counter := Fu_L_counter.binds (ps := ["_law_modulus", "_law_letter"]) fun _ _ _ _ _ _ us hl => match us, hl with | [_, _], _ => rfl, g_L_counter := PySem.W.mg_of X G (gloB (c.b 130)), f_L_commuting := ((adG "_law_commuting") K), fd_L_commuting := fd_L_commuting, F_L_commuting := Fu_L_commuting, b_L_commuting := Fu_L_commuting.binds (ps := ["_law_pool"]) fun _ _ _ _ _ _ us hl => match us, hl with | [_], _ => rfl, g_L_commuting := PySem.W.mg_of X G (gloB (c.b 131)), f_L_seen_pair := ((adG "_law_seen_pair") K), fd_L_seen_pair := fd_L_seen_pair, F_L_seen_pair := Fu_L_seen_pair, b_L_seen_pair := Fu_L_seen_pair.binds (ps := []) fun _ _ _ _ _ _ us hl => match us, hl with | [], _ => rfl, g_L_seen_pair := PySem.W.mg_of X G (gloB (c.b 132)), f_L_make_machine := ((adG "_law_make_machine") K), fd_L_make_machine := fd_L_make_machine, F_L_make_machine := Fu_L_make_machine, b_L_make_machine := Fu_L_make_machine.binds (ps := ["_law_m"]) fun _ _ _ _ _ _ us hl => match us, hl with | [_], _ => rfl, g_L_make_machine := PySem.W.mg_of X G (gloB (c.b 133)), f_L_which := ((adG "_law_which") K), fd_L_which := fd_L_which, F_L_which := Fu_L_which, b_L_which := Fu_L_which.binds (ps := ["_law_error"]) fun _ _ _ _ _ _ us hl => match us, hl with | [_], _ => rfl, g_L_which := PySem.W.mg_of X G (gloB (c.b 134)), f_L_caught := ((adG "_law_caught") K), fd_L_caught := fd_L_caught, F_L_caught := Fu_L_caught, b_L_caught := Fu_L_caught.binds (ps := ["_law_call"]) fun _ _ _ _ _ _ us hl => match us, hl with | [_], _ => rfl, g_L_caught := PySem.W.mg_of X G (gloB (c.b 135)), f_L_kind := ((adG "_law_kind") K), fd_L_kind := fd_L_kind, F_L_kind := Fu_L_kind, b_L_kind := Fu_L_kind.binds (ps := ["_law_call"]) fun _ _ _ _ _ _ us hl => match us, hl with | [_], _ => rfl, g_L_kind := PySem.W.mg_of X G (gloB (c.b 136)), f_L_set := ((adG "_law_set") K), fd_L_set := fd_L_set, F_L_set := Fu_L_set, b_L_set := Fu_L_set.binds (ps := ["_law_table", "_law_name", "_law_thing"]) fun _ _ _ _ _ _ us hl => match us, hl with | [_, _, _], _ => rfl, g_L_set := PySem.W.mg_of X G (gloB (c.b 137)), f_law := ((adG "law") K), fd_law := fd_law, F_law := Fu_law, b_law := Fu_law.binds (ps := ["_law_script"]) fun _ _ _ _ _ _ us hl => match us, hl with | [_], _ => rfl, c_law := adC (adG "law") K, P_law := adT (adG "law") K, FC_law := funC_of Fu_law, g_law := PySem.W.mg_of X G (gloB (c.b 138)), pd_pairs_of_law := c.q (p := ((adT (adG "pairs_of") K) == (adT (adG "law") K)) = false) 139 }
  exact lawG_mk (fd := fd_law) T (c.tabd X) hb fun base _ _ TB => G_law T TB
end K63

open PySem PySem.W PySem.Calls PyProof.Rows
set_option maxHeartbeats 0 in
theorem PySem.Challenge.cw_joinedrounds_k63_notes_holds : PySem.Challenge.rw_joinedrounds_k63_notes.Holds := by
  w_on; o_law
  refine HandSHeadRun.head_any (r := OpenLaw.row PySem.Challenge.rw_joinedrounds_k63_notes) (q := K63.qv) (H := K63.hk) (ob := K63.ob) (M := 20000) (loose := K63.nms) (d := HandSHeadRun.topDef (OpenLaw.row PySem.Challenge.rw_joinedrounds_k63_notes).prog 56) (kwd := []) K63.ob_eq
    (by kernel_rfl) (fun s => by kernel_rfl) K63.run (by kernel_rfl) (by kernel_rfl) (by kernel_rfl) (by rfl) (by first | assumption | decide +kernel) (by decide +kernel) ⟨rfl, rfl, rfl, rfl, rfl, by decide +kernel⟩ ?hw ?hc
  case hw => w_witness2
  case hc =>
    refine J.walk_GE (l := PySem.Challenge.rw_joinedrounds_k63_notes) (n := 63) (k := 11) (x := "_law_script") rfl (by decide) (by kernel_rfl) ⟨rfl, by decide, by decide⟩ ?F
    intro w mg fa h Y G hmg0
    obtain ⟨K, KX, c⟩ := Y
    have hmg : mg ("law" : PySem.Str) = some (.ref fa) := by
      have e : (HandSHeadRun.topDef (OpenLaw.row PySem.Challenge.rw_joinedrounds_k63_notes).prog 56).name = ("law" : PySem.Str) := by kernel_rfl
      rw [← e]
      exact hmg0
    exact ⟨K, KX, K63.law_of KX G hmg c⟩



