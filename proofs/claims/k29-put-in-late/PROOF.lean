import PyProof.Rows.All
import Wide.All
import OpenK.AllK
import Wide.FinOn
import HandS.ForMost
import HandS.Evl
import HandS.IsInst
import HandS.Property
import HandS.Defaults
import HandS.Lambda
import HandS.More
import HandS.Style
import HandS.Wide
import HandS.Zip
import HandS.Conv
import HandS.Walk
import HandS.Deep
import HandS.RaiseMore
import HandS.TupAny
import KE.DatumMore
import HandS.MakeKwOnly
import PyProof.ReprLen
import PyProof.Rows.RegStrFacts
import HandS.EndOwn
import HandS.DeepEq
import PyProof.ReprReads
import HandS.OwnEq
import KE.KSuper
import KE.KExcSuper
import HandS.ExcInitHot
import HandS.ExcField
import HandS.ExcIs
import HandS.ExcCtx
import HandS.WordsExc
import HandS.TryMany
import HandS.HotCalls
import KE.KExcIs
import PyProof.InstNe
import HandS.SetFor
import KE.DataEq
import HandS.MakeKw
import HandS.NoneIn
import PySem.Challenge.RW_joinedrounds_k29_whole_moves_put_in_late
set_option Elab.async false
set_option linter.all false
set_option maxRecDepth 100000
set_option maxHeartbeats 4000000
/-! JKit: a stable part S of the heap H, resources, judgements of expressions, relations of values with data. -/
namespace J
open PySem PySem.Spec L2 Evl

/-! ### worlds -/
/-- code objects stay -/
def CoK (H H' : Hp) : Prop := ∀ a q, H a = some (LamX.CodeO a q) → H' a = some (LamX.CodeO a q)
theorem CoK.ex {H H' : Hp} (e : ∀ a u, H a = some u → H' a = some u) : CoK H H' := fun a q h => e a _ h
theorem CoK.upd {H : Hp} {p : Addr} {o : HO} (n : ∀ q, H p ≠ some (LamX.CodeO p q)) : CoK H (L2.upd H p o) := fun a q h => by
  rw [upd_ne (fun z : a = p => n q (z ▸ h))]
  exact h
theorem nco_lst {H : Hp} {p : Addr} {xs : List V} (h : H p = some (.lst xs)) : ∀ q, H p ≠ some (LamX.CodeO p q) := fun q z => by
  rw [h] at z
  unfold LamX.CodeO at z
  cases z
theorem nco_ins {H : Hp} {p C d : Addr} {fs : List (Str × V)} (h : H p = some (.ins C d fs)) : ∀ q, H p ≠ some (LamX.CodeO p q) := fun q z => by
  rw [h] at z
  unfold LamX.CodeO at z
  cases z
theorem nco_dK {H : Hp} {p : Addr} {kvs : List (Key × V)} (h : H p = some (.dK kvs)) : ∀ q, H p ≠ some (LamX.CodeO p q) := fun q z => by
  rw [h] at z
  unfold LamX.CodeO at z
  cases z
theorem nco_dT {H : Hp} {p : Addr} {kvs : List (List Key × V)} (h : H p = some (.dT kvs)) : ∀ q, H p ≠ some (LamX.CodeO p q) := fun q z => by
  rw [h] at z
  unfold LamX.CodeO at z
  cases z
/-- what may be changed: the addresses M, and what is true of them -/
structure Rs where
  M : List Addr
  I : Hp → Prop
  mono : ∀ H H' : Hp, (∀ a o, a ∈ M → H a = some o → H' a = some o) → CoK H H' → I H → I H'
  has : ∀ H, I H → ∀ a, a ∈ M → H a ≠ none
def Rs.nil : Rs := ⟨[], fun _ => True, fun _ _ _ _ _ => True.intro, fun _ _ a h => by cases h⟩
structure Wd (r : Rs) (S H : Hp) : Prop where
  ex : Ex S H
  inv : r.I H
  dj : ∀ a, a ∈ r.M → S a = none
structure Stp (r : Rs) (S H S' H' : Hp) : Prop where
  ex : Ex S S'
  kp : ∀ a o, a ∉ r.M → H a = some o → H' a = some o
  fr : ∀ a, H a ≠ none → S a = none → S' a = none
  dm : ∀ a, H a ≠ none → H' a ≠ none
theorem Stp.refl {r : Rs} {S H : Hp} : Stp r S H S H := ⟨Ex.refl S, fun _ _ _ h => h, fun _ _ h => h, fun _ h => h⟩
theorem Stp.trans {r : Rs} {S H S1 H1 S2 H2 : Hp} (a : Stp r S H S1 H1) (b : Stp r S1 H1 S2 H2) : Stp r S H S2 H2 :=
  ⟨a.ex.trans b.ex, fun x o n h => b.kp x o n (a.kp x o n h), fun x h e => b.fr x (a.dm x h) (a.fr x h e), fun x h => b.dm x (a.dm x h)⟩
theorem none_of {H : Hp} {a : Addr} (h : ¬ H a ≠ none) : H a = none := Classical.byContradiction h
theorem ne_none {H : Hp} {a : Addr} {o : HO} (h : H a = some o) : H a ≠ none := by
  rw [h]
  exact fun z => nomatch z
theorem Wd.fresh {r : Rs} {S H : Hp} (w : Wd r S H) {p : Addr} (h : H p = none) : S p = none := fresh_back w.ex h
theorem Wd.notM {r : Rs} {S H : Hp} (w : Wd r S H) {p : Addr} (h : H p = none) : p ∉ r.M := fun z => r.has H w.inv p z h
theorem ex_upd2 {S H : Hp} {p : Addr} {o : HO} (e : Ex S H) (h : H p = none) : Ex (upd S p o) (upd H p o) := fun a u q => by
  by_cases z : a = p
  · subst z
    rw [upd_same] at q ⊢
    exact q
  · rw [upd_ne z] at q ⊢
    exact e a u q
/-- a new object, unstable -/
theorem Wd.new {r : Rs} {S H : Hp} (w : Wd r S H) {p : Addr} {o : HO} (h : H p = none) : Wd r S (upd H p o) :=
  ⟨Ex.trans w.ex (Ex.new h), r.mono H _ (fun a u _ q => Ex.new h a u q) (CoK.ex (Ex.new h)) w.inv, w.dj⟩
theorem Stp.new {r : Rs} {S H : Hp} {p : Addr} {o : HO} (h : H p = none) : Stp r S H S (upd H p o) :=
  ⟨Ex.refl S, fun a u _ q => Ex.new h a u q, fun _ _ q => q, fun a q => by
    intro z
    by_cases e : a = p
    · subst e
      exact q h
    · rw [upd_ne e] at z
      exact q z⟩
/-- a new object, stable -/
theorem Wd.newS {r : Rs} {S H : Hp} (w : Wd r S H) {p : Addr} {o : HO} (h : H p = none) : Wd r (upd S p o) (upd H p o) :=
  ⟨ex_upd2 w.ex h, r.mono H _ (fun a u _ q => Ex.new h a u q) (CoK.ex (Ex.new h)) w.inv, fun a ha => by
    have z : a ≠ p := fun e => w.notM h (e ▸ ha)
    rw [upd_ne z]
    exact w.dj a ha⟩
theorem Stp.newS {r : Rs} {S H : Hp} (w : Wd r S H) {p : Addr} {o : HO} (h : H p = none) : Stp r S H (upd S p o) (upd H p o) :=
  ⟨Ex.new (w.fresh h), fun a u _ q => Ex.new h a u q, fun a q e => by
    have z : a ≠ p := fun e => q (e ▸ h)
    rw [upd_ne z]
    exact e, fun a q => by
    have z : a ≠ p := fun e => q (e ▸ h)
    rw [upd_ne z]
    exact q⟩
/-- an unstable new object at p becomes stable -/
theorem Wd.settle {r : Rs} {S H : Hp} (w : Wd r S H) {p : Addr} {o : HO} (h : H p = some o) (n : p ∉ r.M) : Wd r (upd S p o) H :=
  ⟨fun a u q => by
    by_cases z : a = p
    · subst z
      rw [upd_same] at q
      rw [h]
      exact q
    · rw [upd_ne z] at q
      exact w.ex a u q, w.inv, fun a ha => by
    have z : a ≠ p := fun e => n (e ▸ ha)
    rw [upd_ne z]
    exact w.dj a ha⟩
theorem Stp.settle {r : Rs} {S H S1 H1 : Hp} (st : Stp r S H S1 H1) {p : Addr} {o : HO} (h0 : H p = none) (hs : S1 p = none) : Stp r S H (upd S1 p o) H1 :=
  ⟨st.ex.trans (Ex.new hs), st.kp, fun a q e => by
    have z : a ≠ p := fun e => q (e ▸ h0)
    rw [upd_ne z]
    exact st.fr a q e, st.dm⟩
/-- an unstable object (new since the beginning) is changed -/
theorem Wd.mut {r : Rs} {S H : Hp} (w : Wd r S H) {p : Addr} {o : HO} (hs : S p = none) (n : p ∉ r.M) (hc : ∀ q, H p ≠ some (LamX.CodeO p q) := by first | assumption | exact nco_lst (by assumption) | exact nco_ins (by assumption) | exact nco_dK (by assumption)) : Wd r S (upd H p o) :=
  ⟨Ex.mut w.ex hs, r.mono H _ (fun a u ha q => by
    rw [upd_ne (fun e : a = p => n (e ▸ ha))]
    exact q) (CoK.upd hc) w.inv, w.dj⟩
theorem Stp.mut {r : Rs} {S H S1 H1 : Hp} (st : Stp r S H S1 H1) {p : Addr} {o : HO} (h0 : H p = none) : Stp r S H S1 (upd H1 p o) :=
  ⟨st.ex, fun a u na q => by
    rw [upd_ne (ne_of_none q h0)]
    exact st.kp a u na q, st.fr, fun a q z => by
    by_cases e : a = p
    · subst e
      exact q h0
    · rw [upd_ne e] at z
      exact st.dm a q z⟩
/-- what was unstable and known stays -/
theorem Stp.keeps {r : Rs} {S H S' H' : Hp} (st : Stp r S H S' H') {p : Addr} {o : HO} (h : H p = some o) (n : p ∉ r.M) : H' p = some o := st.kp p o n h
theorem Stp.apart {r : Rs} {S H S' H' : Hp} (st : Stp r S H S' H') {p : Addr} {o : HO} (h : H p = some o) (hs : S p = none) : S' p = none := st.fr p (ne_none h) hs
theorem Wd.mono {r : Rs} {S S1 H : Hp} (w : Wd r S1 H) (e : Ex S S1) : Wd r S H :=
  ⟨e.trans w.ex, w.inv, fun a ha => fresh_back e (w.dj a ha)⟩

/-! ### relations of values with data -/
abbrev Rl (α : Type) := α → V → Hp → Prop
class Mono {α : Type} (R : Rl α) : Prop where
  up : ∀ {x : α} {v : V} {S S' : Hp}, Ex S S' → R x v S → R x v S'
def ValR : Rl V := fun u v _ => v = u
def IntR : Rl Int := fun i v _ => v = .int i
def BoolR : Rl Bool := fun b v _ => v = .bl b
def StrR : Rl Str := fun z v _ => v = .str z
instance : Mono ValR := ⟨fun _ h => h⟩
instance : Mono IntR := ⟨fun _ h => h⟩
instance : Mono BoolR := ⟨fun _ h => h⟩
instance : Mono StrR := ⟨fun _ h => h⟩
inductive All2 {α : Type} (R : Rl α) (S : Hp) : List α → List V → Prop
  | nil : All2 R S [] []
  | cons {x : α} {v : V} {xs : List α} {vs : List V} : R x v S → All2 R S xs vs → All2 R S (x :: xs) (v :: vs)
theorem All2.up {α : Type} {R : Rl α} [m : Mono R] {S S' : Hp} (e : Ex S S') : ∀ {xs : List α} {vs : List V}, All2 R S xs vs → All2 R S' xs vs
  | _, _, .nil => .nil
  | _, _, .cons h t => .cons (m.up e h) (All2.up e t)
theorem All2.len {α : Type} {R : Rl α} {S : Hp} : ∀ {xs : List α} {vs : List V}, All2 R S xs vs → vs.length = xs.length
  | _, _, .nil => rfl
  | _, _, .cons _ t => by
    rw [List.length_cons, List.length_cons, All2.len t]
theorem All2.get {α : Type} {R : Rl α} {S : Hp} : ∀ {xs : List α} {vs : List V} {i : Nat} {v : V}, All2 R S xs vs → vs[i]? = some v → ∃ x, xs[i]? = some x ∧ R x v S
  | _, _, _, _, .nil, e => by simp at e
  | _, _, 0, _, .cons h _, e => by
    simp at e
    subst e
    exact ⟨_, rfl, h⟩
  | _, _, i + 1, _, .cons _ t, e => by
    obtain ⟨x, h1, h2⟩ := All2.get (i := i) t (by simpa using e)
    exact ⟨x, by simpa using h1, h2⟩
theorem All2.at {α : Type} {R : Rl α} {S : Hp} : ∀ {xs : List α} {vs : List V} {i : Nat} {x : α}, All2 R S xs vs → xs[i]? = some x → ∃ v, vs[i]? = some v ∧ R x v S
  | _, _, _, _, .nil, e => by simp at e
  | _, _, 0, _, .cons h _, e => by
    simp at e
    subst e
    exact ⟨_, rfl, h⟩
  | _, _, i + 1, _, .cons _ t, e => by
    obtain ⟨x, h1, h2⟩ := All2.at (i := i) t (by simpa using e)
    exact ⟨x, by simpa using h1, h2⟩
theorem All2.append {α : Type} {R : Rl α} {S : Hp} : ∀ {xs ys : List α} {vs ws : List V}, All2 R S xs vs → All2 R S ys ws → All2 R S (xs ++ ys) (vs ++ ws)
  | _, _, _, _, .nil, q => q
  | _, _, _, _, .cons h t, q => .cons h (All2.append t q)
theorem All2.snoc {α : Type} {R : Rl α} {S : Hp} {xs : List α} {vs : List V} {x : α} {v : V} (h : All2 R S xs vs) (q : R x v S) : All2 R S (xs ++ [x]) (vs ++ [v]) := h.append (.cons q .nil)
theorem All2.take {α : Type} {R : Rl α} {S : Hp} : ∀ (n : Nat) {xs : List α} {vs : List V}, All2 R S xs vs → All2 R S (xs.take n) (vs.take n)
  | 0, _, _, _ => by
    rw [List.take_zero, List.take_zero]
    exact .nil
  | _ + 1, _, _, .nil => .nil
  | n + 1, _, _, .cons h t => .cons h (All2.take n t)
theorem All2.drop {α : Type} {R : Rl α} {S : Hp} : ∀ (n : Nat) {xs : List α} {vs : List V}, All2 R S xs vs → All2 R S (xs.drop n) (vs.drop n)
  | 0, _, _, h => h
  | _ + 1, _, _, .nil => .nil
  | n + 1, _, _, .cons _ t => All2.drop n t
theorem All2.set {α : Type} {R : Rl α} {S : Hp} {x : α} {v : V} (q : R x v S) : ∀ (i : Nat) {xs : List α} {vs : List V}, All2 R S xs vs → All2 R S (xs.set i x) (vs.set i v)
  | _, _, _, .nil => .nil
  | 0, _, _, .cons _ t => .cons q t
  | i + 1, _, _, .cons h t => .cons h (All2.set q i t)
theorem All2.imp {α β : Type} {R : Rl α} {R' : Rl β} {f : α → β} {S : Hp} (k : ∀ x v, R x v S → R' (f x) v S) : ∀ {xs : List α} {vs : List V}, All2 R S xs vs → All2 R' S (xs.map f) vs
  | _, _, .nil => .nil
  | _, _, .cons h t => .cons (k _ _ h) (All2.imp k t)
theorem All2.ints {S : Hp} : ∀ {xs : List Int} {vs : List V}, All2 IntR S xs vs → vs = xs.map V.int
  | _, _, .nil => rfl
  | _, _, .cons h t => by
    rw [show _ = _ from h, All2.ints t]
    rfl
theorem All2.of_ints {S : Hp} : ∀ (xs : List Int), All2 IntR S xs (xs.map V.int)
  | [] => .nil
  | x :: r => .cons rfl (All2.of_ints r)
theorem All2.bools {S : Hp} : ∀ {xs : List Bool} {vs : List V}, All2 BoolR S xs vs → vs = xs.map V.bl
  | _, _, .nil => rfl
  | _, _, .cons h t => by
    rw [show _ = _ from h, All2.bools t]
    rfl
theorem All2.strs {S : Hp} : ∀ {xs : List Str} {vs : List V}, All2 StrR S xs vs → vs = xs.map V.str
  | _, _, .nil => rfl
  | _, _, .cons h t => by
    rw [show _ = _ from h, All2.strs t]
    rfl
/-- a list, a tuple of such -/
def LstR {α : Type} (R : Rl α) : Rl (List α) := fun xs v S => ∃ a vs, v = .ref a ∧ S a = some (.lst vs) ∧ All2 R S xs vs
section
variable (K : PySem.W.Frag)
def TupR {α : Type} (R : Rl α) : Rl (List α) := fun xs v S => ∃ a vs, v = .ref a ∧ SqT K S a vs ∧ All2 R S xs vs
/-- a list or a tuple -/
def SeqR {α : Type} (R : Rl α) : Rl (List α) := fun xs v S => LstR R xs v S ∨ TupR K R xs v S
def PairR {α β : Type} (R : Rl α) (R' : Rl β) : Rl (α × β) := fun p v S => ∃ a x y, v = .ref a ∧ SqT K S a [x, y] ∧ R p.1 x S ∧ R' p.2 y S
def TripR {α β γ : Type} (R : Rl α) (R' : Rl β) (R'' : Rl γ) : Rl (α × β × γ) := fun p v S => ∃ a x y z, v = .ref a ∧ SqT K S a [x, y, z] ∧ R p.1 x S ∧ R' p.2.1 y S ∧ R'' p.2.2 z S
/-- data of any depth -/
def DatR : Rl PyData := fun d v S => Dp K S v d
end
section
variable {K : PySem.W.Frag}
instance {α : Type} {R : Rl α} [Mono R] : Mono (LstR R) := ⟨fun e ⟨a, vs, h1, h2, h3⟩ => ⟨a, vs, h1, e a _ h2, h3.up e⟩⟩
instance {α : Type} {R : Rl α} [Mono R] : Mono (TupR K R) := ⟨fun e ⟨a, vs, h1, h2, h3⟩ => ⟨a, vs, h1, ex_t e h2, h3.up e⟩⟩
instance {α : Type} {R : Rl α} [m : Mono R] : Mono (SeqR K R) := ⟨fun e h => h.elim (fun h => .inl (Mono.up e h)) (fun h => .inr (Mono.up e h))⟩
instance {α β : Type} {R : Rl α} {R' : Rl β} [m : Mono R] [m' : Mono R'] : Mono (PairR K R R') := ⟨fun e ⟨a, x, y, h1, h2, h3, h4⟩ => ⟨a, x, y, h1, ex_t e h2, m.up e h3, m'.up e h4⟩⟩
instance {α β γ : Type} {R : Rl α} {R' : Rl β} {R'' : Rl γ} [m : Mono R] [m' : Mono R'] [m'' : Mono R''] : Mono (TripR K R R' R'') := ⟨fun e ⟨a, x, y, z, h1, h2, h3, h4, h5⟩ => ⟨a, x, y, z, h1, ex_t e h2, m.up e h3, m'.up e h4, m''.up e h5⟩⟩
mutual
theorem dp_up {S S' : Hp} (e : Ex S S') : ∀ (d : PyData) (v : V), Dp K S v d → Dp K S' v d
  | .none, _, h => by
    cases h
    exact .non
  | .bool b, _, h => by
    cases h
    exact .bl b
  | .int i, _, h => by
    cases h
    exact .int i
  | .str x, _, h => by
    cases h
    exact .str x
  | .list ds, _, h => by
    cases h with
    | lst h1 h2 => exact .lst (ex_l e h1) (dpa_up e ds _ h2)
  | .tuple ds, _, h => by
    cases h with
    | tup h1 h2 => exact .tup (ex_t e h1) (dpa_up e ds _ h2)
  | .dict _, _, h => by cases h
theorem dpa_up {S S' : Hp} (e : Ex S S') : ∀ (ds : List PyData) (vs : List V), DpAll K S vs ds → DpAll K S' vs ds
  | [], _, h => by
    cases h
    exact .nil
  | d :: ds, _, h => by
    cases h with
    | cons h1 h2 => exact .cons (dp_up e d _ h1) (dpa_up e ds _ h2)
end
instance : Mono (DatR K) := ⟨fun e h => dp_up e _ _ h⟩
end
end J

/-! JEv: judgements. -/
namespace J
open PySem PySem.Spec L2 Evl

/-- te gives a value that R tells, at a stable part that has grown -/
def EvS (r : Rs) (te : TE) (s : L2.St) (S : Hp) (R : V → Hp → Prop) : Prop := ∀ S1 H, Ex S S1 → Wd r S1 H → ∀ Q : VK, (∀ v S2 H2, Wd r S2 H2 → Stp r S1 H S2 H2 → R v S2 → Q v H2) → te s H Q
/-- te gives a new object, unstable so far -/
def EvN (r : Rs) (te : TE) (s : L2.St) (S : Hp) (R : HO → Hp → Prop) : Prop := ∀ S1 H, Ex S S1 → Wd r S1 H → ∀ Q : VK, (∀ p o S2 H2, H p = none → H2 p = some o → S2 p = none → Wd r S2 H2 → Stp r S1 H S2 H2 → R o S2 → Q (.ref p) H2) → te s H Q
def EvTS (r : Rs) (tt : TT) (s : L2.St) (S : Hp) (R : Bool → Hp → Prop) : Prop := ∀ S1 H, Ex S S1 → Wd r S1 H → ∀ Q : Bool → Hp → Prop, (∀ b S2 H2, Wd r S2 H2 → Stp r S1 H S2 H2 → R b S2 → Q b H2) → tt s H Q
def EvAS (r : Rs) (ta : TA) (s : L2.St) (S : Hp) (R : List V → Hp → Prop) : Prop := ∀ S1 H, Ex S S1 → Wd r S1 H → ∀ Q : List V → Hp → Prop, (∀ vs S2 H2, Wd r S2 H2 → Stp r S1 H S2 H2 → R vs S2 → Q vs H2) → ta s H Q
/-- a value that is known -/
abbrev EvV (r : Rs) (te : TE) (s : L2.St) (S : Hp) (v : V) : Prop := EvS r te s S fun u _ => u = v
abbrev EvB (r : Rs) (tt : TT) (s : L2.St) (S : Hp) (b : Bool) : Prop := EvTS r tt s S fun c _ => c = b
abbrev EvAV (r : Rs) (ta : TA) (s : L2.St) (S : Hp) (vs : List V) : Prop := EvAS r ta s S fun us _ => us = vs
section
variable {r : Rs} {s : L2.St} {S S' : Hp} {ta tb tc te : TE} {t u : TT} {tt : TT} {x y z v : V} {R R' : V → Hp → Prop}
theorem EvS.mono (e : Ex S S') (h : EvS r te s S R) : EvS r te s S' R := fun S1 H a w Q q => h S1 H (e.trans a) w Q q
theorem EvN.mono {R : HO → Hp → Prop} (e : Ex S S') (h : EvN r te s S R) : EvN r te s S' R := fun S1 H a w Q q => h S1 H (e.trans a) w Q q
theorem EvTS.mono {R : Bool → Hp → Prop} (e : Ex S S') (h : EvTS r t s S R) : EvTS r t s S' R := fun S1 H a w Q q => h S1 H (e.trans a) w Q q
theorem EvS.imp (h : EvS r te s S R) (k : ∀ v S1, Ex S S1 → R v S1 → R' v S1) : EvS r te s S R' := fun S1 H a w Q q => h S1 H a w Q fun v S2 H2 w2 st p => q v S2 H2 w2 st (k v S2 (a.trans st.ex) p)
theorem EvAS.mono' {ta : TA} {P : List V → Hp → Prop} (e : Ex S S') (h : EvAS r ta s S P) : EvAS r ta s S' P := fun S1 H a w Q q => h S1 H (e.trans a) w Q q
theorem EvAS.imp' {ta : TA} {P P' : List V → Hp → Prop} (h : EvAS r ta s S P) (k : ∀ v S1, Ex S S1 → P v S1 → P' v S1) : EvAS r ta s S P' := fun S1 H a w Q q => h S1 H a w Q fun v S2 H2 w2 st p => q v S2 H2 w2 st (k v S2 (a.trans st.ex) p)
theorem EvN.imp {R R' : HO → Hp → Prop} (h : EvN r te s S R) (k : ∀ o S1, Ex S S1 → R o S1 → R' o S1) : EvN r te s S R' := fun S1 H a w Q q => h S1 H a w Q fun p o S2 H2 h1 h2 h3 w2 st z => q p o S2 H2 h1 h2 h3 w2 st (k o S2 (a.trans st.ex) z)
theorem EvTS.imp {R R' : Bool → Hp → Prop} (h : EvTS r t s S R) (k : ∀ v S1, Ex S S1 → R v S1 → R' v S1) : EvTS r t s S R' := fun S1 H a w Q q => h S1 H a w Q fun v S2 H2 w2 st p => q v S2 H2 w2 st (k v S2 (a.trans st.ex) p)
/-- the new object becomes stable -/
theorem EvN.stable {R : HO → Hp → Prop} (h : EvN r te s S R) (k : ∀ p o S1, Ex S S1 → S1 p = none → R o S1 → R' (.ref p) (upd S1 p o)) : EvS r te s S R' := fun S1 H a w Q q =>
  h S1 H a w Q fun p o S2 H2 h1 h2 h3 w2 st z => q (.ref p) (upd S2 p o) H2 (w2.settle h2 (w.notM h1)) (st.settle h1 h3) (k p o S2 (a.trans st.ex) h3 z)
theorem EvV.is {w : V} (h : EvV r te s S v) (e : v = w) : EvV r te s S w := e ▸ h
theorem EvB.is {a b : Bool} (h : EvB r t s S a) (e : a = b) : EvB r t s S b := e ▸ h

/-! ### names, constants -/
theorem ev_var {i : Nat} (h : s[i]? = some (some v)) (p : R v S) (m : ∀ S1, Ex S S1 → R v S → R v S1) : EvS r (tVar i) s S R := fun S1 H a w Q q => ⟨v, h, q v S1 H w Stp.refl (m S1 a p)⟩
theorem vv_var {i : Nat} (h : s[i]? = some (some v)) : EvV r (tVar i) s S v := fun S1 H a w Q q => ⟨v, h, q v S1 H w Stp.refl rfl⟩
theorem vv_c : EvV r (tC v) s S v := fun S1 H a w Q q => q v S1 H w Stp.refl rfl

/-! ### operators -/
/-- an operation that reads at most -/
def RVS (o : R2) (x y : V) (S : Hp) (z : V) : Prop := ∀ H, Ex S H → ∀ Q : VK, Q z H → o x y H Q
/-- an operation that lays one object -/
def RVN (o : R2) (x y : V) (S : Hp) (ob : HO) : Prop := ∀ H, Ex S H → ∀ Q : VK, (∀ p, H p = none → Q (.ref p) (upd H p ob)) → o x y H Q
def RUS (o : V → Hp → VK → Prop) (x : V) (S : Hp) (z : V) : Prop := ∀ H, Ex S H → ∀ Q : VK, Q z H → o x H Q
def RCS (o : List V → Hp → VK → Prop) (vs : List V) (S : Hp) (z : V) : Prop := ∀ H, Ex S H → ∀ Q : VK, Q z H → o vs H Q
def RCN (o : List V → Hp → VK → Prop) (vs : List V) (S : Hp) (R : HO → Prop) : Prop := ∀ H, Ex S H → ∀ Q : VK, (∀ p ob, H p = none → R ob → Q (.ref p) (upd H p ob)) → o vs H Q
variable {o : R2} {A B : V → Hp → Prop}
/-- both sides by relations -/
theorem ev_op2 (ha : EvS r ta s S A) (hb : ∀ x S1, Ex S S1 → A x S1 → EvS r tb s S1 B) (k : ∀ x y S1 S2, Ex S S1 → A x S1 → Ex S1 S2 → B y S2 → ∃ z, RVS o x y S2 z ∧ R z S2) : EvS r (tOp o ta tb) s S R := fun S1 H a w Q q =>
  ha S1 H a w _ fun x S2 H2 w2 s2 hx => hb x S2 (a.trans s2.ex) hx S2 H2 (Ex.refl _) w2 _ fun y S3 H3 w3 s3 hy => by
    obtain ⟨z, hz, rz⟩ := k x y S2 S3 (a.trans s2.ex) hx s3.ex hy
    exact hz H3 w3.ex Q (q z S3 H3 w3 (s2.trans s3) rz)
theorem ev_op2N {R : HO → Hp → Prop} (ha : EvS r ta s S A) (hb : ∀ x S1, Ex S S1 → A x S1 → EvS r tb s S1 B) (k : ∀ x y S1 S2, Ex S S1 → A x S1 → Ex S1 S2 → B y S2 → ∃ z, RVN o x y S2 z ∧ R z S2) : EvN r (tOp o ta tb) s S R := fun S1 H a w Q q =>
  ha S1 H a w _ fun x S2 H2 w2 s2 hx => hb x S2 (a.trans s2.ex) hx S2 H2 (Ex.refl _) w2 _ fun y S3 H3 w3 s3 hy => by
    obtain ⟨z, hz, rz⟩ := k x y S2 S3 (a.trans s2.ex) hx s3.ex hy
    refine hz H3 w3.ex Q fun p hp => ?_
    have h1 : H p = none := by
      cases e : H p with
      | none => rfl
      | some ob => exact absurd hp (s3.dm p (s2.dm p (ne_none e)))
    exact q p z S3 _ h1 upd_same (w3.fresh hp) (w3.new hp) ((s2.trans s3).trans (Stp.new hp)) rz
theorem vv_op (ha : EvV r ta s S x) (hb : EvV r tb s S y) (ho : RVS o x y S z) : EvV r (tOp o ta tb) s S z :=
  ev_op2 ha (fun _ S1 e _ => EvS.mono e hb) fun x' y' S1 S2 e1 hx e2 hy => ⟨z, by
    subst hx
    subst hy
    exact fun H e Q q => ho H ((e1.trans e2).trans e) Q q, rfl⟩
theorem vn_op {ob : HO} (ha : EvV r ta s S x) (hb : EvV r tb s S y) (ho : RVN o x y S ob) : EvN r (tOp o ta tb) s S fun u _ => u = ob :=
  ev_op2N ha (fun _ S1 e _ => EvS.mono e hb) fun x' y' S1 S2 e1 hx e2 hy => ⟨ob, by
    subst hx
    subst hy
    exact fun H e Q q => ho H ((e1.trans e2).trans e) Q q, rfl⟩
theorem vv_un {o : V → Hp → VK → Prop} (ha : EvV r ta s S x) (ho : RUS o x S z) : EvV r (tUn o ta) s S z := fun S1 H a w Q q =>
  ha S1 H a w _ fun x' S2 H2 w2 s2 hx => by
    subst hx
    exact ho H2 ((a.trans s2.ex).trans w2.ex) Q (q z S2 H2 w2 s2 rfl)
theorem rs_I0 {g : Int → Int → V} {i j : Int} : RVS (rI0 g) (.int i) (.int j) S (g i j) := fun H _ Q q => ⟨i, j, rfl, rfl, q⟩
theorem rs_I {C : Int → Int → Prop} {g : Int → Int → V} {i j : Int} (c : C i j) : RVS (rI C g) (.int i) (.int j) S (g i j) := fun H _ Q q => ⟨i, j, rfl, rfl, c, q⟩
theorem rs_or1 {o o' : R2} (h : RVS o x y S z) : RVS (fun x y H Q => o x y H Q ∨ o' x y H Q) x y S z := fun H e Q q => .inl (h H e Q q)
theorem rs_or2 {o o' : R2} (h : RVS o' x y S z) : RVS (fun x y H Q => o x y H Q ∨ o' x y H Q) x y S z := fun H e Q q => .inr (h H e Q q)
theorem rs_eq (h : scal x y = true) : RVS rEq x y S (.bl (decide (x = y))) := fun H _ Q q => ⟨h, q⟩
theorem rs_ne (h : scal x y = true) : RVS rNe x y S (.bl (!decide (x = y))) := fun H _ Q q => ⟨h, q⟩
theorem rs_isN : RVS (fun x y H Q => y = .non ∧ Q (.bl (decide (x = .non))) H) x .non S (.bl (decide (x = .non))) := fun H _ Q q => ⟨rfl, q⟩
theorem rs_notN : RVS (fun x y H Q => y = .non ∧ Q (.bl (!decide (x = .non))) H) x .non S (.bl (!decide (x = .non))) := fun H _ Q q => ⟨rfl, q⟩
variable {K : PySem.W.Frag}
theorem rs_ixL {p : Addr} {xs : List V} {i : Int} (h : SqL K S p xs) (a : atI xs i = some v) : RVS (rIxL K) (.ref p) (.int i) S v := fun H e Q q => ⟨p, xs, i, v, rfl, rfl, ex_l e h, a, q⟩
theorem rs_ixT {p : Addr} {xs : List V} {i : Int} (h : SqT K S p xs) (a : atI xs i = some v) : RVS (rIxT K) (.ref p) (.int i) S v := fun H e Q q => ⟨p, xs, i, v, rfl, rfl, ex_t e h, a, q⟩
theorem rs_inL {neg : Bool} {p : Addr} {xs : List V} (h : SqL K S p xs) (hx : flatV x = true) (ha : xs.all flatV = true) : RVS (rIn K neg) x (.ref p) S (.bl (if neg then !inV x xs else inV x xs)) := fun H e Q q => ⟨p, xs, rfl, .inl (ex_l e h), hx, ha, q⟩
theorem rs_inT {neg : Bool} {p : Addr} {xs : List V} (h : SqT K S p xs) (hx : flatV x = true) (ha : xs.all flatV = true) : RVS (rIn K neg) x (.ref p) S (.bl (if neg then !inV x xs else inV x xs)) := fun H e Q q => ⟨p, xs, rfl, .inr (ex_t e h), hx, ha, q⟩

/-! ### tests -/
theorem tb_test {b : Bool} (h : EvV r te s S (.bl b)) : EvB r (tTest te) s S b := fun S1 H a w Q q => h S1 H a w _ fun v S2 H2 w2 s2 e => ⟨b, e, q b S2 H2 w2 s2 rfl⟩
theorem tb_B {b : Bool} (h : EvV r te s S (.bl b)) : EvB r (tB te) s S b := fun S1 H a w Q q => h S1 H a w _ fun v S2 H2 w2 s2 e => ⟨b, e, q b S2 H2 w2 s2 rfl⟩
theorem tb_and {a b : Bool} (h1 : EvB r t s S a) (h2 : a = true → EvB r u s S b) : EvB r (tAnd t u) s S (a && b) := fun S1 H e w Q q => h1 S1 H e w _ fun c S2 H2 w2 s2 ec => by
  subst ec
  cases c with
  | true =>
    show u s H2 Q
    exact h2 rfl S2 H2 (e.trans s2.ex) w2 Q fun c3 S3 H3 w3 s3 e3 => q c3 S3 H3 w3 (s2.trans s3) e3
  | false =>
    show Q false H2
    exact q false S2 H2 w2 s2 rfl
theorem tb_or {a b : Bool} (h1 : EvB r t s S a) (h2 : a = false → EvB r u s S b) : EvB r (tOr t u) s S (a || b) := fun S1 H e w Q q => h1 S1 H e w _ fun c S2 H2 w2 s2 ec => by
  subst ec
  cases c with
  | true =>
    show Q true H2
    exact q true S2 H2 w2 s2 rfl
  | false =>
    show u s H2 Q
    exact h2 rfl S2 H2 (e.trans s2.ex) w2 Q fun c3 S3 H3 w3 s3 e3 => q c3 S3 H3 w3 (s2.trans s3) e3
theorem tb_not {a : Bool} (h1 : EvB r t s S a) : EvB r (tNot t) s S (!a) := fun S1 H e w Q q => h1 S1 H e w _ fun c S2 H2 w2 s2 ec => q (!c) S2 H2 w2 s2 (by rw [ec])
theorem vv_and {a b : Bool} (h1 : EvV r ta s S (.bl a)) (h2 : a = true → EvV r tb s S (.bl b)) : EvV r (tAndV ta tb) s S (.bl (a && b)) := fun S1 H e w Q q => h1 S1 H e w _ fun c S2 H2 w2 s2 ec => ⟨a, ec, by
  cases a with
  | true =>
    show tb s H2 Q
    exact h2 rfl S2 H2 (e.trans s2.ex) w2 Q fun c3 S3 H3 w3 s3 e3 => q c3 S3 H3 w3 (s2.trans s3) e3
  | false =>
    show Q (.bl false) H2
    exact q _ S2 H2 w2 s2 rfl⟩
theorem vv_or {a b : Bool} (h1 : EvV r ta s S (.bl a)) (h2 : a = false → EvV r tb s S (.bl b)) : EvV r (tOrV ta tb) s S (.bl (a || b)) := fun S1 H e w Q q => h1 S1 H e w _ fun c S2 H2 w2 s2 ec => ⟨a, ec, by
  cases a with
  | true =>
    show Q (.bl true) H2
    exact q _ S2 H2 w2 s2 rfl
  | false =>
    show tb s H2 Q
    exact h2 rfl S2 H2 (e.trans s2.ex) w2 Q fun c3 S3 H3 w3 s3 e3 => q c3 S3 H3 w3 (s2.trans s3) e3⟩
theorem vv_not {a : Bool} (h1 : EvV r ta s S (.bl a)) : EvV r (tNotV ta) s S (.bl (!a)) := fun S1 H e w Q q => h1 S1 H e w _ fun c S2 H2 w2 s2 ec => ⟨a, ec, q _ S2 H2 w2 s2 rfl⟩
theorem ev_if {b : Bool} (h : EvB r t s S b) (h1 : b = true → EvS r ta s S R) (h2 : b = false → EvS r tb s S R) : EvS r (tIf t ta tb) s S R := fun S1 H e w Q q => h S1 H e w _ fun c S2 H2 w2 s2 ec => by
  subst ec
  cases c with
  | true =>
    show ta s H2 Q
    exact h1 rfl S2 H2 (e.trans s2.ex) w2 Q fun c3 S3 H3 w3 s3 e3 => q c3 S3 H3 w3 (s2.trans s3) e3
  | false =>
    show tb s H2 Q
    exact h2 rfl S2 H2 (e.trans s2.ex) w2 Q fun c3 S3 H3 w3 s3 e3 => q c3 S3 H3 w3 (s2.trans s3) e3
/-- a < b < c -/
theorem vv_chain {o o' : R2} {ta tb tc : TE} {k b : Bool} {z : V} (ha : EvV r ta s S x) (hb : EvV r tb s S y) (h1 : RVS o x y S (.bl k)) (hc : k = true → EvV r tc s S z) (h2 : k = true → RVS o' y z S (.bl b)) : EvV r (tChain o o' ta tb tc) s S (.bl (k && b)) := fun S1 H e w Q q =>
  ha S1 H e w _ fun x' S2 H2 w2 s2 ex => hb S2 H2 (e.trans s2.ex) w2 _ fun y' S3 H3 w3 s3 ey => by
    subst ex
    subst ey
    have e3 : Ex S S3 := (e.trans s2.ex).trans s3.ex
    refine h1 H3 (e3.trans w3.ex) _ ⟨k, rfl, ?_⟩
    cases k with
    | true =>
      refine iteT ?_
      exact hc rfl S3 H3 e3 w3 _ fun z' S4 H4 w4 s4 ez => by
        subst ez
        exact h2 rfl H4 ((e3.trans s4.ex).trans w4.ex) Q (q _ S4 H4 w4 ((s2.trans s3).trans s4) rfl)
    | false =>
      refine iteF ?_
      exact q _ S3 H3 w3 (s2.trans s3) rfl

/-! ### argument lists, calls of built-ins, displays -/
theorem va_nil : EvAV r tNil s S [] := fun S1 H _ w Q q => q [] S1 H w Stp.refl rfl
theorem va_cons {tr : TA} {vs : List V} (h : EvV r ta s S x) (hr : EvAV r tr s S vs) : EvAV r (tCons ta tr) s S (x :: vs) := fun S1 H e w Q q =>
  h S1 H e w _ fun x' S2 H2 w2 s2 ex => hr S2 H2 (e.trans s2.ex) w2 _ fun vs' S3 H3 w3 s3 ev => q _ S3 H3 w3 (s2.trans s3) (by rw [ex, ev])
theorem ea_nil : EvAS r tNil s S fun us _ => us = [] := va_nil
theorem ea_cons {tr : TA} {P : List V → Hp → Prop} (h : EvS r ta s S R) (hr : ∀ x S1, Ex S S1 → R x S1 → EvAS r tr s S1 fun us S2 => P (x :: us) S2) : EvAS r (tCons ta tr) s S P := fun S1 H e w Q q =>
  h S1 H e w _ fun x' S2 H2 w2 s2 ex => hr x' S2 (e.trans s2.ex) ex S2 H2 (Ex.refl _) w2 _ fun vs' S3 H3 w3 s3 ev => q _ S3 H3 w3 (s2.trans s3) ev
/-- a built-in called, reading at most -/
theorem vv_cb {o : List V → Hp → VK → Prop} {ta : TA} {vs : List V} (h : EvAV r ta s S vs) (ho : RCS o vs S z) : EvV r (tCB o ta) s S z := fun S1 H e w Q q =>
  h S1 H e w _ fun vs' S2 H2 w2 s2 ev => by
    subst ev
    exact ho H2 ((e.trans s2.ex).trans w2.ex) Q (q z S2 H2 w2 s2 rfl)
theorem ev_cb {o : List V → Hp → VK → Prop} {ta : TA} {P : List V → Hp → Prop} (h : EvAS r ta s S P) (ho : ∀ vs S1, Ex S S1 → P vs S1 → ∀ H, Ex S1 H → ∀ Q : VK, (∀ z, R z S1 → Q z H) → o vs H Q) : EvS r (tCB o ta) s S R := fun S1 H e w Q q =>
  h S1 H e w _ fun vs S2 H2 w2 s2 ev => ho vs S2 (e.trans s2.ex) ev H2 w2.ex Q fun z rz => q z S2 H2 w2 s2 rz
theorem en_cb {o : List V → Hp → VK → Prop} {ta : TA} {P : List V → Hp → Prop} {R : HO → Hp → Prop} (h : EvAS r ta s S P) (ho : ∀ vs S1, Ex S S1 → P vs S1 → RCN o vs S1 fun ob => R ob S1) : EvN r (tCB o ta) s S R := fun S1 H e w Q q =>
  h S1 H e w _ fun vs S2 H2 w2 s2 ev => ho vs S2 (e.trans s2.ex) ev H2 w2.ex Q fun p ob hp hr => by
    have h1 : H p = none := by
      cases e : H p with
      | none => rfl
      | some ob => exact absurd hp (s2.dm p (ne_none e))
    exact q p ob S2 _ h1 upd_same (w2.fresh hp) (w2.new hp) (s2.trans (Stp.new hp)) hr
theorem en_tup {ta : TA} {P : List V → Hp → Prop} (h : EvAS r ta s S P) (hl : ∀ vs S1, P vs S1 → vs.length ≤ 100000) : EvN r (tTup ta) s S fun o S1 => ∃ vs, o = .tup vs ∧ P vs S1 := fun S1 H e w Q q =>
  h S1 H e w _ fun vs S2 H2 w2 s2 ev => ⟨sz_of (hl vs S2 ev), fun p hp => by
    have h1 : H p = none := by
      cases e : H p with
      | none => rfl
      | some ob => exact absurd hp (s2.dm p (ne_none e))
    exact q p _ S2 _ h1 upd_same (w2.fresh hp) (w2.new hp) (s2.trans (Stp.new hp)) ⟨vs, rfl, ev⟩⟩
theorem en_lst {ta : TA} {P : List V → Hp → Prop} (h : EvAS r ta s S P) (hl : ∀ vs S1, P vs S1 → vs.length ≤ 100000) : EvN r (tLst ta) s S fun o S1 => ∃ vs, o = .lst vs ∧ P vs S1 := fun S1 H e w Q q =>
  h S1 H e w _ fun vs S2 H2 w2 s2 ev => ⟨sz_of (hl vs S2 ev), fun p hp => by
    have h1 : H p = none := by
      cases e : H p with
      | none => rfl
      | some ob => exact absurd hp (s2.dm p (ne_none e))
    exact q p _ S2 _ h1 upd_same (w2.fresh hp) (w2.new hp) (s2.trans (Stp.new hp)) ⟨vs, rfl, ev⟩⟩
/-- [] -/
theorem en_nil : EvN r (tLst tNil) s S fun o _ => o = .lst [] := (en_lst (P := fun us _ => us = []) va_nil (fun vs _ e => by
  rw [e]
  exact Nat.zero_le _)).imp fun o _ _ ⟨vs, e1, e2⟩ => by rw [e1, e2]
end

/-! ### statements -/
section
variable {r : Rs} {s : L2.St} {S H S0 H0 : Hp} {ta tb te : TE} {t : TT} {tu tw tz : TS} {D : Ends} {v : V} {R : V → Hp → Prop} {g : TG}
/-- x = e -/
theorem st_asg {i : Nat} (h : EvS r te s S R) (w : Wd r S H) (k : ∀ v S1 H1, Wd r S1 H1 → Stp r S H S1 H1 → R v S1 → D.nx (s.set i (some v)) H1) : tAsg te (gName i) D s H :=
  h S H (Ex.refl S) w _ fun v S1 H1 w1 s1 p => k v S1 H1 w1 s1 p
theorem st_asgN {i : Nat} {R : HO → Hp → Prop} (h : EvN r te s S R) (w : Wd r S H) (k : ∀ p o S1 H1, H p = none → H1 p = some o → S1 p = none → Wd r S1 H1 → Stp r S H S1 H1 → R o S1 → D.nx (s.set i (some (.ref p))) H1) : tAsg te (gName i) D s H :=
  h S H (Ex.refl S) w _ fun p o S1 H1 a b c w1 s1 q => k p o S1 H1 a b c w1 s1 q
theorem st_if {b : Bool} (h : EvB r t s S b) (w : Wd r S H) (h1 : b = true → ∀ S1 H1, Wd r S1 H1 → Stp r S H S1 H1 → tu D s H1) (h2 : b = false → ∀ S1 H1, Wd r S1 H1 → Stp r S H S1 H1 → tw D s H1) : tIfS t tu tw D s H :=
  h S H (Ex.refl S) w _ fun c S1 H1 w1 s1 p => by
    subst p
    cases c with
    | true => exact h1 rfl S1 H1 w1 s1
    | false => exact h2 rfl S1 H1 w1 s1
/-- a test whose answer is only told by a relation -/
theorem st_ifR {R : Bool → Hp → Prop} (h : EvTS r t s S R) (w : Wd r S H) (h1 : ∀ S1 H1, R true S1 → Wd r S1 H1 → Stp r S H S1 H1 → tu D s H1) (h2 : ∀ S1 H1, R false S1 → Wd r S1 H1 → Stp r S H S1 H1 → tw D s H1) : tIfS t tu tw D s H :=
  h S H (Ex.refl S) w _ fun c S1 H1 w1 s1 p => by
    cases c with
    | true => exact h1 S1 H1 p w1 s1
    | false => exact h2 S1 H1 p w1 s1
theorem st_ret (h : EvS r te s S R) (w : Wd r S H) (k : ∀ v S1 H1, Wd r S1 H1 → Stp r S H S1 H1 → R v S1 → D.rt v H1) : tRet te D s H :=
  h S H (Ex.refl S) w _ fun v S1 H1 w1 s1 p => k v S1 H1 w1 s1 p
theorem st_retN {R : HO → Hp → Prop} (h : EvN r te s S R) (w : Wd r S H) (k : ∀ p o S1 H1, H p = none → H1 p = some o → S1 p = none → Wd r S1 H1 → Stp r S H S1 H1 → R o S1 → D.rt (.ref p) H1) : tRet te D s H :=
  h S H (Ex.refl S) w _ fun p o S1 H1 a b c w1 s1 q => k p o S1 H1 a b c w1 s1 q
theorem st_drop (h : EvS r te s S R) (w : Wd r S H) (k : ∀ v S1 H1, Wd r S1 H1 → Stp r S H S1 H1 → R v S1 → D.nx s H1) : tDrop te D s H :=
  h S H (Ex.refl S) w _ fun v S1 H1 w1 s1 p => k v S1 H1 w1 s1 p
/-- the same, something behind -/
theorem sq_asg {i : Nat} (h : EvS r te s S R) (w : Wd r S H) (k : ∀ v S1 H1, Wd r S1 H1 → Stp r S H S1 H1 → R v S1 → tz D (s.set i (some v)) H1) : tSeq (tAsg te (gName i)) tz D s H := st_asg (D := { D with nx := tz D }) h w k
theorem sq_asgN {i : Nat} {R : HO → Hp → Prop} (h : EvN r te s S R) (w : Wd r S H) (k : ∀ p o S1 H1, H p = none → H1 p = some o → S1 p = none → Wd r S1 H1 → Stp r S H S1 H1 → R o S1 → tz D (s.set i (some (.ref p))) H1) : tSeq (tAsg te (gName i)) tz D s H := st_asgN (D := { D with nx := tz D }) h w k
theorem sq_if {b : Bool} (h : EvB r t s S b) (w : Wd r S H) (h1 : b = true → ∀ S1 H1, Wd r S1 H1 → Stp r S H S1 H1 → tu { D with nx := tz D } s H1) (h2 : b = false → ∀ S1 H1, Wd r S1 H1 → Stp r S H S1 H1 → tw { D with nx := tz D } s H1) : tSeq (tIfS t tu tw) tz D s H := st_if (D := { D with nx := tz D }) h w h1 h2
theorem sq_drop (h : EvS r te s S R) (w : Wd r S H) (k : ∀ v S1 H1, Wd r S1 H1 → Stp r S H S1 H1 → R v S1 → tz D s H1) : tSeq (tDrop te) tz D s H := st_drop (D := { D with nx := tz D }) h w k
/-- an if whose answer is known and whose body never comes -/
theorem sq_ifNo (h : EvB r t s S false) (w : Wd r S H) (k : ∀ S1 H1, Wd r S1 H1 → Stp r S H S1 H1 → tz D s H1) : tSeq (tIfS t tu tNext) tz D s H :=
  sq_if h w (fun e => nomatch e) fun _ S1 H1 w1 s1 => k S1 H1 w1 s1
end
end J

/-! JOps: rules in union. -/
namespace J
open PySem PySem.Spec L2 Evl
section
variable {X : Cx}
theorem CallR.or {f : Value} {r r' : List V → Hp → VK → Prop} (h : CallR X f r) (h' : CallR X f r') : CallR X f (fun xs H Q => r xs H Q ∨ r' xs H Q) := by
  intro pins s σ H xs us Q I rv q
  rcases q with q | q
  · exact h pins s σ H xs us Q I rv q
  · exact h' pins s σ H xs us Q I rv q
theorem PI.or {tg it : Expr} {w w' : TI} (h : PI X tg it w) (h' : PI X tg it w') : PI X tg it (fun σ H R => w σ H R ∨ w' σ H R) :=
  ⟨fun pins s σ H R I q => q.elim (h.run pins s σ H R I) (h'.run pins s σ H R I)⟩
theorem PE.or {e : Expr} {t t' : TE} (h : PE X e t) (h' : PE X e t') : PE X e (fun σ H Q => t σ H Q ∨ t' σ H Q) :=
  ⟨fun pins s σ H R I q => q.elim (h.run pins s σ H R I) (h'.run pins s σ H R I)⟩
/-- a constant of the module -/
def MgC (mg : Str → Option Value) (x : Str) (v : V) : Prop := ∃ u, mg x = some u ∧ RelV v u
theorem pe_const {x : Str} {v : V} {pos : Pos} (hg : Gl X x) (h : MgC X.mg x v) (hd : (x == ("__debug__" : Str)) = false := by decide) : PE X (.Name x pos) (tC v) := by
  obtain ⟨u, hm, r⟩ := h
  exact pe_glob hg hm r hd
/-! ### + * // -/
def rAddS : R2 := fun x y H Q => ∃ i j, x = .str i ∧ y = .str j ∧ i.length + j.length ≤ sizeLine ∧ Q (.str (i ++ j)) H
def rAddU (K : PySem.W.Frag) : R2 := fun x y H Q => (rI0 (fun i j => .int (i + j)) x y H Q ∨ rAddS x y H Q) ∨ (rCat x y H Q ∨ rCatA K x y H Q)
theorem op_addU : OpR X (binaryOp .Add) (rAddU X.K) := OpR.or (OpR.or op_add op_add_str) (OpR.or op_cat op_catA)
def rMulU : R2 := fun x y H Q => rI CMul (fun i j => .int (i * j)) x y H Q ∨ rRep x y H Q
theorem op_mulU : OpR X (binaryOp .Mult) rMulU := OpR.or op_mul op_rep
/-! ### == != in is -/
def rEqU (K : PySem.W.Frag) : R2 := fun x y H Q => rEq x y H Q ∨ rEqD K x y H Q
def rNeU (K : PySem.W.Frag) : R2 := fun x y H Q => rNe x y H Q ∨ rNeD K x y H Q
theorem op_eqU (hu : X.A.units + 64 < cLine) : OpR X (compareOp .Eq) (rEqU X.K) := OpR.or op_eq (op_eqD hu)
theorem op_neU (hu : X.A.units + 64 < cLine) : OpR X (compareOp .NotEq) (rNeU X.K) := OpR.or op_ne (op_neD hu)
def rInS : R2 := fun x y H Q => ∃ i j, x = .str i ∧ y = .str j ∧ Q (.bl (!(Builtin.Str.occurrences j i 0 j.length 1).isEmpty)) H
def rNotInS : R2 := fun x y H Q => ∃ i j, x = .str i ∧ y = .str j ∧ Q (.bl (!(!(Builtin.Str.occurrences j i 0 j.length 1).isEmpty))) H
def rInU (K : PySem.W.Frag) : R2 := fun x y H Q => rIn K false x y H Q ∨ rInS x y H Q
def rNotInU (K : PySem.W.Frag) : R2 := fun x y H Q => rIn K true x y H Q ∨ rNotInS x y H Q
theorem op_inU : OpR X (compareOp .In) (rInU X.K) := OpR.or op_in_seq op_in_str
theorem op_notInU : OpR X (compareOp .NotIn) (rNotInU X.K) := OpR.or op_notIn_seq op_notIn_str
def rIsNon : R2 := fun x y H Q => y = .non ∧ Q (.bl (decide (x = .non))) H
def rNotNon : R2 := fun x y H Q => y = .non ∧ Q (.bl (!decide (x = .non))) H
def rIsU : R2 := fun x y H Q => rIsNon x y H Q ∨ rIsB x y H Q
def rNotU : R2 := fun x y H Q => rNotNon x y H Q ∨ rNotB x y H Q
theorem op_isU : OpR X (compareOp .Is) rIsU := OpR.or op_isN op_isBl
theorem op_notU : OpR X (compareOp .IsNot) rNotU := OpR.or op_notN op_notBl
/-! ### a[i], a[i:j] -/
theorem ix_U : IxR X (rIx X.K) := ix_seq
def rSlU (K : PySem.W.Frag) : V → Option Int → Option Int → Hp → VK → Prop := fun x lo hi H Q => (rSlL K x lo hi H Q ∨ rSlA K x lo hi H Q) ∨ rSlS x lo hi H Q
theorem sl_U : SlR X (rSlU X.K) := SlR.or (SlR.or sl_list sl_tupA) sl_str
/-! ### what is walked -/
def iU (K : PySem.W.Frag) (te : TE) : TI := fun σ H R => (iList K te σ H R ∨ iTup K te σ H R) ∨ iStr te σ H R
theorem pi_U {tg e : Expr} {te : TE} (h : PE X e te) : PI X tg e (iU X.K te) := PI.or (PI.or (pi_list h) (pi_tup h)) (pi_str h)
/-! ### calls -/
def rIsiU (K : PySem.W.Frag) : List V → Hp → VK → Prop := fun xs H Q => rIsi K xs H Q ∨ rIsiT K xs H Q
theorem call_isiU : CallR X (.builtin "isinstance") (rIsiU X.K) := CallR.or call_isi call_isiT
def rLenD : List V → Hp → VK → Prop := fun xs H Q => ∃ a kvs, xs = [V.ref a] ∧ H a = some (.dK kvs) ∧ Q (.int kvs.length) H
def rLenV (K : PySem.W.Frag) : List V → Hp → VK → Prop := fun xs H Q => ∃ x n, xs = [x] ∧ LenV K x H n ∧ Q (.int n) H
def rLenU (K : PySem.W.Frag) : List V → Hp → VK → Prop := fun xs H Q => rLenV K xs H Q ∨ rLenD xs H Q
theorem call_lenU : CallR X (.builtin "len") (rLenU X.K) := CallR.or call_len call_lenD
def rMax2 : List V → Hp → VK → Prop := fun xs H Q => ∃ i j, xs = [.int i, .int j] ∧ Q (.int (if j > i then j else i)) H
def rMin2 : List V → Hp → VK → Prop := fun xs H Q => ∃ i j, xs = [.int i, .int j] ∧ Q (.int (if j < i then j else i)) H
def rMaxU (K : PySem.W.Frag) : List V → Hp → VK → Prop := fun xs H Q => J.rMax2 xs H Q ∨ rMax K xs H Q
def rMinU (K : PySem.W.Frag) : List V → Hp → VK → Prop := fun xs H Q => J.rMin2 xs H Q ∨ rMin K xs H Q
theorem call_maxU (hc : X.calm = true := by rfl) : CallR X (.builtin "max") (rMaxU X.K) := CallR.or (call_max2 hc) (cr_max hc)
theorem call_minU (hc : X.calm = true := by rfl) : CallR X (.builtin "min") (rMinU X.K) := CallR.or (call_min2 hc) (cr_min hc)
def rSortedU (K : PySem.W.Frag) : List V → Hp → VK → Prop := fun xs H Q => rSorted K xs H Q ∨ rSortedS K xs H Q
theorem call_sortedU : CallR X (.builtin "sorted") (rSortedU X.K) := CallR.or cr_sorted cr_sortedS
def rListU (K : PySem.W.Frag) : List V → Hp → VK → Prop := fun xs H Q => ∃ p ys, xs = [.ref p] ∧ (SqL K H p ys ∨ SqT K H p ys) ∧ ∀ l, H l = none → Q (.ref l) (upd H l (.lst ys))
theorem call_listU : CallR X (.type "list") (rListU X.K) := call_list_of
def rTupleU (K : PySem.W.Frag) : List V → Hp → VK → Prop := fun xs H Q => ∃ x, xs = [x] ∧ kTup K x H Q
theorem call_tupleU : CallR X (.type "tuple") (rTupleU X.K) := by
  intro pins s σ H xs us Q I r h
  obtain ⟨x, rfl, q⟩ := h
  obtain ⟨u, rfl, ru⟩ := vals1 r
  exact rl_tuple pins s σ H x u Q I ru q
def rStrI : List V → Hp → VK → Prop := fun xs H Q => ∃ i, xs = [.int i] ∧ i.natAbs.log2 < 1920 ∧ Q (.str (toString i)) H
theorem call_strU : CallR X (.type "str") rStrI := call_str_int
def rInsert : V → List V → Hp → VK → Prop := fun x vs H Q => ∃ (l : Addr) (xs : List V) (i : Int) (y : V), x = .ref l ∧ vs = [.int i, y] ∧ H l = some (.lst xs) ∧ xs.length < sizeLine ∧ 0 ≤ i ∧ i < 2 ^ 63 ∧ Q .non (upd H l (.lst (xs.take i.toNat ++ [y] ++ xs.drop i.toNat)))
end
end J
namespace J
open PySem PySem.Spec L2 Evl
/-! ### the same with K written -/
section
variable {X : Cx} {K : PySem.W.Frag}
theorem op_addK (hK : X.K = K := by rfl) : OpR X (binaryOp .Add) (rAddU K) := by subst hK; exact op_addU
theorem op_eqK (hu : X.A.units + 64 < cLine) (hK : X.K = K := by rfl) : OpR X (compareOp .Eq) (rEqU K) := by subst hK; exact op_eqU hu
theorem op_neK (hu : X.A.units + 64 < cLine) (hK : X.K = K := by rfl) : OpR X (compareOp .NotEq) (rNeU K) := by subst hK; exact op_neU hu
theorem op_inK (hK : X.K = K := by rfl) : OpR X (compareOp .In) (rInU K) := by subst hK; exact op_inU
theorem op_notInK (hK : X.K = K := by rfl) : OpR X (compareOp .NotIn) (rNotInU K) := by subst hK; exact op_notInU
theorem ix_K (hK : X.K = K := by rfl) : IxR X (rIx K) := by subst hK; exact ix_seq
theorem sl_K (hK : X.K = K := by rfl) : SlR X (rSlU K) := by subst hK; exact sl_U
theorem pi_K {tg e : Expr} {te : TE} (h : PE X e te) (hK : X.K = K := by rfl) : PI X tg e (iU K te) := by subst hK; exact pi_U h
theorem call_isiK2 (hK : X.K = K := by rfl) : CallR X (.builtin "isinstance") (rIsiU K) := by subst hK; exact call_isiU
theorem call_lenK (hK : X.K = K := by rfl) : CallR X (.builtin "len") (rLenU K) := by subst hK; exact call_lenU
theorem call_maxK (hc : X.calm = true := by rfl) (hK : X.K = K := by rfl) : CallR X (.builtin "max") (rMaxU K) := by subst hK; exact call_maxU hc
theorem call_minK (hc : X.calm = true := by rfl) (hK : X.K = K := by rfl) : CallR X (.builtin "min") (rMinU K) := by subst hK; exact call_minU hc
theorem call_sortedK (hK : X.K = K := by rfl) : CallR X (.builtin "sorted") (rSortedU K) := by subst hK; exact call_sortedU
theorem call_listK (hK : X.K = K := by rfl) : CallR X (.type "list") (rListU K) := by subst hK; exact call_listU
theorem call_tupleK (hK : X.K = K := by rfl) : CallR X (.type "tuple") (rTupleU K) := by subst hK; exact call_tupleU
theorem call_allK (hc : X.calm = true := by rfl) (hK : X.K = K := by rfl) : CallR X (.builtin "all") (rAll K) := by subst hK; exact cr_all hc
theorem call_anyK (hc : X.calm = true := by rfl) (hK : X.K = K := by rfl) : CallR X (.builtin "any") (rAny K) := by subst hK; exact cr_any hc
theorem call_sumK (hc : X.calm = true := by rfl) (hK : X.K = K := by rfl) : CallR X (.builtin "sum") (rSum K) := by subst hK; exact cr_sum hc
theorem pe_fldK {e : Expr} {ta : TE} {f : Str} {pos : Pos} (he : PE X e ta) (hb : attributeBase e f X.env (eval e X.env) = eval e X.env := by rfl) (hK : X.K = K := by rfl) : PE X (.Attribute e f pos) (tFld K ta f) := by subst hK; exact pe_fld he hb
theorem ps_fldK {o value : Expr} {ta tv : TE} {f : Str} {pos pos' : Pos} (ha : PE X o ta) (hv : PE X value tv) (hs : swapsWith value (some (.Attribute o f pos')) pos.line X.env = pure false := by rfl) (hK : X.K = K := by rfl) : PS X (.Assign [.Attribute o f pos'] value pos) (sFld K ta tv f) := by subst hK; exact ps_fld ha hv hs
theorem pg_tupK {es : List Expr} {k : Nat} {t : TGs} {n : Nat} {pos : Pos} (hc : X.calm = true) (h : PGs X es t) (hn : (assignEach es X.env).length = n := by rfl) (hst : (assignEach es X.env).findIdx? (·.1) = none := by rfl) (hK : X.K = K := by rfl) : PG X (.Tuple es k pos) (gTup K n t) := by subst hK; exact pg_tup hc h hn hst
theorem pi_enumK {e : Expr} {ta : TA} {p pos tpos : Pos} {elts : List Expr} {kk : Nat} (hg : Gl X "enumerate") (hm : X.mg "enumerate" = none) (ha : PA X [e] ta) (hs : starEach [e] X.env = [(false, eval e X.env)] := by rfl) (hK : X.K = K := by rfl) : PI X (.Tuple elts kk tpos) (.Call (.Name "enumerate" p) [e] [] pos) (iEnum K ta) := by subst hK; exact pi_enum hg hm ha hs
theorem pi_zipK {e e2 : Expr} {ta : TA} {p pos tpos : Pos} {elts : List Expr} {kk : Nat} (hg : Gl X "zip") (hm : X.mg "zip" = none) (ha : PA X [e, e2] ta) (hs : starEach [e, e2] X.env = (false, eval e X.env) :: starEach [e2] X.env := by rfl) (hpl : (backTo pos (starEach [e2] X.env)).any (·.1) = false := by rfl) (hK : X.K = K := by rfl) : PI X (.Tuple elts kk tpos) (.Call (.Name "zip" p) [e, e2] [] pos) (iZip K ta) := by subst hK; exact pi_zip hg hm ha hs hpl
theorem mt_indexK (hK : X.K = K := by rfl) : MtR X "list.index" (rIndex K) := by subst hK; exact mt_index
end
theorem pf0 : ([] : List (Str × V)).length ≤ 0 := Nat.le_refl _
theorem pfS {f : Str} {v : V} {fs : List (Str × V)} {n : Nat} (h : fs.length ≤ n) : (putF f v fs).length ≤ n + 1 := Nat.le_trans (length_putF f v fs) (Nat.add_le_add_right h 1)
theorem pfL {fs : List (Str × V)} {n : Nat} (h : fs.length ≤ n) (hn : n < 1000 := by decide) : fs.length < 1000 := Nat.lt_of_le_of_lt h hn
end J

/-! J3: what the rules in union give; loops, comprehensions, calls. -/
namespace J
open PySem PySem.Spec L2 Evl
section
variable {r : Rs} {s : L2.St} {S S' H : Hp} {ta tb tc te : TE} {t u : TT} {tt : TT} {x y z v : V} {R R' : V → Hp → Prop} {K : PySem.W.Frag}
/-! ### operators -/
theorem rs_add {i j : Int} : RVS (rAddU K) (.int i) (.int j) S (.int (i + j)) := fun H _ Q q => .inl (.inl ⟨i, j, rfl, rfl, q⟩)
theorem rs_adds {i j : Str} (h : i.length + j.length ≤ sizeLine) : RVS (rAddU K) (.str i) (.str j) S (.str (i ++ j)) := fun H _ Q q => .inl (.inr ⟨i, j, rfl, rfl, h, q⟩)
theorem rn_cat {l b : Addr} {xs zs : List V} (h1 : S l = some (.lst xs)) (h2 : S b = some (.lst zs)) (hz : xs.length + zs.length ≤ 100000) : RVN (rAddU K) (.ref l) (.ref b) S (.lst (xs ++ zs)) := fun H e Q q => .inr (.inl ⟨l, b, xs, zs, rfl, rfl, e _ _ h1, e _ _ h2, sz_of hz, q⟩)
theorem rs_sub {i j : Int} : RVS (rI0 fun i j => .int (i - j)) (.int i) (.int j) S (.int (i - j)) := rs_I0
theorem rs_mul {i j : Int} (h : CMul i j) : RVS rMulU (.int i) (.int j) S (.int (i * j)) := fun H _ Q q => .inl ⟨i, j, rfl, rfl, h, q⟩
theorem rn_rep {l : Addr} {k : Int} {xs : List V} (h1 : S l = some (.lst xs)) (h2 : 0 ≤ k ∧ k ≤ 100000) (hz : xs.length * k.toNat ≤ 100000) : RVN rMulU (.ref l) (.int k) S (.lst (List.replicate k.toNat xs).flatten) := fun H e Q q => .inr ⟨l, k, xs, rfl, rfl, e _ _ h1, by omega, by omega, sz_of hz, q⟩
theorem rs_eq' (h : scal x y = true) : RVS (rEqU K) x y S (.bl (decide (x = y))) := fun H _ Q q => .inl ⟨h, q⟩
theorem rs_ne' (h : scal x y = true) : RVS (rNeU K) x y S (.bl (!decide (x = y))) := fun H _ Q q => .inl ⟨h, q⟩
theorem rs_eqI {i j : Int} : RVS (rEqU K) (.int i) (.int j) S (.bl (decide (i = j))) := fun H _ Q q => .inl ⟨rfl, by
  have e : decide (V.int i = V.int j) = decide (i = j) := by simp
  rw [e]
  exact q⟩
theorem rs_neI {i j : Int} : RVS (rNeU K) (.int i) (.int j) S (.bl (!decide (i = j))) := fun H _ Q q => .inl ⟨rfl, by
  have e : decide (V.int i = V.int j) = decide (i = j) := by simp
  rw [e]
  exact q⟩
theorem rs_eqS {i j : Str} : RVS (rEqU K) (.str i) (.str j) S (.bl (decide (i = j))) := fun H _ Q q => .inl ⟨rfl, by
  have e : decide (V.str i = V.str j) = decide (i = j) := by simp
  rw [e]
  exact q⟩
theorem rs_neS {i j : Str} : RVS (rNeU K) (.str i) (.str j) S (.bl (!decide (i = j))) := fun H _ Q q => .inl ⟨rfl, by
  have e : decide (V.str i = V.str j) = decide (i = j) := by simp
  rw [e]
  exact q⟩
theorem rs_eqd {d e : PyData} (h1 : Dp K S x d) (h2 : Dp K S y e) (s1 : SeqAt.shaped d = true) (s2 : SeqAt.shaped e = true) : RVS (rEqU K) x y S (.bl (PyData.eqv d e)) := fun H ex Q q => .inr ⟨d, e, dp_up ex _ _ h1, dp_up ex _ _ h2, s1, s2, q⟩
theorem rs_ned {d e : PyData} (h1 : Dp K S x d) (h2 : Dp K S y e) (s1 : SeqAt.shaped d = true) (s2 : SeqAt.shaped e = true) : RVS (rNeU K) x y S (.bl (!PyData.eqv d e)) := fun H ex Q q => .inr ⟨d, e, dp_up ex _ _ h1, dp_up ex _ _ h2, s1, s2, q⟩
theorem rs_inL' {p : Addr} {xs : List V} (h : SqL K S p xs) (hx : flatV x = true) (ha : xs.all flatV = true) : RVS (rInU K) x (.ref p) S (.bl (inV x xs)) := fun H e Q q => .inl ⟨p, xs, rfl, .inl (ex_l e h), hx, ha, q⟩
theorem rs_inT' {p : Addr} {xs : List V} (h : SqT K S p xs) (hx : flatV x = true) (ha : xs.all flatV = true) : RVS (rInU K) x (.ref p) S (.bl (inV x xs)) := fun H e Q q => .inl ⟨p, xs, rfl, .inr (ex_t e h), hx, ha, q⟩
theorem rs_ninL' {p : Addr} {xs : List V} (h : SqL K S p xs) (hx : flatV x = true) (ha : xs.all flatV = true) : RVS (rNotInU K) x (.ref p) S (.bl (!inV x xs)) := fun H e Q q => .inl ⟨p, xs, rfl, .inl (ex_l e h), hx, ha, q⟩
theorem rs_ninT' {p : Addr} {xs : List V} (h : SqT K S p xs) (hx : flatV x = true) (ha : xs.all flatV = true) : RVS (rNotInU K) x (.ref p) S (.bl (!inV x xs)) := fun H e Q q => .inl ⟨p, xs, rfl, .inr (ex_t e h), hx, ha, q⟩
theorem rs_isN' : RVS rIsU x .non S (.bl (decide (x = .non))) := fun H _ Q q => .inl ⟨rfl, q⟩
theorem rs_notN' : RVS rNotU x .non S (.bl (!decide (x = .non))) := fun H _ Q q => .inl ⟨rfl, q⟩
theorem rs_isB {a b : Bool} : RVS rIsU (.bl a) (.bl b) S (.bl (decide (a = b))) := fun H _ Q q => .inr ⟨a, b, rfl, rfl, q⟩
theorem rs_notB {a b : Bool} : RVS rNotU (.bl a) (.bl b) S (.bl (!decide (a = b))) := fun H _ Q q => .inr ⟨a, b, rfl, rfl, q⟩
theorem rs_ixL' {p : Addr} {xs : List V} {i : Int} (h : SqL K S p xs) (a : atI xs i = some v) : RVS (rIx K) (.ref p) (.int i) S v := fun H e Q q => .inl ⟨p, xs, i, v, rfl, rfl, ex_l e h, a, q⟩
theorem rs_ixT' {p : Addr} {xs : List V} {i : Int} (h : SqT K S p xs) (a : atI xs i = some v) : RVS (rIx K) (.ref p) (.int i) S v := fun H e Q q => .inr (.inl ⟨p, xs, i, v, rfl, rfl, ex_t e h, a, q⟩)
theorem ru_neg' {i : Int} : RUS (rU fun i => .int (-i)) (.int i) S (.int (-i)) := fun H _ Q q => ⟨i, rfl, q⟩
/-! ### built-ins -/
theorem rc_lenL {p : Addr} {xs : List V} (h : SqL K S p xs) : RCS (rLenU K) [.ref p] S (.int (xs.length : Int)) := fun H e Q q => .inl ⟨_, _, rfl, .inl ⟨xs, ex_l e h, rfl⟩, q⟩
theorem rc_lenT {p : Addr} {xs : List V} (h : SqT K S p xs) : RCS (rLenU K) [.ref p] S (.int (xs.length : Int)) := fun H e Q q => .inl ⟨_, _, rfl, .inr ⟨xs, ex_t e h, rfl⟩, q⟩
theorem rc_lenS {z : Str} (h : z.length ≤ 100000) : RCS (rLenU K) [.str z] S (.int (z.length : Int)) := fun H e Q q => .inl ⟨_, _, rfl, ⟨sz_of h, rfl⟩, q⟩
theorem rc_abs {i : Int} : RCS (fun xs H Q => ∃ i, xs = [V.int i] ∧ Q (.int (if i < 0 then -i else i)) H) [.int i] S (.int (if i < 0 then -i else i)) := fun H e Q q => ⟨i, rfl, q⟩
theorem rc_int {i : Int} : RCS (fun xs H Q => (∃ i, xs = [V.int i] ∧ Q (.int i) H) ∨ ∃ k, xs = [V.bl k] ∧ Q (.int (if k then 1 else 0)) H) [.int i] S (.int i) := fun H e Q q => .inl ⟨i, rfl, q⟩
theorem rc_intB {k : Bool} : RCS (fun xs H Q => (∃ i, xs = [V.int i] ∧ Q (.int i) H) ∨ ∃ k, xs = [V.bl k] ∧ Q (.int (if k then 1 else 0)) H) [.bl k] S (.int (if k then 1 else 0)) := fun H e Q q => .inr ⟨k, rfl, q⟩
theorem rc_str {i : Int} (h : i.natAbs.log2 < 1920) : RCS rStrI [.int i] S (.str (toString i)) := fun H e Q q => ⟨i, rfl, h, q⟩
theorem rc_max2 {i j : Int} : RCS (rMaxU K) [.int i, .int j] S (.int (if j > i then j else i)) := fun H e Q q => .inl ⟨i, j, rfl, q⟩
theorem rc_min2 {i j : Int} : RCS (rMinU K) [.int i, .int j] S (.int (if j < i then j else i)) := fun H e Q q => .inl ⟨i, j, rfl, q⟩
theorem rc_all {a : Addr} {bs : List Bool} (h : SqL K S a (bs.map V.bl)) : RCS (rAll K) [.ref a] S (.bl (bs.all id)) := fun H e Q q => ⟨a, bs, rfl, ex_l e h, q⟩
theorem rc_any {a : Addr} {bs : List Bool} (h : SqL K S a (bs.map V.bl)) : RCS (rAny K) [.ref a] S (.bl (bs.any id)) := fun H e Q q => ⟨a, bs, rfl, ex_l e h, q⟩
theorem rc_sum {a : Addr} {ns : List Int} (h : SqL K S a (ns.map V.int)) : RCS (rSum K) [.ref a] S (.int ns.sum) := fun H e Q q => ⟨a, ns, rfl, ex_l e h, q⟩
/-! ### isinstance -/
theorem ex_tyof {x : V} {ty : Value} (e : Ex S S') (h : TyOf K S x ty) : TyOf K S' x ty := by
  cases h with
  | non => exact .non
  | bl b => exact .bl b
  | int i => exact .int i
  | str z => exact .str z
  | flt f => exact .flt f
  | lst h => exact .lst (e _ _ h)
  | frz h => exact .frz (e _ _ h)
  | tup h => exact .tup (e _ _ h)
  | dK h => exact .dK (e _ _ h)
  | dT h => exact .dT (e _ _ h)
  | ins h a b c d f => exact .ins (e _ _ h) a b c d f
theorem ex_tyx {x : V} {ty : Value} (e : Ex S S') (h : TyX K S x ty) : TyX K S' x ty := by
  cases h with
  | base h => exact .base (ex_tyof e h)
  | byt b => exact .byt b
  | set h => exact .set (e _ _ h)
  | kList a b => exact .kList a b
  | kTuple a b => exact .kTuple a b
  | kDict a b => exact .kDict a b
  | fTuple h => exact .fTuple (e _ _ h)
  | fDict h => exact .fDict (e _ _ h)
theorem rc_isi {c : V} {ty w : Value} {b : Bool} (k : ClsV c w) (h : TyX K S x ty) (kk : PySem.W.kitOne K ty w = some b) : RCS (rIsiU K) [x, c] S (.bl b) := fun H e Q q => .inl ⟨x, c, ty, w, b, rfl, k, ex_tyx e h, kk, q⟩
/-- isinstance(x, (c1, c2)) with the display -/
theorem rc_isiT {tp : Addr} {cs : List V} {ws : List Value} {ty : Value} {b : Bool} (ht : S tp = some (.tup cs)) (k : Paired ClsV cs ws) (h : TyX K S x ty) (kk : PySem.W.kitAny K ty ws = some b) : RCS (rIsiU K) [x, .ref tp] S (.bl b) := fun H e Q q => .inr ⟨x, tp, cs, ty, ws, b, rfl, e _ _ ht, k, ex_tyx e h, kk, q⟩
theorem vv_isiT {cs : List V} {ws : List Value} {ty : Value} {b : Bool} {tl : TA} (hx : EvV r ta s S x) (hc : EvAV r tl s S cs) (hl : cs.length ≤ 100) (k : Paired ClsV cs ws) (h : TyX K S x ty) (kk : PySem.W.kitAny K ty ws = some b) :
    EvV r (tCB (rIsiU K) (tCons ta (tCons (tTup tl) tNil))) s S (.bl b) :=
  ev_cb (P := fun vs S1 => ∃ tp, vs = [x, .ref tp] ∧ S1 tp = some (.tup cs)) (ea_cons hx fun x' S1 e1 ex => ea_cons ((en_tup (P := fun us _ => us = cs) (EvAS.mono' e1 hc) (fun vs _ e => by
    rw [e]
    omega)).stable (R' := fun v S2 => ∃ tp, v = .ref tp ∧ S2 tp = some (.tup cs)) fun p o S2 _ _ ⟨vs, e2, e3⟩ => ⟨p, rfl, by
    rw [e2, e3]
    exact upd_same⟩) fun y S2 e2 ⟨tp, e3, e4⟩ => (ea_nil.imp' fun us S3 e5 e6 => ⟨tp, by rw [ex, e3, e6], e5 _ _ e4⟩)) fun vs S1 e1 ⟨tp, e2, e3⟩ H eH Q q => by
    rw [e2]
    exact rc_isiT (ty := ty) e3 k (ex_tyx e1 h) kk H eH Q (q _ rfl)
end
end J

/-! J4: what is walked; loops, comprehensions; calls. -/
namespace J
open PySem PySem.Spec L2 Evl
/-- wi walks ys, its items told by X -/
def EvI {α : Type} (r : Rs) (wi : TI) (s : L2.St) (S : Hp) (ys : List α) (X : Rl α) : Prop := ∀ S1 H, Ex S S1 → Wd r S1 H → ∀ R : It → Hp → Prop,
  (∀ (J : It) S2 H2 (G : Hp → Prop) (Y : Nat → Hp → V → Hp → Prop), Wd r S2 H2 → Stp r S1 H S2 H2 → Walk J ys.length G Y → (∀ S' H', Ex S2 S' → Wd r S' H' → G H') →
    (∀ i S' H' v H'', i < ys.length → Ex S2 S' → Wd r S' H' → Y i H' v H'' → ∃ S'' y, ys[i]? = some y ∧ Wd r S'' H'' ∧ Stp r S' H' S'' H'' ∧ X y v S'') → R J H2) → wi s H R
section
variable {r : Rs} {s : L2.St} {S S' H : Hp} {ta tb tc te : TE} {t u : TT} {tt : TT} {x y z v : V} {R R' : V → Hp → Prop} {K : PySem.W.Frag} {α β : Type}
theorem EvI.mono {wi : TI} {ys : List α} {X : Rl α} (e : Ex S S') (h : EvI r wi s S ys X) : EvI r wi s S' ys X := fun S1 H a w R q => h S1 H (e.trans a) w R q
theorem EvI.or1 {wi wj : TI} {ys : List α} {X : Rl α} (h : EvI r wi s S ys X) : EvI r (fun σ H R => wi σ H R ∨ wj σ H R) s S ys X := fun S1 H a w R q => .inl (h S1 H a w R q)
theorem EvI.or2 {wi wj : TI} {ys : List α} {X : Rl α} (h : EvI r wj s S ys X) : EvI r (fun σ H R => wi σ H R ∨ wj σ H R) s S ys X := fun S1 H a w R q => .inr (h S1 H a w R q)
theorem ei_list0 {ys : List α} {X : Rl α} [Mono X] (h : EvS r te s S fun v S1 => ∃ a vs, v = .ref a ∧ SqL K S1 a vs ∧ All2 X S1 ys vs) : EvI r (iList K te) s S ys X := fun S1 H a w R q =>
  h S1 H a w _ fun v S2 H2 w2 s2 ⟨b, vs, e1, e2, e3⟩ => ⟨b, e1, ⟨vs, ex_l w2.ex e2⟩, q (Itl K b) S2 H2 (fun H => SqL K H b vs) (YAt vs) w2 s2 (by
    have wk := walk_list (K := K) (a := b) (xs := vs)
    rw [e3.len] at wk
    exact wk) (fun S' H' e w' => ex_l (e.trans w'.ex) e2) fun i S' H' v H'' hi e w' ⟨e4, e5⟩ => by
      obtain ⟨y, h1, h2⟩ := (e3.up e).get e5
      subst e4
      exact ⟨S', y, h1, w', Stp.refl, h2⟩⟩
theorem ei_list {ys : List α} {X : Rl α} [Mono X] (h : EvS r te s S fun v S1 => LstR X ys v S1) : EvI r (iU K te) s S ys X :=
  EvI.or1 (EvI.or1 (ei_list0 (h.imp fun v S1 _ ⟨a, vs, e1, e2, e3⟩ => ⟨a, vs, e1, SqL.of e2, e3⟩)))
theorem ei_listK {ys : List α} {X : Rl α} [Mono X] (h : EvS r te s S fun v S1 => ∃ a vs, v = .ref a ∧ SqL K S1 a vs ∧ All2 X S1 ys vs) : EvI r (iU K te) s S ys X := EvI.or1 (EvI.or1 (ei_list0 h))
theorem ei_tup {ys : List α} {X : Rl α} [Mono X] (h : EvS r te s S fun v S1 => TupR K X ys v S1) : EvI r (iU K te) s S ys X := EvI.or1 (EvI.or2 fun S1 H a w R q =>
  h S1 H a w _ fun v S2 H2 w2 s2 ⟨b, vs, e1, e2, e3⟩ => ⟨b, e1, ⟨vs, ex_t w2.ex e2⟩, q (Itt K b) S2 H2 (fun H => SqT K H b vs) (YAt vs) w2 s2 (by
    have wk := walk_tup (K := K) (a := b) (xs := vs)
    rw [e3.len] at wk
    exact wk) (fun S' H' e w' => ex_t (e.trans w'.ex) e2) fun i S' H' v H'' hi e w' ⟨e4, e5⟩ => by
      obtain ⟨y, h1, h2⟩ := (e3.up e).get e5
      subst e4
      exact ⟨S', y, h1, w', Stp.refl, h2⟩⟩)
def SignR : Rl Nat := fun c v _ => v = .str ⟨#[c]⟩
instance : Mono SignR := ⟨fun _ h => h⟩
theorem ei_str {z : Str} (h : EvV r te s S (.str z)) : EvI r (iU K te) s S z.cps.toList SignR := EvI.or2 fun S1 H a w R q =>
  h S1 H a w _ fun v S2 H2 w2 s2 e1 => ⟨z, e1, q (Its z) S2 H2 (fun _ => True) (fun i H v H' => H' = H ∧ ∃ c, z.cps[i]? = some c ∧ v = .str ⟨#[c]⟩) w2 s2 (by
    have wk := walk_str (z := z)
    rw [← Array.length_toList] at wk
    exact wk) (fun _ _ _ _ => True.intro) fun i S' H' v H'' hi e w' ⟨e4, c, e5, e6⟩ => by
      subst e4
      exact ⟨S', c, by rw [Array.getElem?_toList]; exact e5, w', Stp.refl, e6⟩⟩
/-- lo, lo + 1, .. -/
def FromR (lo : Int) : Rl Nat := fun i v _ => v = .int (lo + (i : Int))
instance {lo : Int} : Mono (FromR lo) := ⟨fun _ h => h⟩
theorem ei_rg0 {lo : Int} {n : Nat} {R : It → Hp → Prop} {S1 S2 H0 H : Hp} (w : Wd r S2 H) (q : ∀ (J : It) S2 H2 (G : Hp → Prop) (Y : Nat → Hp → V → Hp → Prop), Wd r S2 H2 → Stp r S1 H0 S2 H2 → Walk J (List.range n).length G Y → (∀ S' H', Ex S2 S' → Wd r S' H' → G H') →
    (∀ i S' H' v H'', i < (List.range n).length → Ex S2 S' → Wd r S' H' → Y i H' v H'' → ∃ S'' y, (List.range n)[i]? = some y ∧ Wd r S'' H'' ∧ Stp r S' H' S'' H'' ∧ FromR lo y v S'') → R J H2) (st : Stp r S1 H0 S2 H) : R (Itr lo n) H :=
  q (Itr lo n) S2 H (fun _ => True) (YFn fun i => .int (lo + i)) w st (by
    have wk := walk_range (lo := lo) (n := n)
    rw [← List.length_range (n := n)] at wk
    rw [List.length_range] at wk ⊢
    exact wk) (fun _ _ _ _ => True.intro) fun i S' H' v H'' hi e w' ⟨e4, e5⟩ => by
      subst e4
      rw [List.length_range] at hi
      exact ⟨S', i, by rw [List.getElem?_range hi], w', Stp.refl, e5⟩
theorem ei_range1 {ta : TA} {n : Int} (h : EvAV r ta s S [.int n]) (hn : n ≤ 1000000 ∧ -1000000 ≤ n) : EvI r (iRng1 ta) s S (List.range n.toNat) (FromR 0) := fun S1 H a w R q =>
  h S1 H a w _ fun vs S2 H2 w2 s2 e => ⟨n, e, by omega, by omega, ei_rg0 w2 q s2⟩
theorem ei_range2 {ta : TA} {lo n : Int} (h : EvAV r ta s S [.int lo, .int n]) (hn : n ≤ 1000000 ∧ -1000000 ≤ n ∧ lo ≤ 1000000 ∧ -1000000 ≤ lo) : EvI r (iRng2 ta) s S (List.range (n - lo).toNat) (FromR lo) := fun S1 H a w R q =>
  h S1 H a w _ fun vs S2 H2 w2 s2 e => ⟨lo, n, e, by omega, ei_rg0 w2 q s2⟩
/-- number and item -/
def enumL (ys : List α) : List (Int × α) := ys.zipIdx.map fun p => ((p.2 : Nat), p.1)
theorem enumL_len (ys : List α) : (enumL ys).length = ys.length := by
  unfold enumL
  rw [List.length_map, List.length_zipIdx]
theorem enumL_get {ys : List α} {i : Nat} {y : α} (h : ys[i]? = some y) : (enumL ys)[i]? = some (((i : Nat) : Int), y) := by
  unfold enumL
  rw [List.getElem?_map, List.getElem?_zipIdx, h]
  simp
theorem ei_enum {ta : TA} {ys : List α} {X : Rl α} [Mono X] (h : EvAS r ta s S fun us S1 => ∃ a vs, us = [.ref a] ∧ S1 a = some (.lst vs) ∧ All2 X S1 ys vs) : EvI r (iEnum K ta) s S (enumL ys) (PairR K IntR X) := fun S1 H a w R q =>
  h S1 H a w _ fun us S2 H2 w2 s2 ⟨b, vs, e1, e2, e3⟩ => ⟨b, vs, e1, SqL.of (w2.ex _ _ e2), q (Ite K b) S2 H2 (fun H => SqL K H b vs) (YPair (fun i => some (.int (i : Nat))) (fun i => vs[i]?)) w2 s2 (by
    have wk := walk_enum (K := K) (a := b) (xs := vs)
    rw [e3.len, ← enumL_len ys] at wk
    exact wk) (fun S' H' e w' => SqL.of (w'.ex _ _ (e _ _ e2))) fun i S' H' v H'' hi e w' ⟨T, x, y, e4, e5, e6, e7, e8⟩ => by
      obtain ⟨y', h1, h2⟩ := (e3.up e).get e8
      subst e6
      cases e7
      exact ⟨_, _, enumL_get h1, w'.newS e5, Stp.newS w' e5, T, _, _, e4, SqT.of upd_same, rfl, Mono.up (Ex.new (w'.fresh e5)) h2⟩⟩
theorem zip_get {ys : List α} {zs : List β} {i : Nat} {y : α} {z : β} (h : ys[i]? = some y) (h' : zs[i]? = some z) : (ys.zip zs)[i]? = some (y, z) := by
  rw [List.getElem?_zip_eq_some]
  exact ⟨h, h'⟩
theorem ei_zip {ta : TA} {ys : List α} {zs : List β} {X : Rl α} {X' : Rl β} [Mono X] [Mono X'] (h : EvAS r ta s S fun us S1 => ∃ a b vs ws, us = [.ref a, .ref b] ∧ S1 a = some (.lst vs) ∧ S1 b = some (.lst ws) ∧ All2 X S1 ys vs ∧ All2 X' S1 zs ws) : EvI r (iZip K ta) s S (ys.zip zs) (PairR K X X') := fun S1 H a w R q =>
  h S1 H a w _ fun us S2 H2 w2 s2 ⟨b, c, vs, ws, e1, e2, e2', e3, e3'⟩ => ⟨b, c, vs, ws, e1, SqL.of (w2.ex _ _ e2), SqL.of (w2.ex _ _ e2'), q (Itz K b c) S2 H2 (fun H => SqL K H b vs ∧ SqL K H c ws) (YPair (fun i => vs[i]?) (fun i => ws[i]?)) w2 s2 (walk_zip (K := K) (a := b) (b := c) (xs := vs) (ys := ws) (by
      rw [List.length_zip, e3.len, e3'.len])) (fun S' H' e w' => ⟨SqL.of (w'.ex _ _ (e _ _ e2)), SqL.of (w'.ex _ _ (e _ _ e2'))⟩) fun i S' H' v H'' hi e w' ⟨T, x, y, e4, e5, e6, e7, e8⟩ => by
      obtain ⟨y', h1, h2⟩ := (e3.up e).get e7
      obtain ⟨z', h1', h2'⟩ := (e3'.up e).get e8
      subst e6
      exact ⟨_, _, zip_get h1 h1', w'.newS e5, Stp.newS w' e5, T, _, _, e4, SqT.of upd_same, Mono.up (Ex.new (w'.fresh e5)) h2, Mono.up (Ex.new (w'.fresh e5)) h2'⟩⟩
/-! ### comprehensions -/
theorem en_lc {wi : TI} {g : TG} {vs : List Nat} {ys : List α} {X : Rl α} (f : α → Bool) (gf : α → β) {Yr : Rl β} [Mono Yr] (hi : EvI r wi s S ys X) (hz : ys.length ≤ 100000)
    (hb : ∀ y v S1, Ex S S1 → y ∈ ys → X y v S1 → ∃ s2, wipe s2 vs = wipe s vs ∧ (∀ H k, Ex S1 H → k s2 H → g v (wipe s vs) H k) ∧ EvB r tt s2 S1 (f y) ∧ (f y = true → EvS r te s2 S1 fun u S2 => Yr (gf y) u S2)) :
    EvN r (tLc wi g tt te vs) s S fun o S1 => ∃ ws, o = .lst ws ∧ All2 Yr S1 ((ys.filter f).map gf) ws := fun S1 H a w Q q =>
  hi S1 H a w _ fun J S2 H2 G Y w2 s2 wk hG hY D hD => by
    have hM : D ∉ r.M := w2.notM hD
    refine lc_it wk (fun i H' => ∃ S' ws, Wd r S' H' ∧ Stp r S2 H2 S' H' ∧ S' D = none ∧ H' D = some (.lst ws) ∧ All2 Yr S' (((ys.take i).filter f).map gf) ws)
      ⟨S2, [], w2.new hD, Stp.new hD, w2.fresh hD, upd_same, by
        rw [List.take_zero]
        exact .nil⟩ (fun i H' _ ⟨S', ws, w', s', _⟩ => hG S' H' s'.ex w') ?_ ?_
    · rintro i v H' H'' hlt ⟨S', ws, w', s', n', l', a'⟩ y'
      obtain ⟨S3, y, g1, w3, s3, x3⟩ := hY i S' H' v H'' hlt s'.ex w' y'
      have ey : ys.take (i + 1) = ys.take i ++ [y] := by rw [List.take_add_one, g1]; rfl
      have e3 : Ex S S3 := a.trans (s2.ex.trans (s'.ex.trans s3.ex))
      obtain ⟨sg, hw, hg, hbt, hbe⟩ := hb y v S3 e3 (List.mem_of_getElem? g1) x3
      have l3 : H'' D = some (.lst ws) := s3.kp D _ hM l'
      have n3 : S3 D = none := s3.fr D (ne_none l') n'
      refine hg H'' _ w3.ex ⟨hw, hbt S3 H'' (Ex.refl _) w3 _ fun b S4 H4 w4 s4 eb => ?_⟩
      subst eb
      have l4 : H4 D = some (.lst ws) := s4.kp D _ hM l3
      have n4 : S4 D = none := s4.fr D (ne_none l3) n3
      have s24 : Stp r S2 H2 S4 H4 := s'.trans (s3.trans s4)
      have a4 : All2 Yr S4 (((ys.take i).filter f).map gf) ws := a'.up (s3.ex.trans s4.ex)
      cases hf : f y with
      | true =>
        refine iteT ?_
        refine hbe hf S4 H4 s4.ex w4 _ fun u S5 H5 w5 s5 y5 => ⟨ws, s5.kp D _ hM l4, ?_, S5, ws ++ [u], w5.mut (s5.fr D (ne_none l4) n4) hM (nco_lst (s5.kp D _ hM l4)), (s24.trans s5).mut hD, s5.fr D (ne_none l4) n4, upd_same, ?_⟩
        · have h1 := a4.len
          rw [List.length_map] at h1
          have h2 := List.length_filter_le f (ys.take i)
          rw [List.length_take] at h2
          exact sz_lt (by omega)
        · rw [ey, List.filter_append, List.map_append, List.filter_cons, if_pos hf]
          exact (a4.up s5.ex).append (.cons y5 .nil)
      | false =>
        refine iteF ?_
        refine ⟨S4, ws, w4, s24, n4, l4, ?_⟩
        rw [ey, List.filter_append, List.map_append, List.filter_cons, if_neg (by rw [hf]; decide)]
        show All2 Yr S4 (_ ++ []) ws
        rw [List.append_nil]
        exact a4
    · rintro H' ⟨S', ws, w', s', n', l', a'⟩
      rw [List.take_length] at a'
      have h1 : H D = none := by
        cases e : H D with
        | none => rfl
        | some ob => exact absurd hD (s2.dm D (ne_none e))
      exact q D _ S' H' h1 l' n' w' (s2.trans s') ⟨ws, rfl, a'⟩
/-- the target a name, no test -/
theorem en_lcn {wi : TI} {j : Nat} {vs : List Nat} {ys : List α} {X : Rl α} (gf : α → β) {Yr : Rl β} [Mono Yr] (hi : EvI r wi s S ys X) (hz : ys.length ≤ 100000) (hw : ∀ v, wipe ((wipe s vs).set j (some v)) vs = wipe s vs)
    (hb : ∀ y v S1, Ex S S1 → y ∈ ys → X y v S1 → EvS r te ((wipe s vs).set j (some v)) S1 fun u S2 => Yr (gf y) u S2) :
    EvN r (tLc wi (gName j) tYes te vs) s S fun o S1 => ∃ ws, o = .lst ws ∧ All2 Yr S1 (ys.map gf) ws := by
  have h := en_lc (tt := tYes) (g := gName j) (vs := vs) (te := te) (fun _ => true) gf (Yr := Yr) hi hz fun y v S1 e m x => ⟨(wipe s vs).set j (some v), hw v, fun H k _ h => h, fun S2 H2 _ w2 Q q => q true S2 H2 w2 Stp.refl rfl, fun _ => hb y v S1 e m x⟩
  rw [List.filter_eq_self.mpr (fun _ _ => rfl)] at h
  exact h
/-- the target a name, a test -/
theorem en_lct {wi : TI} {j : Nat} {vs : List Nat} {ys : List α} {X : Rl α} (f : α → Bool) (gf : α → β) {Yr : Rl β} [Mono Yr] (hi : EvI r wi s S ys X) (hz : ys.length ≤ 100000) (hw : ∀ v, wipe ((wipe s vs).set j (some v)) vs = wipe s vs)
    (ht : ∀ y v S1, Ex S S1 → y ∈ ys → X y v S1 → EvB r tt ((wipe s vs).set j (some v)) S1 (f y)) (hb : ∀ y v S1, Ex S S1 → y ∈ ys → f y = true → X y v S1 → EvS r te ((wipe s vs).set j (some v)) S1 fun u S2 => Yr (gf y) u S2) :
    EvN r (tLc wi (gName j) tt te vs) s S fun o S1 => ∃ ws, o = .lst ws ∧ All2 Yr S1 ((ys.filter f).map gf) ws :=
  en_lc f gf hi hz fun y v S1 e m x => ⟨(wipe s vs).set j (some v), hw v, fun H k _ h => h, ht y v S1 e m x, fun hf => hb y v S1 e m hf x⟩
/-- the target a pair of names -/
theorem en_lc2 {γ : Type} {wi : TI} {j1 j2 : Nat} {vs : List Nat} {ys : List (α × γ)} {X : Rl α} {X' : Rl γ} (f : α × γ → Bool) (gf : α × γ → β) {Yr : Rl β} [Mono Yr] (hi : EvI r wi s S ys (PairR K X X')) (hz : ys.length ≤ 100000) (hw : ∀ v v', wipe (((wipe s vs).set j1 (some v)).set j2 (some v')) vs = wipe s vs)
    (ht : ∀ y v v' S1, Ex S S1 → y ∈ ys → X y.1 v S1 → X' y.2 v' S1 → EvB r tt (((wipe s vs).set j1 (some v)).set j2 (some v')) S1 (f y)) (hb : ∀ y v v' S1, Ex S S1 → y ∈ ys → f y = true → X y.1 v S1 → X' y.2 v' S1 → EvS r te (((wipe s vs).set j1 (some v)).set j2 (some v')) S1 fun u S2 => Yr (gf y) u S2) :
    EvN r (tLc wi (gTup K 2 (gCons (gName j1) (gCons (gName j2) gNil))) tt te vs) s S fun o S1 => ∃ ws, o = .lst ws ∧ All2 Yr S1 ((ys.filter f).map gf) ws :=
  en_lc f gf hi hz fun y v S1 e m ⟨b, v1, v2, e1, e2, e3, e4⟩ => ⟨((wipe s vs).set j1 (some v1)).set j2 (some v2), hw v1 v2, fun H k ex h => ⟨b, _, e1, ex_t ex e2, rfl, v1, _, rfl, v2, _, rfl, rfl, h⟩, ht y v1 v2 S1 e m e3 e4, fun hf => hb y v1 v2 S1 e m hf e3 e4⟩
/-- a new list is a list of data -/
theorem EvN.lst {ys : List α} {X : Rl α} [Mono X] (h : EvN r te s S fun o S1 => ∃ ws, o = .lst ws ∧ All2 X S1 ys ws) : EvS r te s S fun v S1 => LstR X ys v S1 :=
  h.stable fun p o S1 _ n ⟨ws, e1, e2⟩ => ⟨p, ws, rfl, by
    rw [e1]
    exact upd_same, e2.up (Ex.new n)⟩
theorem EvN.tup {ys : List α} {X : Rl α} [Mono X] (h : EvN r te s S fun o S1 => ∃ ws, o = .tup ws ∧ All2 X S1 ys ws) : EvS r te s S fun v S1 => TupR K X ys v S1 :=
  h.stable fun p o S1 _ n ⟨ws, e1, e2⟩ => ⟨p, ws, rfl, by
    rw [e1]
    exact SqT.of upd_same, e2.up (Ex.new n)⟩
/-- tuple(a list): a new tuple -/
theorem en_tuple {ta : TA} {ys : List α} {X : Rl α} [Mono X] (h : EvAS r ta s S fun us S1 => ∃ v, us = [v] ∧ LstR X ys v S1) : EvN r (tCB (rTupleU K) ta) s S fun o S1 => ∃ ws, o = .tup ws ∧ All2 X S1 ys ws :=
  en_cb h fun us S1 _ ⟨v, e1, a, vs, e2, e3, e4⟩ H eH Q q => by
    subst e1
    subst e2
    exact ⟨_, rfl, .inl ⟨a, vs, rfl, SqL.of (eH _ _ e3), fun p hp => q p _ hp ⟨vs, rfl, e4⟩⟩⟩
/-- list(a list or a tuple): a new list -/
theorem en_list {ta : TA} {ys : List α} {X : Rl α} [Mono X] (h : EvAS r ta s S fun us S1 => ∃ v, us = [v] ∧ SeqR K X ys v S1) : EvN r (tCB (rListU K) ta) s S fun o S1 => ∃ ws, o = .lst ws ∧ All2 X S1 ys ws :=
  en_cb h fun us S1 _ ⟨v, e1, e2⟩ H eH Q q => by
    subst e1
    rcases e2 with ⟨a, vs, e2, e3, e4⟩ | ⟨a, vs, e2, e3, e4⟩
    · subst e2
      exact ⟨a, vs, rfl, .inl (SqL.of (eH _ _ e3)), fun p hp => q p _ hp ⟨vs, rfl, e4⟩⟩
    · subst e2
      exact ⟨a, vs, rfl, .inr (ex_t eH e3), fun p hp => q p _ hp ⟨vs, rfl, e4⟩⟩
theorem ea_one {P : V → Hp → Prop} (h : EvS r te s S P) : EvAS r (tCons te tNil) s S fun us S1 => ∃ v, us = [v] ∧ P v S1 := fun S1 H a w Q q =>
  h S1 H a w _ fun v S2 H2 w2 s2 p => q _ S2 H2 w2 s2 ⟨v, rfl, p⟩
/-- all, any of a new list of answers -/
theorem vv_all {ta : TE} {bs : List Bool} (h : EvS r ta s S fun v S1 => LstR BoolR bs v S1) : EvV r (tCB (rAll K) (tCons ta tNil)) s S (.bl (bs.all id)) :=
  ev_cb (ea_one h) fun us S1 _ ⟨v, e1, a, vs, e2, e3, e4⟩ H eH Q q => by
    subst e1
    subst e2
    rw [e4.bools] at e3
    exact rc_all (SqL.of e3) H eH Q (q _ rfl)
theorem vv_any {ta : TE} {bs : List Bool} (h : EvS r ta s S fun v S1 => LstR BoolR bs v S1) : EvV r (tCB (rAny K) (tCons ta tNil)) s S (.bl (bs.any id)) :=
  ev_cb (ea_one h) fun us S1 _ ⟨v, e1, a, vs, e2, e3, e4⟩ H eH Q q => by
    subst e1
    subst e2
    rw [e4.bools] at e3
    exact rc_any (SqL.of e3) H eH Q (q _ rfl)
theorem vv_sum {ta : TE} {ns : List Int} (h : EvS r ta s S fun v S1 => LstR IntR ns v S1) : EvV r (tCB (rSum K) (tCons ta tNil)) s S (.int ns.sum) :=
  ev_cb (ea_one h) fun us S1 _ ⟨v, e1, a, vs, e2, e3, e4⟩ H eH Q q => by
    subst e1
    subst e2
    rw [e4.ints] at e3
    exact rc_sum (SqL.of e3) H eH Q (q _ rfl)
theorem vv_len {ta : TE} {ys : List α} {X : Rl α} (h : EvS r ta s S fun v S1 => SeqR K X ys v S1) : EvV r (tCB (rLenU K) (tCons ta tNil)) s S (.int (ys.length : Int)) :=
  ev_cb (ea_one h) fun us S1 _ ⟨v, e1, e2⟩ H eH Q q => by
    subst e1
    rcases e2 with ⟨a, vs, e2, e3, e4⟩ | ⟨a, vs, e2, e3, e4⟩
    · subst e2
      rw [← e4.len] at q
      exact rc_lenL (SqL.of e3) H eH Q (q _ rfl)
    · subst e2
      rw [← e4.len] at q
      exact rc_lenT e3 H eH Q (q _ rfl)
/-- sorted of ints: ascending, the same ones -/
theorem en_sorted {ta : TE} {ns : List Int} (hz : ns.length < 64) (h : EvS r ta s S fun v S1 => LstR IntR ns v S1) : EvN r (tCB (rSortedU K) (tCons ta tNil)) s S fun o S1 => ∃ ms : List Int, o = .lst (ms.map V.int) ∧ ms.Perm ns ∧ ms.Pairwise (· ≤ ·) :=
  en_cb (ea_one h) fun us S1 _ ⟨v, e1, a, vs, e2, e3, e4⟩ H eH Q q => by
    subst e1
    subst e2
    rw [e4.ints] at e3
    exact .inl ⟨a, ns, rfl, SqL.of (eH _ _ e3), hz, fun ms p h1 h2 hp => q p _ hp ⟨ms, rfl, h1, h2⟩⟩
theorem ev_max {ta : TE} {ns : List Int} (hz : 0 < ns.length) (h : EvS r ta s S fun v S1 => LstR IntR ns v S1) : EvS r (tCB (rMaxU K) (tCons ta tNil)) s S fun v _ => ∃ m, v = .int m ∧ m ∈ ns ∧ ∀ y, y ∈ ns → y ≤ m :=
  ev_cb (ea_one h) fun us S1 _ ⟨v, e1, a, vs, e2, e3, e4⟩ H eH Q q => by
    subst e1
    subst e2
    rw [e4.ints] at e3
    exact .inr ⟨a, ns, rfl, SqL.of (eH _ _ e3), hz, fun m h1 h2 => q _ ⟨m, rfl, h1, h2⟩⟩
theorem ev_min {ta : TE} {ns : List Int} (hz : 0 < ns.length) (h : EvS r ta s S fun v S1 => LstR IntR ns v S1) : EvS r (tCB (rMinU K) (tCons ta tNil)) s S fun v _ => ∃ m, v = .int m ∧ m ∈ ns ∧ ∀ y, y ∈ ns → m ≤ y :=
  ev_cb (ea_one h) fun us S1 _ ⟨v, e1, a, vs, e2, e3, e4⟩ H eH Q q => by
    subst e1
    subst e2
    rw [e4.ints] at e3
    exact .inr ⟨a, ns, rfl, SqL.of (eH _ _ e3), hz, fun m h1 h2 => q _ ⟨m, rfl, h1, h2⟩⟩
/-! ### slices -/
theorem en_slice {te : TE} {tl th : TO} {lo hi : Option Int} {a : Addr} {xs : List V} (he : EvV r te s S (.ref a)) (hx : SqL K S a xs) (hl : ∀ H Q, Q lo H → tl s H Q) (hh : ∀ H Q, Q hi H → th s H Q) : EvN r (tSl (rSlU K) te tl th) s S fun o _ => o = .lst (cutV xs lo hi) := fun S1 H e w Q q =>
  he S1 H e w _ fun v S2 H2 w2 s2 ev => by
    subst ev
    refine hl H2 _ (hh H2 _ (.inl (.inl ⟨a, xs, rfl, ex_l ((e.trans s2.ex).trans w2.ex) hx, fun p hp => ?_⟩)))
    have h1 : H p = none := by
      cases e : H p with
      | none => rfl
      | some ob => exact absurd hp (s2.dm p (ne_none e))
    exact q p _ S2 _ h1 upd_same (w2.fresh hp) (w2.new hp) (s2.trans (Stp.new hp)) rfl
/-! ### loops -/
variable {tu tw tz : TS} {D : Ends} {g : TG}
theorem st_for {wi : TI} {ys : List α} {X : Rl α} (hi : EvI r wi s S ys X) (w : Wd r S H)
    (k : ∀ S2 H2, Wd r S2 H2 → Stp r S H S2 H2 → ∃ P : Nat → L2.St → Hp → Hp → Prop, P 0 s S2 H2 ∧ (∀ i s' S' H', P i s' S' H' → Wd r S' H' ∧ Ex S2 S') ∧
      (∀ i y v s' S' H' S3 H3, ys[i]? = some y → P i s' S' H' → Wd r S3 H3 → Stp r S' H' S3 H3 → X y v S3 → g v s' H3 fun s2 H4 => tu { D with nx := fun s H => ∃ S, P (i + 1) s S H, ct := fun s H => ∃ S, P (i + 1) s S H, bk := D.nx } s2 H4) ∧
      (∀ s' S' H', P ys.length s' S' H' → D.nx s' H')) : tFor wi g tu D s H :=
  hi S H (Ex.refl _) w _ fun J S2 H2 G Y w2 s2 wk hG hY => by
    obtain ⟨P, h0, hP, hs, hd⟩ := k S2 H2 w2 s2
    refine for_it wk (fun i s H => ∃ S, P i s S H) ⟨S2, h0⟩ (fun i s' H' _ ⟨S', p⟩ => hG S' H' (hP i s' S' H' p).2 (hP i s' S' H' p).1) ?_ (fun s' H' ⟨S', p⟩ => hd s' S' H' p)
    rintro i v s' H' H'' hlt ⟨S', p⟩ y'
    obtain ⟨w', e'⟩ := hP i s' S' H' p
    obtain ⟨S3, y, g1, w3, s3, x3⟩ := hY i S' H' v H'' hlt e' w' y'
    exact hs i y v s' S' H' S3 H'' g1 p w3 s3 x3
theorem sq_for {wi : TI} {ys : List α} {X : Rl α} (hi : EvI r wi s S ys X) (w : Wd r S H)
    (k : ∀ S2 H2, Wd r S2 H2 → Stp r S H S2 H2 → ∃ P : Nat → L2.St → Hp → Hp → Prop, P 0 s S2 H2 ∧ (∀ i s' S' H', P i s' S' H' → Wd r S' H' ∧ Ex S2 S') ∧
      (∀ i y v s' S' H' S3 H3, ys[i]? = some y → P i s' S' H' → Wd r S3 H3 → Stp r S' H' S3 H3 → X y v S3 → g v s' H3 fun s2 H4 => tu { D with nx := fun s H => ∃ S, P (i + 1) s S H, ct := fun s H => ∃ S, P (i + 1) s S H, bk := tz D } s2 H4) ∧
      (∀ s' S' H', P ys.length s' S' H' → tz D s' H')) : tSeq (tFor wi g tu) tz D s H := st_for (D := { D with nx := tz D }) hi w k
/-! ### calls -/
/-- a def that changes nothing: from a, told by pre, a result told by post -/
def SpP {A : Type} (pre : A → List V → Hp → Prop) (post : A → V → Hp → Prop) : Sp := fun vs H Q _ => ∃ (a : A) (S : Hp), pre a vs S ∧ Ex S H ∧ ∀ v S1 H1, Wd Rs.nil S1 H1 → Stp Rs.nil S H S1 H1 → post a v S1 → Q v H1
theorem Wd.lift {S0 S1 H0 H1 : Hp} (w0 : Wd r S0 H0) (w : Wd Rs.nil S1 H1) (s : Stp Rs.nil S0 H0 S1 H1) : Wd r S1 H1 :=
  ⟨w.ex, r.mono H0 H1 (fun a o _ e => s.kp a o (fun z => by cases z) e) (fun a q e => s.kp a _ (fun z => by cases z) e) w0.inv, fun a ha => s.fr a (r.has H0 w0.inv a ha) (w0.dj a ha)⟩
theorem Stp.lift {S0 S1 H0 H1 : Hp} (s : Stp Rs.nil S0 H0 S1 H1) : Stp r S0 H0 S1 H1 := ⟨s.ex, fun a o _ e => s.kp a o (fun z => by cases z) e, s.fr, s.dm⟩
theorem ev_call {A : Type} {pre : A → List V → Hp → Prop} {post : A → V → Hp → Prop} {E : XK} {dvs : List V} {ta : TA} {P : List V → Hp → Prop} (h : EvAS r ta s S P) (hp : ∀ vs S1, Ex S S1 → P vs S1 → ∃ a, pre a (vs ++ dvs) S1 ∧ ∀ v S2, Ex S1 S2 → post a v S2 → R v S2) : EvS r (tCall (SpP pre post) dvs E ta) s S R := fun S1 H e w Q q =>
  h S1 H e w _ fun vs S2 H2 w2 s2 p => by
    obtain ⟨a, p1, p2⟩ := hp vs S2 (e.trans s2.ex) p
    exact ⟨a, S2, p1, w2.ex, fun v S3 H3 w3 s3 p3 => q v S3 H3 (w2.lift w3 s3) (s2.trans s3.lift) (p2 v S3 s3.ex p3)⟩
theorem vv_call {A : Type} {pre : A → List V → Hp → Prop} {post : A → V → Hp → Prop} {E : XK} {dvs : List V} {ta : TA} {vs : List V} (a : A) (h : EvAV r ta s S vs) (hp : ∀ S1, Ex S S1 → pre a (vs ++ dvs) S1) (hq : ∀ v S2, Ex S S2 → post a v S2 → R v S2) : EvS r (tCall (SpP pre post) dvs E ta) s S R :=
  ev_call h fun us S1 e eu => ⟨a, by
    rw [eu]
    exact hp S1 e, fun v S2 e2 p => hq v S2 (e.trans e2) p⟩
/-- o.f, o.m -/
theorem vv_fld {a C dx : Addr} {fs : List (Str × V)} {f : Str} (h : EvV r ta s S (.ref a)) (ha : S a = some (.ins C dx fs)) (c : Cls K C) (n : NoAttr K C f) (l : fs.lookup f = some v) : EvV r (tFld K ta f) s S v := fun S1 H e w Q q =>
  h S1 H e w _ fun u S2 H2 w2 s2 eu => ⟨a, C, dx, fs, v, eu, w2.ex _ _ (s2.ex _ _ (e _ _ ha)), c, n, l, q v S2 H2 w2 s2 rfl⟩
theorem vv_prop {a C dx : Addr} {fs : List (Str × V)} {f : Str} {E : XK} (h : EvV r ta s S (.ref a)) (ha : S a = some (.ins C dx fs)) (l : fs.lookup f = some v) : EvV r (tProp C (getSp C f) [] E ta) s S v := fun S1 H e w Q q =>
  h S1 H e w _ fun u S2 H2 w2 s2 eu => ⟨a, dx, fs, eu, w2.ex _ _ (s2.ex _ _ (e _ _ ha)), a, dx, fs, v, rfl, w2.ex _ _ (s2.ex _ _ (e _ _ ha)), l, q v S2 H2 w2 s2 rfl⟩
/-- a body's reading from its promise -/
theorem SpP.body {A : Type} {pre : A → List V → Hp → Prop} {post : A → V → Hp → Prop} {vs : List V} {Q : VK} {E : XK} (h : SpP pre post vs H Q E) : ∃ (a : A) (S : Hp), pre a vs S ∧ Wd Rs.nil S H ∧ ∀ v S1 H1, Wd Rs.nil S1 H1 → Stp Rs.nil S H S1 H1 → post a v S1 → Q v H1 := by
  obtain ⟨a, S, h1, h2, h3⟩ := h
  exact ⟨a, S, h1, ⟨h2, True.intro, fun _ z => by cases z⟩, h3⟩
end
end J

/-! J5: classes, numbers. -/
namespace J
open PySem PySem.Spec L2 Evl
/-- what isinstance asks of an own class -/
structure IsCls (K : PySem.W.Frag) (C : Addr) : Prop where
  ha : PySem.W.findIn K (.ref C) "__class__" = some (some (.builtin "object.__class__"))
  hn : PySem.W.specialIn K (.builtin "object.__class__") "__get__" = some (some (.builtin "getset_descriptor.__get__"))
  ht : PySem.W.takesIn K (.builtin "object.__class__") = some true
  hm : PySem.W.mroIn K C (.type "object") = some true
  hk : PySem.W.kitOne K (.ref C) (.ref C) = some true
theorem kit_self {K : PySem.W.Frag} {C : Addr} : PySem.W.kitOne K (.ref C) (.ref C) = some true := by
  unfold PySem.W.kitOne
  rw [if_pos (by simp)]
section
variable {r : Rs} {s : L2.St} {S S' H : Hp} {ta tb tc te : TE} {x y z v : V} {K : PySem.W.Frag}
theorem tyx_ins {a C dx : Addr} {fs : List (Str × V)} (h : S a = some (.ins C dx fs)) (c : Cls K C) (i : IsCls K C) : TyX K S (.ref a) (.ref C) := .base (.ins h c i.ha i.hn i.ht i.hm)
/-- isinstance(x, C) of an instance of C itself -/
theorem vv_isC {a C dx : Addr} {fs : List (Str × V)} (hx : EvV r ta s S (.ref a)) (hc : EvV r tb s S (.ref C)) (h : S a = some (.ins C dx fs)) (c : Cls K C) (i : IsCls K C) : EvV r (tCB (rIsiU K) (tCons ta (tCons tb tNil))) s S (.bl true) :=
  vv_cb (va_cons hx (va_cons hc va_nil)) (rc_isi (.own C) (tyx_ins h c i) i.hk)
/-- isinstance(x, T), built-in types -/
theorem vv_isT {T T' : String} {b : Bool} (hx : EvV r ta s S x) (hc : EvV r tb s S (.ty T')) (h : TyX K S x (.type T)) (k : kitB T T' = some b) : EvV r (tCB (rIsiU K) (tCons ta (tCons tb tNil))) s S (.bl b) :=
  vv_cb (va_cons hx (va_cons hc va_nil)) (rc_isi (.ty T') h (kit_ty k))
/-- isinstance(x, (list, tuple)) of a list or a tuple -/
theorem vv_isLT {α : Type} {ys : List α} {R : Rl α} (hx : EvV r ta s S x) (hc : EvV r tb s S (.ty "list")) (hc' : EvV r tc s S (.ty "tuple")) (h : SeqR K R ys x S) : EvV r (tCB (rIsiU K) (tCons ta (tCons (tTup (tCons tb (tCons tc tNil))) tNil))) s S (.bl true) := by
  rcases h with ⟨a, vs, rfl, h2, _⟩ | ⟨a, vs, rfl, h2, _⟩
  · exact vv_isiT (ty := .type "list") hx (va_cons hc (va_cons hc' va_nil)) (by decide) (.cons (.ty _) (.cons (.ty _) .nil)) (.base (.lst h2)) (kitAny_cons (b := true) (kit_ty (by decide +kernel)) (fun z => nomatch z) fun _ => rfl)
  · refine vv_isiT (ty := .type "tuple") hx (va_cons hc (va_cons hc' va_nil)) (by decide) (.cons (.ty _) (.cons (.ty _) .nil)) ?_ (kitAny_cons (b := false) (kit_ty (by decide +kernel)) (fun _ => kitAny_cons (b := true) (kit_ty (by decide +kernel)) (fun z => nomatch z) fun _ => rfl) fun z => nomatch z)
    rcases h2 with (h2 | ⟨o, h2⟩) | ⟨o, its, n, h1, h2, _⟩
    · exact .base (.tup h2)
    · exact .fTuple h2
    · exact .kTuple h1 h2
end
theorem cdiv {i j : Int} (h : 0 < j) (h2 : j < 10 ^ 100) : CDivW i j := by
  refine wide_div (b := 400) h ?_ (by decide) (by decide)
  have e : (10 : Int) ^ 100 < 2 ^ 400 := by decide
  have e2 : ((2 ^ 400 : Nat) : Int) = (2 : Int) ^ 400 := by norm_cast
  omega
theorem cmul_r {i j : Int} (h : -(2 ^ 64) < j ∧ j < 2 ^ 64) : CMul i j := .inr h
theorem cmul_l {i j : Int} (h : -(2 ^ 64) < i ∧ i < 2 ^ 64) : CMul i j := .inl h
/-- a written number within the bounds -/
theorem digits_len : ∀ (fuel n : Nat) (ds : List Char), (Nat.toDigitsCore 10 fuel n ds).length ≤ fuel + ds.length
  | 0, n, ds => by
    unfold Nat.toDigitsCore
    omega
  | f + 1, n, ds => by
    unfold Nat.toDigitsCore
    dsimp only
    split
    · rw [List.length_cons]
      omega
    · have h := digits_len f (n / 10) (Nat.digitChar (n % 10) :: ds)
      rw [List.length_cons] at h
      omega
end J

/-! J6: objects that are changed; instances made. -/
namespace J
open PySem PySem.Spec L2 Evl
/-- r, and the objects at M -/
def Rs.more (r : Rs) (M : List Addr) : Rs := ⟨M ++ r.M, fun H => r.I H ∧ ∀ a, a ∈ M → H a ≠ none, fun H H' k kc h => ⟨r.mono H H' (fun a o ha e => k a o (List.mem_append_right _ ha) e) kc h.1, fun a ha => by
  cases e : H a with
  | none => exact absurd e (h.2 a ha)
  | some o => exact ne_none (k a o (List.mem_append_left _ ha) e)⟩, fun H h a ha => by
  rcases List.mem_append.mp ha with ha | ha
  · exact h.2 a ha
  · exact r.has H h.1 a ha⟩
abbrev Rs.obj (M : List Addr) : Rs := Rs.nil.more M
section
variable {r : Rs} {S H S1 H1 S2 H2 S0 H0 : Hp} {M : List Addr}
theorem Wd.more (w : Wd r S H) (h : ∀ a, a ∈ M → S a = none ∧ H a ≠ none) : Wd (r.more M) S H :=
  ⟨w.ex, ⟨w.inv, fun a ha => (h a ha).2⟩, fun a ha => (List.mem_append.mp ha).elim (fun z => (h a z).1) (w.dj a)⟩
theorem Wd.less (w : Wd (r.more M) S H) : Wd r S H := ⟨w.ex, w.inv.1, fun a ha => w.dj a (List.mem_append_right _ ha)⟩
theorem Stp.more (s : Stp r S H S1 H1) : Stp (r.more M) S H S1 H1 := ⟨s.ex, fun a o n e => s.kp a o (fun z => n (List.mem_append_right _ z)) e, s.fr, s.dm⟩
/-- what changed was new -/
theorem Stp.drop (s0 : Stp r S0 H0 S H) (s : Stp (r.more M) S H S1 H1) (h : ∀ a, a ∈ M → H0 a = none) : Stp r S0 H0 S1 H1 :=
  ⟨s0.ex.trans s.ex, fun a o n e => s.kp a o (fun z => (List.mem_append.mp z).elim (fun z => absurd (h a z) (ne_none e)) n) (s0.kp a o n e), fun a q e => s.fr a (s0.dm a q) (s0.fr a q e), fun a q => s.dm a (s0.dm a q)⟩
theorem Wd.upd (w : Wd r S H) {a : Addr} {o : HO} (hs : S a = none) (n : a ∉ r.M) (hc : ∀ q, H a ≠ some (LamX.CodeO a q)) : Wd r S (upd H a o) := w.mut hs n hc
theorem Stp.upd1 {a : Addr} {o : HO} (h : H a ≠ none) : Stp (r.more [a]) S H S (upd H a o) :=
  ⟨Ex.refl S, fun b u n e => by
    rw [upd_ne (fun z : b = a => n (List.mem_append_left _ (z ▸ List.mem_singleton.mpr rfl)))]
    exact e, fun _ _ e => e, fun b q => by
    intro z
    by_cases e : b = a
    · rw [e, upd_same] at z
      cases z
    · rw [upd_ne e] at z
      exact q z⟩
theorem Stp.has (s : Stp r S H S1 H1) {a : Addr} (h : H a ≠ none) : H1 a ≠ none := s.dm a h
end
/-- a def that works with what rs a tells: pre and post speak of the stable part and of the heap -/
def SpR {A : Type} (rs : A → Rs) (pre : A → List V → Hp → Hp → Prop) (post : A → V → Hp → Hp → Prop) : Sp := fun vs H Q _ => ∃ (a : A) (S : Hp), pre a vs S H ∧ Wd (rs a) S H ∧ ∀ v S1 H1, Wd (rs a) S1 H1 → Stp (rs a) S H S1 H1 → post a v S1 H1 → Q v H1
/-- an __init__: x has no fields at the beginning, those that fr tells at the end -/
def SpInit {A : Type} (C : Addr) (pre : A → List V → Hp → Prop) (fr : A → List (Str × V) → Hp → Prop) : Sp := fun vs H Q _ => ∃ (a : A) (S : Hp) (x dx : Addr) (us : List V), vs = .ref x :: us ∧ pre a us S ∧ H x = some (.ins C dx []) ∧ S x = none ∧ Wd Rs.nil S H ∧
  ∀ S1 H1 fs, Wd Rs.nil S1 H1 → Stp (Rs.obj [x]) S H S1 H1 → S1 x = none → H1 x = some (.ins C dx fs) → fr a fs S1 → Q .non H1
section
variable {r : Rs} {s : L2.St} {S S' H : Hp} {ta tb tc te : TE} {x y z v : V} {K : PySem.W.Frag} {R : V → Hp → Prop} {tu tw tz : TS} {D : Ends}
theorem en_make {A : Type} {C : Addr} {pre : A → List V → Hp → Prop} {fr : A → List (Str × V) → Hp → Prop} {E : XK} {dvs : List V} {ta : TA} {P : List V → Hp → Prop} {R : HO → Hp → Prop} (h : EvAS r ta s S P)
    (hp : ∀ vs S1, Ex S S1 → P vs S1 → ∃ a, pre a (vs ++ dvs) S1 ∧ ∀ dx fs S2, Ex S1 S2 → fr a fs S2 → R (.ins C dx fs) S2) : EvN r (tMake C (SpInit C pre fr) dvs E ta) s S R := fun S1 H e w Q q =>
  h S1 H e w _ fun vs S2 H2 w2 s2 p x dx hx hdx ne => by
    obtain ⟨a, p1, p2⟩ := hp vs S2 (e.trans s2.ex) p
    have hx1 : (upd H2 dx (.own x)) x = none := by
      rw [upd_ne ne.symm]
      exact hx
    have w3 : Wd r S2 (upd (upd H2 dx (.own x)) x (.ins C dx [])) := (w2.new hdx).new hx1
    have s3 : Stp r S2 H2 S2 (upd (upd H2 dx (.own x)) x (.ins C dx [])) := (Stp.new hdx).trans (Stp.new hx1)
    have h0 : H x = none := by
      cases e : H x with
      | none => rfl
      | some ob => exact absurd hx (s2.dm x (ne_none e))
    have hM : x ∉ r.M := w2.notM hx
    refine ⟨a, S2, x, dx, _, rfl, p1, upd_same, w2.fresh hx, ⟨w3.ex, True.intro, fun b hb => by cases hb⟩, fun S4 H4 fs w4 s4 n4 g4 f4 => ⟨rfl, ?_⟩⟩
    have kp : ∀ b o, b ≠ x → (upd (upd H2 dx (.own x)) x (.ins C dx [])) b = some o → H4 b = some o := fun b o nb eb => s4.kp b o (fun z => (List.mem_append.mp z).elim (fun z => nb (List.mem_singleton.mp z)) (fun z => by cases z)) eb
    refine q x _ S4 H4 h0 g4 n4 ⟨w4.ex, r.mono _ _ (fun b o hb eb => kp b o (fun z => hM (z ▸ hb)) eb) (fun b q eb => kp b _ (fun z => nco_ins upd_same q (z ▸ eb)) eb) w3.inv, fun b hb => s4.fr b (r.has _ w3.inv b hb) (w3.dj b hb)⟩ ?_ (p2 dx fs S4 s4.ex f4)
    refine ⟨s2.ex.trans (s3.ex.trans s4.ex), fun b o nb eb => ?_, fun b hb hs => s4.fr b (s3.dm b (s2.dm b hb)) (s3.fr b (s2.dm b hb) (s2.fr b hb hs)), fun b hb => s4.dm b (s3.dm b (s2.dm b hb))⟩
    exact kp b o (ne_of_none eb h0) (s3.kp b o nb (s2.kp b o nb eb))
/-- a.f = e, a not stable -/
theorem st_fld {C dx a : Addr} {fs : List (Str × V)} {f : Str} (n : a ∉ r.M) (ho : EvV r ta s S (.ref a)) (hv : EvS r te s S R) (w : Wd r S H) (ha : H a = some (.ins C dx fs)) (hs : S a = none) (c : Cls K C) (na : NoAttr K C f) (hl : fs.length < 1000)
    (k : ∀ v S1 H1, Wd r S1 H1 → Stp (r.more [a]) S H S1 H1 → S1 a = none → H1 a = some (.ins C dx (putF f v fs)) → R v S1 → D.nx s H1) : sFld K ta te f D s H :=
  hv S H (Ex.refl _) w _ fun v S1 H1 w1 s1 p => ho S1 H1 s1.ex w1 _ fun u S2 H2 w2 s2 eu => by
    subst eu
    have s12 := s1.trans s2
    have h2 : H2 a = some (.ins C dx fs) := s12.kp a _ n ha
    have n2 : S2 a = none := s12.fr a (ne_none ha) hs
    refine ⟨a, C, dx, fs, rfl, h2, c, na, hl, ?_⟩
    have e2 : R v S1 := p
    exact k v S1 _ ⟨Ex.mut ((s2.ex).trans w2.ex) (s1.fr a (ne_none ha) hs), r.mono H2 _ (fun b o hb e => by
      rw [upd_ne (fun z : b = a => n (z ▸ hb))]
      exact e) (CoK.upd (nco_ins h2)) w2.inv, w1.dj⟩ ⟨s1.ex, fun b o nb e => by
      rw [upd_ne (fun z : b = a => nb (List.mem_append_left _ (z ▸ List.mem_singleton.mpr rfl)))]
      exact s12.kp b o (fun z => nb (List.mem_append_right _ z)) e, s1.fr, fun b hb => by
      intro z
      by_cases e : b = a
      · rw [e, upd_same] at z
        cases z
      · rw [upd_ne e] at z
        exact s12.dm b hb z⟩ (s1.fr a (ne_none ha) hs) upd_same p
theorem sq_fld {C dx a : Addr} {fs : List (Str × V)} {f : Str} (n : a ∉ r.M) (ho : EvV r ta s S (.ref a)) (hv : EvS r te s S R) (w : Wd r S H) (ha : H a = some (.ins C dx fs)) (hs : S a = none) (c : Cls K C) (na : NoAttr K C f) (hl : fs.length < 1000)
    (k : ∀ v S1 H1, Wd r S1 H1 → Stp (r.more [a]) S H S1 H1 → S1 a = none → H1 a = some (.ins C dx (putF f v fs)) → R v S1 → tz D s H1) : tSeq (sFld K ta te f) tz D s H := st_fld (D := { D with nx := tz D }) n ho hv w ha hs c na hl k
/-- a list that is not stable is changed by a method of its own, or by place -/
theorem st_append {l : Addr} {xs : List V} {te ta : TE} (n : l ∉ r.M) (ho : EvV r ta s S (.ref l)) (hv : EvS r te s S R) (w : Wd r S H) (hl : H l = some (.lst xs)) (hs : S l = none) (hz : xs.length < 100000)
    (k : ∀ v S1 H1, Wd r S1 H1 → Stp (r.more [l]) S H S1 H1 → S1 l = none → H1 l = some (.lst (xs ++ [v])) → R v S1 → D.nx s H1) : tDrop (tBM K "list" rAppend ta (tCons te tNil)) D s H :=
  ho S H (Ex.refl _) w _ fun u S1 H1 w1 s1 eu => by
    subst eu
    have h1 : H1 l = some (.lst xs) := s1.kp l _ n hl
    refine ⟨.inl ⟨rfl, _, .inl (.inl h1)⟩, hv S1 H1 s1.ex w1 _ fun v S2 H2 w2 s2 p => ?_⟩
    have s12 := s1.trans s2
    refine ⟨l, xs, v, rfl, rfl, s12.kp l _ n hl, sz_lt hz, ?_⟩
    exact k v S2 _ (w2.mut (s12.fr l (ne_none hl) hs) n (nco_lst (s12.kp l _ n hl))) ((s12.more).trans (Stp.upd1 (s12.dm l (ne_none hl)))) (s12.fr l (ne_none hl) hs) upd_same p
theorem sq_append {l : Addr} {xs : List V} {te ta : TE} (n : l ∉ r.M) (ho : EvV r ta s S (.ref l)) (hv : EvS r te s S R) (w : Wd r S H) (hl : H l = some (.lst xs)) (hs : S l = none) (hz : xs.length < 100000)
    (k : ∀ v S1 H1, Wd r S1 H1 → Stp (r.more [l]) S H S1 H1 → S1 l = none → H1 l = some (.lst (xs ++ [v])) → R v S1 → tz D s H1) : tSeq (tDrop (tBM K "list" rAppend ta (tCons te tNil))) tz D s H := st_append (D := { D with nx := tz D }) n ho hv w hl hs hz k
/-- l[i] = e -/
theorem st_set {l : Addr} {xs : List V} {i : Int} {j : Nat} {te ta ti : TE} (n : l ∉ r.M) (hv : EvS r te s S R) (ho : EvV r ta s S (.ref l)) (hi : EvV r ti s S (.int i)) (w : Wd r S H) (hl : H l = some (.lst xs)) (hs : S l = none) (hj : ixN xs.length i = some j)
    (k : ∀ v S1 H1, Wd r S1 H1 → Stp (r.more [l]) S H S1 H1 → S1 l = none → H1 l = some (.lst (xs.set j v)) → R v S1 → D.nx s H1) : tAsg te (gSub ta ti rSetL) D s H :=
  hv S H (Ex.refl _) w _ fun v S1 H1 w1 s1 p => ho S1 H1 s1.ex w1 _ fun u S2 H2 w2 s2 eu => hi S2 H2 (s1.ex.trans s2.ex) w2 _ fun u' S3 H3 w3 s3 eu' => by
    subst eu
    subst eu'
    have s13 := (s1.trans s2).trans s3
    refine ⟨l, xs, i, j, rfl, rfl, s13.kp l _ n hl, hj, ?_⟩
    refine k v S1 _ ⟨Ex.mut ((s2.ex.trans s3.ex).trans w3.ex) (s1.fr l (ne_none hl) hs), r.mono H3 _ (fun b o hb e => by
      rw [upd_ne (fun z : b = l => n (z ▸ hb))]
      exact e) (CoK.upd (nco_lst (s13.kp l _ n hl))) w3.inv, w1.dj⟩ ⟨s1.ex, fun b o nb e => ?_, s1.fr, fun b hb => ?_⟩ (s1.fr l (ne_none hl) hs) upd_same p
    · rw [upd_ne (fun z : b = l => nb (List.mem_append_left _ (z ▸ List.mem_singleton.mpr rfl)))]
      exact s13.kp b o (fun z => nb (List.mem_append_right _ z)) e
    · intro z
      by_cases e : b = l
      · rw [e, upd_same] at z
        cases z
      · rw [upd_ne e] at z
        exact s13.dm b hb z
theorem sq_set {l : Addr} {xs : List V} {i : Int} {j : Nat} {te ta ti : TE} (n : l ∉ r.M) (hv : EvS r te s S R) (ho : EvV r ta s S (.ref l)) (hi : EvV r ti s S (.int i)) (w : Wd r S H) (hl : H l = some (.lst xs)) (hs : S l = none) (hj : ixN xs.length i = some j)
    (k : ∀ v S1 H1, Wd r S1 H1 → Stp (r.more [l]) S H S1 H1 → S1 l = none → H1 l = some (.lst (xs.set j v)) → R v S1 → tz D s H1) : tSeq (tAsg te (gSub ta ti rSetL)) tz D s H := st_set (D := { D with nx := tz D }) n hv ho hi w hl hs hj k
/-- reading an item of a list that is not stable -/
theorem vu_ix {l : Addr} {xs : List V} {i : Int} {ta ti : TE} (H0 : Hp) : True := True.intro
/-- a call of a def with its own resource, from a resource that is the same -/
theorem ev_callR {A : Type} {rs : A → Rs} {pre : A → List V → Hp → Hp → Prop} {post : A → V → Hp → Hp → Prop} {E : XK} {dvs vs : List V} {ta : TA} (a : A) (hr : rs a = r) (h : EvAV r ta s S vs) (hp : ∀ S1 H1, Ex S S1 → Wd r S1 H1 → pre a (vs ++ dvs) S1 H1) (hq : ∀ v S2 H2, Ex S S2 → Wd r S2 H2 → post a v S2 H2 → R v S2) : EvS r (tCall (SpR rs pre post) dvs E ta) s S R := fun S1 H e w Q q =>
  h S1 H e w _ fun us S2 H2 w2 s2 eu => by
    subst hr
    subst eu
    exact ⟨a, S2, hp S2 H2 (e.trans s2.ex) w2, w2, fun v S3 H3 w3 s3 p3 => q v S3 H3 w3 (s2.trans s3) (hq v S3 H3 (e.trans (s2.ex.trans s3.ex)) w3 p3)⟩
/-- x = o.m(e ..), m changes objects at M that are not stable -/
theorem st_methR {A : Type} {C m : Addr} {mn : Str} {M : List Addr} {pre : A → List V → Hp → Hp → Prop} {post : A → V → Hp → Hp → Prop} {E : XK} {dvs vs : List V} {ta : TA} {i : Nat} {dx o : Addr} {fs : List (Str × V)} {rs : A → Rs} (a : A) (hr : rs a = Rs.obj M) (ho : EvV r te s S (.ref o)) (h : EvAV r ta s S vs) (w : Wd r S H) (no : o ∉ r.M) (hM : ∀ b, b ∈ M → b ∉ r.M ∧ S b = none ∧ H b ≠ none) (hco : ∀ b, b ∈ M → ∀ q, H b ≠ some (LamX.CodeO b q))
    (hx : H o = some (.ins C dx fs)) (hf : fs.lookup mn = none) (hp : ∀ S1 H1, Wd r S1 H1 → Stp r S H S1 H1 → pre a (.ref o :: (vs ++ dvs)) S1 H1)
    (k : ∀ v S1 H1, Wd r S1 H1 → Stp (r.more M) S H S1 H1 → (∀ b, b ∈ M → S1 b = none) → post a v S1 H1 → D.nx (s.set i (some v)) H1) : tAsg (tMeth C mn (SpR rs pre post) dvs E te ta) (gName i) D s H :=
  ho S H (Ex.refl _) w _ fun u S1 H1 w1 s1 eu => by
    subst eu
    refine ⟨o, dx, fs, rfl, s1.kp o _ no hx, hf, h S1 H1 s1.ex w1 _ fun us S2 H2 w2 s2 eu => ?_⟩
    subst eu
    have s12 := s1.trans s2
    have n2 : ∀ b, b ∈ M → S2 b = none ∧ H2 b ≠ none := fun b hb => ⟨s12.fr b (hM b hb).2.2 (hM b hb).2.1, s12.dm b (hM b hb).2.2⟩
    refine ⟨a, S2, hp S2 H2 w2 s12, by
      rw [hr]
      exact Wd.more ⟨w2.ex, True.intro, fun _ z => by cases z⟩ n2, fun v S3 H3 w3 s3 p3 => ?_⟩
    rw [hr] at w3 s3
    have kp : ∀ b o, b ∉ M → H2 b = some o → H3 b = some o := fun b o nb e => s3.kp b o (fun z => (List.mem_append.mp z).elim nb (fun z => by cases z)) e
    refine k v S3 H3 ⟨w3.ex, r.mono H2 H3 (fun b o hb e => kp b o (fun z => (hM b z).1 hb) e) (fun b q e => kp b _ (fun z => by
      obtain ⟨o, ho⟩ := Option.ne_none_iff_exists'.mp (hM b z).2.2
      have z2 := (s12.kp b o (hM b z).1 ho).symm.trans e
      cases z2
      exact hco b z q ho) e) w2.inv, fun b hb => s3.fr b (r.has _ w2.inv b hb) (w2.dj b hb)⟩ ?_ (fun b hb => s3.fr b (n2 b hb).2 (n2 b hb).1) p3
    exact (s12.more).trans ⟨s3.ex, fun b o nb e => kp b o (fun z => nb (List.mem_append_left _ z)) e, s3.fr, s3.dm⟩
end
end J

/-! J7: an object that may change is read for a while. -/
namespace J
open PySem PySem.Spec L2 Evl
def del (l : Addr) (S : Hp) : Hp := fun a => if a = l then none else S a
theorem del_same {l : Addr} {S : Hp} : del l S l = none := if_pos rfl
theorem del_ne {l a : Addr} {S : Hp} (h : a ≠ l) : del l S a = S a := if_neg h
section
variable {r : Rs} {s : L2.St} {S S' H : Hp} {ta tb tc te ti : TE} {t u : TT} {x y z v : V} {K : PySem.W.Frag} {R : V → Hp → Prop} {tu tw tz : TS} {D : Ends} {l : Addr} {o : HO}
theorem Wd.del {S1 H1 : Hp} (w : Wd r S1 H1) : Wd r (del l S1) H1 := ⟨fun a o e => by
  by_cases z : a = l
  · rw [z, del_same] at e
    cases e
  · rw [del_ne z] at e
    exact w.ex a o e, w.inv, fun a ha => by
  by_cases z : a = l
  · rw [z, del_same]
  · rw [del_ne z]
    exact w.dj a ha⟩
theorem Stp.del {S1 H1 : Hp} (s : Stp r (upd S l o) H S1 H1) (sl : S l = none) : Stp r S H (del l S1) H1 :=
  ⟨fun a u e => by
    have z : a ≠ l := ne_of_none e sl
    rw [del_ne z]
    exact s.ex a u (by rw [upd_ne z]; exact e), s.kp, fun a q e => by
    by_cases z : a = l
    · rw [z, del_same]
    · rw [del_ne z]
      exact s.fr a q (by rw [upd_ne z]; exact e), s.dm⟩
theorem borrow (h : EvV r te s (upd S l o) v) (w : Wd r S H) (hl : H l = some o) (n : l ∉ r.M) (sl : S l = none) {Q : VK} (q : ∀ S1 H1, Wd r S1 H1 → Stp r S H S1 H1 → S1 l = none → Q v H1) : te s H Q :=
  h _ H (Ex.refl _) (w.settle hl n) Q fun u S1 H1 w1 s1 e => by
    subst e
    exact q (del l S1) H1 w1.del (s1.del sl) del_same
theorem borrowT {b : Bool} (h : EvB r t s (upd S l o) b) (w : Wd r S H) (hl : H l = some o) (n : l ∉ r.M) (sl : S l = none) {Q : Bool → Hp → Prop} (q : ∀ S1 H1, Wd r S1 H1 → Stp r S H S1 H1 → S1 l = none → Q b H1) : t s H Q :=
  h _ H (Ex.refl _) (w.settle hl n) Q fun u S1 H1 w1 s1 e => by
    subst e
    exact q (del l S1) H1 w1.del (s1.del sl) del_same
theorem sq_asgB {i : Nat} (h : EvV r te s (upd S l o) v) (w : Wd r S H) (hl : H l = some o) (n : l ∉ r.M) (sl : S l = none) (k : ∀ S1 H1, Wd r S1 H1 → Stp r S H S1 H1 → S1 l = none → tz D (s.set i (some v)) H1) : tSeq (tAsg te (gName i)) tz D s H := borrow h w hl n sl k
theorem st_ifB {b : Bool} (h : EvB r t s (upd S l o) b) (w : Wd r S H) (hl : H l = some o) (n : l ∉ r.M) (sl : S l = none) (h1 : b = true → ∀ S1 H1, Wd r S1 H1 → Stp r S H S1 H1 → S1 l = none → tu D s H1) (h2 : b = false → ∀ S1 H1, Wd r S1 H1 → Stp r S H S1 H1 → S1 l = none → tw D s H1) : tIfS t tu tw D s H :=
  borrowT h w hl n sl fun S1 H1 w1 s1 n1 => by
    cases b with
    | true => exact h1 rfl S1 H1 w1 s1 n1
    | false => exact h2 rfl S1 H1 w1 s1 n1
theorem ex_both {S S' : Hp} {l : Addr} {o : HO} (e : Ex S S') : Ex (upd S l o) (upd S' l o) := fun a u q => by
  by_cases z : a = l
  · rw [z, upd_same] at q ⊢
    exact q
  · rw [upd_ne z] at q ⊢
    exact e a u q
/-- l[i] = e, e and i reckoned with l's own items -/
theorem st_setB {xs : List V} {i : Int} {j : Nat} (n : l ∉ r.M) (hv : EvV r te s (upd S l (.lst xs)) v) (ho : EvV r ta s S (.ref l)) (hi : EvV r ti s (upd S l (.lst xs)) (.int i)) (w : Wd r S H) (hl : H l = some (.lst xs)) (sl : S l = none) (hj : ixN xs.length i = some j)
    (k : ∀ S1 H1, Wd r S1 H1 → Stp (r.more [l]) S H S1 H1 → S1 l = none → H1 l = some (.lst (xs.set j v)) → D.nx s H1) : tAsg te (gSub ta ti rSetL) D s H :=
  borrow hv w hl n sl fun S1 H1 w1 s1 n1 => ho S1 H1 s1.ex w1 _ fun u S2 H2 w2 s2 eu => by
    subst eu
    have s12 := s1.trans s2
    have h2 : H2 l = some (.lst xs) := s12.kp l _ n hl
    have n2 : S2 l = none := s2.fr l (ne_none (s1.kp l _ n hl)) n1
    refine borrow (EvS.mono (ex_both s12.ex) hi) w2 h2 n n2 fun S3 H3 w3 s3 n3 => ?_
    have s13 := s12.trans s3
    refine ⟨l, xs, i, j, rfl, rfl, s13.kp l _ n hl, hj, ?_⟩
    exact k S3 _ (w3.mut n3 n (nco_lst (s13.kp l _ n hl))) (s13.more.trans (Stp.upd1 (s13.dm l (ne_none hl)))) n3 upd_same
theorem sq_setB {xs : List V} {i : Int} {j : Nat} (n : l ∉ r.M) (hv : EvV r te s (upd S l (.lst xs)) v) (ho : EvV r ta s S (.ref l)) (hi : EvV r ti s (upd S l (.lst xs)) (.int i)) (w : Wd r S H) (hl : H l = some (.lst xs)) (sl : S l = none) (hj : ixN xs.length i = some j)
    (k : ∀ S1 H1, Wd r S1 H1 → Stp (r.more [l]) S H S1 H1 → S1 l = none → H1 l = some (.lst (xs.set j v)) → tz D s H1) : tSeq (tAsg te (gSub ta ti rSetL)) tz D s H := st_setB (D := { D with nx := tz D }) n hv ho hi w hl sl hj k
theorem sq_methR {A : Type} {C : Addr} {mn : Str} {M : List Addr} {pre : A → List V → Hp → Hp → Prop} {post : A → V → Hp → Hp → Prop} {E : XK} {dvs vs : List V} {ta : TA} {i : Nat} {dx o : Addr} {fs : List (Str × V)} {rs : A → Rs} (a : A) (hr : rs a = Rs.obj M) (ho : EvV r te s S (.ref o)) (h : EvAV r ta s S vs) (w : Wd r S H) (no : o ∉ r.M) (hM : ∀ b, b ∈ M → b ∉ r.M ∧ S b = none ∧ H b ≠ none) (hco : ∀ b, b ∈ M → ∀ q, H b ≠ some (LamX.CodeO b q))
    (hx : H o = some (.ins C dx fs)) (hf : fs.lookup mn = none) (hp : ∀ S1 H1, Wd r S1 H1 → Stp r S H S1 H1 → pre a (.ref o :: (vs ++ dvs)) S1 H1)
    (k : ∀ v S1 H1, Wd r S1 H1 → Stp (r.more M) S H S1 H1 → (∀ b, b ∈ M → S1 b = none) → post a v S1 H1 → tz D (s.set i (some v)) H1) : tSeq (tAsg (tMeth C mn (SpR rs pre post) dvs E te ta) (gName i)) tz D s H := st_methR (m := 0) (D := { D with nx := tz D }) a hr ho h w no hM hco hx hf hp k
theorem seqIx {i n : Nat} (h : i < n) : seqIndex? (i : Int) n = some i := by
  unfold seqIndex?
  have h1 : ¬ ((i : Int) < 0) := by omega
  dsimp only
  rw [if_neg h1, decide_eq_true (show (0 : Int) ≤ (i : Int) by omega), decide_eq_true (show (i : Int) < (n : Int) by omega)]
  rfl
theorem ixN_nat {i n : Nat} (h : i < n) : ixN n (i : Int) = some i := by
  unfold ixN
  rw [if_pos (by omega), if_pos (by omega)]
  rfl
end
end J

/-! J8: lists of new lists; several objects made stable. -/
namespace J
open PySem PySem.Spec L2 Evl
/-- S, and at M what H has -/
noncomputable def sup (M : List Addr) (H S : Hp) : Hp := fun a => if a ∈ M then H a else S a
theorem sup_in {M : List Addr} {H S : Hp} {a : Addr} (h : a ∈ M) : sup M H S a = H a := if_pos h
theorem sup_out {M : List Addr} {H S : Hp} {a : Addr} (h : a ∉ M) : sup M H S a = S a := if_neg h
section
variable {r : Rs} {s : L2.St} {S S' H : Hp} {ta tb tc te ti : TE} {t u : TT} {x y z v : V} {K : PySem.W.Frag} {R : V → Hp → Prop} {tu tw tz : TS} {D : Ends} {l : Addr} {o : HO} {α β : Type}
theorem Wd.settleL (w : Wd r S H) {M : List Addr} (n : ∀ a, a ∈ M → a ∉ r.M) : Wd r (sup M H S) H :=
  ⟨fun a u e => by
    by_cases z : a ∈ M
    · rw [sup_in z] at e
      exact e
    · rw [sup_out z] at e
      exact w.ex a u e, w.inv, fun a ha => by
    have z : a ∉ M := fun z => n a z ha
    rw [sup_out z]
    exact w.dj a ha⟩
theorem ex_sup {M : List Addr} (hs : ∀ a, a ∈ M → S a = none) : Ex S (sup M H S) := fun a u e => by
  have z : a ∉ M := fun z => by
    rw [hs a z] at e
    cases e
  rw [sup_out z]
  exact e
theorem Stp.settleL {S0 H0 : Hp} (s : Stp r S0 H0 S H) {M : List Addr} (h0 : ∀ a, a ∈ M → H0 a = none) (hs : ∀ a, a ∈ M → S a = none) : Stp r S0 H0 (sup M H S) H :=
  ⟨s.ex.trans (ex_sup hs), s.kp, fun a q e => by
    have z : a ∉ M := fun z => q (h0 a z)
    rw [sup_out z]
    exact s.fr a q e, s.dm⟩
theorem pre_none {S H S1 H1 : Hp} (st : Stp r S H S1 H1) {a : Addr} (h : H1 a = none) : H a = none := by
  cases e : H a with
  | none => rfl
  | some o => exact absurd h (st.dm a (ne_none e))
theorem sq_par {i j : Nat} (h : ta s H fun x H1 => tb s H1 fun y H2 => ∃ v w, [x, y] = [v, w] ∧ tz D ((s.set i (some v)).set j (some w)) H2) : tSeq (tPar i j (tCons ta (tCons tb tNil))) tz D s H := h
/-- [[] for x in ys] -/
theorem en_empties {wi : TI} {j : Nat} {vs : List Nat} {ys : List α} {X : Rl α} (hi : EvI r wi s S ys X) (hz : ys.length ≤ 100000) (hw : ∀ v, wipe ((wipe s vs).set j (some v)) vs = wipe s vs) (w : Wd r S H) {Q : VK}
    (q : ∀ (p : Addr) (rs : List Addr) (S2 H2 : Hp), H p = none → H2 p = some (.lst (rs.map V.ref)) → S2 p = none → rs.length = ys.length → rs.Nodup → p ∉ rs → (∀ a, a ∈ rs → H a = none ∧ S2 a = none ∧ H2 a = some (.lst [])) → Wd r S2 H2 → Stp r S H S2 H2 → Q (.ref p) H2) : tLc wi (gName j) tYes (tLst tNil) vs s H Q :=
  hi S H (Ex.refl _) w _ fun J S2 H2 G Y w2 s2 wk hG hY D hD => by
    have hM : D ∉ r.M := w2.notM hD
    have h0 := pre_none s2 hD
    refine lc_it wk (fun i H' => ∃ (S' : Hp) (rs : List Addr), Wd r S' H' ∧ Stp r S H S' H' ∧ Ex S2 S' ∧ S' D = none ∧ H' D = some (.lst (rs.map V.ref)) ∧ rs.length = i ∧ rs.Nodup ∧ D ∉ rs ∧ ∀ a, a ∈ rs → H a = none ∧ S' a = none ∧ H' a = some (.lst []))
      ⟨S2, [], w2.new hD, s2.trans (Stp.new hD), Ex.refl _, w2.fresh hD, upd_same, rfl, List.nodup_nil, by simp, fun a ha => by cases ha⟩ (fun i H' _ ⟨S', rs, w', _, e', _⟩ => hG S' H' e' w') ?_ ?_
    · rintro i v H' H'' hlt ⟨S', rs, w', s', e', n', l', len, nd, nD, al⟩ y'
      obtain ⟨S3, y, g1, w3, s3, x3⟩ := hY i S' H' v H'' hlt e' w' y'
      have l3 : H'' D = some (.lst (rs.map V.ref)) := s3.kp D _ hM l'
      have n3 : S3 D = none := s3.fr D (ne_none l') n'
      have s03 := s'.trans s3
      refine ⟨hw v, ?_⟩
      unfold tYes
      dsimp only
      rw [if_pos rfl]
      refine ⟨Nat.zero_le _, fun p hp => ?_⟩
      have pD : D ≠ p := ne_of_none l3 hp
      have hp0 := pre_none s03 hp
      have al3 : ∀ a, a ∈ rs → H a = none ∧ S3 a = none ∧ H'' a = some (.lst []) := fun a ha => by
        obtain ⟨q1, q2, q3⟩ := al a ha
        have na : a ∉ r.M := fun z => r.has H w.inv a z q1
        exact ⟨q1, s3.fr a (ne_none q3) q2, s3.kp a _ na q3⟩
      refine ⟨rs.map V.ref, by rw [upd_ne pD]; exact l3, ?_, S3, rs ++ [p], (w3.new hp).mut n3 hM (nco_lst (by rw [upd_ne pD]; exact l3)), (s03.trans (Stp.new hp)).mut h0, e'.trans s3.ex, n3, by rw [upd_same, List.map_append]; rfl, by rw [List.length_append, len]; rfl, ?_, ?_, ?_⟩
      · rw [List.length_map, len]
        exact sz_lt (by omega)
      · rw [List.nodup_append]
        refine ⟨nd, by simp, fun a ha b hb => ?_⟩
        rw [List.mem_singleton.mp hb]
        rintro rfl
        rw [(al3 a ha).2.2] at hp
        cases hp
      · rw [List.mem_append, not_or]
        exact ⟨nD, fun z => pD (List.mem_singleton.mp z)⟩
      · intro a ha
        rcases List.mem_append.mp ha with ha | ha
        · obtain ⟨q1, q2, q3⟩ := al3 a ha
          have aD : a ≠ D := fun z => nD (z ▸ ha)
          refine ⟨q1, q2, ?_⟩
          rw [upd_ne aD, upd_ne (ne_of_none q3 hp)]
          exact q3
        · rw [List.mem_singleton.mp ha]
          refine ⟨hp0, w3.fresh hp, ?_⟩
          rw [upd_ne pD.symm, upd_same]
    · rintro H' ⟨S', rs, w', s', e', n', l', len, nd, nD, al⟩
      exact q D rs S' H' h0 l' n' len nd nD al w' s'
end
end J

/-! J9: several objects read for a while; the law's pool. -/
namespace J
open PySem PySem.Spec L2 Evl
noncomputable def delL (M : List Addr) (S : Hp) : Hp := fun a => if a ∈ M then none else S a
theorem delL_in {M : List Addr} {S : Hp} {a : Addr} (h : a ∈ M) : delL M S a = none := if_pos h
theorem delL_out {M : List Addr} {S : Hp} {a : Addr} (h : a ∉ M) : delL M S a = S a := if_neg h
section
variable {r r' : Rs} {s : L2.St} {S S' S1 H H1 : Hp} {ta tb tc te ti : TE} {t u : TT} {x y z v : V} {K : PySem.W.Frag} {R : V → Hp → Prop} {tu tw tz : TS} {D : Ends} {l : Addr} {o : HO} {α β : Type} {M : List Addr}
theorem Wd.toNil (w : Wd r S H) : Wd Rs.nil S H := ⟨w.ex, True.intro, fun _ z => by cases z⟩
theorem Stp.wk (s : Stp r S H S1 H1) (h : ∀ a, a ∈ r.M → a ∈ r'.M) : Stp r' S H S1 H1 := ⟨s.ex, fun a o n e => s.kp a o (fun z => n (h a z)) e, s.fr, s.dm⟩
theorem Wd.delL (w : Wd r S1 H1) : Wd r (delL M S1) H1 := ⟨fun a o e => by
  by_cases z : a ∈ M
  · rw [delL_in z] at e
    cases e
  · rw [delL_out z] at e
    exact w.ex a o e, w.inv, fun a ha => by
  by_cases z : a ∈ M
  · rw [delL_in z]
  · rw [delL_out z]
    exact w.dj a ha⟩
theorem Stp.delL (s : Stp r (sup M H S) H S1 H1) (sl : ∀ a, a ∈ M → S a = none) : Stp r S H (delL M S1) H1 :=
  ⟨fun a u e => by
    have z : a ∉ M := fun z => by
      rw [sl a z] at e
      cases e
    rw [delL_out z]
    exact s.ex a u (by rw [sup_out z]; exact e), s.kp, fun a q e => by
    by_cases z : a ∈ M
    · rw [delL_in z]
    · rw [delL_out z]
      exact s.fr a q (by rw [sup_out z]; exact e), s.dm⟩
/-- the objects at M may change, but not just now -/
def Loc (r : Rs) (M : List Addr) (S H : Hp) : Prop := ∀ a, a ∈ M → a ∉ r.M ∧ S a = none ∧ H a ≠ none
theorem Loc.step (h : Loc r M S H) (s : Stp r S H S1 H1) : Loc r M S1 H1 := fun a ha => ⟨(h a ha).1, s.fr a (h a ha).2.2 (h a ha).2.1, s.dm a (h a ha).2.2⟩
theorem Loc.stepM (h : Loc r M S H) (s : Stp (r.more M) S H S1 H1) : Loc r M S1 H1 := fun a ha => ⟨(h a ha).1, s.fr a (h a ha).2.2 (h a ha).2.1, s.dm a (h a ha).2.2⟩
theorem borrowL (h : EvV r te s (sup M H S) v) (w : Wd r S H) (hM : Loc r M S H) {Q : VK} (q : ∀ S1 H1, Wd r S1 H1 → Stp r S H S1 H1 → Q v H1) : te s H Q :=
  h _ H (Ex.refl _) (w.settleL fun a ha => (hM a ha).1) Q fun u S1 H1 w1 s1 e => by
    subst e
    exact q (J.delL M S1) H1 w1.delL (s1.delL fun a ha => (hM a ha).2.1)
theorem borrowR (h : EvS r te s (sup M H S) fun v _ => R v S) (w : Wd r S H) (hM : Loc r M S H) {Q : VK} (q : ∀ v S1 H1, Wd r S1 H1 → Stp r S H S1 H1 → R v S → Q v H1) : te s H Q :=
  h _ H (Ex.refl _) (w.settleL fun a ha => (hM a ha).1) Q fun u S1 H1 w1 s1 e => q u (J.delL M S1) H1 w1.delL (s1.delL fun a ha => (hM a ha).2.1) e
theorem borrowLT {b : Bool} (h : EvB r t s (sup M H S) b) (w : Wd r S H) (hM : Loc r M S H) {Q : Bool → Hp → Prop} (q : ∀ S1 H1, Wd r S1 H1 → Stp r S H S1 H1 → Q b H1) : t s H Q :=
  h _ H (Ex.refl _) (w.settleL fun a ha => (hM a ha).1) Q fun u S1 H1 w1 s1 e => by
    subst e
    exact q (J.delL M S1) H1 w1.delL (s1.delL fun a ha => (hM a ha).2.1)
theorem sup_mono (e : Stp r S H S1 H1) (hM : Loc r M S H) : Ex (sup M H S) (sup M H1 S1) := fun a u q => by
  by_cases z : a ∈ M
  · rw [sup_in z] at q ⊢
    exact e.kp a u (hM a z).1 q
  · rw [sup_out z] at q ⊢
    exact e.ex a u q
theorem sq_asgL {i : Nat} (M : List Addr) (h : EvV r te s (sup M H S) v) (w : Wd r S H) (hM : Loc r M S H) (k : ∀ S1 H1, Wd r S1 H1 → Stp r S H S1 H1 → tz D (s.set i (some v)) H1) : tSeq (tAsg te (gName i)) tz D s H := borrowL h w hM k
theorem st_asgL {i : Nat} (M : List Addr) (h : EvV r te s (sup M H S) v) (w : Wd r S H) (hM : Loc r M S H) (k : ∀ S1 H1, Wd r S1 H1 → Stp r S H S1 H1 → D.nx (s.set i (some v)) H1) : tAsg te (gName i) D s H := borrowL h w hM k
theorem st_ifL {b : Bool} (M : List Addr) (h : EvB r t s (sup M H S) b) (w : Wd r S H) (hM : Loc r M S H) (h1 : b = true → ∀ S1 H1, Wd r S1 H1 → Stp r S H S1 H1 → tu D s H1) (h2 : b = false → ∀ S1 H1, Wd r S1 H1 → Stp r S H S1 H1 → tw D s H1) : tIfS t tu tw D s H :=
  borrowLT h w hM fun S1 H1 w1 s1 => by
    cases b with
    | true => exact h1 rfl S1 H1 w1 s1
    | false => exact h2 rfl S1 H1 w1 s1
theorem sq_ifL {b : Bool} (M : List Addr) (h : EvB r t s (sup M H S) b) (w : Wd r S H) (hM : Loc r M S H) (h1 : b = true → ∀ S1 H1, Wd r S1 H1 → Stp r S H S1 H1 → tu { D with nx := tz D } s H1) (h2 : b = false → ∀ S1 H1, Wd r S1 H1 → Stp r S H S1 H1 → tw { D with nx := tz D } s H1) : tSeq (tIfS t tu tw) tz D s H := st_ifL (D := { D with nx := tz D }) M h w hM h1 h2
theorem st_retL (M : List Addr) (h : EvV r te s (sup M H S) v) (w : Wd r S H) (hM : Loc r M S H) (k : ∀ S1 H1, Wd r S1 H1 → Stp r S H S1 H1 → D.rt v H1) : tRet te D s H := borrowL h w hM k
/-- l[i] = e, where l is one of M -/
theorem st_setL {xs : List V} {i : Int} {j : Nat} (M : List Addr) (hv : EvV r te s (sup M H S) v) (ho : EvV r ta s (sup M H S) (.ref l)) (hi : EvV r ti s (sup M H S) (.int i)) (w : Wd r S H) (hM : Loc r M S H) (hl : l ∈ M) (hx : H l = some (.lst xs)) (hj : ixN xs.length i = some j)
    (k : ∀ S1 H1, Wd r S1 H1 → Stp (r.more M) S H S1 H1 → H1 l = some (.lst (xs.set j v)) → (∀ a o, a ≠ l → a ∉ r.M → H a = some o → H1 a = some o) → D.nx s H1) : tAsg te (gSub ta ti rSetL) D s H :=
  borrowL hv w hM fun S1 H1 w1 s1 => borrowL (EvS.mono (sup_mono s1 hM) ho) w1 (hM.step s1) fun S2 H2 w2 s2 => by
    have s12 := s1.trans s2
    refine borrowL (EvS.mono (sup_mono s12 hM) hi) w2 (hM.step s12) fun S3 H3 w3 s3 => ?_
    have s13 := s12.trans s3
    have n := (hM l hl).1
    have hx3 := s13.kp l _ n hx
    have n3 := ((hM.step s13) l hl).2.1
    refine ⟨l, xs, i, j, rfl, rfl, hx3, hj, ?_⟩
    refine k S3 _ (w3.mut n3 n (nco_lst hx3)) (s13.more.trans ((Stp.upd1 (r := r) (a := l) (ne_none hx3)).wk fun a ha => ?_)) upd_same (fun a o na nr e => ?_)
    · rcases List.mem_append.mp ha with ha | ha
      · exact List.mem_append_left _ (List.mem_singleton.mp ha ▸ hl)
      · exact List.mem_append_right _ ha
    · rw [upd_ne na]
      exact s13.kp a o nr e
theorem sq_setL {xs : List V} {i : Int} {j : Nat} (M : List Addr) (hv : EvV r te s (sup M H S) v) (ho : EvV r ta s (sup M H S) (.ref l)) (hi : EvV r ti s (sup M H S) (.int i)) (w : Wd r S H) (hM : Loc r M S H) (hl : l ∈ M) (hx : H l = some (.lst xs)) (hj : ixN xs.length i = some j)
    (k : ∀ S1 H1, Wd r S1 H1 → Stp (r.more M) S H S1 H1 → H1 l = some (.lst (xs.set j v)) → (∀ a o, a ≠ l → a ∉ r.M → H a = some o → H1 a = some o) → tz D s H1) : tSeq (tAsg te (gSub ta ti rSetL)) tz D s H := st_setL (D := { D with nx := tz D }) M hv ho hi w hM hl hx hj k
end
/-! ### the pool -/
/-- what stands at p and c: the cells, the place, three numbers -/
structure PoolAt (p c : Addr) (cs : List Int) (pos cnt seed k : Int) (H : Hp) : Prop where
  hp : H p = some (.lst [.ref c, .int pos, .int cnt, .int seed, .int k])
  hc : H c = some (.lst (cs.map V.int))
  h0 : ∀ x, x ∈ cs → 0 ≤ x
  pos0 : 0 ≤ pos
  cnt0 : 0 ≤ cnt
  seed0 : 0 ≤ seed
def PoolI (p c : Addr) (H : Hp) : Prop := ∃ cs pos cnt seed k, PoolAt p c cs pos cnt seed k H
def poolR (p c : Addr) : Rs := ⟨[p, c], PoolI p c, fun H H' k _ ⟨cs, pos, cnt, seed, q, h⟩ => ⟨cs, pos, cnt, seed, q, k p _ (by simp) h.hp, k c _ (by simp) h.hc, h.h0, h.pos0, h.cnt0, h.seed0⟩, fun H ⟨cs, pos, cnt, seed, q, h⟩ a ha => by
  rcases List.mem_cons.mp ha with rfl | ha
  · exact ne_none h.hp
  · rw [List.mem_singleton.mp ha]
    exact ne_none h.hc⟩
theorem PoolAt.ne {p c : Addr} {cs : List Int} {pos cnt seed k : Int} {H : Hp} (h : PoolAt p c cs pos cnt seed k H) : p ≠ c := by
  rintro rfl
  have e := h.hp.symm.trans h.hc
  cases cs with
  | nil => cases e
  | cons x r =>
    injection e with e
    injection e with e
    injection e with e _
    cases e
theorem poolR_nil {p c : Addr} {S H S1 H1 : Hp} (s : Stp (Rs.nil.more [p, c]) S H S1 H1) : Stp (poolR p c) S H S1 H1 := s.wk fun a ha => by
  rcases List.mem_append.mp ha with ha | ha
  · exact ha
  · cases ha
theorem Stp.pool {p c : Addr} {S H S1 H1 : Hp} (s : Stp Rs.nil S H S1 H1) : Stp (Rs.nil.more [p, c]) S H S1 H1 := s.more
end J

/-! J10: data compared; displays, slices, sums of lists told by a relation; results that are only bounded. -/
namespace J
open PySem PySem.Spec L2 Evl
/-! ### relations of data -/
class Dt (K : PySem.W.Frag) {α : Type} [DecidableEq α] (R : Rl α) where
  d : α → PyData
  dp : ∀ {a : α} {v : V} {S : Hp}, R a v S → Dp K S v (d a)
  eqv : ∀ a b : α, PyData.eqv (d a) (d b) = decide (a = b)
  lay : ∀ a : α, (d a).canLay0 = true
  dep : Nat
  dep_le : ∀ a : α, (d a).depth ≤ dep
section
variable {K : PySem.W.Frag}
instance : Dt K IntR where
  d := .int
  dp h := by
    rw [show _ = _ from h]
    exact .int _
  eqv a b := by
    simp only [PyData.eqv]
    exact PySem.W.beq_decide a b
  lay _ := rfl
  dep := 0
  dep_le _ := Nat.le_refl _
instance : Dt K BoolR where
  d := .bool
  dp h := by
    rw [show _ = _ from h]
    exact .bl _
  eqv a b := by
    simp only [PyData.eqv]
    exact PySem.W.beq_decide a b
  lay _ := rfl
  dep := 0
  dep_le _ := Nat.le_refl _
/-- an int or None -/
def OintR : Rl (Option Int) := fun o v _ => v = match o with
  | none => V.non
  | some i => .int i
instance : Mono OintR := ⟨fun _ h => h⟩
instance : Dt K OintR where
  d o := match o with
    | none => .none
    | some i => .int i
  dp {a v S} h := by
    rw [show _ = _ from h]
    cases a with
    | none => exact .non
    | some i => exact .int i
  eqv a b := by
    cases a <;> cases b <;> simp only [PyData.eqv]
    · rfl
    · rfl
    · rfl
    · rename_i i j
      rw [PySem.W.beq_decide i j]
      exact decide_eq_decide.mpr ⟨fun e => by rw [e], fun e => by injection e⟩
  lay a := by cases a <;> rfl
  dep := 0
  dep_le a := by cases a <;> exact Nat.le_refl _
section
variable {α β γ : Type} [DecidableEq α] [DecidableEq β] [DecidableEq γ] {R : Rl α} {R' : Rl β} {R'' : Rl γ}
theorem dt_all [Dt K R] {S : Hp} : ∀ {xs : List α} {vs : List V}, All2 R S xs vs → DpAll K S vs (xs.map (Dt.d K R))
  | _, _, .nil => .nil
  | _, _, .cons h t => .cons (Dt.dp h) (dt_all t)
theorem dt_eqvAll [Dt K R] : ∀ xs ys : List α, PyData.eqvAll (xs.map (Dt.d K R)) (ys.map (Dt.d K R)) = decide (xs = ys)
  | [], [] => by simp only [List.map_nil, PyData.eqvAll, decide_true]
  | [], _ :: _ => by simp [PyData.eqvAll]
  | _ :: _, [] => by simp [PyData.eqvAll]
  | x :: xs, y :: ys => by
    rw [List.map_cons, List.map_cons, PyData.eqvAll, Dt.eqv x y, dt_eqvAll xs ys, ← Bool.decide_and]
    exact decide_eq_decide.mpr (by rw [List.cons.injEq])
theorem dt_layAll [Dt K R] : ∀ xs : List α, PyData.canLayAll0 (xs.map (Dt.d K R)) = true
  | [] => rfl
  | x :: xs => by
    rw [List.map_cons, PyData.canLayAll0, Dt.lay x, dt_layAll xs]
    rfl
theorem dt_depAll [Dt K R] : ∀ xs : List α, PyData.depthAll (xs.map (Dt.d K R)) ≤ Dt.dep K R
  | [] => Nat.zero_le _
  | x :: xs => by
    rw [List.map_cons, PyData.depthAll]
    exact Nat.max_le.mpr ⟨Dt.dep_le x, dt_depAll xs⟩
instance [Dt K R] : Dt K (LstR R) where
  d xs := .list (xs.map (Dt.d K R))
  dp h := by
    obtain ⟨a, vs, e, h1, h2⟩ := h
    subst e
    exact .lst (SqL.of h1) (dt_all h2)
  eqv a b := by
    simp only [PyData.eqv]
    exact dt_eqvAll a b
  lay a := by
    simp only [PyData.canLay0]
    exact dt_layAll a
  dep := Dt.dep K R + 1
  dep_le a := by
    simp only [PyData.depth]
    exact Nat.succ_le_succ (dt_depAll a)
instance [Dt K R] : Dt K (TupR K R) where
  d xs := .tuple (xs.map (Dt.d K R))
  dp h := by
    obtain ⟨a, vs, e, h1, h2⟩ := h
    subst e
    exact .tup h1 (dt_all h2)
  eqv a b := by
    simp only [PyData.eqv]
    exact dt_eqvAll a b
  lay a := by
    simp only [PyData.canLay0]
    exact dt_layAll a
  dep := Dt.dep K R + 1
  dep_le a := by
    simp only [PyData.depth]
    exact Nat.succ_le_succ (dt_depAll a)
instance [Dt K R] [Dt K R'] : Dt K (PairR K R R') where
  d p := .tuple [Dt.d K R p.1, Dt.d K R' p.2]
  dp h := by
    obtain ⟨a, x, y, e, h1, h2, h3⟩ := h
    subst e
    exact .tup h1 (.cons (Dt.dp h2) (.cons (Dt.dp h3) .nil))
  eqv a b := by
    simp only [PyData.eqv, PyData.eqvAll]
    rw [Dt.eqv, Dt.eqv, Bool.and_true, ← Bool.decide_and]
    exact decide_eq_decide.mpr ⟨fun e => Prod.ext e.1 e.2, fun e => by rw [e]; exact ⟨rfl, rfl⟩⟩
  lay a := by
    simp only [PyData.canLay0, PyData.canLayAll0, Dt.lay, Bool.and_self]
  dep := max (Dt.dep K R) (Dt.dep K R') + 1
  dep_le p := by
    simp only [PyData.depth, PyData.depthAll]
    have h1 := Dt.dep_le (K := K) (R := R) p.1
    have h2 := Dt.dep_le (K := K) (R := R') p.2
    omega
instance [Dt K R] [Dt K R'] [Dt K R''] : Dt K (TripR K R R' R'') where
  d p := .tuple [Dt.d K R p.1, Dt.d K R' p.2.1, Dt.d K R'' p.2.2]
  dp h := by
    obtain ⟨a, x, y, z, e, h1, h2, h3, h4⟩ := h
    subst e
    exact .tup h1 (.cons (Dt.dp h2) (.cons (Dt.dp h3) (.cons (Dt.dp h4) .nil)))
  eqv a b := by
    simp only [PyData.eqv, PyData.eqvAll]
    rw [Dt.eqv, Dt.eqv, Dt.eqv, Bool.and_true, ← Bool.decide_and, ← Bool.decide_and]
    exact decide_eq_decide.mpr ⟨fun e => Prod.ext e.1 (Prod.ext e.2.1 e.2.2), fun e => by rw [e]; exact ⟨rfl, rfl, rfl⟩⟩
  lay a := by
    simp only [PyData.canLay0, PyData.canLayAll0, Dt.lay, Bool.and_self]
  dep := max (max (Dt.dep K R) (Dt.dep K R')) (Dt.dep K R'') + 1
  dep_le p := by
    simp only [PyData.depth, PyData.depthAll]
    have h1 := Dt.dep_le (K := K) (R := R) p.1
    have h2 := Dt.dep_le (K := K) (R := R') p.2.1
    have h3 := Dt.dep_le (K := K) (R := R'') p.2.2
    omega
end
section
variable {r : Rs} {s : L2.St} {S S' H : Hp} {ta tb tc te ti : TE} {t u : TT} {tt : TT} {x y z v : V} {α β γ : Type} {R : Rl α} {R' : Rl β} {R'' : Rl γ} {tu tw tz : TS} {D : Ends}
theorem dt_shaped [DecidableEq α] [Dt K R] (h : Dt.dep K R ≤ 64) (a : α) : SeqAt.shaped (Dt.d K R a) = true :=
  Bool.and_eq_true_iff.mpr ⟨Dt.lay a, decide_eq_true (Nat.le_trans (Dt.dep_le a) h)⟩
/-- a == b, a != b of data of one relation -/
theorem rs_eqD [DecidableEq α] [Dt K R] {a b : α} (h1 : R a x S) (h2 : R b y S) (h : Dt.dep K R ≤ 64) : RVS (rEqU K) x y S (.bl (decide (a = b))) := by
  rw [← Dt.eqv (K := K) (R := R)]
  exact rs_eqd (Dt.dp h1) (Dt.dp h2) (dt_shaped h a) (dt_shaped h b)
theorem rs_neD [DecidableEq α] [Dt K R] {a b : α} (h1 : R a x S) (h2 : R b y S) (h : Dt.dep K R ≤ 64) : RVS (rNeU K) x y S (.bl (!decide (a = b))) := by
  rw [← Dt.eqv (K := K) (R := R)]
  exact rs_ned (Dt.dp h1) (Dt.dp h2) (dt_shaped h a) (dt_shaped h b)
theorem vv_eqD [DecidableEq α] [Dt K R] [Mono R] {a b : α} (h1 : EvS r ta s S fun v S1 => R a v S1) (h2 : ∀ S1, Ex S S1 → EvS r tb s S1 fun v S2 => R b v S2) (h : Dt.dep K R ≤ 64 := by exact Nat.le_of_ble_eq_true rfl) : EvV r (tOp (rEqU K) ta tb) s S (.bl (decide (a = b))) :=
  ev_op2 h1 (fun _ S1 e _ => h2 S1 e) fun x y S1 S2 _ hx e hy => ⟨_, rs_eqD (Mono.up e hx) hy h, rfl⟩
theorem vv_neD [DecidableEq α] [Dt K R] [Mono R] {a b : α} (h1 : EvS r ta s S fun v S1 => R a v S1) (h2 : ∀ S1, Ex S S1 → EvS r tb s S1 fun v S2 => R b v S2) (h : Dt.dep K R ≤ 64 := by exact Nat.le_of_ble_eq_true rfl) : EvV r (tOp (rNeU K) ta tb) s S (.bl (!decide (a = b))) :=
  ev_op2 h1 (fun _ S1 e _ => h2 S1 e) fun x y S1 S2 _ hx e hy => ⟨_, rs_neD (Mono.up e hx) hy h, rfl⟩
/-! ### displays -/
theorem ev_nilL : EvS r (tLst tNil) s S fun v S1 => LstR R [] v S1 := fun S1 H e w Q q => ⟨by decide, fun p hp => q (.ref p) (upd S1 p (.lst [])) _ (w.newS hp) (Stp.newS w hp) ⟨p, [], rfl, upd_same, .nil⟩⟩
theorem ea_all {P : V → Hp → Prop} (h : EvS r ta s S P) {tr : TA} {P2 : List V → Hp → Prop} (hr : ∀ S1, Ex S S1 → EvAS r tr s S1 P2) (m : ∀ v S1 S2, Ex S1 S2 → P v S1 → P v S2) : EvAS r (tCons ta tr) s S fun us S1 => ∃ v vs, us = v :: vs ∧ P v S1 ∧ P2 vs S1 := fun S1 H e w Q q =>
  h S1 H e w _ fun x' S2 H2 w2 s2 ex => hr S2 (e.trans s2.ex) S2 H2 (Ex.refl _) w2 _ fun vs' S3 H3 w3 s3 ev => q _ S3 H3 w3 (s2.trans s3) ⟨x', vs', rfl, m _ _ _ s3.ex ex, ev⟩
theorem ev_lst1 [Mono R] {a : α} (h : EvS r ta s S fun v S1 => R a v S1) : EvS r (tLst (tCons ta tNil)) s S fun v S1 => LstR R [a] v S1 := fun S1 H e w Q q =>
  h S1 H e w _ fun v S2 H2 w2 s2 hv => ⟨sz_of (show [v].length ≤ 100000 by simp), fun p hp => q (.ref p) (upd S2 p (.lst [v])) _ (w2.newS hp) (s2.trans (Stp.newS w2 hp)) ⟨p, [v], rfl, upd_same, .cons (Mono.up (Ex.new (w2.fresh hp)) hv) .nil⟩⟩
theorem ev_tup1 [Mono R] {a : α} (h : EvS r ta s S fun v S1 => R a v S1) : EvS r (tTup (tCons ta tNil)) s S fun v S1 => TupR K R [a] v S1 := fun S1 H e w Q q =>
  h S1 H e w _ fun v S2 H2 w2 s2 hv => ⟨sz_of (show [v].length ≤ 100000 by simp), fun p hp => q (.ref p) (upd S2 p (.tup [v])) _ (w2.newS hp) (s2.trans (Stp.newS w2 hp)) ⟨p, [v], rfl, SqT.of upd_same, .cons (Mono.up (Ex.new (w2.fresh hp)) hv) .nil⟩⟩
theorem ev_pair [Mono R] [Mono R'] {a : α} {b : β} (h : EvS r ta s S fun v S1 => R a v S1) (h2 : ∀ S1, Ex S S1 → EvS r tb s S1 fun v S2 => R' b v S2) : EvS r (tTup (tCons ta (tCons tb tNil))) s S fun v S1 => PairR K R R' (a, b) v S1 := fun S1 H e w Q q =>
  h S1 H e w _ fun v S2 H2 w2 s2 hv => h2 S2 (e.trans s2.ex) S2 H2 (Ex.refl _) w2 _ fun v' S3 H3 w3 s3 hv' => ⟨sz_of (show [v, v'].length ≤ 100000 by simp), fun p hp => q (.ref p) (upd S3 p (.tup [v, v'])) _ (w3.newS hp) ((s2.trans s3).trans (Stp.newS w3 hp)) ⟨p, v, v', rfl, SqT.of upd_same, Mono.up (Ex.new (w3.fresh hp)) (Mono.up s3.ex hv), Mono.up (Ex.new (w3.fresh hp)) hv'⟩⟩
theorem ev_trip [Mono R] [Mono R'] [Mono R''] {a : α} {b : β} {c : γ} (h : EvS r ta s S fun v S1 => R a v S1) (h2 : ∀ S1, Ex S S1 → EvS r tb s S1 fun v S2 => R' b v S2) (h3 : ∀ S1, Ex S S1 → EvS r tc s S1 fun v S2 => R'' c v S2) : EvS r (tTup (tCons ta (tCons tb (tCons tc tNil)))) s S fun v S1 => TripR K R R' R'' (a, b, c) v S1 := fun S1 H e w Q q =>
  h S1 H e w _ fun v S2 H2 w2 s2 hv => h2 S2 (e.trans s2.ex) S2 H2 (Ex.refl _) w2 _ fun v' S3 H3 w3 s3 hv' => h3 S3 (e.trans (s2.ex.trans s3.ex)) S3 H3 (Ex.refl _) w3 _ fun v'' S4 H4 w4 s4 hv'' => ⟨sz_of (show [v, v', v''].length ≤ 100000 by simp), fun p hp => q (.ref p) (upd S4 p (.tup [v, v', v''])) _ (w4.newS hp) (((s2.trans s3).trans s4).trans (Stp.newS w4 hp)) ⟨p, v, v', v'', rfl, SqT.of upd_same, Mono.up (Ex.new (w4.fresh hp)) (Mono.up s4.ex (Mono.up s3.ex hv)), Mono.up (Ex.new (w4.fresh hp)) (Mono.up s4.ex hv'), Mono.up (Ex.new (w4.fresh hp)) hv''⟩⟩
/-! ### lists told by a relation -/
theorem ev_ixL [Mono R] {xs : List α} {i : Int} {j : Nat} {a : α} (h : EvS r ta s S fun v S1 => LstR R xs v S1) (hi : ∀ S1, Ex S S1 → EvV r ti s S1 (.int i)) (ha : xs[j]? = some a) (e : i = (j : Int)) : EvS r (tOp (rIx K) ta ti) s S fun v S1 => R a v S1 :=
  ev_op2 h (fun _ S1 e _ => hi S1 e) fun x y S1 S2 _ ⟨b, vs, h1, h2, h3⟩ e2 hy => by
    obtain ⟨v, g1, g2⟩ := h3.at ha
    subst h1
    subst hy
    subst e
    exact ⟨v, rs_ixL' (SqL.of (e2 _ _ h2)) (atI_nat g1), Mono.up e2 g2⟩
theorem ev_ixT [Mono R] {xs : List α} {i : Int} {j : Nat} {a : α} (h : EvS r ta s S fun v S1 => TupR K R xs v S1) (hi : ∀ S1, Ex S S1 → EvV r ti s S1 (.int i)) (ha : xs[j]? = some a) (e : i = (j : Int)) : EvS r (tOp (rIx K) ta ti) s S fun v S1 => R a v S1 :=
  ev_op2 h (fun _ S1 e _ => hi S1 e) fun x y S1 S2 _ ⟨b, vs, h1, h2, h3⟩ e2 hy => by
    obtain ⟨v, g1, g2⟩ := h3.at ha
    subst h1
    subst hy
    subst e
    exact ⟨v, rs_ixT' (ex_t e2 h2) (atI_nat g1), Mono.up e2 g2⟩
theorem ev_cat [Mono R] {xs ys : List α} (h : EvS r ta s S fun v S1 => LstR R xs v S1) (h2 : ∀ S1, Ex S S1 → EvS r tb s S1 fun v S2 => LstR R ys v S2) (hz : xs.length + ys.length ≤ 100000) : EvS r (tOp (rAddU K) ta tb) s S fun v S1 => LstR R (xs ++ ys) v S1 :=
  EvN.lst (X := R) (ev_op2N h (fun _ S1 e _ => h2 S1 e) fun x y S1 S2 _ ⟨a, vs, h1, h2, h3⟩ e2 ⟨b, ws, g1, g2, g3⟩ => by
    subst h1
    subst g1
    exact ⟨_, rn_cat (e2 _ _ h2) g2 (by rw [h3.len, g3.len]; exact hz), _, rfl, (h3.up e2).append g3⟩)
theorem All2.flat [Mono R] {xs : List α} {vs : List V} (h : All2 R S xs vs) : ∀ k, All2 R S (List.replicate k xs).flatten (List.replicate k vs).flatten
  | 0 => .nil
  | k + 1 => by
    rw [List.replicate_succ, List.replicate_succ, List.flatten_cons, List.flatten_cons]
    exact h.append (h.flat k)
theorem flat_one {a : α} : ∀ k, (List.replicate k [a]).flatten = List.replicate k a
  | 0 => rfl
  | k + 1 => by
    rw [List.replicate_succ, List.flatten_cons, flat_one k]
    rfl
theorem ev_rep [Mono R] {xs : List α} {k : Int} (h : EvS r ta s S fun v S1 => LstR R xs v S1) (h2 : ∀ S1, Ex S S1 → EvV r tb s S1 (.int k)) (hk : 0 ≤ k ∧ k ≤ 100000) (hz : xs.length * k.toNat ≤ 100000) : EvS r (tOp rMulU ta tb) s S fun v S1 => LstR R (List.replicate k.toNat xs).flatten v S1 :=
  EvN.lst (X := R) (ev_op2N h (fun _ S1 e _ => h2 S1 e) fun x y S1 S2 _ ⟨a, vs, h1, h2, h3⟩ e2 g1 => by
    subst h1
    subst g1
    exact ⟨_, rn_rep (e2 _ _ h2) hk (by rw [h3.len]; exact hz), _, rfl, (h3.up e2).flat _⟩)
theorem ev_rep1 [Mono R] {a : α} {k : Int} (h : EvS r ta s S fun v S1 => R a v S1) (h2 : ∀ S1, Ex S S1 → EvV r tb s S1 (.int k)) (hk : 0 ≤ k ∧ k ≤ 100000) : EvS r (tOp rMulU (tLst (tCons ta tNil)) tb) s S fun v S1 => LstR R (List.replicate k.toNat a) v S1 := by
  have := ev_rep (R := R) (ev_lst1 h) h2 hk (by rw [List.length_singleton]; omega)
  rw [flat_one] at this
  exact this
def cutD (xs : List α) (lo hi : Option Int) : List α := (xs.drop (HT.sIx xs.length 0 lo)).take (HT.sIx xs.length xs.length hi - HT.sIx xs.length 0 lo)
theorem All2.cut [Mono R] {xs : List α} {vs : List V} (h : All2 R S xs vs) (lo hi : Option Int) : All2 R S (cutD xs lo hi) (cutV vs lo hi) := by
  unfold cutD cutV
  rw [h.len]
  exact (h.drop _).take _
theorem cut_take {xs : List α} (k : Nat) : cutD xs none (some (k : Int)) = xs.take k := by
  unfold cutD
  rw [HT.sIx_none, HT.sIx_nat, List.drop_zero, Nat.sub_zero]
  by_cases h : k ≤ xs.length
  · rw [Nat.min_eq_left h]
  · rw [Nat.min_eq_right (by omega), List.take_of_length_le (Nat.le_refl _), List.take_of_length_le (by omega)]
theorem cut_drop {xs : List α} (k : Nat) : cutD xs (some (k : Int)) none = xs.drop k := by
  unfold cutD
  rw [HT.sIx_none, HT.sIx_nat]
  by_cases h : k ≤ xs.length
  · rw [Nat.min_eq_left h, List.take_of_length_le]
    rw [List.length_drop]
    exact Nat.le_refl _
  · rw [Nat.min_eq_right (by omega), Nat.sub_self, List.take_zero, List.drop_eq_nil_of_le (by omega)]
theorem ev_slice [Mono R] {xs : List α} {tl th : TO} {lo hi : Option Int} (h : EvS r te s S fun v S1 => LstR R xs v S1) (hl : ∀ H Q, Q lo H → tl s H Q) (hh : ∀ H Q, Q hi H → th s H Q) : EvS r (tSl (rSlU K) te tl th) s S fun v S1 => LstR R (cutD xs lo hi) v S1 := fun S1 H e w Q q =>
  h S1 H e w _ fun x S2 H2 w2 s2 ⟨a, vs, h1, h2, h3⟩ => by
    have := EvN.lst (X := R) ((en_slice (te := tC (.ref a)) (r := r) (s := s) (S := S2) vv_c (SqL.of (K := K) h2) hl hh).imp fun o S3 e3 eo => ⟨cutV vs lo hi, eo, (h3.cut lo hi).up e3⟩)
    subst h1
    exact this S2 H2 (Ex.refl _) w2 _ fun v S3 H3 w3 s3 p => q v S3 H3 w3 (s2.trans s3) p
instance {γ : Type} : Mono (fun (_ : γ) _ _ => True : Rl γ) := ⟨fun _ _ => True.intro⟩
/-! ### what is only bounded -/
theorem All2.pick {B : α → Prop} {S : Hp} : ∀ {ys : List β} {vs : List V}, All2 (fun (_ : β) v S => ∃ b, B b ∧ R b v S) S ys vs → ∃ zs : List α, zs.length = ys.length ∧ (∀ z, z ∈ zs → B z) ∧ All2 R S zs vs
  | _, _, .nil => ⟨[], rfl, (fun z h => by cases h), .nil⟩
  | _, _, .cons ⟨b, hb, h⟩ t => by
    obtain ⟨zs, h1, h2, h3⟩ := All2.pick t
    refine ⟨b :: zs, by rw [List.length_cons, List.length_cons, h1], fun z hz => ?_, .cons h h3⟩
    rcases List.mem_cons.mp hz with rfl | hz
    · exact hb
    · exact h2 z hz
instance {B : α → Prop} [Mono R] : Mono (fun (_ : β) v S => ∃ b, B b ∧ R b v S : Rl β) := ⟨fun e ⟨b, h1, h2⟩ => ⟨b, h1, Mono.up e h2⟩⟩
/-- a comprehension whose items are only bounded -/
theorem en_lcx [Mono R] {wi : TI} {j : Nat} {vs : List Nat} {ys : List β} {X : Rl β} (B : α → Prop) (hi : EvI r wi s S ys X) (hz : ys.length ≤ 100000) (hw : ∀ v, wipe ((wipe s vs).set j (some v)) vs = wipe s vs)
    (hb : ∀ y v S1, Ex S S1 → y ∈ ys → X y v S1 → EvS r te ((wipe s vs).set j (some v)) S1 fun u S2 => ∃ b, B b ∧ R b u S2) :
    EvN r (tLc wi (gName j) tYes te vs) s S fun o S1 => ∃ zs ws, o = .lst ws ∧ zs.length = ys.length ∧ (∀ z, z ∈ zs → B z) ∧ All2 R S1 zs ws :=
  (en_lcn (Yr := fun (_ : β) v S => ∃ b, B b ∧ R b v S) (fun y => y) hi hz hw hb).imp fun o S1 _ ⟨ws, e, h⟩ => by
    rw [List.map_id'] at h
    obtain ⟨zs, h1, h2, h3⟩ := h.pick
    exact ⟨zs, ws, e, h1, h2, h3⟩
theorem ev_lcx [Mono R] {wi : TI} {j : Nat} {vs : List Nat} {ys : List β} {X : Rl β} (B : α → Prop) (hi : EvI r wi s S ys X) (hz : ys.length ≤ 100000) (hw : ∀ v, wipe ((wipe s vs).set j (some v)) vs = wipe s vs)
    (hb : ∀ y v S1, Ex S S1 → y ∈ ys → X y v S1 → EvS r te ((wipe s vs).set j (some v)) S1 fun u S2 => ∃ b, B b ∧ R b u S2) :
    EvS r (tLc wi (gName j) tYes te vs) s S fun v S1 => ∃ zs, zs.length = ys.length ∧ (∀ z, z ∈ zs → B z) ∧ LstR R zs v S1 :=
  EvN.stable (en_lcx B hi hz hw hb) fun p o S e n0 ⟨zs, ws, eo, hl, hz, h2⟩ => by
    subst eo
    exact ⟨zs, hl, hz, p, ws, rfl, upd_same, h2.up (Ex.new n0)⟩
/-- range(e) of an e that is only bounded -/
theorem lc_rng1 {P : Int → Prop} {g : TG} {vs : List Nat} (h : EvS r te s S fun v _ => ∃ n, v = .int n ∧ P n) (w : Wd r S H) {Q : VK} (k : ∀ n S1 H1, P n → Wd r S1 H1 → Stp r S H S1 H1 → tLc (iRng1 (tCons (tC (.int n)) tNil)) g tt ta vs s H1 Q) : tLc (iRng1 (tCons te tNil)) g tt ta vs s H Q :=
  h S H (Ex.refl _) w _ fun v S1 H1 w1 s1 ⟨n, e, p⟩ => by
    subst e
    exact k n S1 H1 p w1 s1
/-- [e for x in range(n)], n only bounded, the items only bounded -/
theorem ev_lcr [Mono R] {P : Int → Prop} {te0 : TE} {j : Nat} {vs : List Nat} (B : α → Prop) (h : EvS r te0 s S fun v _ => ∃ n, v = .int n ∧ P n) (hP : ∀ n, P n → n ≤ 100000 ∧ -100000 ≤ n) (hw : ∀ v, wipe ((wipe s vs).set j (some v)) vs = wipe s vs)
    (hb : ∀ (i : Nat) S1, Ex S S1 → EvS r te ((wipe s vs).set j (some (.int (i : Int)))) S1 fun u S2 => ∃ b, B b ∧ R b u S2) :
    EvS r (tLc (iRng1 (tCons te0 tNil)) (gName j) tYes te vs) s S fun v S1 => ∃ zs n, P n ∧ zs.length = n.toNat ∧ (∀ z, z ∈ zs → B z) ∧ LstR R zs v S1 := fun S1 H e w Q q =>
  lc_rng1 (EvS.mono e h) w fun n S2 H2 hp w2 s2 => by
    have hn := hP n hp
    exact ev_lcx (S := S2) B (ei_range1 (va_cons vv_c va_nil) (by omega)) (by rw [List.length_range]; omega) hw (fun y v S3 e3 _ hv => by
      rw [show v = _ from hv, Int.zero_add]
      exact hb y S3 (e.trans (s2.ex.trans e3))) S2 H2 (Ex.refl _) w2 Q fun v S3 H3 w3 s3 ⟨zs, h1, h2, h3⟩ => q v S3 H3 w3 (s2.trans s3) ⟨zs, n, hp, by rw [h1, List.length_range], h2, h3⟩
theorem for_rng1 {P : Int → Prop} {g : TG} (h : EvS r te s S fun v _ => ∃ n, v = .int n ∧ P n) (w : Wd r S H) (k : ∀ n S1 H1, P n → Wd r S1 H1 → Stp r S H S1 H1 → tFor (iRng1 (tCons (tC (.int n)) tNil)) g tu D s H1) : tFor (iRng1 (tCons te tNil)) g tu D s H :=
  h S H (Ex.refl _) w _ fun v S1 H1 w1 s1 ⟨n, e, p⟩ => by
    subst e
    exact k n S1 H1 p w1 s1
/-- x, y = (e, e') -/
theorem sq_tup2 {A B : V → Hp → Prop} {i j n : Nat} (hn : n = 2) (h : EvS r ta s S A) (h2 : ∀ S1, Ex S S1 → EvS r tb s S1 B) (m : ∀ v S1 S2, Ex S1 S2 → A v S1 → A v S2) (w : Wd r S H) (k : ∀ v v' S1 H1, Wd r S1 H1 → Stp r S H S1 H1 → A v S1 → B v' S1 → tz D ((s.set i (some v)).set j (some v')) H1) : tSeq (tAsg (tTup (tCons ta (tCons tb tNil))) (gTup K n (gCons (gName i) (gCons (gName j) gNil)))) tz D s H :=
  h S H (Ex.refl _) w _ fun v S2 H2 w2 s2 hv => h2 S2 s2.ex S2 H2 (Ex.refl _) w2 _ fun v' S3 H3 w3 s3 hv' => ⟨sz_of (show [v, v'].length ≤ 100000 by simp), fun p hp => ⟨p, [v, v'], rfl, SqT.of upd_same, hn.symm, v, _, rfl, v', _, rfl, rfl, k v v' S3 _ (w3.new hp) ((s2.trans s3).trans (Stp.new hp)) (m _ _ _ s3.ex hv) hv'⟩⟩
theorem ev_v [Mono R] {i : Nat} {a : α} (h : s[i]? = some (some v)) (p : R a v S) : EvS r (tVar i) s S fun v S1 => R a v S1 := ev_var h p fun S1 e q => Mono.up e q
theorem sq_asgRun {i : Nat} (k : te s H fun v H1 => tz D (s.set i (some v)) H1) : tSeq (tAsg te (gName i)) tz D s H := k
theorem st_ifNo (h : EvB r t s S false) (w : Wd r S H) (k : ∀ S1 H1, Wd r S1 H1 → Stp r S H S1 H1 → D.nx s H1) : tIfS t tu tNext D s H :=
  st_if h w (fun e => nomatch e) fun _ S1 H1 w1 s1 => k S1 H1 w1 s1
/-- an empty list of what failed -/
theorem ev_none {wi : TI} {j : Nat} {vs : List Nat} {ys : List β} {X : Rl β} [Mono R] (hi : EvI r wi s S ys X) (hz : ys.length ≤ 100000) (hw : ∀ v, wipe ((wipe s vs).set j (some v)) vs = wipe s vs)
    (ht : ∀ y v S1, Ex S S1 → y ∈ ys → X y v S1 → EvB r tt ((wipe s vs).set j (some v)) S1 false) : EvS r (tLc wi (gName j) tt te vs) s S fun v S1 => LstR R [] v S1 :=
  EvN.lst (X := R) ((en_lct (fun _ => false) (fun y => y) (Yr := fun (_ : β) _ _ => True) hi hz hw ht fun y v S1 _ _ z => nomatch z).imp fun o S1 _ ⟨ws, e, h⟩ => by
    rw [List.filter_eq_nil_iff.mpr (fun a _ z => by cases z)] at h
    cases h
    exact ⟨[], e, .nil⟩)
/-- x = an expression that is run as it stands -/
theorem sq_run {g : TG} (h : te s H fun v H1 => g v s H1 fun s2 H2 => tz D s2 H2) : tSeq (tAsg te g) tz D s H := h
end
end
end J

/-! J11: ranges as lists, dicts, written constants, zip of tuples, while, instances made by keywords. -/
namespace J
open PySem PySem.Spec L2 Evl RZ
section
variable {r : Rs} {s : L2.St} {S S' H : Hp} {ta tb tc te ti : TE} {t u : TT} {tt : TT} {x y z v : V} {K : PySem.W.Frag} {α β γ : Type} {R : Rl α} {R' : Rl β} {tu tw tz : TS} {D : Ends} {w : World}
/-! ### list(range(..)) -/
def rgI (a b : Int) : List Int := (List.range (b - a).toNat).map fun i : Nat => a + (i : Int)
theorem rgI_V (a b : Int) : rgV a b = (rgI a b).map V.int := by
  unfold rgV rgI
  rw [List.map_map]
  rfl
theorem ev_listRg1 {n : Int} (h : EvV r ta s S (.int n)) (hn : -1000000 ≤ n ∧ n ≤ 1000000) : EvS r (tLstRg (tRg1 ta)) s S fun v S1 => LstR IntR (rgI 0 n) v S1 := fun S1 H e w0 Q q =>
  h S1 H e w0 _ fun x S2 H2 w2 s2 ex => ⟨n, ex, by unfold RgOk; omega, fun p hp => q (.ref p) (upd S2 p (.lst (rgV 0 n))) _ (w2.newS hp) (s2.trans (Stp.newS w2 hp)) ⟨p, _, rfl, upd_same, by rw [rgI_V]; exact All2.of_ints _⟩⟩
theorem ev_listRg2 {a b : Int} (h : EvV r ta s S (.int a)) (h2 : EvV r tb s S (.int b)) (hn : -1000000 ≤ a ∧ a ≤ 1000000 ∧ -1000000 ≤ b ∧ b ≤ 1000000) : EvS r (tLstRg (tRg2 ta tb)) s S fun v S1 => LstR IntR (rgI a b) v S1 := fun S1 H e w0 Q q =>
  h S1 H e w0 _ fun x S2 H2 w2 s2 ex => h2 S2 H2 (e.trans s2.ex) w2 _ fun y S3 H3 w3 s3 ey => ⟨a, b, ex, ey, by unfold RgOk; omega, fun p hp => q (.ref p) (upd S3 p (.lst (rgV a b))) _ (w3.newS hp) ((s2.trans s3).trans (Stp.newS w3 hp)) ⟨p, _, rfl, upd_same, by rw [rgI_V]; exact All2.of_ints _⟩⟩
/-! ### dicts -/
theorem vv_dget {a : Addr} {kvs : List (Key × V)} {k : Key} (h : EvV r ta s S (.ref a)) (hi : EvV r ti s S (kV k)) (ha : S a = some (.dK kvs)) (hk : valV kvs k = some v) : EvV r (tDGet ta ti) s S v := fun S1 H e w0 Q q =>
  h S1 H e w0 _ fun x S2 H2 w2 s2 ex => hi S2 H2 (e.trans s2.ex) w2 _ fun y S3 H3 w3 s3 ey => ⟨a, v, ex, .inl ⟨kvs, k, .inl (w3.ex _ _ (s3.ex _ _ (s2.ex _ _ (e _ _ ha)))), ey, hk.symm⟩, q v S3 H3 w3 (s2.trans s3) rfl⟩
/-- a text's value in a written dict -/
theorem rs_kd {a : Addr} {z : Str} (h : KDct K w a z v) : RVS (rIxD K w) (.ref a) (.str z) S v := fun H _ Q q => ⟨a, z, v, rfl, rfl, h, q⟩
theorem ix_kdK {X : Cx} (hK : X.K = K := by rfl) (hw : X.w = w := by rfl) : IxR X (rIxD K w) := by
  subst hK
  subst hw
  exact ix_kdict
/-! ### in a tuple of data -/
def rInDT (K : PySem.W.Frag) : R2 := fun x y H Q => ∃ d ds, Dp K H x d ∧ Dp K H y (.tuple ds) ∧ SeqAt.shaped d = true ∧ SeqAt.shaped (.tuple ds) = true ∧ Q (.bl (ds.any fun z => PyData.eqv z d)) H
theorem op_inDT {X : Cx} (hu : X.A.units + 65 < cLine) : OpR X (compareOp .In) (rInDT X.K) := by
  intro pins s σ H x y v u Q I rx ry h
  obtain ⟨d, ds, hd, he, sd, se, q⟩ := h
  obtain ⟨as, r1⟩ := Dp.reads I d x v hd rx
  obtain ⟨bs, r2⟩ := Dp.reads I (.tuple ds) y u he ry
  exact SeqAt.in_tuple_reads r2 r1 (by simpa [PyData.canLay0] using SeqAt.canLay_of_shaped se) (SeqAt.canLay_of_shaped sd) (PyProof.Rows.room_in_shaped sd hu) ⟨.bl _, H, I, rfl, q⟩
theorem op_inDTK {X : Cx} (hu : X.A.units + 65 < cLine) (hK : X.K = K := by rfl) : OpR X (compareOp .In) (rInDT K) := by
  subst hK
  exact op_inDT hu
theorem op_inDK {X : Cx} (hu : X.A.units + 65 < cLine) (hK : X.K = K := by rfl) : OpR X (compareOp .In) (rInD K) := by
  subst hK
  exact op_inD hu
theorem op_notInDK {X : Cx} (hu : X.A.units + 65 < cLine) (hK : X.K = K := by rfl) : OpR X (compareOp .NotIn) (rNotInD K) := by
  subst hK
  exact op_notInD hu
theorem units65 {k : Nat} {A : Around} (r : Room k A) : A.units + 65 < cLine := by
  have := r.un
  omega
theorem units1 {k : Nat} {A : Around} (r : Room k A) : A.units + 1 < cLine := by
  have := r.un
  omega
theorem rs_inDT {d : PyData} {ds : List PyData} (h1 : Dp K S x d) (h2 : Dp K S y (.tuple ds)) (s1 : SeqAt.shaped d = true) (s2 : SeqAt.shaped (.tuple ds) = true) : RVS (rInDT K) x y S (.bl (ds.any fun z => PyData.eqv z d)) := fun H ex Q q => ⟨d, ds, dp_up ex _ _ h1, dp_up ex _ _ h2, s1, s2, q⟩
theorem rs_inD {d : PyData} {ds : List PyData} (h1 : Dp K S x d) (h2 : Dp K S y (.list ds)) (s1 : SeqAt.shaped d = true) (s2 : SeqAt.shaped (.list ds) = true) : RVS (rInD K) x y S (.bl (ds.any fun z => PyData.eqv z d)) := fun H ex Q q => ⟨d, ds, dp_up ex _ _ h1, dp_up ex _ _ h2, s1, s2, q⟩
/-! ### zip -/
theorem walk_zipT {a b : Addr} {xs ys : List V} {n : Nat} (hn : n = min xs.length ys.length) : Walk (ItzT K a b) n (fun H => SqT K H a xs ∧ SqT K H b ys) (YPair (fun i => xs[i]?) (fun i => ys[i]?)) := by
  subst hn
  refine ⟨fun i _ hi q => ?_, fun _ q => ⟨xs, ys, q.1, q.2, by omega⟩, fun i H v H' _ q y => ?_⟩
  · have h1 : i < xs.length := by omega
    have h2 : i < ys.length := by omega
    exact ⟨xs, ys, xs[i], ys[i], q.1, q.2, by simp [h1], by simp [h2]⟩
  · obtain ⟨T, x, z, h1, h2, h3, h4, h5⟩ := y
    exact ⟨T, x, z, h1, h2, h3, h4 xs q.1, h5 ys q.2⟩
theorem pi_zipAK {X : Cx} {e e2 : Expr} {ta : TA} {p pos tpos : Pos} {elts : List Expr} {kk : Nat} (hg : Gl X "zip") (hm : X.mg "zip" = none) (ha : PA X [e, e2] ta) (hs : starEach [e, e2] X.env = (false, eval e X.env) :: starEach [e2] X.env := by rfl) (hpl : (backTo pos (starEach [e2] X.env)).any (·.1) = false := by rfl) (hK : X.K = K := by rfl) : PI X (.Tuple elts kk tpos) (.Call (.Name "zip" p) [e, e2] [] pos) (iZipA K ta) := by
  subst hK
  exact pi_zipA hg hm ha hs hpl
theorem ei_zipT {ta : TA} {ys : List α} {zs : List β} {X : Rl α} {X' : Rl β} [Mono X] [Mono X'] (h : EvAS r ta s S fun us S1 => ∃ a b vs ws, us = [.ref a, .ref b] ∧ SqT K S1 a vs ∧ SqT K S1 b ws ∧ All2 X S1 ys vs ∧ All2 X' S1 zs ws) : EvI r (iZipA K ta) s S (ys.zip zs) (PairR K X X') := fun S1 H a w R q =>
  h S1 H a w _ fun us S2 H2 w2 s2 ⟨b, c, vs, ws, e1, e2, e2', e3, e3'⟩ => ⟨b, c, vs, ws, e1, .inr ⟨ex_t w2.ex e2, ex_t w2.ex e2', q (ItzT K b c) S2 H2 (fun H => SqT K H b vs ∧ SqT K H c ws) (YPair (fun i => vs[i]?) (fun i => ws[i]?)) w2 s2 (walk_zipT (K := K) (a := b) (b := c) (xs := vs) (ys := ws) (by
      rw [List.length_zip, e3.len, e3'.len])) (fun S' H' e w' => ⟨ex_t w'.ex (ex_t e e2), ex_t w'.ex (ex_t e e2')⟩) fun i S' H' v H'' hi e w' ⟨T, x, y, e4, e5, e6, e7, e8⟩ => by
      obtain ⟨y', h1, h2⟩ := (e3.up e).get e7
      obtain ⟨z', h1', h2'⟩ := (e3'.up e).get e8
      subst e6
      exact ⟨_, _, zip_get h1 h1', w'.newS e5, Stp.newS w' e5, T, _, _, e4, SqT.of upd_same, Mono.up (Ex.new (w'.fresh e5)) h2, Mono.up (Ex.new (w'.fresh e5)) h2'⟩⟩⟩
theorem ei_zipL {ta : TA} {ys : List α} {zs : List β} {X : Rl α} {X' : Rl β} [Mono X] [Mono X'] (h : EvAS r ta s S fun us S1 => ∃ a b vs ws, us = [.ref a, .ref b] ∧ SqL K S1 a vs ∧ SqL K S1 b ws ∧ All2 X S1 ys vs ∧ All2 X' S1 zs ws) : EvI r (iZipA K ta) s S (ys.zip zs) (PairR K X X') := fun S1 H a w R q =>
  h S1 H a w _ fun us S2 H2 w2 s2 ⟨b, c, vs, ws, e1, e2, e2', e3, e3'⟩ => ⟨b, c, vs, ws, e1, .inl ⟨ex_l w2.ex e2, ex_l w2.ex e2', q (Itz K b c) S2 H2 (fun H => SqL K H b vs ∧ SqL K H c ws) (YPair (fun i => vs[i]?) (fun i => ws[i]?)) w2 s2 (walk_zip (K := K) (a := b) (b := c) (xs := vs) (ys := ws) (by
      rw [List.length_zip, e3.len, e3'.len])) (fun S' H' e w' => ⟨ex_l w'.ex (ex_l e e2), ex_l w'.ex (ex_l e e2')⟩) fun i S' H' v H'' hi e w' ⟨T, x, y, e4, e5, e6, e7, e8⟩ => by
      obtain ⟨y', h1, h2⟩ := (e3.up e).get e7
      obtain ⟨z', h1', h2'⟩ := (e3'.up e).get e8
      subst e6
      exact ⟨_, _, zip_get h1 h1', w'.newS e5, Stp.newS w' e5, T, _, _, e4, SqT.of upd_same, Mono.up (Ex.new (w'.fresh e5)) h2, Mono.up (Ex.new (w'.fresh e5)) h2'⟩⟩⟩
/-! ### while -/
/-- P a measure, a state -/
theorem st_while {t : TT} (P : Nat → L2.St → Hp → Hp → Prop) {m0 : Nat} (h0 : P m0 s S H)
    (hs : ∀ m s' S' H', P m s' S' H' → t s' H' fun b H1 => if b = true then ∃ N : L2.St → Hp → Prop, (∀ s2 H2, N s2 H2 → ∃ m2, m2 < m ∧ ∃ S2, P m2 s2 S2 H2) ∧ tu { D with nx := N, ct := N, bk := D.nx } s' H1 else D.nx s' H1) : tWhile t tu D s H :=
  ⟨fun m s' H' => ∃ S', P m s' S' H', ⟨m0, S, h0⟩, fun m s' H' ⟨S', p⟩ => hs m s' S' H' p⟩
theorem sq_while {t : TT} (P : Nat → L2.St → Hp → Hp → Prop) {m0 : Nat} (h0 : P m0 s S H)
    (hs : ∀ m s' S' H', P m s' S' H' → t s' H' fun b H1 => if b = true then ∃ N : L2.St → Hp → Prop, (∀ s2 H2, N s2 H2 → ∃ m2, m2 < m ∧ ∃ S2, P m2 s2 S2 H2) ∧ tu { D with nx := N, ct := N, bk := tz D } s' H1 else tz D s' H1) : tSeq (tWhile t tu) tz D s H := st_while (D := { D with nx := tz D }) P h0 hs
theorem wh_go {m : Nat} {P : Nat → L2.St → Hp → Hp → Prop} {X : Prop} (h : tu { D with nx := fun s2 H2 => ∃ m2 S2, m2 < m ∧ P m2 s2 S2 H2, ct := fun s2 H2 => ∃ m2 S2, m2 < m ∧ P m2 s2 S2 H2, bk := D.nx } s H) : if true = true then ∃ N : L2.St → Hp → Prop, (∀ s2 H2, N s2 H2 → ∃ m2, m2 < m ∧ ∃ S2, P m2 s2 S2 H2) ∧ tu { D with nx := N, ct := N, bk := D.nx } s H else X := ⟨_, fun s2 H2 ⟨m2, S2, hm, p⟩ => ⟨m2, hm, S2, p⟩, h⟩
/-! ### instances made by keywords -/
theorem make_tail {A : Type} {C : Addr} {pre : A → List V → Hp → Prop} {fr : A → List (Str × V) → Hp → Prop} {E : XK} {R : HO → Hp → Prop} {a : A} {us : List V} {S1 S2 H2 : Hp} {Q : VK} {x dx : Addr} (w2 : Wd r S2 H2) (s2 : Stp r S1 H S2 H2) (hx : H2 x = none) (hdx : H2 dx = none) (ne : dx ≠ x) (p1 : pre a us S2)
    (p2 : ∀ dx fs S3, Ex S2 S3 → fr a fs S3 → R (.ins C dx fs) S3) (q : ∀ p o S2 H2, H p = none → H2 p = some o → S2 p = none → Wd r S2 H2 → Stp r S1 H S2 H2 → R o S2 → Q (.ref p) H2) :
    SpInit C pre fr (.ref x :: us) (upd (upd H2 dx (.own x)) x (.ins C dx [])) (fun v H3 => v = .non ∧ Q (.ref x) H3) E := by
  have hx1 : (upd H2 dx (.own x)) x = none := by
    rw [upd_ne ne.symm]
    exact hx
  have w3 : Wd r S2 (upd (upd H2 dx (.own x)) x (.ins C dx [])) := (w2.new hdx).new hx1
  have s3 : Stp r S2 H2 S2 (upd (upd H2 dx (.own x)) x (.ins C dx [])) := (Stp.new hdx).trans (Stp.new hx1)
  have h0 : H x = none := pre_none s2 hx
  have hM : x ∉ r.M := w2.notM hx
  refine ⟨a, S2, x, dx, _, rfl, p1, upd_same, w2.fresh hx, ⟨w3.ex, True.intro, fun b hb => by cases hb⟩, fun S4 H4 fs w4 s4 n4 g4 f4 => ⟨rfl, ?_⟩⟩
  have kp : ∀ b o, b ≠ x → (upd (upd H2 dx (.own x)) x (.ins C dx [])) b = some o → H4 b = some o := fun b o nb eb => s4.kp b o (fun z => (List.mem_append.mp z).elim (fun z => nb (List.mem_singleton.mp z)) (fun z => by cases z)) eb
  refine q x _ S4 H4 h0 g4 n4 ⟨w4.ex, r.mono _ _ (fun b o hb eb => kp b o (fun z => hM (z ▸ hb)) eb) (fun b q eb => kp b _ (fun z => nco_ins upd_same q (z ▸ eb)) eb) w3.inv, fun b hb => s4.fr b (r.has _ w3.inv b hb) (w3.dj b hb)⟩ ?_ (p2 dx fs S4 s4.ex f4)
  refine ⟨s2.ex.trans (s3.ex.trans s4.ex), fun b o nb eb => ?_, fun b hb hs => s4.fr b (s3.dm b (s2.dm b hb)) (s3.fr b (s2.dm b hb) (s2.fr b hb hs)), fun b hb => s4.dm b (s3.dm b (s2.dm b hb))⟩
  exact kp b o (ne_of_none eb h0) (s3.kp b o nb (s2.kp b o nb eb))
/-- C(k = v, ..), keywords only -/
theorem en_makeK0 {A : Type} {C : Addr} {pre : A → List V → Hp → Prop} {fr : A → List (Str × V) → Hp → Prop} {E : XK} {m : Nat} {gV : List V → List V → List V} {tk : TA} {P : List V → Hp → Prop} {R : HO → Hp → Prop} (h : EvAS r tk s S P)
    (hp : ∀ zs S1, Ex S S1 → P zs S1 → zs.length = m ∧ ∃ a us, (∀ x, gV [.ref x] zs = .ref x :: us) ∧ pre a us S1 ∧ ∀ dx fs S2, Ex S1 S2 → fr a fs S2 → R (.ins C dx fs) S2) :
    EvN r (tMakeK C 0 m (SpInit C pre fr) gV E tNil tk) s S R := fun S1 H e w0 Q q =>
  h S1 H e w0 _ fun zs S2 H2 w2 s2 hz => by
    obtain ⟨l2, a, us, hg, p1, p2⟩ := hp zs S2 (e.trans s2.ex) hz
    refine ⟨rfl, l2, fun x dx hx hd ne => ?_⟩
    rw [hg x]
    exact make_tail w2 s2 hx hd ne p1 p2 q
/-! ### a new dict by a display -/
theorem tp_nil {Q : List (V × V) → Hp → Prop} (h : Q [] H) : tPairs [] s H Q := h
theorem en_disp {trs : List (TE × TE)} {Q : VK} (w0 : Wd r S H) {kvs : List (Key × V)} (hl : kvs.length ≤ 15) (hk : mergeK [] kvs = kvs)
    (h : ∀ p, H p = none → S p = none → ∀ Q2 : List (V × V) → Hp → Prop, (∀ S2 H2, Wd r S2 H2 → Stp r S (upd H p (.dK [])) S2 H2 → Q2 (kvs.map fun kv => (kV kv.1, kv.2)) H2) → tPairs trs s (upd H p (.dK [])) Q2)
    (q : ∀ p S2 H2, H p = none → S2 p = none → H2 p = some (.dK kvs) → Wd r S2 H2 → Stp r S H S2 H2 → Q (.ref p) H2) : tDisp trs s H Q := fun p hp =>
  h p hp (w0.fresh hp) _ fun S2 H2 w2 s2 => by
    have np : p ∉ r.M := w0.notM hp
    have h2 : H2 p = some (.dK []) := s2.kp p _ np upd_same
    have n2 : S2 p = none := s2.fr p (ne_none upd_same) (w0.fresh hp)
    refine ⟨h2, kvs, rfl, hl, ?_⟩
    rw [hk]
    exact q p S2 _ hp n2 upd_same (w2.mut n2 np) (((Stp.new hp).trans s2).mut hp)
end
end J

/-! J12: pairs of a display of a dict, tuple(..) of both kinds, methods and properties that change nothing, targets of two and three names. -/
namespace J
open PySem PySem.Spec L2 Evl RZ
section
variable {r : Rs} {s : L2.St} {S S' H : Hp} {ta tb tc te ti : TE} {t u : TT} {tt : TT} {x y z v : V} {K : PySem.W.Frag} {α β γ : Type} {R : Rl α} {R' : Rl β} {R'' : Rl γ} {tu tw tz : TS} {D : Ends} {w : World}
theorem All2.of_strs {S : Hp} : ∀ (xs : List Str), All2 StrR S xs (xs.map V.str)
  | [] => .nil
  | x :: r => .cons rfl (All2.of_strs r)
def EvP (r : Rs) (trs : List (TE × TE)) (s : L2.St) (S : Hp) (P : List (V × V) → Hp → Prop) : Prop := ∀ S1 H, Ex S S1 → Wd r S1 H → ∀ Q : List (V × V) → Hp → Prop, (∀ ps S2 H2, Wd r S2 H2 → Stp r S1 H S2 H2 → P ps S2 → Q ps H2) → tPairs trs s H Q
theorem ep_nil : EvP r [] s S fun ps _ => ps = [] := fun S1 H e w Q q => q [] S1 H w Stp.refl rfl
theorem ep_cons {tk tv : TE} {trs : List (TE × TE)} {A : V → Hp → Prop} {P : List (V × V) → Hp → Prop} (hk : EvV r tk s S x) (hv : EvS r tv s S A) (hr : ∀ v S1, Ex S S1 → A v S1 → EvP r trs s S1 fun ps S2 => P ((x, v) :: ps) S2) : EvP r ((tk, tv) :: trs) s S P := fun S1 H e w Q q =>
  hk S1 H e w _ fun x' S2 H2 w2 s2 ex => hv S2 H2 (e.trans s2.ex) w2 _ fun v S3 H3 w3 s3 hv' => hr v S3 (e.trans (s2.ex.trans s3.ex)) hv' S3 H3 (Ex.refl _) w3 _ fun ps S4 H4 w4 s4 p => by
    subst ex
    exact q _ S4 H4 w4 (s2.trans (s3.trans s4)) p
theorem en_dispP {trs : List (TE × TE)} {R : HO → Hp → Prop} (h : EvP r trs s S fun ps S1 => ∃ kvs : List (Key × V), ps = kvs.map (fun kv => (kV kv.1, kv.2)) ∧ kvs.length ≤ 15 ∧ mergeK [] kvs = kvs ∧ R (.dK kvs) S1) : EvN r (tDisp trs) s S R := fun S1 H e w Q q p hp =>
  h S1 (upd H p (.dK [])) e (w.new hp) _ fun ps S2 H2 w2 s2 ⟨kvs, e1, e2, e3, e4⟩ => by
    have np : p ∉ r.M := w.notM hp
    have h2 : H2 p = some (.dK []) := s2.kp p _ np upd_same
    have n2 : S2 p = none := s2.fr p (ne_none upd_same) (w.fresh hp)
    refine ⟨h2, kvs, e1, e2, ?_⟩
    rw [e3]
    exact q p _ S2 _ hp upd_same n2 (w2.mut n2 np) (((Stp.new hp).trans s2).mut hp) e4
/-- tuple(a list or a tuple) -/
theorem ev_tupS [Mono R] {ys : List α} (h : EvS r te s S fun v S1 => SeqR K R ys v S1) : EvS r (tCB (rTupleU K) (tCons te tNil)) s S fun v S1 => TupR K R ys v S1 := fun S1 H e w Q q =>
  h S1 H e w _ fun v S2 H2 w2 s2 hv => ⟨v, rfl, by
    rcases hv with ⟨a, vs, e1, e2, e3⟩ | ⟨a, vs, e1, e2, e3⟩
    · exact .inl ⟨a, vs, e1, SqL.of (w2.ex _ _ e2), fun p hp => q (.ref p) (upd S2 p (.tup vs)) _ (w2.newS hp) (s2.trans (Stp.newS w2 hp)) ⟨p, vs, rfl, SqT.of upd_same, e3.up (Ex.new (w2.fresh hp))⟩⟩
    · subst e1
      exact .inr ⟨a, vs, rfl, ex_t w2.ex e2, q (.ref a) S2 H2 w2 s2 ⟨a, vs, rfl, e2, e3⟩⟩⟩
/-- o.p, o.m(..) where nothing is changed -/
theorem ev_propP {A : Type} {C : Addr} {pre : A → List V → Hp → Prop} {post : A → V → Hp → Prop} {E : XK} {Q1 : V → Hp → Prop} {R : V → Hp → Prop} (h : EvS r ta s S Q1) (hp : ∀ x S1, Ex S S1 → Q1 x S1 → ∃ a dx fs, x = .ref a ∧ S1 a = some (.ins C dx fs) ∧ ∃ b, pre b [x] S1 ∧ ∀ v S2, Ex S1 S2 → post b v S2 → R v S2) : EvS r (tProp C (SpP pre post) [] E ta) s S R := fun S1 H e w Q q =>
  h S1 H e w _ fun x S2 H2 w2 s2 hx => by
    obtain ⟨a, dx, fs, e1, e2, b, p1, p2⟩ := hp x S2 (e.trans s2.ex) hx
    subst e1
    exact ⟨a, dx, fs, rfl, w2.ex _ _ e2, b, S2, p1, w2.ex, fun v S3 H3 w3 s3 p3 => q v S3 H3 (w2.lift w3 s3) (s2.trans s3.lift) (p2 v S3 s3.ex p3)⟩
theorem ev_methP {A : Type} {C : Addr} {mn : Str} {pre : A → List V → Hp → Prop} {post : A → V → Hp → Prop} {E : XK} {ts : TA} {Q1 : V → Hp → Prop} {R : V → Hp → Prop} {vs : List V} (h : EvS r ta s S Q1) (h2 : EvAV r ts s S vs)
    (hp : ∀ x S1 S2, Ex S S1 → Q1 x S1 → Ex S1 S2 → ∃ a dx fs, x = .ref a ∧ S1 a = some (.ins C dx fs) ∧ fs.lookup mn = none ∧ ∃ b, pre b (x :: vs) S2 ∧ ∀ v S3, Ex S2 S3 → post b v S3 → R v S3) : EvS r (tMeth C mn (SpP pre post) [] E ta ts) s S R := fun S1 H e w Q q =>
  h S1 H e w _ fun x S2 H2 w2 s2 hx => by
    obtain ⟨a, dx, fs, e1, e2, e3, _⟩ := hp x S2 S2 (e.trans s2.ex) hx (Ex.refl _)
    subst e1
    refine ⟨a, dx, fs, rfl, w2.ex _ _ e2, e3, h2 S2 H2 (e.trans s2.ex) w2 _ fun us S3 H3 w3 s3 eu => ?_⟩
    obtain ⟨a', dx', fs', e1', e2', e3', b, p1, p2⟩ := hp (.ref a) S2 S3 (e.trans s2.ex) hx s3.ex
    subst eu
    exact ⟨b, S3, by rw [List.append_nil]; exact p1, w3.ex, fun v S4 H4 w4 s4 p4 => q v S4 H4 (w3.lift w4 s4) ((s2.trans s3).trans s4.lift) (p2 v S4 s4.ex p4)⟩
/-! ### targets -/
theorem g_two {i j n : Nat} {p : α × β} {Q : L2.St → Hp → Prop} (hn : n = 2) (h : PairR K R R' p v S) (w0 : Wd r S H) (k : ∀ x y, R p.1 x S → R' p.2 y S → Q ((s.set i (some x)).set j (some y)) H) : gTup K n (gCons (gName i) (gCons (gName j) gNil)) v s H Q := by
  obtain ⟨T, x, y, e, hT, h1, h2⟩ := h
  exact ⟨T, _, e, ex_t w0.ex hT, hn.symm, _, _, rfl, _, _, rfl, rfl, k x y h1 h2⟩
theorem g_three {i j l n : Nat} {p : α × β × γ} {Q : L2.St → Hp → Prop} (hn : n = 3) (h : TripR K R R' R'' p v S) (w0 : Wd r S H) (k : ∀ x y z, R p.1 x S → R' p.2.1 y S → R'' p.2.2 z S → Q (((s.set i (some x)).set j (some y)).set l (some z)) H) : gTup K n (gCons (gName i) (gCons (gName j) (gCons (gName l) gNil))) v s H Q := by
  obtain ⟨T, x, y, z, e, hT, h1, h2, h3⟩ := h
  exact ⟨T, _, e, ex_t w0.ex hT, hn.symm, _, _, rfl, _, _, rfl, _, _, rfl, rfl, k x y z h1 h2 h3⟩
/-! ### arguments -/
theorem ea_two {A B : V → Hp → Prop} (h : EvS r ta s S A) (h2 : ∀ S1, Ex S S1 → EvS r tb s S1 B) (m : ∀ v S1 S2, Ex S1 S2 → A v S1 → A v S2) : EvAS r (tCons ta (tCons tb tNil)) s S fun us S1 => ∃ x y, us = [x, y] ∧ A x S1 ∧ B y S1 := fun S1 H e w Q q =>
  h S1 H e w _ fun x S2 H2 w2 s2 hx => h2 S2 (e.trans s2.ex) S2 H2 (Ex.refl _) w2 _ fun y S3 H3 w3 s3 hy => q _ S3 H3 w3 (s2.trans s3) ⟨x, y, rfl, m _ _ _ s3.ex hx, hy⟩
theorem All2.vals {S : Hp} : ∀ (vs : List V), All2 ValR S vs vs
  | [] => .nil
  | _ :: r => .cons rfl (All2.vals r)
theorem ev_tupV {ta : TA} {vs : List V} (h : EvAV r ta s S vs) (hl : vs.length ≤ 100000) : EvS r (tTup ta) s S fun v S1 => TupR K ValR vs v S1 :=
  EvN.tup (X := ValR) ((en_tup h (fun us _ e => by rw [e]; exact hl)).imp fun o S1 _ ⟨us, e1, e2⟩ => ⟨us, e1, by rw [e2]; exact All2.vals _⟩)
theorem ev_lstV {ta : TA} {vs : List V} (h : EvAV r ta s S vs) (hl : vs.length ≤ 100000) : EvS r (tLst ta) s S fun v S1 => LstR ValR vs v S1 :=
  EvN.lst (X := ValR) ((en_lst h (fun us _ e => by rw [e]; exact hl)).imp fun o S1 _ ⟨us, e1, e2⟩ => ⟨us, e1, by rw [e2]; exact All2.vals _⟩)
theorem ei_zipTT [Mono R] [Mono R'] {ys : List α} {zs : List β} (h : EvS r ta s S fun v S1 => TupR K R ys v S1) (h2 : ∀ S1, Ex S S1 → EvS r tb s S1 fun v S2 => TupR K R' zs v S2) : EvI r (iZipA K (tCons ta (tCons tb tNil))) s S (ys.zip zs) (PairR K R R') :=
  ei_zipT ((ea_two h h2 fun v S1 S2 e p => Mono.up e p).imp' fun us S1 _ ⟨x, y, e, ⟨a, vs, e1, e2, e3⟩, ⟨b, ws, e4, e5, e6⟩⟩ => ⟨a, b, vs, ws, by rw [e, e1, e4], e2, e5, e3, e6⟩)
theorem ei_zipLL [Mono R] [Mono R'] {ys : List α} {zs : List β} (h : EvS r ta s S fun v S1 => LstR R ys v S1) (h2 : ∀ S1, Ex S S1 → EvS r tb s S1 fun v S2 => LstR R' zs v S2) : EvI r (iZipA K (tCons ta (tCons tb tNil))) s S (ys.zip zs) (PairR K R R') :=
  ei_zipL ((ea_two h h2 fun v S1 S2 e p => Mono.up e p).imp' fun us S1 _ ⟨x, y, e, ⟨a, vs, e1, e2, e3⟩, ⟨b, ws, e4, e5, e6⟩⟩ => ⟨a, b, vs, ws, by rw [e, e1, e4], SqL.of e2, SqL.of e5, e3, e6⟩)
/-- a written tuple of texts -/
theorem ev_kTup {a : Addr} {zs : List Str} (h : ∀ H : Hp, SqT K H a (zs.map V.str)) : EvS r (tC (.ref a)) s S fun v S1 => TupR K StrR zs v S1 := vv_c.imp fun v S1 _ e => ⟨a, _, e, h S1, All2.of_strs zs⟩
end
end J

/-! J13: sequences of both kinds; tuples cut and joined. -/
namespace J
open PySem PySem.Spec L2 Evl RZ
section
variable {r : Rs} {s : L2.St} {S S' H : Hp} {ta tb tc te ti : TE} {t u : TT} {tt : TT} {x y z v : V} {K : PySem.W.Frag} {α β γ : Type} {R : Rl α} {R' : Rl β} {R'' : Rl γ} {tu tw tz : TS} {D : Ends} {w : World}
theorem nt {b : Bool} (h : (!b) = true) : b = false := by
  cases b
  · rfl
  · cases h
theorem nf {b : Bool} (h : (!b) = false) : b = true := by
  cases b
  · cases h
  · rfl
/-- what a name holds is walked, a list or a tuple -/
theorem ei_seqV [Mono R] {i : Nat} {ys : List α} (h : s[i]? = some (some v)) (p : SeqR K R ys v S) : EvI r (iU K (tVar i)) s S ys R := by
  rcases p with p | p
  · exact ei_list (ev_v (R := LstR R) h p)
  · exact ei_tup (ev_v (R := TupR K R) h p)
theorem len_v [Mono R] {i : Nat} {ys : List α} (h : s[i]? = some (some v)) (p : SeqR K R ys v S) : EvV r (tCB (rLenU K) (tCons (tVar i) tNil)) s S (.int (ys.length : Int)) := vv_len (X := R) (ev_v (R := SeqR K R) h p)
theorem ev_sliceT [Mono R] {xs : List α} {tl th : TO} {lo hi : Option Int} (h : EvS r te s S fun v S1 => TupR K R xs v S1) (hl : ∀ H Q, Q lo H → tl s H Q) (hh : ∀ H Q, Q hi H → th s H Q) : EvS r (tSl (rSlU K) te tl th) s S fun v S1 => TupR K R (cutD xs lo hi) v S1 := fun S1 H e w Q q =>
  h S1 H e w _ fun x S2 H2 w2 s2 ⟨a, vs, h1, h2, h3⟩ => hl _ _ (hh _ _ (.inl (.inr ⟨a, vs, h1, ex_t w2.ex h2, fun hw => by
    have e : cutD xs lo hi = xs := by
      unfold cutD
      rw [← h3.len, hw.1, hw.2, h3.len, List.drop_zero, Nat.sub_zero, List.take_of_length_le (Nat.le_refl _)]
    refine q (.ref a) S2 H2 w2 s2 ?_
    show TupR K R (cutD xs lo hi) _ _
    rw [e]
    exact ⟨a, vs, rfl, h2, h3⟩, fun _ p hp => q (.ref p) (upd S2 p (.tup (cutV vs lo hi))) _ (w2.newS hp) (s2.trans (Stp.newS w2 hp)) ⟨p, _, rfl, SqT.of upd_same, (h3.cut lo hi).up (Ex.new (w2.fresh hp))⟩⟩)))
/-- zip(a name, a slice of it), lists or tuples -/
theorem ei_zipSelf [Mono R] {i : Nat} {ys : List α} {tl th : TO} {lo hi : Option Int} (h : s[i]? = some (some v)) (p : SeqR K R ys v S) (hl : ∀ H Q, Q lo H → tl s H Q) (hh : ∀ H Q, Q hi H → th s H Q) : EvI r (iZipA K (tCons (tVar i) (tCons (tSl (rSlU K) (tVar i) tl th) tNil))) s S (ys.zip (cutD ys lo hi)) (PairR K R R) := by
  rcases p with p | p
  · exact ei_zipLL (ev_v (R := LstR R) h p) fun S1 e => ev_slice (ev_v (R := LstR R) h (Mono.up e p)) hl hh
  · exact ei_zipTT (ev_v (R := TupR K R) h p) fun S1 e => ev_sliceT (ev_v (R := TupR K R) h (Mono.up e p)) hl hh
theorem tyx_tup {p : Addr} {xs : List V} (h : SqT K S p xs) : TyX K S (.ref p) (.type "tuple") := by
  rcases h with (h2 | ⟨o, h2⟩) | ⟨o, its, n, h1, h2, _⟩
  · exact .base (.tup h2)
  · exact .fTuple h2
  · exact .kTuple h1 h2
/-- a comprehension kept by a test, then its length -/
theorem vv_lenF [Mono R] {wi : TI} {j : Nat} {vs : List Nat} {ys : List α} (f : α → Bool) (hi : EvI r wi s S ys R) (hz : ys.length ≤ 100000) (hw : ∀ v, wipe ((wipe s vs).set j (some v)) vs = wipe s vs) (hj : ∀ v, ((wipe s vs).set j (some v))[j]? = some (some v))
    (ht : ∀ y v S1, Ex S S1 → y ∈ ys → R y v S1 → EvB r tt ((wipe s vs).set j (some v)) S1 (f y)) : EvV r (tCB (rLenU K) (tCons (tLc wi (gName j) tt (tVar j) vs) tNil)) s S (.int ((ys.filter f).length : Int)) := by
  have h := EvN.lst (X := R) (en_lct f (fun y => y) hi hz hw ht fun y v S1 e m _ hy => ev_v (R := R) (hj v) hy)
  rw [List.map_id'] at h
  exact vv_len (X := R) (h.imp fun v S1 _ p => .inl p)
theorem vv_allF [Mono R] {wi : TI} {j : Nat} {vs : List Nat} {ys : List α} (f : α → Bool) (hi : EvI r wi s S ys R) (hz : ys.length ≤ 100000) (hw : ∀ v, wipe ((wipe s vs).set j (some v)) vs = wipe s vs)
    (ht : ∀ y v S1, Ex S S1 → y ∈ ys → R y v S1 → EvV r te ((wipe s vs).set j (some v)) S1 (.bl (f y))) : EvV r (tCB (rAll K) (tCons (tLc wi (gName j) tYes te vs) tNil)) s S (.bl (ys.all f)) :=
  (vv_all (bs := ys.map f) (EvN.lst (X := BoolR) (en_lcn f hi hz hw ht))).is (by rw [List.all_map]; rfl)
theorem vv_anyF [Mono R] {wi : TI} {j : Nat} {vs : List Nat} {ys : List α} (f : α → Bool) (hi : EvI r wi s S ys R) (hz : ys.length ≤ 100000) (hw : ∀ v, wipe ((wipe s vs).set j (some v)) vs = wipe s vs)
    (ht : ∀ y v S1, Ex S S1 → y ∈ ys → R y v S1 → EvV r te ((wipe s vs).set j (some v)) S1 (.bl (f y))) : EvV r (tCB (rAny K) (tCons (tLc wi (gName j) tYes te vs) tNil)) s S (.bl (ys.any f)) :=
  (vv_any (bs := ys.map f) (EvN.lst (X := BoolR) (en_lcn f hi hz hw ht))).is (by rw [List.any_map]; rfl)
/-- all([e for x, y in ..]) -/
theorem vv_allF2 [Mono R] [Mono R'] {wi : TI} {j1 j2 : Nat} {vs : List Nat} {ys : List (α × β)} (f : α × β → Bool) (hi : EvI r wi s S ys (PairR K R R')) (hz : ys.length ≤ 100000) (hw : ∀ v v', wipe (((wipe s vs).set j1 (some v)).set j2 (some v')) vs = wipe s vs)
    (ht : ∀ y v v' S1, Ex S S1 → y ∈ ys → R y.1 v S1 → R' y.2 v' S1 → EvV r te (((wipe s vs).set j1 (some v)).set j2 (some v')) S1 (.bl (f y))) : EvV r (tCB (rAll K) (tCons (tLc wi (gTup K 2 (gCons (gName j1) (gCons (gName j2) gNil))) tYes te vs) tNil)) s S (.bl (ys.all f)) := by
  have h := EvN.lst (X := BoolR) (en_lc2 (tt := tYes) (fun _ => true) f hi hz hw (fun y v v' S1 _ _ _ _ S2 H _ w2 Q q => q true S2 H w2 Stp.refl rfl) fun y v v' S1 e m _ h1 h2 => ht y v v' S1 e m h1 h2)
  rw [List.filter_eq_self.mpr (fun _ _ => rfl)] at h
  exact (vv_all (bs := ys.map f) h).is (by rw [List.all_map]; rfl)
theorem vv_anyF2 [Mono R] [Mono R'] {wi : TI} {j1 j2 : Nat} {vs : List Nat} {ys : List (α × β)} (f : α × β → Bool) (hi : EvI r wi s S ys (PairR K R R')) (hz : ys.length ≤ 100000) (hw : ∀ v v', wipe (((wipe s vs).set j1 (some v)).set j2 (some v')) vs = wipe s vs)
    (ht : ∀ y v v' S1, Ex S S1 → y ∈ ys → R y.1 v S1 → R' y.2 v' S1 → EvV r te (((wipe s vs).set j1 (some v)).set j2 (some v')) S1 (.bl (f y))) : EvV r (tCB (rAny K) (tCons (tLc wi (gTup K 2 (gCons (gName j1) (gCons (gName j2) gNil))) tYes te vs) tNil)) s S (.bl (ys.any f)) := by
  have h := EvN.lst (X := BoolR) (en_lc2 (tt := tYes) (fun _ => true) f hi hz hw (fun y v v' S1 _ _ _ _ S2 H _ w2 Q q => q true S2 H w2 Stp.refl rfl) fun y v v' S1 e m _ h1 h2 => ht y v v' S1 e m h1 h2)
  rw [List.filter_eq_self.mpr (fun _ _ => rfl)] at h
  exact (vv_any (bs := ys.map f) h).is (by rw [List.any_map]; rfl)
/-- a, b, c = e -/
theorem sq_three [Mono R] [Mono R'] [Mono R''] {i j l n : Nat} {p : α × β × γ} (hn : n = 3) (h : EvS r te s S fun v S1 => TripR K R R' R'' p v S1) (w0 : Wd r S H) (k : ∀ x y z S1 H1, Wd r S1 H1 → Stp r S H S1 H1 → R p.1 x S1 → R' p.2.1 y S1 → R'' p.2.2 z S1 → tz D (((s.set i (some x)).set j (some y)).set l (some z)) H1) : tSeq (tAsg te (gTup K n (gCons (gName i) (gCons (gName j) (gCons (gName l) gNil))))) tz D s H :=
  h S H (Ex.refl _) w0 _ fun v S1 H1 w1 s1 hv => g_three hn hv w1 fun x y z h1 h2 h3 => k x y z S1 H1 w1 s1 h1 h2 h3
theorem sq_two [Mono R] [Mono R'] {i j n : Nat} {p : α × β} (hn : n = 2) (h : EvS r te s S fun v S1 => PairR K R R' p v S1) (w0 : Wd r S H) (k : ∀ x y S1 H1, Wd r S1 H1 → Stp r S H S1 H1 → R p.1 x S1 → R' p.2 y S1 → tz D ((s.set i (some x)).set j (some y)) H1) : tSeq (tAsg te (gTup K n (gCons (gName i) (gCons (gName j) gNil)))) tz D s H :=
  h S H (Ex.refl _) w0 _ fun v S1 H1 w1 s1 hv => g_two hn hv w1 fun x y h1 h2 => k x y S1 H1 w1 s1 h1 h2
theorem sq_ifB {l : Addr} {o : HO} {b : Bool} (h : EvB r t s (upd S l o) b) (w : Wd r S H) (hl : H l = some o) (n : l ∉ r.M) (sl : S l = none) (h1 : b = true → ∀ S1 H1, Wd r S1 H1 → Stp r S H S1 H1 → S1 l = none → tu { D with nx := tz D } s H1) (h2 : b = false → ∀ S1 H1, Wd r S1 H1 → Stp r S H S1 H1 → S1 l = none → tw { D with nx := tz D } s H1) : tSeq (tIfS t tu tw) tz D s H := st_ifB (D := { D with nx := tz D }) h w hl n sl h1 h2
theorem sq_ifNoB {l : Addr} {o : HO} (h : EvB r t s (upd S l o) false) (w : Wd r S H) (hl : H l = some o) (n : l ∉ r.M) (sl : S l = none) (k : ∀ S1 H1, Wd r S1 H1 → Stp r S H S1 H1 → S1 l = none → tz D s H1) : tSeq (tIfS t tu tNext) tz D s H :=
  sq_ifB h w hl n sl (fun z => nomatch z) fun _ S1 H1 w1 s1 n1 => k S1 H1 w1 s1 n1
end
end J

/-! J14: objects made while another one is read; appended to it. -/
namespace J
open PySem PySem.Spec L2 Evl RZ
section
variable {r : Rs} {s : L2.St} {S S' H : Hp} {ta tb tc te ti : TE} {t u : TT} {tt : TT} {x y z v : V} {K : PySem.W.Frag} {α β γ : Type} {R : Rl α} {R' : Rl β} {R'' : Rl γ} {tu tw tz : TS} {D : Ends} {w : World} {l : Addr} {o c : HO}
theorem borrowN (h : EvN r te s (upd S l o) fun ob _ => ob = c) (w : Wd r S H) (hl : H l = some o) (n : l ∉ r.M) (sl : S l = none) {Q : VK} (q : ∀ p S1 H1, H p = none → H1 p = some c → S1 p = none → Wd r S1 H1 → Stp r S H S1 H1 → S1 l = none → Q (.ref p) H1) : te s H Q :=
  h _ H (Ex.refl _) (w.settle hl n) Q fun p ob S1 H1 h0 h1 h2 w1 s1 e => by
    subst e
    refine q p (del l S1) H1 h0 h1 ?_ w1.del (s1.del sl) del_same
    unfold del
    split
    · rfl
    · exact h2
/-- l.append(e), e reckoned with l's own items: a known value -/
theorem st_appendV {xs : List V} (n : l ∉ r.M) (ho : EvV r ta s S (.ref l)) (hv : EvV r te s (upd S l (.lst xs)) v) (w : Wd r S H) (hl : H l = some (.lst xs)) (hs : S l = none) (hz : xs.length < 100000)
    (k : ∀ S1 H1, Wd r S1 H1 → Stp (r.more [l]) S H S1 H1 → S1 l = none → H1 l = some (.lst (xs ++ [v])) → D.nx s H1) : tDrop (tBM K "list" rAppend ta (tCons te tNil)) D s H :=
  ho S H (Ex.refl _) w _ fun u S1 H1 w1 s1 eu => by
    subst eu
    have h1 : H1 l = some (.lst xs) := s1.kp l _ n hl
    have n1 := s1.fr l (ne_none hl) hs
    have ex1 : Ex (upd S l (.lst xs)) (upd S1 l (.lst xs)) := ex_both s1.ex
    refine ⟨.inl ⟨rfl, _, .inl (.inl h1)⟩, borrow (EvS.mono ex1 hv) w1 h1 n n1 fun S2 H2 w2 s2 n2 => ?_⟩
    have s12 := s1.trans s2
    refine ⟨l, xs, v, rfl, rfl, s12.kp l _ n hl, sz_lt hz, ?_⟩
    exact k S2 _ (w2.mut n2 n (nco_lst (s12.kp l _ n hl))) ((s12.more).trans (Stp.upd1 (s12.dm l (ne_none hl)))) n2 upd_same
/-- the same, e a new object that is known -/
theorem st_appendN {xs : List V} (n : l ∉ r.M) (ho : EvV r ta s S (.ref l)) (hv : EvN r te s (upd S l (.lst xs)) fun ob _ => ob = c) (w : Wd r S H) (hl : H l = some (.lst xs)) (hs : S l = none) (hz : xs.length < 100000)
    (k : ∀ p S1 H1, Wd r S1 H1 → Stp (r.more [l]) S H S1 H1 → S1 l = none → H1 l = some (.lst (xs ++ [.ref p])) → S1 p = some c → D.nx s H1) : tDrop (tBM K "list" rAppend ta (tCons te tNil)) D s H :=
  ho S H (Ex.refl _) w _ fun u S1 H1 w1 s1 eu => by
    subst eu
    have h1 : H1 l = some (.lst xs) := s1.kp l _ n hl
    have n1 := s1.fr l (ne_none hl) hs
    have ex1 : Ex (upd S l (.lst xs)) (upd S1 l (.lst xs)) := ex_both s1.ex
    refine ⟨.inl ⟨rfl, _, .inl (.inl h1)⟩, borrowN (EvN.mono ex1 hv) w1 h1 n n1 fun p S2 H2 p0 p1 p2 w2 s2 n2 => ?_⟩
    have s12 := s1.trans s2
    have np : p ∉ r.M := w1.notM p0
    have hp0 : H p = none := pre_none s1 p0
    have nlp : l ≠ p := fun e => by
      rw [e, p0] at h1
      cases h1
    have w3 : Wd r (upd S2 p c) H2 := w2.settle p1 np
    have s3 : Stp r S H (upd S2 p c) H2 := s12.settle hp0 p2
    have n3 : (upd S2 p c) l = none := by
      rw [upd_ne nlp]
      exact n2
    refine ⟨l, xs, .ref p, rfl, rfl, s12.kp l _ n hl, sz_lt hz, ?_⟩
    exact k p _ _ (w3.mut n3 n (nco_lst (s12.kp l _ n hl))) ((s3.more).trans (Stp.upd1 (s12.dm l (ne_none hl)))) n3 upd_same upd_same
theorem sq_appendV {xs : List V} (n : l ∉ r.M) (ho : EvV r ta s S (.ref l)) (hv : EvV r te s (upd S l (.lst xs)) v) (w : Wd r S H) (hl : H l = some (.lst xs)) (hs : S l = none) (hz : xs.length < 100000)
    (k : ∀ S1 H1, Wd r S1 H1 → Stp (r.more [l]) S H S1 H1 → S1 l = none → H1 l = some (.lst (xs ++ [v])) → tz D s H1) : tSeq (tDrop (tBM K "list" rAppend ta (tCons te tNil))) tz D s H := st_appendV (D := { D with nx := tz D }) n ho hv w hl hs hz k
theorem sq_appendN {xs : List V} (n : l ∉ r.M) (ho : EvV r ta s S (.ref l)) (hv : EvN r te s (upd S l (.lst xs)) fun ob _ => ob = c) (w : Wd r S H) (hl : H l = some (.lst xs)) (hs : S l = none) (hz : xs.length < 100000)
    (k : ∀ p S1 H1, Wd r S1 H1 → Stp (r.more [l]) S H S1 H1 → S1 l = none → H1 l = some (.lst (xs ++ [.ref p])) → S1 p = some c → tz D s H1) : tSeq (tDrop (tBM K "list" rAppend ta (tCons te tNil))) tz D s H := st_appendN (D := { D with nx := tz D }) n ho hv w hl hs hz k
/-- the last item of a list -/
theorem atI_last {xs : List V} {v : V} : atI (xs ++ [v]) (-1) = some v := by
  unfold atI
  have h1 : ixN (xs ++ [v]).length (-1) = some xs.length := by
    rw [List.length_append, List.length_singleton]
    unfold ixN
    rw [if_neg (by decide), if_pos (by omega)]
    congr 1
    omega
  rw [h1]
  simp
end
end J

/-! J15: the law's source of draws: [cells, place, a great number, a seed]. -/
namespace J
open PySem PySem.Spec L2 Evl RZ
/-- both branches of an if go on by the same rest -/
theorem sq_join {tt : TT} {tu tw tz : TS} {D : Ends} {s : L2.St} {H : Hp} (P : L2.St → Hp → Prop) (k : ∀ s' H', P s' H' → tz D s' H') (h : (∀ s' H', P s' H' → tz D s' H') → tSeq (tIfS tt tu tw) tz D s H) : tSeq (tIfS tt tu tw) tz D s H := h k
structure SrcAt (p c : Addr) (cs : List Int) (pos big seed : Int) (H : Hp) : Prop where
  hp : H p = some (.lst [.ref c, .int pos, .int big, .int seed])
  hc : H c = some (.lst (cs.map V.int))
  pos0 : 0 ≤ pos
  big0 : 0 ≤ big
  seed0 : 0 ≤ seed
def SrcI (p c : Addr) (H : Hp) : Prop := ∃ cs pos big seed, SrcAt p c cs pos big seed H
def srcR (p c : Addr) : Rs := ⟨[p, c], SrcI p c, fun H H' k _ ⟨cs, pos, big, seed, h⟩ => ⟨cs, pos, big, seed, k p _ (by simp) h.hp, k c _ (by simp) h.hc, h.pos0, h.big0, h.seed0⟩, fun H ⟨cs, pos, big, seed, h⟩ a ha => by
  rcases List.mem_cons.mp ha with rfl | ha
  · exact ne_none h.hp
  · rw [List.mem_singleton.mp ha]
    exact ne_none h.hc⟩
theorem SrcAt.ne {p c : Addr} {cs : List Int} {pos big seed : Int} {H : Hp} (h : SrcAt p c cs pos big seed H) : p ≠ c := fun e => by
  have h1 := h.hp
  have h2 := h.hc
  rw [e, h2] at h1
  cases cs with
  | nil => cases h1
  | cons x r => cases h1
theorem srcR_nil {p c : Addr} {S H S1 H1 : Hp} (s : Stp (Rs.nil.more [p, c]) S H S1 H1) : Stp (srcR p c) S H S1 H1 := s.wk (fun a ha => by simpa [Rs.more, Rs.nil, srcR] using ha)
theorem sup_p {p c : Addr} {H S : Hp} {o : HO} (h : H p = some o) : sup [p, c] H S p = some o := (sup_in (by simp)).trans h
theorem sup_c {p c : Addr} {H S : Hp} {o : HO} (h : H c = some o) : sup [p, c] H S c = some o := (sup_in (by simp)).trans h
/-- the source as it stands, and the way here -/
structure SW (p c : Addr) (S0 H0 : Hp) (cs : List Int) (pos big seed : Int) (S H : Hp) : Prop where
  w : Wd Rs.nil S H
  l : Loc Rs.nil [p, c] S H
  at_ : SrcAt p c cs pos big seed H
  st : Stp (Rs.nil.more [p, c]) S0 H0 S H
theorem nm_nil {a : Addr} : a ∉ Rs.nil.M := fun z => by cases z
theorem SW.start {p c : Addr} {cs : List Int} {pos big seed : Int} {S H : Hp} (w : Wd (srcR p c) S H) (h : SrcAt p c cs pos big seed H) : SW p c S H cs pos big seed S H :=
  ⟨w.toNil, fun a ha => ⟨nm_nil, w.dj a ha, (srcR p c).has H w.inv a ha⟩, h, Stp.refl⟩
theorem SW.step {p c : Addr} {S0 H0 : Hp} {cs : List Int} {pos big seed : Int} {S H S1 H1 : Hp} (x : SW p c S0 H0 cs pos big seed S H) (w : Wd Rs.nil S1 H1) (s : Stp Rs.nil S H S1 H1) : SW p c S0 H0 cs pos big seed S1 H1 :=
  ⟨w, x.l.step s, ⟨s.kp p _ nm_nil x.at_.hp, s.kp c _ nm_nil x.at_.hc, x.at_.pos0, x.at_.big0, x.at_.seed0⟩, x.st.trans s.more⟩
theorem SW.setp {p c : Addr} {S0 H0 : Hp} {cs : List Int} {pos big seed : Int} {S H S1 H1 : Hp} (x : SW p c S0 H0 cs pos big seed S H) (w : Wd Rs.nil S1 H1) (s : Stp (Rs.nil.more [p, c]) S H S1 H1) {pos' big' seed' : Int} (h : H1 p = some (.lst [.ref c, .int pos', .int big', .int seed'])) (kp : ∀ a o, a ≠ p → a ∉ Rs.nil.M → H a = some o → H1 a = some o)
    (h1 : 0 ≤ pos') (h2 : 0 ≤ big') (h3 : 0 ≤ seed') : SW p c S0 H0 cs pos' big' seed' S1 H1 :=
  ⟨w, x.l.stepM s, ⟨h, kp c _ x.at_.ne.symm nm_nil x.at_.hc, h1, h2, h3⟩, x.st.trans s⟩
theorem SW.done {p c : Addr} {S0 H0 : Hp} {cs : List Int} {pos big seed : Int} {S H : Hp} (x : SW p c S0 H0 cs pos big seed S H) : Wd (srcR p c) S H ∧ Stp (srcR p c) S0 H0 S H :=
  ⟨⟨x.w.ex, ⟨cs, pos, big, seed, x.at_⟩, fun a ha => (x.l a ha).2.1⟩, srcR_nil x.st⟩
end J

set_option pp.maxSteps 3000
/-! J20: defs that are only called where no repr runs (so that repr may be asked in them); the end of a law that is such a def, with tables of code objects. -/
namespace J
open PySem PySem.Spec PyProof.Rows L2 Evl RZ
/-- no repr of a list or tuple is running around here -/
def Gd (A : Around) : Prop := A.guards = some []
theorem Gd.deeper {A : Around} (g : Gd A) (env : Env) : Gd (A.deeper env) := g
/-- a def's promise, kept where Gd holds -/
structure FnG (P : Program) (w : World) (K : PySem.W.Frag) (mg : Str → Option Value) (base : Heap) (k : Nat) (f : Addr) (fd : FuncData) (ps : List Str) (sp : Sp) : Prop where
  count : ∀ {vs : List V} {H : Hp} {Q : VK} {E : XK}, sp vs H Q E → vs.length = ps.length
  runs : ∀ {A : Around} {outer : List Env} {s : Shared} {H : Hp} {args : Args} {us : List Value} {vs : List V} {Q : VK} {E : XK}, Gd A → Room k A → Env0 P w K mg base A outer s H → BindsTo s fd args (ps.zip us) → Vals vs us → sp vs H Q E → codeAny (model P w) A (.call (.ref f) args) (CR CX0 outer P w H s Q E) s
section
variable {P : Program} {w : World} {K : PySem.W.Frag} {mg : Str → Option Value} {base : Heap} {x qual : Str} {st : Stmt} {f : Addr} {fd : FuncData} {N ps : List Str} {k : Nat} {sp : Sp}
theorem FnG.of (F : FnOk P w K mg base CX0 k f fd ps sp) : FnG P w K mg base k f fd ps sp := ⟨fun h => F.len _ _ _ _ h, fun _ hr e b v h => F.run _ _ _ _ _ _ _ _ _ hr e b v h⟩
theorem FnG.up {j : Nat} (F : FnG P w K mg base j f fd ps sp) (h : j ≤ k) : FnG P w K mg base k f fd ps sp := ⟨F.count, fun g hr => F.runs g (hr.mono h)⟩
/-- a def by its body, Gd known -/
theorem ok_G (F : Fun K x qual st f fd) (S : FnScope N ps (defScope st)) (len : ∀ vs H Q E, sp vs H Q E → vs.length = ps.length)
    (body : ∀ (cdv : Value) (A : Around) (outer : List Env) (s : Shared) (H : Hp) (vs : List V) (Q : VK) (E : XK), Gd A → Room k (A.deeper (envOfC qual (defScope st) s.heap.objs.size f cdv)) → sp vs H Q E →
      ∃ t, PSs (cxOf CX0 P w K mg base N qual (defScope st) f cdv A outer s H E).nox (defBody st) t ∧ t { nx := fun _ H' => Q .non H', rt := Q } (start N vs) H) : FnG P w K mg base (k + 1) f fd ps sp := by
  obtain ⟨oc, od, kV, doc, pm, an, cdv, ct, osl, e, lk, hcd⟩ := F.ex
  subst e
  refine ⟨fun h => len _ _ _ _ h, fun {A outer s H args us vs Q E} g hr e0 hb r h => ?_⟩
  exact LamX.run_ofS lk hcd S hr e0 hb r (len _ _ _ _ h) fun hr' => by
    obtain ⟨t, ht, hq⟩ := body cdv A outer s H vs Q E g hr' h
    exact ⟨t, ht.nox, hq⟩
end
section
variable {X : Cx} {k : Nat} {f : Addr} {fd : FuncData} {ps : List Str} {sp : Sp} {dvs : List V} {ds : List Value} {x : Str} {p pos : Pos} {e : Expr} {es : List Expr} {t : TA}
theorem run_G {pins : List (Addr × Obj)} {σ : L2.St} {H : Hp} {s : Shared} {Q : VK} {us : List Value} {vs : List V} (F : FnG X.prog X.w X.K X.mg X.base k f fd ps sp) (g : Gd X.A) (hr : Room k X.A) (hb : Binds X.K fd ps ds) (hd : Vals dvs ds) (I : Inv X pins σ H s) (r : Vals vs us) (h : sp (vs ++ dvs) H Q E0) :
    wpAny (model X.prog X.w) X.A (call (.ref f) us) (EP X pins σ Q) X.xe s := by
  have rr : Vals (vs ++ dvs) (us ++ ds) := r.append hd
  have gl : (us ++ ds).length = ps.length := rr.length.symm.trans (F.count h)
  refine wpAny_call (codeAny_mono (F.runs g hr I.env0 (hb s us I.kIn gl) rr h) fun res s' hq => ?_)
  match res, hq with
  | .error _, z => exact z.elim
  | .ok (.ret _), z => exact I.after z
  | .ok .next, z => exact z.elim
  | .ok .brk, z => exact z.elim
  | .ok .cont, z => exact z.elim
theorem pe_callG (F : FnG X.prog X.w X.K X.mg X.base k f fd ps sp) (g : Gd X.A) (hr : Room k X.A) (hg : Gl X x) (hm : X.mg x = some (.ref f)) (kp : PySem.W.keepIn X.K (.ref f) = true) (hb : Binds X.K fd ps ds) (hd : Vals dvs ds)
    (ha : PA X (e :: es) t) (ndb : (x == ("__debug__" : Str)) = false := by decide) (e1 : starEach (e :: es) X.env = (false, eval e X.env) :: starEach es X.env := by rfl) (e2 : (backTo pos (starEach es X.env)).any (·.1) = false := by rfl) :
    PE X (.Call (.Name x p) (e :: es) [] pos) (tCall sp dvs E0 t) :=
  ⟨fun pins s σ H Q I h => wpAny_Call_Name_kw (ld_glob I hg hm (PySem.W.callWith_K (h₀ := X.base) I.ok.mod.kin kp (thn (ha.run pos pins s σ H _ I h) fun us s1 ⟨vs, H1, I1, r, q⟩ => ⟨I1.kIn, run_G F g hr hb hd I1 r q⟩) e1 e2) ndb)⟩
theorem pe_callG0 (F : FnG X.prog X.w X.K X.mg X.base k f fd ps sp) (g : Gd X.A) (hr : Room k X.A) (hg : Gl X x) (hm : X.mg x = some (.ref f)) (kp : PySem.W.keepIn X.K (.ref f) = true) (hb : Binds X.K fd ps ds) (hd : Vals dvs ds)
    (ndb : (x == ("__debug__" : Str)) = false := by decide) : PE X (.Call (.Name x p) [] [] pos) (tCall sp dvs E0 tNil) :=
  ⟨fun pins s σ H Q I h => wpAny_Call_Name_kw (ld_glob I hg hm (PySem.W.callWith_K0 I.kIn kp (run_G (us := []) F g hr hb hd I .nil h)) ndb)⟩
end
/-! ### repr of data -/
/-- data, or an empty dict -/
def DE (K : PySem.W.Frag) (H : Hp) (v : V) (d : PyData) : Prop := Dp K H v d ∨ (d = .dict [] ∧ ∃ a, v = .ref a ∧ H a = some (.dK []))
theorem de_up {K : PySem.W.Frag} {S S' : Hp} (e : Ex S S') {v : V} {d : PyData} (h : DE K S v d) : DE K S' v d := h.imp (dp_up e _ _) fun ⟨h1, a, h2, h3⟩ => ⟨h1, a, h2, e _ _ h3⟩
def rReprD (K : PySem.W.Frag) : List V → Hp → VK → Prop := fun xs H Q => ∃ (v : V) (d : PyData), xs = [v] ∧ DE K H v d ∧ d.showable = true ∧ d.depth ≤ 40 ∧ d.shown.length ≤ sizeLine ∧ Q (.str d.shown) H
mutual
theorem dp_nodict {K : PySem.W.Frag} {H : Hp} : ∀ (d : PyData) (v : V), Dp K H v d → d.hasDict = false
  | .none, _, _ => by simp only [PyData.hasDict]
  | .bool _, _, _ => by simp only [PyData.hasDict]
  | .int _, _, _ => by simp only [PyData.hasDict]
  | .str _, _, _ => by simp only [PyData.hasDict]
  | .list xs, _, h => by
    cases h with
    | lst _ h2 =>
      simp only [PyData.hasDict]
      exact dpa_nodict xs _ h2
  | .tuple xs, _, h => by
    cases h with
    | tup _ h2 =>
      simp only [PyData.hasDict]
      exact dpa_nodict xs _ h2
  | .dict _, _, h => by cases h
theorem dpa_nodict {K : PySem.W.Frag} {H : Hp} : ∀ (ds : List PyData) (vs : List V), DpAll K H vs ds → PyData.hasDictAll ds = false
  | [], _, _ => by simp only [PyData.hasDictAll]
  | d :: ds, _, h => by
    cases h with
    | cons h1 h2 => simp only [PyData.hasDictAll, dp_nodict d _ h1, dpa_nodict ds _ h2, Bool.or_self]
end
theorem call_reprD {X : Cx} (g : Gd X.A) (hu : X.A.units + 64 < cLine) : CallR X (.builtin "repr") (rReprD X.K) := by
  intro pins s σ H xs us Q I r h
  obtain ⟨v, d, e, hd, hs, dp, sz, q⟩ := h
  subst e
  obtain ⟨u, eu, ru⟩ := vals1 r
  subst eu
  have I' := I
  rcases hd with hd | ⟨rfl, a, rfl, ha⟩
  rotate_left
  · cases ru
    obtain ⟨_, hsm, vs, rel, ob, es, ep, hob, hcl, hdat, _, hps, _⟩ := dk_of I.hok ha
    cases rel
    have he : es.toList = [] := List.eq_nil_of_length_eq_zero (by simpa using hps.length)
    have rdz : Reads s.heap (.ref a) (.dict []) (a :: [] ++ []) := Reads.dict hob hcl.1 hdat (by rw [he]; exact .nil) (by rw [he]; exact .nil)
    exact repr_of_reads' rdz hs (fun _ hm => by
      rcases List.mem_cons.mp hm with e | hm
      · rw [← e] at hsm
        simp at hsm
      · cases hm) g (by omega) (fun _ _ z => z) (fun h' u tk hk => ⟨.str _, H, I.kept (t' := tk) hk, ⟨_, rfl⟩, q⟩) sz
  obtain ⟨as, rd⟩ := Dp.reads I d v u hd ru
  have nd := dp_nodict d v hd
  cases rd with
  | none =>
    simp only [PyData.shown] at q
    exact PySem.P.repr_of_none ⟨.str _, H, I.tok _, ⟨_, rfl⟩, q⟩
  | bool b =>
    simp only [PyData.shown] at q
    exact PySem.P.repr_of_bool ⟨.str _, H, I.tok _, ⟨_, rfl⟩, q⟩
  | int i t =>
    simp only [PyData.shown] at q
    exact PySem.P.repr_of_int (by simpa [PyData.showable] using hs) ⟨.str _, H, I.tok _, ⟨_, rfl⟩, q⟩
  | str x t =>
    simp only [PyData.shown] at q sz
    exact PySem.P.repr_of_str ⟨.str _, H, I.tok _, ⟨_, rfl⟩, q⟩ sz
  | list h1 h2 h3 h4 => exact repr_of_reads' (Reads.list h1 h2 h3 h4) hs (PyData.noDict_hsm nd) g (by omega) (fun _ _ z => z) (fun h' u tk hk => ⟨.str _, H, I.kept (t' := tk) hk, ⟨_, rfl⟩, q⟩) sz
  | tuple h1 h2 h3 h4 => exact repr_of_reads' (Reads.tuple h1 h2 h3 h4) hs (PyData.noDict_hsm nd) g (by omega) (fun _ _ z => z) (fun h' u tk hk => ⟨.str _, H, I.kept (t' := tk) hk, ⟨_, rfl⟩, q⟩) sz
  | dict h1 h2 h3 h4 h5 => simp only [PyData.hasDict] at nd; cases nd
theorem vv_reprE {r : Rs} {s : L2.St} {S : Hp} {ta : TE} {K : PySem.W.Frag} {d : PyData} (h : EvS r ta s S fun v S1 => DE K S1 v d) (hs : d.showable = true) (hd : d.depth ≤ 40) (hz : d.shown.length ≤ sizeLine) : EvV r (tCB (rReprD K) (tCons ta tNil)) s S (.str d.shown) := fun S1 H e w Q q =>
  h S1 H e w _ fun v S2 H2 w2 s2 p => ⟨v, d, rfl, de_up w2.ex p, hs, hd, hz, q _ S2 H2 w2 s2 rfl⟩
theorem vv_reprD {r : Rs} {s : L2.St} {S : Hp} {ta : TE} {K : PySem.W.Frag} {d : PyData} (h : EvS r ta s S fun v S1 => Dp K S1 v d) (hs : d.showable = true) (hd : d.depth ≤ 40) (hz : d.shown.length ≤ sizeLine) : EvV r (tCB (rReprD K) (tCons ta tNil)) s S (.str d.shown) :=
  vv_reprE (h.imp fun _ _ _ p => .inl p) hs hd hz
mutual
theorem short_of_showable : ∀ d : PyData, d.hasDict = false → d.showable = true → PyData.intsShort 1921 d = true
  | .none, _, _ => rfl
  | .bool _, _, _ => rfl
  | .str _, _, _ => rfl
  | .int i, _, h => by
    have h1 : i.natAbs.log2 < 1920 := by simpa [PyData.showable] using h
    have h2 := int_text_len_1921 h1
    simp only [PyData.intsShort, decide_eq_true_eq]
    simpa only [PyData.shown] using h2
  | .list xs, hd, h => by
    simp only [PyData.intsShort]
    exact shortAll_of_showable xs (by simpa only [PyData.hasDict] using hd) (by simpa only [PyData.showable] using h)
  | .tuple xs, hd, h => by
    simp only [PyData.intsShort]
    exact shortAll_of_showable xs (by simpa only [PyData.hasDict] using hd) (by simpa only [PyData.showable] using h)
  | .dict _, hd, _ => by simp only [PyData.hasDict] at hd; cases hd
theorem shortAll_of_showable : ∀ xs : List PyData, PyData.hasDictAll xs = false → PyData.showableAll xs = true → PyData.intsShortAll 1921 xs = true
  | [], _, _ => rfl
  | x :: xs, hd, h => by
    have hd' : x.hasDict = false ∧ PyData.hasDictAll xs = false := by simpa only [PyData.hasDictAll, Bool.or_eq_false_iff] using hd
    have h' : x.showable = true ∧ PyData.showableAll xs = true := by simpa only [PyData.showableAll, Bool.and_eq_true] using h
    simp only [PyData.intsShortAll, Bool.and_eq_true]
    exact ⟨short_of_showable x hd'.1 h'.1, shortAll_of_showable xs hd'.2 h'.2⟩
end
/-- data that repr can be asked of -/
structure Shw (d : PyData) : Prop where
  show_ : d.showable = true
  low : d.depth ≤ 40
  fits : d.shown.length ≤ sizeLine
theorem Shw.mk' {d : PyData} (lay : d.canLay0 = true) (sh : d.showable = true) (small : d.weight ≤ 8000) (low : d.depth ≤ 40) : Shw d := ⟨sh, low, by
  have nd := PyData.hasDict_of_canLay d lay
  have h1 := PyData.shown_le 1921 (by decide) d (PyData.leavesShort_of_canLay0 1921 d lay (short_of_showable d nd sh))
  have h2 : (1921 + 2) * d.weight ≤ 1923 * 8000 := Nat.mul_le_mul (Nat.le_refl _) small
  rw [sizeLine_eq]
  omega⟩
section
variable {K : PySem.W.Frag} {α : Type} [DecidableEq α] {R : Rl α} [Dt K R] {r : Rs} {s : L2.St} {S : Hp} {ta tb : TE}
theorem Shw.of {a : α} (h1 : (Dt.d K R a).showable = true) (h2 : (Dt.d K R a).weight ≤ 8000) (h3 : Dt.dep K R ≤ 40 := by exact Nat.le_of_ble_eq_true rfl) : Shw (Dt.d K R a) := .mk' (Dt.lay a) h1 h2 (Nat.le_trans (Dt.dep_le a) h3)
theorem vv_rp {d : PyData} (h : EvS r ta s S fun v S1 => Dp K S1 v d) (x : Shw d) : EvV r (tCB (rReprD K) (tCons ta tNil)) s S (.str d.shown) := vv_reprD h x.show_ x.low x.fits
theorem vv_rpD {a : α} (h : EvS r ta s S fun v S1 => R a v S1) (x : Shw (Dt.d K R a)) : EvV r (tCB (rReprD K) (tCons ta tNil)) s S (.str (Dt.d K R a).shown) := vv_rp (h.imp fun _ _ _ p => Dt.dp p) x
/-- repr(e) != repr(f) -/
theorem vv_rpNe {z1 z2 : Str} (h : EvV r ta s S (.str z1)) (h2 : EvV r tb s S (.str z2)) (e : z1 = z2) : EvV r (tOp (rNeU K) ta tb) s S (.bl false) := (vv_op h h2 rs_neS).is (by rw [decide_eq_true e]; rfl)
end
theorem int_small {i : Int} (h : -(2 ^ 62) < i ∧ i < 2 ^ 62) : i.natAbs.log2 < 62 := by
  by_cases z : i.natAbs = 0
  · rw [z]
    decide
  · exact (Nat.log2_lt z).mpr (by omega)
theorem show_int {i : Int} (h : -(2 ^ 62) < i ∧ i < 2 ^ 62) : (PyData.int i).showable = true := by
  simp only [PyData.showable, decide_eq_true_eq]
  exact Nat.lt_trans (int_small h) (by decide)
theorem weight_int {i : Int} (h : -(2 ^ 62) < i ∧ i < 2 ^ 62) : (PyData.int i).weight ≤ 62 := by
  have := int_small h
  simp only [PyData.weight]
  split <;> omega
theorem show_ints : ∀ {ns : List Int}, (∀ i ∈ ns, -(2 ^ 62) < i ∧ i < 2 ^ 62) → PyData.showableAll (ns.map PyData.int) = true
  | [], _ => rfl
  | n :: r, h => by
    simp only [List.map_cons, PyData.showableAll, Bool.and_eq_true]
    exact ⟨show_int (h n List.mem_cons_self), show_ints fun i hi => h i (List.mem_cons_of_mem _ hi)⟩
theorem weight_ints : ∀ {ns : List Int}, (∀ i ∈ ns, -(2 ^ 62) < i ∧ i < 2 ^ 62) → PyData.weightAll (ns.map PyData.int) ≤ 63 * ns.length
  | [], _ => Nat.le_refl _
  | n :: r, h => by
    have h1 := weight_ints fun i hi => h i (List.mem_cons_of_mem _ hi)
    have h2 := weight_int (h n List.mem_cons_self)
    simp only [List.map_cons, PyData.weightAll, List.length_cons]
    omega
theorem lay_ints : ∀ (ns : List Int), PyData.canLayAll0 (ns.map PyData.int) = true
  | [] => rfl
  | n :: r => by
    simp only [List.map_cons, PyData.canLayAll0, PyData.canLay0, lay_ints r, Bool.and_self]
theorem depth_ints : ∀ (ns : List Int), PyData.depthAll (ns.map PyData.int) = 0
  | [] => rfl
  | n :: r => by
    simp only [List.map_cons, PyData.depthAll, PyData.depth, depth_ints r]
    rfl
theorem shw_tup {ns : List Int} (h : ∀ i ∈ ns, -(2 ^ 62) < i ∧ i < 2 ^ 62) (hl : ns.length ≤ 120) : Shw (.tuple (ns.map PyData.int)) := .mk' (by simp only [PyData.canLay0, lay_ints]) (by simp only [PyData.showable, show_ints h]) (by
  have := weight_ints h
  simp only [PyData.weight]
  omega) (by simp only [PyData.depth, depth_ints]; decide)
theorem shw_lst {ns : List Int} (h : ∀ i ∈ ns, -(2 ^ 62) < i ∧ i < 2 ^ 62) (hl : ns.length ≤ 120) : Shw (.list (ns.map PyData.int)) := .mk' (by simp only [PyData.canLay0, lay_ints]) (by simp only [PyData.showable, show_ints h]) (by
  have := weight_ints h
  simp only [PyData.weight]
  omega) (by simp only [PyData.depth, depth_ints]; decide)
theorem shw_int {i : Int} (h : -(2 ^ 62) < i ∧ i < 2 ^ 62) : Shw (.int i) := .mk' rfl (show_int h) (Nat.le_trans (weight_int h) (by decide)) (Nat.zero_le _)
theorem shw_bool {b : Bool} : Shw (.bool b) := .mk' rfl rfl (Nat.zero_le _) (Nat.zero_le _)
theorem shw_dict : Shw (.dict []) := ⟨by decide +kernel, by decide +kernel, by decide +kernel⟩
theorem shw_none : Shw .none := .mk' rfl rfl (Nat.zero_le _) (Nat.zero_le _)
theorem shw_str {z : Str} (h : (PyData.str z).canLay0 = true) (hl : z.cps.size ≤ 8000) : Shw (.str z) := .mk' h rfl (by simp only [PyData.weight]; exact hl) (Nat.zero_le _)
/-! ### the end of a law -/
/-- what is tracked when the law is called: the tables T; the script at a, unless the written part holds it -/
def H1st (K : PySem.W.Frag) (T : List Addr) (a : Addr) (o : Obj) (xs : List V) : Hp := fun b => if b ∈ T then some (.tbl #[]) else if b = a ∧ K.lookup a = none then some (.frz o (.lst xs)) else none
section
variable {K : PySem.W.Frag} {T : List Addr} {a b : Addr} {o : Obj} {xs : List V} {u : HO}
theorem h1_some (h : H1st K T a o xs b = some u) : (b ∈ T ∧ u = .tbl #[]) ∨ (b ∉ T ∧ b = a ∧ K.lookup a = none ∧ u = .frz o (.lst xs)) := by
  unfold H1st at h
  split at h
  next q => exact .inl ⟨q, (Option.some.inj h).symm⟩
  next q =>
    split at h
    next z => exact .inr ⟨q, z.1, z.2, (Option.some.inj h).symm⟩
    next => cases h
theorem h1_tab (h : b ∈ T) : H1st K T a o xs b = some (.tbl #[]) := if_pos h
theorem h1_own (h : a ∉ T) (z : K.lookup a = none) : H1st K T a o xs a = some (.frz o (.lst xs)) := (if_neg h).trans (if_pos ⟨rfl, z⟩)
end
/-- the code objects of the makers, with their tables, as the top left them -/
structure Tabd (K : PySem.W.Frag) (h : Heap) (cs : List (Addr × Addr)) : Prop where
  empty : ∀ q ∈ cs, h.get? q.2 = some { cls := .none, data := .fields #[] }
  apart : ∀ q ∈ cs, K.lookup q.2 = none
  code : ∀ q ∈ cs, PySem.W.CodeHd h q.1 q.2
section
variable {P : Program} {w : World} {K : PySem.W.Frag} {mg mb : Str → Option Value} {k : Nat} {fa a : Addr} {cs : List (Addr × Addr)} {fd : FuncData} {x : Str} {sp : Sp} {s₁ : Shared} {vs : List Value} {ns : List Int}
theorem law_G (KX : K.In s₁.heap) (hns : s₁.heap.Ns mainGlobals mg) (hb : s₁.heap.Ns builtinsNs mb) (hbb : ∀ y : Str, y ≠ "__name__" → mb y = bootBuiltins y) (lim : s₁.heap.NoLimit) (nogen : s₁.gens = #[]) (D : Tabd K s₁.heap cs)
    (bmain : ∃ (bm : Addr) (ob : Obj), mg "__builtins__" = some (.ref bm) ∧ bm ≠ builtinsNs ∧ s₁.heap.get? bm = some ob ∧ ob.cls = .type "module" ∧ ob.dict = some builtinsNs ∧ ob.data = .plain)
    (ha : s₁.heap.get? a = some { cls := .type "list", data := .seq vs.toArray }) (hi : IntsAre vs ns) (hl : ns.length ≤ sizeLine) (room : Room k callerA)
    (F : ∀ base : Heap, K.In base → base.Ns mainGlobals mg → (∀ q ∈ cs, LamX.TabB base mg q.1 q.2) → FnG P w K mg base k fa fd [x] sp) (bd : ∀ (s : Shared) (u : Value), BindsTo s fd ⟨[u], []⟩ [(x, u)])
    (used : ∀ H : Hp, (∀ q ∈ cs, H q.2 = some (.tbl #[])) → SqL K H a (ns.map V.int) → sp [.ref a] H (fun v _ => v = .bl true) E0) :
    codeAny (model P w) callerA (.call (.ref fa) ⟨[.ref a], []⟩) (fun r s' => r = .ok (.ret (.bool true)) ∧ OldK s₁.heap s'.heap ∧ s'.os = s₁.os ∧ AllBare s'.gens) s₁ := by
  have rel : Vals (ns.map V.int) vs := vals_ints hi
  have tabAt : ∀ b ∈ cs.map Prod.snd, s₁.heap.get? b = some { cls := .none, data := .fields #[] } ∧ K.lookup b = none := by
    intro b hbm
    obtain ⟨q, hq, rfl⟩ := List.mem_map.mp hbm
    exact ⟨D.empty q hq, D.apart q hq⟩
  have mem : ∀ q ∈ cs, q.2 ∈ cs.map Prod.snd := fun q hq => List.mem_map.mpr ⟨q, hq, rfl⟩
  have noT : a ∉ cs.map Prod.snd := fun z => by
    have y := ha.symm.trans (tabAt a z).1
    cases y
  generalize eH : H1st K (cs.map Prod.snd) a { cls := .type "list", data := .seq vs.toArray } (ns.map V.int) = H
  have tr : ∀ {b : Addr} {u : HO}, H b = some u → (b ∈ cs.map Prod.snd ∧ u = .tbl #[]) ∨ (b ∉ cs.map Prod.snd ∧ b = a ∧ K.lookup a = none ∧ u = .frz { cls := .type "list", data := .seq vs.toArray } (.lst (ns.map V.int))) := fun z => h1_some (by rw [eH]; exact z)
  have ok : HOk P w H s₁.heap := fun b u z => by
    rcases tr z with ⟨h1, rfl⟩ | ⟨_, rfl, _, rfl⟩
    · exact (tabAt b h1).1
    · exact ⟨ha, by rw [List.length_map]; exact hl, vs, _, rel, ha⟩
  have seen : SqL K H a (ns.map V.int) := by
    cases e : K.lookup a with
    | none => exact .inl (.inr ⟨_, by rw [← eH]; exact h1_own noT e⟩)
    | some o =>
      have z := KX a o e
      rw [ha] at z
      cases z
      exact .inr ⟨_, vs.toArray, _, e, rfl, rfl, rfl, by rw [List.size_toArray, hi.length]; exact hl, by simpa using rel⟩
  have free : ∀ {b : Addr} {o : Obj}, s₁.heap.get? b = some o → (∀ ws n, o.data ≠ .seq ws n) → o.data ≠ .fields #[] → H b = none := fun {b o} e n1 n2 => by
    cases z : H b with
    | none => rfl
    | some u =>
      rcases tr z with ⟨h1, _⟩ | ⟨_, h1, _⟩
      · have y := e.symm.trans (tabAt b h1).1
        cases y
        exact (n2 rfl).elim
      · subst h1
        have y := e.symm.trans ha
        cases y
        exact (n1 _ _ rfl).elim
  have old : ∀ {b : Addr} {o : Obj}, s₁.heap.get? b = some o → H b = none → (hidT s₁.heap H).get? b = some o := fun e n => hidT_get e n
  have dictNs : ∀ {b : Addr} {m : Str → Option Value}, s₁.heap.Ns b m → (hidT s₁.heap H).Ns b m := fun {b m} h => by
    obtain ⟨o, es, ep, e, d, r⟩ := h
    refine ⟨o, es, ep, old e (free e (fun ws n z => ?_) fun z => ?_), d, r⟩
    · exact nomatch d.symm.trans z
    · exact nomatch d.symm.trans z
  have KB : K.In (hidT s₁.heap H) := fun b o e => by
    refine old (KX b o e) ?_
    cases z : H b with
    | none => rfl
    | some u =>
      rcases tr z with ⟨h1, _⟩ | ⟨_, h1, h2, _⟩
      · exact nomatch (tabAt b h1).2.symm.trans e
      · subst h1
        exact nomatch h2.symm.trans e
  have TB : ∀ q ∈ cs, LamX.TabB (hidT s₁.heap H) mg q.1 q.2 := fun q hq => by
    refine ⟨?_, ?_, fun z => ?_⟩
    · obtain ⟨o, us, file, tf, flags, tg, inF, text, tt, e1, r1, r2, r3, rest⟩ := D.code q hq
      refine ⟨o, us, file, tf, flags, tg, inF, text, tt, old e1 (free e1 (fun ws n z => ?_) fun z => ?_), r1, r2, r3, rest⟩
      · exact nomatch r2.symm.trans z
      · have y := r2.symm.trans z
        cases y
        simp at r3
    · obtain ⟨bm, ob, b1, b2, b3, b4, b5, b6⟩ := bmain
      refine ⟨bm, ob, b1, b2, fun z => ?_, fun z => ?_, old b3 (free b3 (fun ws n z => ?_) fun z => ?_), b4, b5, b6⟩
      · obtain ⟨o, es, ep, e, d, _⟩ := hns
        rw [z] at b3
        have y := b3.symm.trans e
        cases y
        exact nomatch b6.symm.trans d
      · rw [z] at b3
        have y := b3.symm.trans (D.empty q hq)
        cases y
        cases b6
      · exact nomatch b6.symm.trans z
      · exact nomatch b6.symm.trans z
    · obtain ⟨o, es, ep, e, d, _⟩ := hns
      rw [z] at e
      have y := e.symm.trans (D.empty q hq)
      cases y
      cases d
  have M : L2.Mod K mg (hidT s₁.heap H) := by
    obtain ⟨mc, l1, l2⟩ := lim
    exact ⟨KB, dictNs hns, ⟨mb, dictNs hb, hbb⟩, mc, dictNs l1, l2⟩
  have env : Env0 P w K mg (hidT s₁.heap H) callerA [] s₁ H := ⟨rfl, M, fun _ _ e => of_hidT e, Nat.le_of_eq (hidT_size _ _), trivial, fun _ z => (by cases z), ok, .of_eq nogen⟩
  have tabH : ∀ q ∈ cs, H q.2 = some (.tbl #[]) := fun q hq => by
    rw [← eH]
    exact h1_tab (mem q hq)
  refine codeAny_mono ((F _ KB (dictNs hns) TB).runs (args := ⟨[.ref a], []⟩) (us := [.ref a]) (vs := [.ref a]) rfl room env (bd s₁ (.ref a)) (.cons rfl .nil) (used H tabH seen)) fun r s' res => ?_
  match r, res with
  | .error _, z => exact z.elim
  | .ok .next, z => exact z.elim
  | .ok .brk, z => exact z.elim
  | .ok .cont, z => exact z.elim
  | .ok (.ret u), ⟨v, H', os, bare, un, ok', ru, q⟩ =>
    obtain rfl : v = V.bl true := q
    obtain rfl : u = Value.bool true := ru
    have more : ∀ q ∈ cs, ∃ ps : Array Value, s'.heap.get? q.2 = some { cls := .none, data := .fields ps } := fun q hq => by
      obtain ⟨ps, z⟩ := un.tbls q.2 #[] (tabH q hq)
      exact ⟨_, ok' q.2 _ z⟩
    have same : ∀ {b : Addr} {o : Obj}, b ∉ cs.map Prod.snd → s₁.heap.get? b = some o → s'.heap.get? b = some o := fun {b o} nb e => by
      cases z : H b with
      | none => exact un.keep b o e z (fun y => (by cases y)) (fun y => (by cases y))
      | some u =>
        rcases tr z with ⟨h1, _⟩ | ⟨_, _, _, h1⟩
        · exact absurd h1 nb
        · subst h1
          have z2 := (ok b _ z).1
          rw [e] at z2
          cases z2
          exact (ok' b _ (un.frzs b _ _ z)).1
    refine ⟨rfl, ⟨fun b o e => ?_, fun b o e => ?_⟩, os, bare⟩ <;> by_cases nb : b ∈ cs.map Prod.snd
    · obtain ⟨q, hq, rfl⟩ := List.mem_map.mp nb
      obtain ⟨ps, hp⟩ := more q hq
      have z := (D.empty q hq).symm.trans e
      cases z
      exact .inr (.inl ⟨((D.code q hq).tab (D.empty q hq)).isCodeTable, rfl, #[], ps, rfl, by rw [Array.empty_append]; exact hp⟩)
    · exact .inl (same nb e)
    · obtain ⟨q, hq, rfl⟩ := List.mem_map.mp nb
      obtain ⟨ps, hp⟩ := more q hq
      exact ⟨_, hp⟩
    · exact ⟨o, same nb e⟩
/-- the law's promise at the heap behind the top -/
def LawG (l : PySem.W.OpenLaw) (w : World) (K : PySem.W.Frag) (k n : Nat) (x : Str) (mg : Str → Option Value) (fa : Addr) (h : Heap) : Prop :=
  ∃ (fd : FuncData) (cs : List (Addr × Addr)) (sp : Sp), Tabd K h cs ∧ (∀ (s : Shared) (u : Value), BindsTo s fd ⟨[u], []⟩ [(x, u)]) ∧
    (∀ (H : Hp) (a : Addr) (ns : List Int), ns.length ≤ n → (∀ z ∈ ns, Builtin.Int.intBits z ≤ 1048576) → (∀ q ∈ cs, H q.2 = some (.tbl #[])) → SqL K H a (ns.map V.int) → sp [.ref a] H (fun v _ => v = .bl true) E0) ∧
    ∀ base : Heap, K.In base → base.Ns mainGlobals mg → (∀ q ∈ cs, LamX.TabB base mg q.1 q.2) → FnG l.prog w K mg base k fa fd [x] sp
theorem walk_G {l : PySem.W.OpenLaw} {n k : Nat} {q : Program} {loose : List Str} {XP : (Str → Option Value) → Heap → Prop} {YP : World → Heap → Prop} {d : DefRec} {K : Params → PySem.W.Frag} {x : Str} (hn : l.most = some n) (hn2 : n ≤ sizeLine) (nd : d.params.defaults = []) (room : Room k callerA)
    (hY : ∀ (w : World) (h : Heap), YP w h → (K w.params).In h)
    (F : ∀ (w : World) (mg : Str → Option Value) (fa : Addr) (h : Heap), (K w.params).In h → h.Ns mainGlobals mg → mg d.name = some (.ref fa) →
      (∀ (y : Str) (f : Addr), ((recsOf q).any fun e => e.name == y) = true → mg y = some (.ref f) → LamX.OwnTab (K w.params) f h) → LawG l w (K w.params) k n x mg fa h) :
    PySem.W.WalkO q loose XP YP l.row.toRowW d [] (fun f vs => PySem.call f vs) := by
  refine Att.attach_callB hn nd fun w s₀ s₁ mg mb fa o pm cd doc a vs ns G Y ho hd hcd hmg hobj hints hlen hbits hg => ?_
  have KX := hY w _ Y
  have own : ∀ (y : Str) (f : Addr), ((recsOf q).any fun e => e.name == y) = true → mg y = some (.ref f) → LamX.OwnTab (K w.params) f s₁.heap := by
    intro y f hy hf c P o1 fd1 e dd vs1 sl k1 k2 k3 k4 k5
    obtain ⟨dL, hm, en⟩ := List.any_eq_true.mp hy
    obtain ⟨f', o', fd', c', P', h1, h2, h3, h4, h5, ⟨oc, vc, e1, _, e3, e4⟩, hP⟩ := G.T.tab dL hm
    rw [beq_iff_eq.mp en, hf] at h1
    cases h1
    have z1 := (KX _ _ k1).symm.trans h2
    cases z1
    have z2 := k2.symm.trans h3
    cases z2
    have z3 := k3.symm.trans h4
    cases z3
    have z4 := (KX _ _ k4).symm.trans e1
    cases z4
    cases e3
    have z5 := k5.symm.trans e4
    cases z5
    exact hP
  obtain ⟨fd, cs, sp, D, bd, use, hF⟩ := F w mg fa _ KX G.T.g hmg own
  exact law_G KX G.T.g G.T.b G.T.builtins G.T.nolimit hg D G.T.bmain hobj hints (Nat.le_trans hlen hn2) room hF bd fun H hH hS => use H a ns hlen hbits hH hS
end
end J

/-! J16: len(o), x in o, o[x], o == x by an own class's own methods. -/
namespace J
open PySem PySem.Spec PyProof.Rows L2 Evl RZ
section
variable {X : Cx} {CX : CXT} {k : Nat} {f C : Addr} {fd : FuncData} {ps : List Str} {sp : Sp} {E : XK}
/-- a call somewhere below the running body -/
theorem run_sub {A : Around} {pins : List (Addr × Obj)} {σ : L2.St} {H : Hp} {s : Shared} {Q : VK} {us : List Value} {vs : List V} (sb : Sub X k A) (F : FnOk X.prog X.w X.K X.mg X.base CX k f fd ps sp) (hb : Binds X.K fd ps []) (hx : Passes CX X E)
    (I : Inv X pins σ H s) (r : Vals vs us) (h : sp vs H Q E) : wpAny (model X.prog X.w) A (call (.ref f) us) (EP X pins σ Q) X.xe s := by
  have here : Env0 X.prog X.w X.K X.mg X.base A X.stack s H := by
    have e := I.env0
    exact ⟨by rw [sb.fr]; exact e.frames, e.mod, e.bs, e.bsz, e.funs, e.frf, e.hok, e.bare⟩
  have gLen : us.length = ps.length := by
    rw [← r.length]
    exact F.len _ _ _ _ h
  refine wpAny_call (codeAny_mono (F.run A X.stack s H ⟨us, []⟩ us vs Q E sb.room here (by
    have := hb s us I.kIn (by simpa using gLen)
    simpa using this) r h) fun r s' hq => ?_)
  cases r with
  | error e => exact hx pins σ H s e s' I hq
  | ok fl =>
    cases fl with
    | ret w => exact I.after hq
    | next => exact False.elim hq
    | brk => exact False.elim hq
    | cont => exact False.elim hq
def rLenO (C : Addr) (sp : Sp) (E : XK) : List V → Hp → VK → Prop := fun xs H Q => ∃ a dx fs, xs = [.ref a] ∧ H a = some (.ins C dx fs) ∧ sp [.ref a] H (fun v H' => ∃ n : Int, v = .int n ∧ (0 ≤ n ∧ n < 2 ^ 63) ∧ Q (.int n) H') E
theorem call_lenO (F : FnOk X.prog X.w X.K X.mg X.base CX k f fd ps sp) (M : Meth X.K C "__len__" f) (hr : Room (k + 1) X.A) (hb : Binds X.K fd ps []) (hx : Passes CX X E) : CallR X (.builtin "len") (rLenO C sp E) := by
  intro pins s σ H xs us Q I r h
  obtain ⟨a, dx, fs, rfl, ha, wants⟩ := h
  obtain ⟨u, rfl, ru⟩ := vals1 r
  cases ru
  obtain ⟨mA, J, _⟩ := ins_get I.hok ha
  obtain ⟨od, J, _⟩ := J.look
  obtain ⟨m, frame⟩ := I.fr
  refine PySem.W.len_K frame I.ok.mod.kin J M.at_ M.fn (wpAny_mono (run_sub (A := X.A.in1) (k := k) (vs := [V.ref a]) ⟨hr.in1, rfl⟩ F hb hx I (.cons rfl .nil) wants) (fun v s' back => ?_) fun _ _ z => z)
  obtain ⟨x, H', I', rx, n, rfl, hn, q⟩ := back
  obtain ⟨t, rfl⟩ := rx
  exact ⟨hn, .int n, H', I'.tok _, ⟨_, rfl⟩, q⟩
def rInO (C : Addr) (sp : Sp) (E : XK) : R2 := fun x y H Q => ∃ a dx fs, y = .ref a ∧ H a = some (.ins C dx fs) ∧ sp [.ref a, x] H (fun v H' => ∃ b, v = .bl b ∧ Q (.bl b) H') E
def rNotInO (C : Addr) (sp : Sp) (E : XK) : R2 := fun x y H Q => ∃ a dx fs, y = .ref a ∧ H a = some (.ins C dx fs) ∧ sp [.ref a, x] H (fun v H' => ∃ b, v = .bl b ∧ Q (.bl (!b)) H') E
theorem op_inO (F : FnOk X.prog X.w X.K X.mg X.base CX k f fd ps sp) (M : Meth X.K C "__contains__" f) (hr : Room k X.A) (hb : Binds X.K fd ps []) (hx : Passes CX X E) : OpR X (compareOp .In) (rInO C sp E) := by
  intro pins s σ H x y v u Q I rx ry h
  obtain ⟨a, dx, fs, rfl, ha, wants⟩ := h
  cases ry
  obtain ⟨mA, J, _⟩ := ins_get I.hok ha
  obtain ⟨od, J, _⟩ := J.look
  obtain ⟨m, frame⟩ := I.fr
  refine PySem.W.in_K frame I.ok.mod.kin J M.at_ M.fn (wpAny_mono (run_sub (A := X.A) (vs := [V.ref a, x]) ⟨hr, rfl⟩ F hb hx I (.cons rfl (.cons rx .nil)) wants) (fun v s' back => ?_) fun _ _ z => z)
  obtain ⟨x, H', I', rx, b, rfl, q⟩ := back
  cases rx
  exact wpAny_truthy_bool ⟨.bl b, H', I', rfl, q⟩
theorem op_notInO (F : FnOk X.prog X.w X.K X.mg X.base CX k f fd ps sp) (M : Meth X.K C "__contains__" f) (hr : Room k X.A) (hb : Binds X.K fd ps []) (hx : Passes CX X E) : OpR X (compareOp .NotIn) (rNotInO C sp E) := by
  intro pins s σ H x y v u Q I rx ry h
  obtain ⟨a, dx, fs, rfl, ha, wants⟩ := h
  cases ry
  obtain ⟨mA, J, _⟩ := ins_get I.hok ha
  obtain ⟨od, J, _⟩ := J.look
  obtain ⟨m, frame⟩ := I.fr
  refine PySem.W.notIn_K frame I.ok.mod.kin J M.at_ M.fn (wpAny_mono (run_sub (A := X.A) (vs := [V.ref a, x]) ⟨hr, rfl⟩ F hb hx I (.cons rfl (.cons rx .nil)) wants) (fun v s' back => ?_) fun _ _ z => z)
  obtain ⟨x, H', I', rx, b, rfl, q⟩ := back
  cases rx
  exact wpAny_truthy_bool ⟨.bl (!b), H', I', rfl, q⟩
end
section
variable {r : Rs} {s : L2.St} {S : Hp} {ta tb : TE} {v : V} {A : Type} {C : Addr} {pre : A → List V → Hp → Prop} {post : A → V → Hp → Prop} {E : XK}
/-- len(o), o told by a relation -/
theorem vv_lenO {n : Int} (a : A) (h : EvV r ta s S v) (back : ∃ x dx fs, v = .ref x ∧ S x = some (.ins C dx fs)) (hn : 0 ≤ n ∧ n < 2 ^ 63) (hp : ∀ S1, Ex S S1 → pre a [v] S1) (hq : ∀ u S1, post a u S1 → u = .int n) : EvV r (tCB (rLenO C (SpP pre post) E) (tCons ta tNil)) s S (.int n) := fun S1 H e w Q q =>
  h S1 H e w _ fun u S2 H2 w2 s2 eu => by
    subst eu
    obtain ⟨x, dx, fs, rfl, hx⟩ := back
    have e2 := e.trans s2.ex
    refine ⟨x, dx, fs, rfl, w2.ex _ _ (e2 _ _ hx), a, S2, hp S2 e2, w2.ex, fun u S3 H3 w3 s3 p3 => ⟨n, hq u S3 p3, hn, q _ S3 H3 (w2.lift w3 s3) (s2.trans s3.lift) rfl⟩⟩
theorem vv_inO {b : Bool} {x y : V} (a : A) (hx : EvV r ta s S x) (hy : EvV r tb s S y) (back : ∃ z dx fs, y = .ref z ∧ S z = some (.ins C dx fs)) (hp : ∀ S1, Ex S S1 → pre a [y, x] S1) (hq : ∀ u S1, post a u S1 → u = .bl b) : EvV r (tOp (rInO C (SpP pre post) E) ta tb) s S (.bl b) := fun S1 H e w Q q =>
  hx S1 H e w _ fun u S2 H2 w2 s2 eu => hy S2 H2 (e.trans s2.ex) w2 _ fun u' S3 H3 w3 s3 eu' => by
    subst eu
    subst eu'
    obtain ⟨z, dx, fs, rfl, hz⟩ := back
    have e3 := e.trans (s2.ex.trans s3.ex)
    exact ⟨z, dx, fs, rfl, w3.ex _ _ (e3 _ _ hz), a, S3, hp S3 e3, w3.ex, fun u S4 H4 w4 s4 p4 => ⟨b, hq u S4 p4, q _ S4 H4 (w3.lift w4 s4) ((s2.trans s3).trans s4.lift) rfl⟩⟩
theorem vv_notInO {b : Bool} {x y : V} (a : A) (hx : EvV r ta s S x) (hy : EvV r tb s S y) (back : ∃ z dx fs, y = .ref z ∧ S z = some (.ins C dx fs)) (hp : ∀ S1, Ex S S1 → pre a [y, x] S1) (hq : ∀ u S1, post a u S1 → u = .bl b) : EvV r (tOp (rNotInO C (SpP pre post) E) ta tb) s S (.bl (!b)) := fun S1 H e w Q q =>
  hx S1 H e w _ fun u S2 H2 w2 s2 eu => hy S2 H2 (e.trans s2.ex) w2 _ fun u' S3 H3 w3 s3 eu' => by
    subst eu
    subst eu'
    obtain ⟨z, dx, fs, rfl, hz⟩ := back
    have e3 := e.trans (s2.ex.trans s3.ex)
    exact ⟨z, dx, fs, rfl, w3.ex _ _ (e3 _ _ hz), a, S3, hp S3 e3, w3.ex, fun u S4 H4 w4 s4 p4 => ⟨b, hq u S4 p4, q _ S4 H4 (w3.lift w4 s4) ((s2.trans s3).trans s4.lift) rfl⟩⟩
end
end J

/-! J19: o == p of two instances of one class by its own __eq__. -/
namespace J
open PySem PySem.Spec PyProof.Rows L2 Evl RZ
section
variable {X : Cx} {CX : CXT} {k : Nat} {f C : Addr} {fd : FuncData} {ps : List Str} {sp : Sp} {E : XK}
def rEqO (C : Addr) (sp : Sp) (E : XK) : R2 := fun x y H Q => ∃ a dx fs b dy gs, x = .ref a ∧ y = .ref b ∧ H a = some (.ins C dx fs) ∧ H b = some (.ins C dy gs) ∧ sp [.ref a, .ref b] H (fun v H' => ∃ z, v = .bl z ∧ Q (.bl z) H') E
theorem op_eqO (F : FnOk X.prog X.w X.K X.mg X.base CX k f fd ps sp) (M : Meth X.K C "__eq__" f) (hr : Room k X.A) (hb : Binds X.K fd ps []) (hx : Passes CX X E) : OpR X (compareOp .Eq) (rEqO C sp E) := by
  intro pins s σ H x y v u Q I rx ry h
  obtain ⟨a, dx, fs, b, dy, gs, rfl, rfl, ha, hb2, wants⟩ := h
  cases rx
  cases ry
  obtain ⟨mA, J, _⟩ := ins_get I.hok ha
  obtain ⟨od, J, _⟩ := J.look
  obtain ⟨mB, J', _⟩ := ins_get I.hok hb2
  obtain ⟨od', J', _⟩ := J'.look
  obtain ⟨m, frame⟩ := I.fr
  refine PySem.W.cmp_ofEq (PySem.W.cmp_K (op := .Eq) (tb := .ref C) hr.units0 frame I.ok.mod.kin J J'.type (by simp [PySem.W.notFirst]) M.at_ M.fn ?_)
  refine wpAny_mono (run_sub (A := X.A) (vs := [V.ref a, V.ref b]) ⟨hr, rfl⟩ F hb hx I (.cons rfl (.cons rfl .nil)) wants) (fun w s' back => ?_) fun _ _ z => z
  obtain ⟨t, H', I', rt, z, rfl, q⟩ := back
  cases rt
  exact ⟨.bl z, H', I', rfl, q⟩
end
section
variable {r : Rs} {s : L2.St} {S : Hp} {ta tb : TE} {A : Type} {C : Addr} {pre : A → List V → Hp → Prop} {post : A → V → Hp → Prop} {E : XK}
theorem vv_eqO {b : Bool} {x y : V} (a : A) (hx : EvV r ta s S x) (hy : EvV r tb s S y) (bx : ∃ z dx fs, x = .ref z ∧ S z = some (.ins C dx fs)) (bk : ∃ z dx fs, y = .ref z ∧ S z = some (.ins C dx fs)) (hp : ∀ S1, Ex S S1 → pre a [x, y] S1) (hq : ∀ u S1, post a u S1 → u = .bl b) : EvV r (tOp (rEqO C (SpP pre post) E) ta tb) s S (.bl b) := fun S1 H e w Q q =>
  hx S1 H e w _ fun u S2 H2 w2 s2 eu => hy S2 H2 (e.trans s2.ex) w2 _ fun u' S3 H3 w3 s3 eu' => by
    subst eu
    subst eu'
    obtain ⟨z, dx, fs, rfl, hz⟩ := bx
    obtain ⟨z', dx', fs', rfl, hz'⟩ := bk
    have e3 := e.trans (s2.ex.trans s3.ex)
    exact ⟨z, dx, fs, z', dx', fs', rfl, rfl, w3.ex _ _ (e3 _ _ hz), w3.ex _ _ (e3 _ _ hz'), a, S3, hp S3 e3, w3.ex, fun u S4 H4 w4 s4 p4 => ⟨b, hq u S4 p4, q _ S4 H4 (w3.lift w4 s4) ((s2.trans s3).trans s4.lift) rfl⟩⟩
/-- (w, x, y, z) told by a relation -/
def QuadR {α β γ δ : Type} (K : PySem.W.Frag) (R : Rl α) (R' : Rl β) (R'' : Rl γ) (R3 : Rl δ) : Rl (α × β × γ × δ) := fun p v S => ∃ a x y z w, v = .ref a ∧ SqT K S a [x, y, z, w] ∧ R p.1 x S ∧ R' p.2.1 y S ∧ R'' p.2.2.1 z S ∧ R3 p.2.2.2 w S
instance {α β γ δ : Type} {K : PySem.W.Frag} {R : Rl α} {R' : Rl β} {R'' : Rl γ} {R3 : Rl δ} [Mono R] [Mono R'] [Mono R''] [Mono R3] : Mono (QuadR K R R' R'' R3) := ⟨fun e ⟨a, x, y, z, w, h1, h2, h3, h4, h5, h6⟩ => ⟨a, x, y, z, w, h1, ex_t e h2, Mono.up e h3, Mono.up e h4, Mono.up e h5, Mono.up e h6⟩⟩
instance {α β γ δ : Type} [DecidableEq α] [DecidableEq β] [DecidableEq γ] [DecidableEq δ] {K : PySem.W.Frag} {R : Rl α} {R' : Rl β} {R'' : Rl γ} {R3 : Rl δ} [Dt K R] [Dt K R'] [Dt K R''] [Dt K R3] : Dt K (QuadR K R R' R'' R3) where
  d p := .tuple [Dt.d K R p.1, Dt.d K R' p.2.1, Dt.d K R'' p.2.2.1, Dt.d K R3 p.2.2.2]
  dp h := by
    obtain ⟨a, x, y, z, w, e, h1, h2, h3, h4, h5⟩ := h
    subst e
    exact .tup h1 (.cons (Dt.dp h2) (.cons (Dt.dp h3) (.cons (Dt.dp h4) (.cons (Dt.dp h5) .nil))))
  eqv a b := by
    simp only [PyData.eqv, PyData.eqvAll]
    rw [Dt.eqv, Dt.eqv, Dt.eqv, Dt.eqv, Bool.and_true, ← Bool.decide_and, ← Bool.decide_and, ← Bool.decide_and]
    exact decide_eq_decide.mpr ⟨fun e => Prod.ext e.1 (Prod.ext e.2.1 (Prod.ext e.2.2.1 e.2.2.2)), fun e => by rw [e]; exact ⟨rfl, rfl, rfl, rfl⟩⟩
  lay a := by
    simp only [PyData.canLay0, PyData.canLayAll0, Dt.lay, Bool.and_self]
  dep := max (max (Dt.dep K R) (Dt.dep K R')) (max (Dt.dep K R'') (Dt.dep K R3)) + 1
  dep_le p := by
    simp only [PyData.depth, PyData.depthAll]
    have h1 := Dt.dep_le (K := K) (R := R) p.1
    have h2 := Dt.dep_le (K := K) (R := R') p.2.1
    have h3 := Dt.dep_le (K := K) (R := R'') p.2.2.1
    have h4 := Dt.dep_le (K := K) (R := R3) p.2.2.2
    omega
theorem ev_quad {α β γ δ : Type} {K : PySem.W.Frag} {R : Rl α} {R' : Rl β} {R'' : Rl γ} {R3 : Rl δ} [Mono R] [Mono R'] [Mono R''] [Mono R3] {a : α} {b : β} {c : γ} {d : δ} {t1 t2 t3 t4 : TE} (h1 : EvS r t1 s S fun v S1 => R a v S1) (h2 : ∀ S1, Ex S S1 → EvS r t2 s S1 fun v S2 => R' b v S2) (h3 : ∀ S1, Ex S S1 → EvS r t3 s S1 fun v S2 => R'' c v S2) (h4 : ∀ S1, Ex S S1 → EvS r t4 s S1 fun v S2 => R3 d v S2) : EvS r (tTup (tCons t1 (tCons t2 (tCons t3 (tCons t4 tNil))))) s S fun v S1 => QuadR K R R' R'' R3 (a, b, c, d) v S1 := fun S1 H e w Q q =>
  h1 S1 H e w _ fun v1 S2 H2 w2 s2 g1 => h2 S2 (e.trans s2.ex) S2 H2 (Ex.refl _) w2 _ fun v2 S3 H3 w3 s3 g2 => h3 S3 (e.trans (s2.ex.trans s3.ex)) S3 H3 (Ex.refl _) w3 _ fun v3 S4 H4 w4 s4 g3 => h4 S4 (e.trans (s2.ex.trans (s3.ex.trans s4.ex))) S4 H4 (Ex.refl _) w4 _ fun v4 S5 H5 w5 s5 g4 => ⟨sz_of (show [v1, v2, v3, v4].length ≤ 100000 by simp), fun p hp => by
    have n5 : Ex S5 (upd S5 p (.tup [v1, v2, v3, v4])) := Ex.new (w5.fresh hp)
    exact q (.ref p) (upd S5 p (.tup [v1, v2, v3, v4])) _ (w5.newS hp) ((s2.trans (s3.trans (s4.trans s5))).trans (Stp.newS w5 hp)) ⟨p, v1, v2, v3, v4, rfl, SqT.of upd_same, Mono.up (s3.ex.trans (s4.ex.trans (s5.ex.trans n5))) g1, Mono.up (s4.ex.trans (s5.ex.trans n5)) g2, Mono.up (s5.ex.trans n5) g3, Mono.up n5 g4⟩⟩
end
end J

set_option pp.maxSteps 3000
/-! J21: exception classes over ValueError, through a class of the program, whose __init__ says super().__init__(a text) and stores its argument. -/
namespace J
open PySem PySem.Spec PySem.Calls PyProof.Rows L2 Evl RZ
/-- the body of such an __init__ -/
abbrev xcBody (msg fld prm : Str) (j : Nat) (p0 p1 p2 p3 p4 p5 p6 p7 p8 p9 : Pos) : List Stmt :=
  [.Expr (.Call (.Attribute (.Call (.Name "super" p0) [] [] p1) "__init__" p2) [.Constant (.str msg) j p3] [] p4) p5, .Assign [.Attribute (.Name "self" p6) fld p7] (.Name prm p8) p9]
abbrev xcScope (prm : Str) : Scope := { kind := .function, names := [("self", .local), (prm, .local)], isGenerator := false, isCoroutine := false }
/-- an instance being made at a gets its field -/
def spXi (C : Addr) (fld : Str) : Sp := fun vs H Q _ => ∃ (a : Addr) (v : V), vs = [.ref a, v] ∧ H a = some (exo a C none) ∧ ∀ dx, H dx = none → dx ≠ a → Q .non (upd (upd H dx (exd dx [(fld, v)])) a (exo a C (some dx)))
/-- the facts of such a class -/
structure XcT (P : Program) (K : PySem.W.Frag) (mg : Str → Option Value) (C f : Addr) (qual fld prm : Str) (st : Stmt) (fd : FuncData) : Prop where
  cls : OexC K C
  ini : PySem.W.findIn K (.ref C) "__init__" = some (some (.ref f))
  tI : PySem.W.typeIn K (.ref f) = some (.type "function")
  fn : ∃ (oc kV doc pm ct : Value) (od an : Option Addr) (osl : Array (Option Value)) (cda cc : Addr), fd = PySem.W.ksFn "__init__" qual (defArgs st) (defBody st) (defScope st) .none kV doc pm an (.ref cda) ct cc ∧ K.lookup f = some ⟨oc, od, .func fd, osl⟩ ∧ PySem.W.codeIn K (.ref cda) qual = true ∧
    (∃ (ccl : Value) (cdd : Option Addr) (vs : Array Value) (ccs : Array (Option Value)) (file : Str) (tf : Tok), K.lookup cda = some ⟨ccl, cdd, .fields vs, ccs⟩ ∧ vs[2]? = some (.str file tf) ∧ ((P.main.file : Str) == file) = true) ∧
    ∃ (cl : Value) (cld : Option Addr) (csl : Array (Option Value)), K.lookup cc = some ⟨cl, cld, .cell (some (.ref C)), csl⟩
  sup : PySem.W.ks_superIn K C C "__init__" = some (some (.builtin "ValueError.__init__"))
  sB : PySem.W.subIn K (.ref C) (.type "ValueError") = some true
  sC : PySem.W.mroIn K C (.ref C) = some true
  fno : PySem.W.findIn K (.ref C) fld = some none
  zs : mg "super" = none
  tp : PySem.W.nsIn K cStatics "thirdparty.any" = some none
  top : (P.main.scope.names.lookup ("super" : Str)).isSome = false
  body : ∃ msg j p0 p1 p2 p3 p4 p5 p6 p7 p8 p9, defBody st = xcBody msg fld prm j p0 p1 p2 p3 p4 p5 p6 p7 p8 p9 ∧ ∀ env : Env, ∃ pl : Sem Bool, eval (.Call (.Attribute (.Call (.Name "super" p0) [] [] p1) "__init__" p2) [.Constant (.str msg) j p3] [] p4) env = (do
    let ov ← attributeBase (.Call (.Name "super" p0) [] [] p1) "__init__" env (eval (.Call (.Name "super" p0) [] [] p1) env)
    standAt p2.atName
    let (f, first) ← holding [ov] (getMethod ov "__init__" pl)
    callWith p4 f first (backTo p4 (starEach [.Constant (.str msg) j p3] env)) [])
  par : ((defArgs st).posonlyargs ++ (defArgs st).args).head?.map (fun a => a.arg) = some "self"
  sc1 : (defScope st).kind = .function
  sc2 : (defScope st).isCoroutine = false
  sc3 : (defScope st).isGenerator = false
  sc4 : ∀ x ∈ (defScope st).names, x.2 ≠ .cell
  sc5 : (defScope st).names.lookup ("self" : Str) = some .local
  sc6 : (defScope st).names.lookup prm = some .local
  sc7 : (defScope st).names.lookup ("super" : Str) = some .globalImplicit
  sc8 : (defScope st).names.lookup ("__class__" : Str) = some .free
  np : ("self" : Str) ≠ prm
  nd : (prm == ("__debug__" : Str)) = false
section
variable {P : Program} {w : World} {K : PySem.W.Frag} {mg : Str → Option Value} {base : Heap}
/-- the built-in __init__ bound to an instance a, called -/
theorem call_mw {A : Around} {E : Value → Shared → Prop} {s : Shared} {C a u t0 : Addr} {rest : List Value} {Q : Value → Shared → Prop} (T : OexC K C) (KX : K.In s.heap) (ha : s.heap.get? a = some (PySem.HandSPX.excO C t0)) (hu : s.heap.get? u = some (PySem.W.kxs_mw "ValueError.__init__" a)) (hl : rest.length ≤ sizeLine)
    (q : ∀ h' t1, (∀ b o, b ≠ a → s.heap.get? b = some o → h'.get? b = some o) → h'.get? a = some (PySem.HandSPX.excO C t1) → Q .none { s with heap := h' }) : wpAny (model P w) A (call (.ref u) rest) Q E s := by
  obtain ⟨nm, qn, N, bs, bm, sn, sub, ab, col, dd, k0, k1, k2, k3, k5, hC, hbm⟩ := T.cls
  obtain ⟨hp, g, d, t, os⟩ := s
  refine wpAny_call (codeAny_of_tree ?_)
  show wpAny _ A.in1 (callAny (.ref u) ⟨rest, []⟩) _ _ _
  simp only [callAny]
  refine wpAny_bind (wpAny_load hu ?_)
  simp only [PySem.W.kxs_mw, show (Value.type "method-wrapper" == Value.type "method" || Value.type "method-wrapper" == Value.type "builtin_function_or_method" || Value.type "method-wrapper" == Value.type "method-wrapper") = true by decide, if_true]
  refine PySem.W.KFB.if_so (by decide) (wpAny_bind (PySem.W.check_bound_init F.excBase_ValueError.toExcCallFacts (KX _ _ hC) ha rfl (wpAny_bind (wpAny_pure (wpAny_pure ⟨plainId_quiet F.excBase_ValueError.init.plain _, codeAny_builtin F.excBase_ValueError.initEntry ?_⟩)))))
  exact PySem.W.exc_init_tree (cls := .ref C) (t0 := t0) (dv := none) (c2 := .none) (c3 := .none) (b4 := .bool false) ha hl fun h' k e _ => q h' _ k e
theorem bindL_two {n0 n1 : Str} (hn : n0 ≠ n1) {v0 v1 : Value} {ko : Str → Option NameKind} (h0 : ko n0 = some .local) (h1 : ko n1 = some .local) : bindL ko [(n0, v0), (n1, v1)] (fun _ => none) = fun y => ([(n0, v0), (n1, v1)] : List (Str × Value)).reverse.lookup y := by
  funext y
  show bindL ko [(n0, v0), (n1, v1)] (fun _ => none) y = List.lookup y [(n1, v1), (n0, v0)]
  unfold bindL bindL bindL
  rw [if_pos h0, if_pos h1]
  by_cases e1 : y = n1
  · subst e1
    simp [List.lookup]
  · by_cases e0 : y = n0
    · subst e0
      have : (y == n1) = false := by simpa using e1
      simp [List.lookup, this, hn]
    · have z1 : (y == n1) = false := by simpa using e1
      have z0 : (y == n0) = false := by simpa using e0
      simp [List.lookup, z1, z0, e1, e0]
theorem scope2 {prm : Str} (h : ("self" : Str) ≠ prm) : FnScope ["self", prm] ["self", prm] (xcScope prm) := by
  refine ⟨rfl, rfl, rfl, by simpa using h, rfl, fun x hx => ?_, fun y hy => ?_⟩
  · rcases List.mem_cons.mp hx with rfl | hx
    · exact .inl (by simp [List.lookup])
    · rw [List.mem_singleton.mp hx]
      by_cases e : prm = ("self" : Str)
      · exact absurd e.symm h
      · have z : (prm == ("self" : Str)) = false := by simpa using e
        exact .inl (by simp [List.lookup, z])
  · rcases List.mem_cons.mp hy with rfl | hy
    · exact fun z => by cases z
    · rw [List.mem_singleton.mp hy]
      exact fun z => by cases z
theorem xinit_ok {C f : Addr} {qual fld prm : Str} {st : Stmt} {fd : FuncData} (T : XcT P K mg C f qual fld prm st fd) : FnOk P w K mg base CX0 1 f fd ["self", prm] (spXi C fld) := by
  refine ⟨fun vs H Q E h => ?_, fun A outer s H args us vs Q E hr e0 hb r h => ?_⟩
  · obtain ⟨a, v, rfl, _⟩ := h
    rfl
  · obtain ⟨a, v, rfl, ha, hq⟩ := h
    obtain ⟨oc, kV, doc, pm, ct, od, an, osl, cda, cc, efd, lk, hcd, ⟨ccl, cdd, vc, ccs, file, tf, k1, k2, k3⟩, ⟨cl, cld, csl, k4⟩⟩ := T.fn
    subst efd
    obtain ⟨msg, j, p0, p1, p2, p3, p4, p5, p6, p7, p8, p9, eb, mc⟩ := T.body
    have KX : K.In s.heap := e0.mod.kin.keeps fun b o e => (e0.bs b o e).1
    have lim : s.heap.NoLimit := e0.mod.nolimit.keeps fun b o e => (e0.bs b o e).1
    cases r with
    | @cons _ u0 _ us' r0 r' =>
    cases r' with
    | @cons _ u1 _ us'' r1 r'' =>
    cases r''
    obtain rfl : u0 = Value.ref a := r0
    have hs2 := scope2 T.np
    have l0 : (xcScope prm).names.lookup ("self" : Str) = some .local := by simp [List.lookup]
    have l1 : (xcScope prm).names.lookup prm = some .local := by
      have z : (prm == ("self" : Str)) = false := by simpa using T.np.symm
      simp [List.lookup, z]
    refine PySem.ks_codeAny_call_defAt (fd := PySem.W.ksFn "__init__" qual (defArgs st) (defBody st) (defScope st) .none kV doc pm an (.ref cda) ct cc) (body := defBody st) (binds := (["self", prm] : List Str).zip [.ref a, u1]) (hr.mono (Nat.zero_le 1)).depth (KX _ _ lk) rfl lim (PySem.W.codeRec_of KX hcd) rfl hb T.sc4 (fun y hy => ?_) (fun h₁ hns kp => ?_) T.sc2 T.sc3 T.sc1
    · rcases List.mem_cons.mp hy with rfl | hy
      · exact T.sc5
      · rw [List.mem_singleton.mp hy]
        exact T.sc6
    · have x : InCallC s s.heap.objs.size (bindL (envOfC qual (xcScope prm) s.heap.objs.size f (.ref cda)).kindOf ((["self", prm] : List Str).zip [.ref a, u1]) fun _ => none) (cellsFrom (s.heap.objs.size + 1) (xcScope prm).names []) (bindC (envOfC qual (xcScope prm) s.heap.objs.size f (.ref cda)).kindOf ((["self", prm] : List Str).zip [.ref a, u1]) fun _ => none) { s with heap := h₁, toks := s.toks + ((["self", prm] : List Str).zip [.ref a, u1]).length } := by
        refine ⟨⟨⟨_, _, rfl⟩, ?_, kp, Nat.le_refl _⟩, fun n c e => ?_, ?_, fun n c e => ?_⟩
        · have e2 := bindL_two (n0 := "self") (n1 := prm) (v0 := Value.ref a) (v1 := u1) (ko := (envOfC qual (xcScope prm) s.heap.objs.size f (.ref cda)).kindOf) T.np l0 l1
          show h₁.Ns _ (bindL _ [("self", Value.ref a), (prm, u1)] _)
          rw [e2]
          exact hns
        · cases e
        · exact List.Pairwise.nil
        · cases e
      have I := inv_start (CX := CX0) (w := w) (qual := qual) (f := f) (cd := .ref cda) (E := E) hs2 hr.hd e0 (show [V.ref a, v].length = (["self", prm] : List Str).length from rfl) (Paired.cons rfl (Paired.cons r1 Paired.nil) : Vals [V.ref a, v] [Value.ref a, u1]) x
      obtain ⟨ar, har, eself⟩ := Option.map_eq_some_iff.mp T.par
      obtain ⟨mb, hb1, hb2⟩ := e0.mod.blt
      have bk : ∀ b o, base.get? b = some o → h₁.get? b = some o := fun b o e => kp b o (e0.bs b o e).1
      have KX1 : K.In h₁ := e0.mod.kin.keeps bk
      obtain ⟨t1, ho1⟩ := exo_at I.hok ha
      have la : a ≠ s.heap.objs.size := fun z => by
        obtain ⟨t0, ho0⟩ := exo_at e0.hok ha
        exact Nat.lt_irrefl _ (z ▸ Heap.lt_size ho0)
      obtain ⟨nm, qn, N, bs, bm, sn, sub, ab, col, dd, q0, q1, q2, q3, q5, hC, hbm⟩ := T.cls.cls
      have hcl : PySem.W.clsIn K C = some { name := nm, bases := bs, mro := .ref C :: bm, ns := N, qualname := qn, hasDict := true, slotNames := sn, subclasses := sub, abstract := ab, collection := col, hasDel := false } := by
        unfold PySem.W.clsIn
        rw [hC]
      have hCo := KX1 _ _ hC
      have sup := T.sup
      unfold PySem.W.ks_superIn at sup
      rw [hcl] at sup
      show PySem.wpAt (model P w) (A.deeper (PySem.W.ksEnv qual (defScope st) s.heap.objs.size f (.ref cda) cc)) (.func (defBody st) (PySem.W.ksEnv qual (defScope st) s.heap.objs.size f (.ref cda) cc)) (execs (defBody st) (PySem.W.ksEnv qual (defScope st) s.heap.objs.size f (.ref cda) cc)) _ _ _
      rw [eb]
      obtain ⟨pl, hmc⟩ := mc (PySem.W.ksEnv qual (defScope st) s.heap.objs.size f (.ref cda) cc)
      have hint : interactive (PySem.W.ksEnv qual (defScope st) s.heap.objs.size f (.ref cda) cc) = false := by
        unfold interactive
        show ((defScope st).kind == ScopeKind.module && _) = false
        rw [T.sc1]
        rfl
      refine PySem.ks_wpAt_execs_cons (PySem.ks_wpAt_Expr_any (PySem.ks_wpAt_MethodCall (PySem.ks_wpAt_super_base T.sc7 T.sc8 (by decide) rfl (KX1 _ _ lk) rfl har rfl (KX1 _ _ k1) rfl k2 k3 T.top ?_) hmc) hint (by rfl))
      refine PySem.W.ks_loadName_global T.sc1 T.sc7 (PySem.Calls.loadGlobal_builtin (e0.mod.glob.keeps bk) T.zs (hb1.keeps bk) ((hb2 _ (by decide +kernel)).trans (by first | rfl | decide +kernel)) ⟨rfl, ?_⟩)
      refine wpAny_loadName_free T.sc1 T.sc8 rfl ⟨_, KX1 _ _ k4, rfl⟩ ?_
      rw [eself]
      refine wpAny_loadName_local (v := .ref a) T.sc1 T.sc5 hns (by
        have z : (("self" : Str) == prm) = false := by simpa using T.np
        simp [List.lookup, z]) ?_
      refine PySem.ks_wpAny_isType_cls hCo rfl ⟨rfl, ?_⟩
      refine PySem.ks_wpAny_call_super hCo rfl ho1 rfl (fun c e => by cases e) (PySem.W.looks_mroIn KX1 T.sC) (fun h2 e2 kp2 => ?_)
      have KX2 : K.In h2 := KX1.keeps kp2
      have hty : PySem.W.Looks (model P w) h2 (typeOf (.ref a)) (.ref C) := fun A Q E s k q => wpAny_typeOf_ref (k _ _ (kp2 _ _ ho1)) q
      have hI : PySem.W.Looks (model P w) h2 (isInstance (.ref a) (.type "ValueError")) true := PySem.W.Looks.andThen hty (PySem.W.looks_subIn KX2 T.sB)
      refine PySem.W.kxs_getMethod PySem.W.kxs_ValueError e2 (PySem.W.looks_opaque KX2 T.tp) (l₀ := .ref C :: bm) (fun A Q E s k q => wpAny_bind ((PySem.W.looks_clsIn KX2 hcl) A _ E s k (wpAny_pure q))) rfl KX2 sup hI (fun z => ?_) (by decide) ?_
      · rw [z, hCo] at ho1
        cases ho1
      refine PySem.W.kxs_callWith (i := "ValueError.__init__") (x := a) rfl (evalArgs_plain ?_)
      show wpAny _ _ (spliced ((false, eval (.Constant (.str msg) j p3) (PySem.W.ksEnv qual (defScope st) s.heap.objs.size f (.ref cda) cc)) :: backTo p4 (starEach [] (PySem.W.ksEnv qual (defScope st) s.heap.objs.size f (.ref cda) cc)))) _ _ _
      refine Calls.spliced_cons (Calls.Constant_str (Calls.spliced_nil ⟨Heap.get?_push_size _ rfl, ?_⟩))
      refine call_mw T.cls (KX2.keeps fun b o e => Heap.get?_push_of_some _ e) (Heap.get?_push_of_some _ (kp2 _ _ ho1)) (Heap.get?_push_size _ rfl) (by rw [sizeLine_eq]; exact Nat.le_of_ble_eq_true rfl) (fun h3 t3 kp3 ho3 => ?_)
      have kp13 : ∀ b o, b ≠ a → h₁.get? b = some o → h3.get? b = some o := fun b o hb e => kp3 b o hb (Heap.get?_push_of_some _ (kp2 b o e))
      have I3 := I.write (t' := s.toks + 2 + 1 + 1) (x := a) (e := a) (o := exo a C none) (by rw [ha]; exact True.intro) (.inl rfl) (h' := h3) kp13 ⟨_, ho3⟩ (exo_ok ho3)
      have eu : upd H a (exo a C none) = H := by
        funext b
        by_cases hb : b = a
        · rw [hb, upd_same, ha]
        · rw [upd_ne hb]
      rw [eu] at I3
      have hns3 : h3.Ns s.heap.objs.size fun y => (([("self", Value.ref a), (prm, u1)] : List (Str × Value)).reverse.lookup y) := by
        obtain ⟨o, es, ep, z1, z2, z3⟩ := hns
        exact ⟨o, es, ep, kp13 _ _ (Ne.symm la) z1, z2, z3⟩
      refine PySem.ks_wpAt_execs_cons (PySem.wpAt_of_wpAny (plainObj_wpAny_Assign_Attribute (wpAny_Name (wpAny_loadName_local (v := u1) T.sc1 T.sc6 hns3 (by simp [List.lookup]) ?_) T.nd) (by rfl)))
      refine wpAny_Name (wpAny_loadName_local (v := .ref a) T.sc1 T.sc5 hns3 (by
        have z : (("self" : Str) == prm) = false := by simpa using T.np
        simp [List.lookup, z]) ?_)
      refine ost_new T.cls I3 ha T.fno r1 fun dx s4 hd dne I4 => ?_
      exact PySem.wpAt_of_wpAny (wpAny_execs_nil ⟨.non, _, I4.os, I4.bare, I4.base, I4.hok, rfl, hq dx hd dne⟩)
end
section
variable {X : Cx} {C f : Addr} {qual fld prm : Str} {st : Stmt} {fd : FuncData} {x : Str} {e : Expr} {te : TE} {p pos : Pos}
/-- C(e), an exception that is made where none is handled -/
theorem pmk_xc {ta : TA} (T : XcT X.prog X.K X.mg C f qual fld prm st fd) (hr : Room 2 X.A) (hb : Binds X.K fd ["self", prm] []) (hg : Gl X x) (hm : X.mg x = some (.ref C)) (ha : PA X [e] ta)
    (ndb : (x == ("__debug__" : Str)) = false := by decide) (e1 : starEach [e] X.env = (false, eval e X.env) :: starEach [] X.env := by rfl) (e2 : (backTo pos (starEach [] X.env)).any (·.1) = false := by rfl) :
    L2N.PMk X (.Call (.Name x p) [e] [] pos) (fun σ H Q => ta σ H fun vs H1 => ∃ v, vs = [v] ∧ ∀ d, H1 d = none → Q (.ref C) (some d) (upd H1 d (.xd [(fld, v)]))) := by
  intro pins s σ H Q I h
  obtain ⟨nm, q, N, bs, bm, sn, sub, ab, col, dd, k0, k1, k2, k3, k5, hC, hbm⟩ := T.cls.cls
  refine wpAny_Call_Name_kw (ld_glob I hg hm (PySem.W.callWith_K (h₀ := X.base) I.ok.mod.kin T.cls.kC (thn (ha.run pos pins s σ H _ I h) fun us s1 ⟨vs, H1, I1, r1, q1⟩ => ⟨I1.kIn, ?_⟩) e1 e2) ndb)
  · obtain ⟨v, rfl, q1⟩ := q1
    show wpAny _ _ (call (.ref C) us) _ _ _
    obtain ⟨hp, g, dr, tk, os⟩ := s1
    have hsz : hp.objs.size ≤ hp.objs.size + 1 := Nat.le_succ _
    have na : H1 (hp.objs.size + 1) = none := I1.hok.fresh hsz
    have grow : ∀ b o, hp.get? b = some o → ((hp.push (PySem.W.kdv_tup us)).push (PySem.HandSPX.excO C hp.objs.size)).get? b = some o := fun b o z => Heap.get?_push_of_some _ (Heap.get?_push_of_some _ z)
    have made : ((hp.push (PySem.W.kdv_tup us)).push (PySem.HandSPX.excO C hp.objs.size)).get? (hp.objs.size + 1) = some (PySem.HandSPX.excO C hp.objs.size) := by heap_get
    have I2 := I1.laid (t' := tk) (a := hp.objs.size + 1) (o := exo (hp.objs.size + 1) C none) grow hsz (exo_ok made)
    have r2 : Vals [V.ref (hp.objs.size + 1), v] (Value.ref (hp.objs.size + 1) :: us) := .cons rfl r1
    have n2 : (Value.ref (hp.objs.size + 1) :: us ++ []).length = (["self", prm] : List Str).length := by
      rw [List.append_nil, ← r2.length]
      rfl
    have b2 := hb _ (Value.ref (hp.objs.size + 1) :: us) I2.kIn n2
    rw [List.append_nil] at b2
    have fits : us.length ≤ sizeLine := by
      rw [← Paired.length r1, sizeLine_eq]
      exact Nat.le_of_ble_eq_true rfl
    have want : spXi C fld [V.ref (hp.objs.size + 1), v] (upd H1 (hp.objs.size + 1) (exo (hp.objs.size + 1) C none)) (fun u H2 => u = .non ∧ ∃ d : Addr, H1 d = none ∧ H2 = upd (upd (upd H1 (hp.objs.size + 1) (exo (hp.objs.size + 1) C none)) d (exd d [(fld, v)])) (hp.objs.size + 1) (exo (hp.objs.size + 1) C (some d)) ∧ d ≠ hp.objs.size + 1) E0 :=
      ⟨_, v, rfl, upd_same, fun d hd dne => ⟨rfl, d, by rw [upd_ne dne] at hd; exact hd, rfl, dne⟩⟩
    refine wpAny_call (PySem.HandSPX.call_own F.excBase_ValueError (fun Y => PySem.HandSPX.refsVE_contains Y bm hbm) (I1.kIn _ _ hC) (PySem.W.looks_findIn I1.kIn T.ini) (fun self => PySem.W.bind_fn I1.kIn self T.tI) fits
      (codeAny_mono ((xinit_ok (w := X.w) (base := X.base) T).run _ X.stack _ _ ⟨Value.ref (hp.objs.size + 1) :: us, []⟩ _ _ _ E0 (hr.make C us []) (I2.env0.make C us []) b2 r2 want) fun r s' hq' => ?_))
    match r, hq' with
    | .error _, z => exact z.elim
    | .ok .next, z => exact z.elim
    | .ok .brk, z => exact z.elim
    | .ok .cont, z => exact z.elim
    | .ok (.ret u), ⟨_, H2, os2, bare2, un2, ok2, rv, rfl, d, hd, eH, dne⟩ =>
      obtain ⟨h2, g2, d2, t2, os'⟩ := s'
      have ea : H2 (hp.objs.size + 1) = some (exo (hp.objs.size + 1) C (some d)) := by
        rw [eH, upd_same]
      have ed : H2 d = some (exd d [(fld, v)]) := by
        rw [eH, upd_ne dne, upd_same]
      obtain ⟨t0, G, J, kG, ge, hoe, gone⟩ := mk_end0 (d2 := d2) (t2 := t2) I1 hsz grow un2 ok2 os2 bare2 ea ed hd
      have eF : upd (L2.del H2 (hp.objs.size + 1)) d (.xd [(fld, v)]) = upd H1 d (.xd [(fld, v)]) := by
        funext b
        by_cases hbd : b = d
        · rw [hbd, upd_same, upd_same]
        · rw [upd_ne hbd, upd_ne hbd]
          by_cases hba : b = hp.objs.size + 1
          · rw [hba, L2.del_same, na]
          · rw [L2.del_ne hba, eH, upd_ne hba, upd_ne hbd, upd_ne hba]
      rw [eF] at J gone
      refine ⟨rv, _, _, _, ⟨G, g2, d2, t2, os'⟩, _, .ref C, some d, rfl, J, kG, ge, hoe, ⟨rfl, rfl, fun vs hv => ?_⟩, rfl, rfl, gone, rfl, bare2, raises_own T.cls.exC T.cls.tyC, q1 d hd⟩
      cases hv
      rfl
end
end J

set_option pp.maxSteps 3000
/-! J22: defs that raise where nothing is handled; what raises, told over the stable heap. -/
namespace J
open PySem PySem.Spec PyProof.Rows L2 Evl RZ
section
variable {P : Program} {w : World} {K : PySem.W.Frag} {mg : Str → Option Value} {base : Heap} {q qual : Str} {st : Stmt} {f : Addr} {fd : FuncData} {N ps : List Str} {k : Nat} {sp : Sp} {sc : Scope} {cd : Value} {A : Around} {outer : List Env} {s0 : Shared} {H0 : Hp} {E : XK}
/-- the context of such a def's body -/
abbrev cxN (P : Program) (w : World) (K : PySem.W.Frag) (mg : Str → Option Value) (base : Heap) (N : List Str) (qual : Str) (sc : Scope) (f : Addr) (cd : Value) (A : Around) (outer : List Env) (s0 : Shared) (H0 : Hp) (E : XK) : Cx := cxOf (L2N.CX P w) P w K mg base N qual sc f cd A outer s0 H0 E
theorem takesN : L2N.Takes (cxN P w K mg base N qual sc f cd A outer s0 H0 E) (fun cls d _ H => E cls d H) := L2N.takes_of rfl rfl rfl rfl
/-- what a callee lets out flies on -/
theorem passN : Passes (L2N.CX P w) (cxN P w K mg base N qual sc f cd A outer s0 H0 E) E := L2N.passes_call takesN fun _ _ _ _ h => h
theorem ownN : PassesOwn (model P w) (cxN P w K mg base N qual sc f cd A outer s0 H0 E).A (cxN P w K mg base N qual sc f cd A outer s0 H0 E).env (cxN P w K mg base N qual sc f cd A outer s0 H0 E).xe := L2.passes_of rfl
/-- a def by its body, errors let out -/
theorem ok_N (F : Fun K q qual st f fd) (S : FnScope N ps (defScope st)) (len : ∀ vs H Q E, sp vs H Q E → vs.length = ps.length)
    (body : ∀ (cdv : Value) (A : Around) (outer : List Env) (s : Shared) (H : Hp) (vs : List V) (Q : VK) (E : XK), Room k (A.deeper (envOfC qual (defScope st) s.heap.objs.size f cdv)) → sp vs H Q E →
      ∃ t, PSs (cxN P w K mg base N qual (defScope st) f cdv A outer s H E) (defBody st) t ∧ t { nx := fun _ H' => Q .non H', rt := Q } (start N vs) H) : FnOk P w K mg base (L2N.CX P w) (k + 1) f fd ps sp := by
  obtain ⟨oc, od, kV, doc, pm, an, cdv, ct, osl, e, lk, hcd⟩ := F.ex
  subst e
  exact fn_of lk hcd S len fun A outer s H vs Q E hr h => body cdv A outer s H vs Q E hr h
/-- raise C(e) -/
def tRs (C : Addr) (fld : Str) (E : XK) (ta : TA) : TS := fun _ σ H => ta σ H fun vs H1 => ∃ v, vs = [v] ∧ ∀ d, H1 d = none → E (.ref C) (some d) (upd H1 d (.xd [(fld, v)]))
theorem ps_rs {C fx : Addr} {xq fld prm x : Str} {stx : Stmt} {fdx : FuncData} {ta : TA} {e : Expr} {p pos rpos : Pos} (T : XcT P K mg C fx xq fld prm stx fdx) (hr : Room 2 (cxN P w K mg base N qual sc f cd A outer s0 H0 E).A) (hb : Binds K fdx ["self", prm] []) (hg : Gl (cxN P w K mg base N qual sc f cd A outer s0 H0 E) x) (hm : mg x = some (.ref C))
    (ha : PA (cxN P w K mg base N qual sc f cd A outer s0 H0 E) [e] ta) (ndb : (x == ("__debug__" : Str)) = false := by decide)
    (e1 : starEach [e] (cxN P w K mg base N qual sc f cd A outer s0 H0 E).env = (false, eval e (cxN P w K mg base N qual sc f cd A outer s0 H0 E).env) :: starEach [] (cxN P w K mg base N qual sc f cd A outer s0 H0 E).env := by rfl)
    (e2 : (backTo pos (starEach [] (cxN P w K mg base N qual sc f cd A outer s0 H0 E).env)).any (·.1) = false := by rfl) :
    PS (cxN P w K mg base N qual sc f cd A outer s0 H0 E) (.Raise (some (.Call (.Name x p) [e] [] pos)) none rpos) (tRs C fld E ta) :=
  L2N.ps_raise rfl takesN (pmk_xc (X := cxN P w K mg base N qual sc f cd A outer s0 H0 E) T hr hb hg hm ha ndb e1 e2)
end
/-- one reading or another -/
def tAlt (t u : TE) : TE := fun σ H Q => t σ H Q ∨ u σ H Q
theorem pe_alt {X : Cx} {e : Expr} {t u : TE} (h1 : PE X e t) (h2 : PE X e u) : PE X e (tAlt t u) := ⟨fun pins s σ H Q I h => h.elim (h1.run pins s σ H Q I) (h2.run pins s σ H Q I)⟩
/-- the reading raises C(v), v told by R -/
def EvX (E : XK) (C : Addr) (fld : Str) (r : Rs) (te : TE) (s : L2.St) (S : Hp) (R : V → Hp → Prop) : Prop :=
  ∀ S1 H, Ex S S1 → Wd r S1 H → (∀ d v S2 H2, Wd r S2 H2 → Stp r S1 H S2 H2 → R v S2 → S2 d = some (.xd [(fld, v)]) → E (.ref C) (some d) H2) → ∀ Q, te s H Q
/-- a def that raises: from b, told by pre, an error C(v), v told by val -/
def SpX {B : Type} (C : Addr) (fld : Str) (pre : B → List V → Hp → Prop) (val : B → V → Hp → Prop) : Sp := fun vs H _ E => ∃ (b : B) (S : Hp), pre b vs S ∧ Wd Rs.nil S H ∧ ∀ d v S1 H1, Wd Rs.nil S1 H1 → Stp Rs.nil S H S1 H1 → val b v S1 → S1 d = some (.xd [(fld, v)]) → E (.ref C) (some d) H1
/-- an __init__ that raises -/
abbrev SpXi {B : Type} (C : Addr) (fld : Str) (pre : B → List V → Hp → Prop) (val : B → V → Hp → Prop) : Sp := SpX C fld (fun b vs S => ∃ x us, vs = V.ref x :: us ∧ pre b us S) val
section
variable {r : Rs} {s : L2.St} {S H : Hp} {ta tb te : TE} {t u : TE} {R : V → Hp → Prop} {E : XK} {C : Addr} {fld : Str} {B : Type} {pre : B → List V → Hp → Prop} {val : B → V → Hp → Prop} {dvs vs : List V} {ts : TA} {PA' : List V → Hp → Prop} {D : Ends}
theorem Wd.bare (w : Wd r S H) : Wd Rs.nil S H := ⟨w.ex, True.intro, fun a h => by cases h⟩
theorem EvX.mono {S' : Hp} (h : EvX E C fld r te s S R) (e : Ex S S') : EvX E C fld r te s S' R := fun S1 H e1 w k Q => h S1 H (e.trans e1) w k Q
theorem EvX.imp {R' : V → Hp → Prop} (h : EvX E C fld r te s S R) (k : ∀ v S1, Ex S S1 → R v S1 → R' v S1) : EvX E C fld r te s S R' := fun S1 H e1 w kE Q => h S1 H e1 w (fun d v S2 H2 w2 s2 hv hd => kE d v S2 H2 w2 s2 (k v S2 (e1.trans s2.ex) hv) hd) Q
theorem ex_altR (h : EvX E C fld r u s S R) : EvX E C fld r (tAlt t u) s S R := fun S1 H e w k Q => .inr (h S1 H e w k Q)
theorem ex_altL (h : EvX E C fld r t s S R) : EvX E C fld r (tAlt t u) s S R := fun S1 H e w k Q => .inl (h S1 H e w k Q)
theorem ev_altL (h : EvS r t s S R) : EvS r (tAlt t u) s S R := fun S1 H e w Q q => .inl (h S1 H e w Q q)
theorem ex_call (h : EvAS r ts s S PA') (hp : ∀ us S1, Ex S S1 → PA' us S1 → ∃ b, pre b (us ++ dvs) S1 ∧ ∀ v S2, Ex S1 S2 → val b v S2 → R v S2) : EvX E C fld r (tCall (SpX C fld pre val) dvs E ts) s S R := fun S1 H e w k Q =>
  h S1 H e w _ fun us S2 H2 w2 s2 p => by
    obtain ⟨b, p1, p2⟩ := hp us S2 (e.trans s2.ex) p
    exact ⟨b, S2, p1, w2.bare, fun d v S3 H3 w3 s3 hv hd => k d v S3 H3 (w2.lift w3 s3) (s2.trans s3.lift) (p2 v S3 s3.ex hv) hd⟩
theorem vx_call (b : B) (h : EvAV r ts s S vs) (hp : ∀ S1, Ex S S1 → pre b (vs ++ dvs) S1) (hq : ∀ v S2, Ex S S2 → val b v S2 → R v S2) : EvX E C fld r (tCall (SpX C fld pre val) dvs E ts) s S R :=
  ex_call h fun us S1 e eu => ⟨b, by rw [show us = vs from eu]; exact hp S1 e, fun v S2 e2 hv => hq v S2 (e.trans e2) hv⟩
theorem ex_make {C' : Addr} (h : EvAS r ts s S PA') (hp : ∀ us S1, Ex S S1 → PA' us S1 → ∃ b, pre b (us ++ dvs) S1 ∧ ∀ v S2, Ex S1 S2 → val b v S2 → R v S2) : EvX E C fld r (tMake C' (SpXi C fld pre val) dvs E ts) s S R := fun S1 H e w k Q =>
  h S1 H e w _ fun us S2 H2 w2 s2 p x dx hx hdx ne => by
    obtain ⟨b, p1, p2⟩ := hp us S2 (e.trans s2.ex) p
    have hx1 : (upd H2 dx (.own x)) x = none := by
      rw [upd_ne ne.symm]
      exact hx
    have w3 : Wd r S2 (upd (upd H2 dx (.own x)) x (.ins C' dx [])) := (w2.new hdx).new hx1
    have s3 : Stp r S2 H2 S2 (upd (upd H2 dx (.own x)) x (.ins C' dx [])) := (Stp.new hdx).trans (Stp.new hx1)
    exact ⟨b, S2, ⟨x, _, rfl, p1⟩, w3.bare, fun d v S4 H4 w4 s4 hv hd => k d v S4 H4 (w3.lift w4 s4) ((s2.trans s3).trans s4.lift) (p2 v S4 s4.ex hv) hd⟩
theorem ex_meth {C' : Addr} {mn : Str} {Q1 : V → Hp → Prop} (h : EvS r te s S Q1) (h2 : EvAV r ts s S vs)
    (hp : ∀ x S1 S2, Ex S S1 → Q1 x S1 → Ex S1 S2 → ∃ a dx fs, x = .ref a ∧ S1 a = some (.ins C' dx fs) ∧ fs.lookup mn = none ∧ ∃ b, pre b (x :: vs) S2 ∧ ∀ v S3, Ex S2 S3 → val b v S3 → R v S3) : EvX E C fld r (tMeth C' mn (SpX C fld pre val) [] E te ts) s S R := fun S1 H e w k Q =>
  h S1 H e w _ fun x S2 H2 w2 s2 hx => by
    obtain ⟨a, dx, fs, e1, e2, e3, _⟩ := hp x S2 S2 (e.trans s2.ex) hx (Ex.refl _)
    subst e1
    refine ⟨a, dx, fs, rfl, w2.ex _ _ e2, e3, h2 S2 H2 (e.trans s2.ex) w2 _ fun us S3 H3 w3 s3 eu => ?_⟩
    obtain ⟨a', dx', fs', e1', e2', e3', b, p1, p2⟩ := hp (.ref a) S2 S3 (e.trans s2.ex) hx s3.ex
    subst eu
    exact ⟨b, S3, by rw [List.append_nil]; exact p1, w3.bare, fun v d4 S4 H4 w4 s4 hv hd => k v d4 S4 H4 (w3.lift w4 s4) ((s2.trans s3).trans s4.lift) (p2 d4 S4 s4.ex hv) hd⟩
/-! statements -/
theorem st_rs {ts : TA} (h : EvAS r ts s S fun us S1 => ∃ v, us = [v] ∧ R v S1) (w : Wd r S H) (hR : ∀ v S1 S2, Ex S1 S2 → R v S1 → R v S2) (k : ∀ d v S1 H1, Wd r S1 H1 → Stp r S H S1 H1 → R v S1 → S1 d = some (.xd [(fld, v)]) → E (.ref C) (some d) H1) : tRs C fld E ts D s H :=
  h S H (Ex.refl S) w _ fun us S1 H1 w1 s1 ⟨v, eu, hv⟩ => ⟨v, eu, fun d hd => k d v (upd S1 d (.xd [(fld, v)])) _ (w1.newS hd) (s1.trans (Stp.newS w1 hd)) (hR v _ _ (Ex.new (w1.fresh hd)) hv) upd_same⟩
/-- raise C(x), x a known value -/
theorem st_rsV {ts : TA} {v : V} (h : EvAV r ts s S [v]) (w : Wd r S H) (k : ∀ d v' S1 H1, Wd r S1 H1 → Stp r S H S1 H1 → v' = v → S1 d = some (.xd [(fld, v')]) → E (.ref C) (some d) H1) : tRs C fld E ts D s H :=
  st_rs (R := fun v' _ => v' = v) (EvAS.imp' h fun us S1 _ e => ⟨v, e, rfl⟩) w (fun _ _ _ _ h => h) k
theorem st_retX (h : EvX E C fld r te s S R) (w : Wd r S H) (k : ∀ d v S1 H1, Wd r S1 H1 → Stp r S H S1 H1 → R v S1 → S1 d = some (.xd [(fld, v)]) → E (.ref C) (some d) H1) : tRet te D s H := h S H (Ex.refl S) w k _
theorem st_dropX (h : EvX E C fld r te s S R) (w : Wd r S H) (k : ∀ d v S1 H1, Wd r S1 H1 → Stp r S H S1 H1 → R v S1 → S1 d = some (.xd [(fld, v)]) → E (.ref C) (some d) H1) : tDrop te D s H := h S H (Ex.refl S) w k _
theorem st_asgX {g : TG} (h : EvX E C fld r te s S R) (w : Wd r S H) (k : ∀ d v S1 H1, Wd r S1 H1 → Stp r S H S1 H1 → R v S1 → S1 d = some (.xd [(fld, v)]) → E (.ref C) (some d) H1) : tAsg te g D s H := h S H (Ex.refl S) w k _
end
end J

set_option pp.maxSteps 3000
/-! J23: x(lambda: e), where e may raise, and x works where no repr runs. -/
namespace J
open PySem PySem.Spec PyProof.Rows L2 Evl RZ LamX
/-- a table grown by a new code object -/
theorem tabs_grow {T : List (Addr × Str)} {H : Hp} {P c : Addr} {q : Str} {ps : Array Value} {pos : Pos} (hT : Tabs T H) (hP : H P = some (.tbl ps)) (hu : ∀ y ∈ T, y.1 = P → y.2 = q) (hq : (P, q) ∈ T) (nc : H c = none) :
    Tabs T (upd (upd H P (.tbl (ps ++ #[rawInt pos.line, rawInt pos.col, .ref c]))) c (CodeO c q)) := by
  have kp : ∀ b o, b ≠ P → H b = some o → upd (upd H P (.tbl (ps ++ #[rawInt pos.line, rawInt pos.col, .ref c]))) c (CodeO c q) b = some o := fun b o hb e => by
    rw [upd_ne (ne_of_none e nc), upd_ne hb]
    exact e
  have atC : ∀ {b : Addr} {z : Str}, H b = some (CodeO b z) → upd (upd H P (.tbl (ps ++ #[rawInt pos.line, rawInt pos.col, .ref c]))) c (CodeO c q) b = some (CodeO b z) := fun {b z} e =>
    kp b _ (fun y => codeO_ne ps (Option.some.inj (e.symm.trans (by rw [y]; exact hP)))) e
  obtain ⟨ps0, g1, g2, g3⟩ := hT _ hq
  obtain rfl : ps0 = ps := by
    have z := g1.symm.trans hP
    cases z
    rfl
  have ls : (ps0 ++ #[rawInt pos.line, rawInt pos.col, .ref c]).toList = ps0.toList ++ [rawInt pos.line, rawInt pos.col, .ref c] := by simp
  intro y hy
  by_cases e : y.1 = P
  · rw [hu y hy e, e]
    refine ⟨_, by rw [upd_ne (ne_of_none hP nc), upd_same], by rw [ls]; exact PySem.TriplesOk_snoc _ _ _ _ g2, fun p2 cv hcv => ?_⟩
    rw [ls] at hcv
    rcases among_app _ g2 hcv with z | z
    · obtain ⟨c0, k1, k2⟩ := g3 p2 cv z
      exact ⟨c0, k1, atC k2⟩
    · exact ⟨c, z, upd_same⟩
  · obtain ⟨qs, k1, k2, k3⟩ := hT y hy
    refine ⟨qs, kp _ _ e k1, k2, fun p2 cv hcv => ?_⟩
    obtain ⟨c0, m1, m2⟩ := k3 p2 cv hcv
    exact ⟨c0, m1, atC m2⟩
section
variable {X : Cx} {pins : List (Addr × Obj)} {σ : L2.St} {H : Hp} {s : Shared}
/-- a lambda is made: of what is tracked nothing but the table at P changes -/
theorem lam_mk {T : List (Addr × Str)} {c P : Addr} {params : Arguments} {body : Expr} {sc : Scope} {pos : Pos} {E : Value → Shared → Prop} {Q : Value → Shared → Prop} (I : Inv X pins σ H s) (TB : TabB X.base X.mg c P) (hcode : X.env.code = .ref c)
    (hq : (P, X.env.qual ++ "<lambda>") ∈ T) (hu : ∀ y ∈ T, y.1 = P → y.2 = X.env.qual ++ "<lambda>") (hT : Tabs T H) (hdef : defaultsOf params X.env = ([], [])) (hfree : ∀ y ∈ sc.names, y.2 = .free → ∃ c, X.env.cells.lookup y.1 = some c)
    (k : ∀ (f c1 : Addr) (pm ctv : Value) (H1 : Hp) (s1 : Shared), Inv X pins σ H1 s1 → (∀ b o, b ≠ P → H b = some o → H1 b = some o) → Tabs T H1 → s1.heap.get? f = some (PySem.W.kla_obj "<lambda>" (X.env.qual ++ "<lambda>") params body sc (cloFrom X.env.cells sc.names []) pm c1 ctv) →
      H1 f = none → f ∉ frs X.stack → H1 c1 = some (CodeO c1 (X.env.qual ++ "<lambda>")) → Q (.ref f) s1) : wpAny (model X.prog X.w) X.A (eval (.Lambda params body sc pos) X.env) Q E s := by
  obtain ⟨ps, hP, tri, known⟩ := hT _ hq
  have atP : s.heap.get? P = some { cls := .none, data := .fields ps } := I.hok P _ hP
  have apart : ∀ f, s.heap.objs.size ≤ f → f ∉ frs X.stack := fun f hf z => (List.mem_cons.mp (I.stkSub _ z)).elim (fun e => by
    have lt := I.lt
    rw [← e] at lt
    exact Nat.lt_irrefl _ (Nat.lt_of_lt_of_le lt hf)) (I.nofs hf)
  have clo := closure_ok hfree
  have glb : X.base.Ns mainGlobals X.mg → s.heap.Ns mainGlobals X.mg := fun z => z.keeps I.bk
  have head := TB.code.keeps I.bk
  have blt : s.heap.BuiltinsAt X.mg P := TB.bm.keeps I.bk
  refine PySem.W.kla_eval hdef ?_
  match hc : codeAmong pos ps.toList with
  | some cv =>
    obtain ⟨c1, rfl, at1⟩ := known pos cv hc
    refine PySem.W.kla_makeFunctionHit (mg := X.mg) (c := c) (P := P) (ps := ps) clo I.ok.glob (glb I.mod.glob) hcode head atP tri hc blt fun ctv h1 tk kp sz => ?_
    have J1 : Inv X pins σ H { s with heap := h1.push (PySem.W.kla_obj "<lambda>" (X.env.qual ++ "<lambda>") params body sc (cloFrom X.env.cells sc.names []) ((X.mg "__name__").getD .none) c1 ctv), toks := tk } := I.kept fun b o e => Heap.get?_push_of_some _ (kp b o e)
    exact k _ _ _ _ H _ J1 (fun _ _ _ e => e) hT (Heap.get?_push_size _ rfl) (I.hok.fresh sz) (apart _ sz) at1
  | none =>
    refine PySem.W.kla_makeFunction (mg := X.mg) (c := c) (P := P) (ps := ps) clo I.ok.glob (glb I.mod.glob) hcode head atP tri hc TB.gP blt fun c1 ctv h1 tk kp ge lt rec_ tab => ?_
    obtain ⟨c2, oc, vs, t, e2, k1, k2, k3⟩ := rec_
    cases e2
    have sz : s.heap.objs.size ≤ h1.objs.size := by omega
    have nc : H c1 = none := I.hok.fresh ge
    have J1 := inv_table (t' := tk) (more := #[rawInt pos.line, rawInt pos.col, .ref c1]) (h' := h1.push (PySem.W.kla_obj "<lambda>" (X.env.qual ++ "<lambda>") params body sc (cloFrom X.env.cells sc.names []) ((X.mg "__name__").getD .none) c1 ctv)) I hP
      (fun b o hb e => Heap.get?_push_of_some _ (kp b o hb e)) (Heap.get?_push_of_some _ tab) ge ⟨oc, vs, t, Heap.get?_push_of_some _ k1, k2, k3⟩
    refine k h1.objs.size c1 _ ctv _ _ J1 (fun b o hb e => ?_) (tabs_grow hT hP hu hq nc) (Heap.get?_push_size _ rfl) ?_ (apart _ sz) upd_same
    · rw [upd_ne (ne_of_none e nc), upd_ne hb]
      exact e
    · rw [upd_ne (show h1.objs.size ≠ c1 by omega), upd_ne (show h1.objs.size ≠ P from Nat.ne_of_gt (Nat.lt_of_lt_of_le (Heap.lt_size atP) sz))]
      exact I.hok.fresh sz
end
/-- the reading of x(lambda: e): the table at P may grow -/
def tLm (P : Addr) (T : List (Addr × Str)) (TT : (XK → Hp → VK → Prop) → Hp → VK → Prop) (t : XK → TE) : TE := fun σ H Q => Tabs T H ∧ ∀ H1, (∀ b o, b ≠ P → H b = some o → H1 b = some o) → Tabs T H1 → TT (fun E H' Q' => t E σ H' Q') H1 Q
/-- where the lambda's body runs: errors let out know no context -/
abbrev lamN (X : Cx) (A : Around) (outer : List Env) (s : Shared) (H : Hp) (E : XK) (sc : Scope) (f c : Addr) : Cx :=
  (lamCx X A outer s H E sc f c).wish fun e s1 => wpAny (model X.prog X.w) (A.deeper (lamEnv X sc s.heap.objs.size f c)) (leaving (lamEnv X sc s.heap.objs.size f c) e) (fun _ s2 => L2N.CX X.prog X.w outer H s E e s2) (fun e2 s2 => L2N.CX X.prog X.w outer H s E e2 s2) s1
section
variable {X : Cx} {pins : List (Addr × Obj)} {σ : L2.St} {H HZ : Hp} {s s1 : Shared} {A : Around} {outer : List Env} {E : XK} {sc : Scope} {f c : Addr}
theorem lamN_takes : L2N.Takes (lamN X A outer s H E sc f c) (fun cls d _ H => E cls d H) := L2N.takes_of rfl rfl rfl rfl
theorem lamN_pass : Passes (L2N.CX X.prog X.w) (lamN X A outer s H E sc f c) E := L2N.passes_call lamN_takes fun _ _ _ _ h => h
theorem lamN_own : PassesOwn (model X.prog X.w) (lamN X A outer s H E sc f c).A (lamN X A outer s H E sc f c).env (lamN X A outer s H E sc f c).xe := L2.passes_of rfl
/-- the lambda made in X at s is called at s1 -/
theorem lamN_go {k : Nat} {params : Arguments} {body : Expr} {pm ctv : Value} {Q : VK} {tb : TE} (I : Inv X pins σ H s) (L : LamS X.env.scope sc) (e0 : Env0 X.prog X.w X.K X.mg X.base A outer s1 HZ) (un : Un (frs X.stack) [] H HZ s.heap s1.heap) (lim : s1.heap.NoLimit)
    (hf : s1.heap.get? f = some (PySem.W.kla_obj "<lambda>" (X.env.qual ++ "<lambda>") params body sc (cloFrom X.env.cells sc.names []) pm c ctv)) (hc : HZ c = some (CodeO c (X.env.qual ++ "<lambda>")))
    (hbind : bindArgs (PySem.W.kla_fn "<lambda>" (X.env.qual ++ "<lambda>") params body sc (cloFrom X.env.cells sc.names []) pm (.ref c) ctv) ⟨[], []⟩ = pure []) (hr : Room (k + 1) A)
    (hbody : Room k (A.deeper (lamEnv X sc s1.heap.objs.size f c)) → PE (lamN X A outer s1 HZ E sc f c) body tb) (h : tb σ HZ Q) :
    codeAny (model X.prog X.w) A (.call (.ref f) ⟨[], []⟩) (CR (L2N.CX X.prog X.w) outer X.prog X.w HZ s1 Q E) s1 := by
  obtain ⟨⟨oc, vs, tk, co, cd, cn⟩, _⟩ := e0.hok c _ hc
  refine PySem.W.kla_callFunE hr.depth hf rfl L.co L.gen rfl ⟨c, oc, vs, tk, rfl, co, cd, cn⟩ ?_
  rw [hbind]
  refine wpAny_pure (wpAny_newFunctionEnv (fun y hy => (L.own y hy).2) (fun y hy => (by cases hy)) (fun h1 hns hsb => ⟨lim.fresh _ hsb, ?_⟩) L.kind)
  have kp : ∀ b o, s1.heap.get? b = some o → h1.get? b = some o := fun b o e => hsb.extBut b o (Nat.ne_of_lt (Heap.lt_size e)) (Heap.get?_push_of_some _ e)
  have J0 := (lam_start2 (E := E) (f := f) (c' := c) (tk := s1.toks + ([] : List (Str × Value)).length) I L e0 hr.hd un hns kp).wish (lamN X A outer s1 HZ E sc f c).xe
  show codeAny _ _ (.expr body (lamEnv X sc s1.heap.objs.size f c)) _ _
  exact PySem.W.kla_codeExpr (wpAny_mono ((hbody (hr.deeper _)).run [] _ _ HZ Q J0 h) (fun v s2 ⟨u, H2, J2, rv, q2⟩ => ⟨u, H2, J2.os, J2.bare, J2.base, J2.hok, rv, q2⟩) fun _ _ hq => hq)
end
/-- the context of the def g that X hands the lambda -/
abbrev cxG (X : Cx) (N : List Str) (x : Str) (sg : Scope) (g : Addr) (cdg : Value) (s : Shared) (H : Hp) : Cx := cxOf CX0 X.prog X.w X.K X.mg X.base N x sg g cdg X.A X.stack s H E0
/-- what g does with the lambda that it gets as a: TT, of the lambda's reading -/
def Gives (X : Cx) (j : Nat) (N : List Str) (x a : Str) (sg : Scope) (g : Addr) (cdg : Value) (bg : List Stmt) (q : Str) (TT : (XK → Hp → VK → Prop) → Hp → VK → Prop) : Prop :=
  ∀ (f c : Addr) (s : Shared) (H : Hp) (Q : VK) (tl : XK → Hp → VK → Prop), Room j (X.A.deeper (envOfC x sg s.heap.objs.size g cdg)) →
    (∀ (W : WX) (pn : List (Addr × Obj)) (xe : Value → Shared → Prop) (E : XK) (p1 p2 : Pos), L2N.Takes ((cxG X N x sg g cdg s H).tr pn xe) W → (∀ cls d σ' H', E cls d H' → W cls d σ' H') →
      PE ((cxG X N x sg g cdg s H).tr pn xe) (.Call (.Name a p1) [] [] p2) (fun σ1 H1 Q1 => σ1[0]? = some (some (.ref f)) ∧ H1 c = some (CodeO c q) ∧ tl E H1 Q1)) →
    H c = some (CodeO c q) → TT tl H Q → ∃ t, PSs (cxG X N x sg g cdg s H).nox bg t ∧ t { nx := fun _ H' => Q .non H', rt := Q } (L2.start N [.ref f]) H
section
variable {X : Cx} {pins : List (Addr × Obj)} {σ : L2.St} {H : Hp} {s : Shared}
/-- a() in g -/
theorem pe_actN {N : List Str} {qg a : Str} {sg : Scope} {g f c : Addr} {cdg pm ctv : Value} {params : Arguments} {body : Expr} {sc : Scope} {k : Nat} {pn : List (Addr × Obj)} {xe : Value → Shared → Prop} {W : WX} {E : XK} {tb : TE} {p1 p2 : Pos}
    (I : Inv X pins σ H s) (L : LamS X.env.scope sc) (hf : s.heap.get? f = some (PySem.W.kla_obj "<lambda>" (X.env.qual ++ "<lambda>") params body sc (cloFrom X.env.cells sc.names []) pm c ctv)) (nf : H f = none) (ns : f ∉ frs X.stack)
    (hbind : bindArgs (PySem.W.kla_fn "<lambda>" (X.env.qual ++ "<lambda>") params body sc (cloFrom X.env.cells sc.names []) pm (.ref c) ctv) ⟨[], []⟩ = pure [])
    (tk : L2N.Takes ((cxG X N qg sg g cdg s H).tr pn xe) W) (hW : ∀ cls d σ' H', E cls d H' → W cls d σ' H') (hr : Room (k + 1) (X.A.deeper (envOfC qg sg s.heap.objs.size g cdg)))
    (hbody : ∀ (A : Around) (outer : List Env) (s : Shared) (H : Hp), Room k (A.deeper (lamEnv X sc s.heap.objs.size f c)) → PE (lamN X A outer s H E sc f c) body tb)
    (hN : N[0]? = some a) (hv : Vis sg a) (hd : (a == ("__debug__" : Str)) = false) (hcd : (a == ("__classdict__" : Str)) = false) :
    PE ((cxG X N qg sg g cdg s H).tr pn xe) (.Call (.Name a p1) [] [] p2) (fun σ1 H1 Q => σ1[0]? = some (some (.ref f)) ∧ H1 c = some (CodeO c (X.env.qual ++ "<lambda>")) ∧ tb σ H1 Q) := by
  refine ⟨fun pinsZ s1 σ1 H1 Q I1 ⟨e1, e2, ht⟩ => ?_⟩
  refine wpAny_Call_Name_kw (thn ((pe_var (pos := p1) (i := 0) hN hv hd hcd).run pinsZ s1 σ1 H1 (fun v H2 => v = .ref f ∧ H2 = H1) I1 ⟨.ref f, e1, rfl, rfl⟩) fun u s2 ⟨v, H2, I2, rv, ev, eH⟩ => ?_)
  subst ev
  subst eH
  obtain rfl : u = Value.ref f := rv
  have of2 := I2.base.keep f _ hf nf ns (fun z => nomatch (show f ∈ ([] : List Addr) from z))
  have un : Un (frs X.stack) [] H H2 s.heap s2.heap := I2.base
  have e0 : Env0 X.prog X.w X.K X.mg X.base (X.A.deeper (envOfC qg sg s.heap.objs.size g cdg)) (envOfC qg sg s.heap.objs.size g cdg :: X.stack) s2 H2 := I2.env0
  have rc : codeAny (model X.prog X.w) (X.A.deeper (envOfC qg sg s.heap.objs.size g cdg)) (.call (.ref f) ⟨[], []⟩) (CR (L2N.CX X.prog X.w) (envOfC qg sg s.heap.objs.size g cdg :: X.stack) X.prog X.w H2 s2 Q E) s2 :=
    lamN_go (X := X) (tb := tb) I L e0 un I2.nolimit of2 e2 hbind hr (hbody _ _ s2 H2) ht
  refine PySem.W.callWith_F0 ⟨_, _, _, _, of2⟩ (wpAny_call (codeAny_mono rc fun res s3 hq => ?_))
  match res, hq with
  | .error e, z => exact L2N.passes_call tk hW pinsZ σ1 H2 s2 e s3 I2 z
  | .ok (.ret _), z => exact I2.after z
  | .ok .next, z => exact z.elim
  | .ok .brk, z => exact z.elim
  | .ok .cont, z => exact z.elim
/-- x(lambda: body) -/
theorem pe_lamN {T : List (Addr × Str)} {TT : (XK → Hp → VK → Prop) → Hp → VK → Prop} {x a : Str} {g c P : Addr} {k : Nat} {st : Stmt} {fd : FuncData} {N : List Str} {params : Arguments} {body : Expr} {sc : Scope} {t : XK → TE} {p lpos pos : Pos}
    (F : Fun X.K x x st g fd) (hb : L2.Binds X.K fd [a] []) (Sg : FnScope N [a] (defScope st)) (hG : ∀ cdg, Gives X (k + 1) N x a (defScope st) g cdg (defBody st) (X.env.qual ++ "<lambda>") TT) (hr : Room (k + 2) X.A) (hg : Gl X x) (hm : X.mg x = some (.ref g))
    (TB : TabB X.base X.mg c P) (hcode : X.env.code = .ref c) (hT : (P, X.env.qual ++ "<lambda>") ∈ T) (hu : ∀ y ∈ T, y.1 = P → y.2 = X.env.qual ++ "<lambda>") (L : LamS X.env.scope sc)
    (hbody : ∀ (A : Around) (outer : List Env) (s : Shared) (H : Hp) (E : XK) (f c' : Addr), Room k (A.deeper (lamEnv X sc s.heap.objs.size f c')) → PE (lamN X A outer s H E sc f c') body (t E))
    (hbind : ∀ (q : Str) (cl : List (Str × Addr)) (pm cv ctv : Value), bindArgs (PySem.W.kla_fn "<lambda>" q params body sc cl pm cv ctv) ⟨[], []⟩ = pure [] := by exact fun _ _ _ _ _ => rfl) (hdef : defaultsOf params X.env = ([], []) := by rfl)
    (hN : N[0]? = some a := by rfl) (hv : Vis (defScope st) a := by exact Or.inl rfl) (hdb : (x == ("__debug__" : Str)) = false := by decide) (hd : (a == ("__debug__" : Str)) = false := by decide) (hcd : (a == ("__classdict__" : Str)) = false := by decide) :
    PE X (.Call (.Name x p) [.Lambda params body sc lpos] [] pos) (tLm P T TT t) := by
  have kp := F.kp
  obtain ⟨oc, od, kV, doc, pm0, an, cdv, ct, osl, e, lk, hcg⟩ := F.ex
  subst e
  refine ⟨fun pins s σ H Q I ⟨hTs, h⟩ => wpAny_Call_Name_kw (ld_glob I hg hm ?_ hdb)⟩
  refine PySem.W.callWith_K (h₀ := X.base) I.ok.mod.kin kp ?_ (by rfl) (by rfl)
  show wpAny _ _ (spliced ((false, eval (.Lambda params body sc lpos) X.env) :: backTo pos (starEach [] X.env))) _ _ s
  refine Calls.spliced_cons (lam_mk I TB hcode hT hu hTs hdef (L.has I.ok) fun f c' pm ctv H1 s1 I1 eN T1 hf nf ns hco => Calls.spliced_nil ⟨I1.kIn, ?_⟩)
  have run : codeAny (model X.prog X.w) X.A (.call (.ref g) ⟨[.ref f], []⟩) (CR CX0 X.stack X.prog X.w H1 s1 Q E0) s1 :=
    run_ofS (N := N) (ps := [a]) (us := [.ref f]) (vs := [.ref f]) lk hcg Sg hr I1.env0 (hb s1 [.ref f] I1.kIn rfl) (.cons rfl .nil) rfl fun hr1 => by
      obtain ⟨t', ht', hq'⟩ := hG cdv f c' s1 H1 Q (fun E H' Q' => t E σ H' Q') hr1 (fun W pn xe E p1 p2 tk hW => pe_actN (a := a) I1 L hf nf ns (hbind _ _ _ _ _) tk hW hr1 (fun A outer s H hr2 => hbody A outer s H E f c' hr2) hN hv hd hcd) hco (h H1 eN T1)
      exact ⟨t', ht'.nox, hq'⟩
  refine wpAny_call (codeAny_mono run fun res s2 hq => ?_)
  match res, hq with
  | .error _, z => exact z.elim
  | .ok (.ret _), z => exact I1.after z
  | .ok .next, z => exact z.elim
  | .ok .brk, z => exact z.elim
  | .ok .cont, z => exact z.elim
end
end J

set_option pp.maxSteps 3000
/-! J24: the tables of code objects as part of a resource. -/
namespace J
open PySem PySem.Spec PyProof.Rows L2 Evl RZ LamX
theorem Tabs.keep {T : List (Addr × Str)} {H H' : Hp} (t : Tabs T H) (k : ∀ y ∈ T, ∀ o, H y.1 = some o → H' y.1 = some o) (kc : CoK H H') : Tabs T H' := fun y hy => by
  obtain ⟨ps, h1, h2, h3⟩ := t y hy
  refine ⟨ps, k y hy _ h1, h2, fun pos cv h => ?_⟩
  obtain ⟨c, e1, e2⟩ := h3 pos cv h
  exact ⟨c, e1, kc _ _ e2⟩
/-- r, and the tables of T -/
def Rs.tabs (r : Rs) (T : List (Addr × Str)) : Rs := ⟨T.map Prod.fst ++ r.M, fun H => r.I H ∧ Tabs T H, fun H H' k kc h => ⟨r.mono H H' (fun a o ha e => k a o (List.mem_append_right _ ha) e) kc h.1, Tabs.keep h.2 (fun y hy o e => k y.1 o (List.mem_append_left _ (List.mem_map.mpr ⟨y, hy, rfl⟩)) e) kc⟩, fun H h a ha => by
  rcases List.mem_append.mp ha with ha | ha
  · obtain ⟨y, hy, rfl⟩ := List.mem_map.mp ha
    obtain ⟨ps, h1, _⟩ := h.2 y hy
    exact ne_none h1
  · exact r.has H h.1 a ha⟩
/-- nothing of r is a code object or a table -/
class Rs.Plain (r : Rs) : Prop where
  co : ∀ H, r.I H → ∀ a, a ∈ r.M → ∀ q, H a ≠ some (CodeO a q)
  tb : ∀ H, r.I H → ∀ a, a ∈ r.M → ∀ ps, H a ≠ some (.tbl ps)
instance : Rs.Plain Rs.nil := ⟨fun _ _ a h => (by cases h), fun _ _ a h => (by cases h)⟩
instance {p c : Addr} : Rs.Plain (srcR p c) := by
  refine ⟨fun H h a ha => ?_, fun H h a ha ps z => ?_⟩ <;> obtain ⟨cs, pos, big, seed, h⟩ := h <;> have ha : a ∈ [p, c] := ha <;> rcases List.mem_cons.mp ha with rfl | ha
  · exact nco_lst h.hp
  · rw [List.mem_singleton.mp ha]
    exact nco_lst h.hc
  · rw [h.hp] at z
    cases z
  · rw [List.mem_singleton.mp ha, h.hc] at z
    cases z
section
variable {r : Rs} {T : List (Addr × Str)} {S H S1 H1 S2 H2 : Hp} {s : L2.St} {te : TE} {ts : TA} {R : V → Hp → Prop} {RN : HO → Hp → Prop} {RA : List V → Hp → Prop}
theorem Wd.untab (w : Wd (r.tabs T) S H) : Wd r S H := ⟨w.ex, w.inv.1, fun a ha => w.dj a (List.mem_append_right _ ha)⟩
theorem Wd.tab [p : Rs.Plain r] (w : Wd (r.tabs T) S H) (w2 : Wd r S2 H2) (s2 : Stp r S H S2 H2) : Wd (r.tabs T) S2 H2 := by
  have apart : ∀ y ∈ T, y.1 ∉ r.M := fun y hy z => by
    obtain ⟨ps, h1, _⟩ := w.inv.2 y hy
    exact p.tb H w.inv.1 _ z ps h1
  refine ⟨w2.ex, ⟨w2.inv, Tabs.keep w.inv.2 (fun y hy o e => s2.kp _ o (apart y hy) e) fun a q e => s2.kp a _ (fun z => p.co H w.inv.1 a z q e) e⟩, fun a ha => ?_⟩
  rcases List.mem_append.mp ha with ha | ha
  · obtain ⟨y, hy, rfl⟩ := List.mem_map.mp ha
    obtain ⟨ps, h1, _⟩ := w.inv.2 y hy
    exact s2.fr _ (ne_none h1) (w.dj _ (List.mem_append_left _ (List.mem_map.mpr ⟨y, hy, rfl⟩)))
  · exact w2.dj a ha
theorem Stp.tab (s2 : Stp r S H S2 H2) : Stp (r.tabs T) S H S2 H2 := ⟨s2.ex, fun a o n e => s2.kp a o (fun z => n (List.mem_append_right _ z)) e, s2.fr, s2.dm⟩
/-- what works with r works with the tables beside it -/
theorem EvS.tab [Rs.Plain r] (h : EvS r te s S R) : EvS (r.tabs T) te s S R := fun S1 H e w Q q => h S1 H e w.untab Q fun v S2 H2 w2 s2 hv => q v S2 H2 (w.tab w2 s2) s2.tab hv
theorem EvN.tab [Rs.Plain r] (h : EvN r te s S RN) : EvN (r.tabs T) te s S RN := fun S1 H e w Q q => h S1 H e w.untab Q fun p o S2 H2 h1 h2 h3 w2 s2 hv => q p o S2 H2 h1 h2 h3 (w.tab w2 s2) s2.tab hv
theorem EvAS.tab [Rs.Plain r] (h : EvAS r ts s S RA) : EvAS (r.tabs T) ts s S RA := fun S1 H e w Q q => h S1 H e w.untab Q fun v S2 H2 w2 s2 hv => q v S2 H2 (w.tab w2 s2) s2.tab hv
theorem EvX.tab [Rs.Plain r] {E : XK} {C : Addr} {fld : Str} (h : EvX E C fld r te s S R) : EvX E C fld (r.tabs T) te s S R := fun S1 H e w k Q => h S1 H e w.untab (fun d v S2 H2 w2 s2 hv hd => k d v S2 H2 (w.tab w2 s2) s2.tab hv hd) Q
/-- the table at P grew -/
theorem Wd.grown [p : Rs.Plain r] {P : Addr} {q : Str} (hP : (P, q) ∈ T) (w : Wd (r.tabs T) S H) (k : ∀ b o, b ≠ P → H b = some o → H1 b = some o) (t : Tabs T H1) : Wd (r.tabs T) S H1 ∧ Stp (r.tabs T) S H S H1 := by
  have mP : P ∈ (r.tabs T).M := List.mem_append_left _ (List.mem_map.mpr ⟨_, hP, rfl⟩)
  obtain ⟨ps, h1, _⟩ := w.inv.2 _ hP
  have h1 : H P = some (.tbl ps) := h1
  obtain ⟨qs, h2, _⟩ := t _ hP
  have h2 : H1 P = some (.tbl qs) := h2
  refine ⟨⟨fun a o e => k a o (fun z => ?_) (w.ex a o e), ⟨r.mono H H1 (fun a o ha e => k a o (fun z => p.tb H w.inv.1 a ha ps (by rw [z]; exact h1)) e) (fun a q e => k a _ (fun z => ?_) e) w.inv.1, t⟩, w.dj⟩, Ex.refl S, fun a o n e => k a o (fun z => n (by rw [z]; exact mP)) e, fun _ _ e => e, fun a q z => ?_⟩
  · rw [z, w.dj P mP] at e
    cases e
  · rw [z, h1] at e
    unfold CodeO at e
    cases e
  · by_cases e : a = P
    · rw [e, h2] at z
      cases z
    · cases u : H a with
      | none => exact q u
      | some o =>
        rw [k a o e u] at z
        cases z
theorem ev_lam [Rs.Plain r] {P : Addr} {q : Str} {TT : (XK → Hp → VK → Prop) → Hp → VK → Prop} {t : XK → TE} (hP : (P, q) ∈ T)
    (h : ∀ S1 H1, Ex S S1 → Wd (r.tabs T) S1 H1 → ∀ Q : VK, (∀ v S2 H2, Wd (r.tabs T) S2 H2 → Stp (r.tabs T) S1 H1 S2 H2 → R v S2 → Q v H2) → TT (fun E H' Q' => t E s H' Q') H1 Q) : EvS (r.tabs T) (tLm P T TT t) s S R := fun S1 H e w Q q =>
  ⟨w.inv.2, fun H1 k t1 => by
    obtain ⟨w1, s1⟩ := w.grown hP k t1
    exact h S1 H1 e w1 Q fun v S2 H2 w2 s2 hv => q v S2 H2 w2 (s1.trans s2) hv⟩
end
/-- try: a() / except R as e: return [kind of e, repr of its value] / return None: kd C z: z is the kind of C -/
def TTw (K : PySem.W.Frag) (kd : Addr → Str → Prop) : (XK → Hp → VK → Prop) → Hp → VK → Prop := fun tl H Q =>
  tl (fun cls d H' => ∃ (C dd : Addr) (v : V) (D : PyData) (z : Str) (S : Hp), cls = .ref C ∧ d = some dd ∧ kd C z ∧ Ex S H' ∧ S dd = some (.xd [("value", v)]) ∧ DE K S v D ∧ Shw D ∧ ∀ u S1 H1, Wd Rs.nil S1 H1 → Stp Rs.nil S H' S1 H1 → LstR StrR [z, D.shown] u S1 → Q u H1) H fun _ H' => Q .non H'
section
variable {K : PySem.W.Frag} {r : Rs} {T : List (Addr × Str)} {S : Hp} {s : L2.St} {R : V → Hp → Prop} {kd : Addr → Str → Prop} {P : Addr} {q : Str} {t : XK → TE}
/-- the body raises -/
theorem ev_wrongE [Rs.Plain r] {C : Addr} {z : Str} {D : PyData} (hP : (P, q) ∈ T) (h : ∀ E, EvX E C "value" (r.tabs T) (t E) s S R) (hC : kd C z) (hd : ∀ v S1, Ex S S1 → R v S1 → DE K S1 v D) (hs : Shw D) : EvS (r.tabs T) (tLm P T (TTw K kd) t) s S fun u S1 => LstR StrR [z, D.shown] u S1 :=
  ev_lam hP fun S1 H1 e w Q q => h _ S1 H1 e w (fun d v S2 H2 w2 s2 hv hd2 => ⟨C, d, v, D, z, S2, rfl, rfl, hC, w2.ex, hd2, hd v S2 (e.trans s2.ex) hv, hs, fun u S3 H3 w3 s3 hl => q u S3 H3 (w2.lift w3 s3) (s2.trans s3.lift) hl⟩) _
theorem ev_wrong [Rs.Plain r] {C : Addr} {z : Str} {D : PyData} (hP : (P, q) ∈ T) (h : ∀ E, EvX E C "value" (r.tabs T) (t E) s S R) (hC : kd C z) (hd : ∀ v S1, Ex S S1 → R v S1 → Dp K S1 v D) (hs : Shw D) : EvS (r.tabs T) (tLm P T (TTw K kd) t) s S fun u S1 => LstR StrR [z, D.shown] u S1 :=
  ev_wrongE hP h hC (fun v S1 e p => .inl (hd v S1 e p)) hs
/-- the body tells something -/
theorem vv_fine [Rs.Plain r] (hP : (P, q) ∈ T) (h : ∀ E, EvS (r.tabs T) (t E) s S R) : EvV (r.tabs T) (tLm P T (TTw K kd) t) s S .non :=
  ev_lam hP fun S1 H1 e w Q q => h _ S1 H1 e w _ fun v S2 H2 w2 s2 _ => q .non S2 H2 w2 s2 rfl
end
end J

set_option pp.maxSteps 3000
/-! J25: try with several clauses, each with a name; the caught error handed to a def; its class asked. -/
namespace J
open PySem PySem.Spec PyProof.Rows L2 Evl RZ
/-- an error caught in X: it lies on the ground, sI is the state without it -/
structure Down (X : Cx) (pins : List (Addr × Obj)) (a : Addr) (B : Heap) (sI : Shared) (σ : L2.St) (H : Hp) (cls : Value) (d : Option Addr) (s : Shared) : Prop where
  inv : Inv X pins σ H sI
  gr : ∀ b o, sI.heap.get? b = some o → b ∉ frs X.stack → B.get? b = some o
  up : sI.heap.UpToSlots s.heap
  fl : HandSPX.FlyingZ B (X.env :: X.outer) a (L2N.Zn cls d) s.heap
  na : H a = none
  os : s.os = sI.os
  bare : AllBare s.gens
section
variable {X : Cx} {pins : List (Addr × Obj)} {a : Addr} {B : Heap} {sI s : Shared} {σ : L2.St} {H : Hp} {cls : Value} {d : Option Addr}
theorem Down.here (x : Down X pins a B sI σ H cls d s) : Inv X pins σ H s := x.inv.landed x.gr x.fl.1 x.up x.os x.bare
theorem Down.suite (x : Down X pins a B sI σ H cls d s) (hf : X.env.frame = some X.env.locals) : ∃ oe vs, s.heap.get? a = some oe ∧ L2N.Zn cls d oe ∧ oe.data = .fields vs ∧ Inv (X.suite a ((a, oe) :: (X.pn ++ pins))) [] σ H s := by
  obtain ⟨oe, vs, ha, hz, hd⟩ := x.fl.there
  have off : a ∉ frs (X.env :: X.outer) := fun hm => by
    obtain ⟨_, o, e, nf⟩ := x.fl.2.2.1.mem hm
    rw [ha] at e
    cases e
    exact nf _ hd
  have nL : a ≠ X.env.locals := fun z => off (List.mem_filterMap.mpr ⟨X.env, List.mem_cons_self, by rw [hf, z]⟩)
  have nF : a ∉ X.fs := fun hm => by
    obtain ⟨y, hy, q⟩ := List.mem_filterMap.mp hm
    exact off (List.mem_filterMap.mpr ⟨y, List.mem_cons_of_mem _ hy, q⟩)
  exact ⟨oe, vs, ha, hz, hd, x.here.suite ha hd x.na nL nF⟩
theorem Down.at (x : Down X pins a B sI σ H cls d s) {h : Heap} (fl : HandSPX.FlyingZ B (X.env :: X.outer) a (L2N.Zn cls d) h) (up : s.heap.UpToSlots h) : Down X pins a B sI σ H cls d { s with heap := h } :=
  ⟨x.inv, x.gr, x.up.trans up, fl, x.na, x.os, x.bare⟩
end
/-- the ends of a suite whose name, at slot i, goes behind it -/
abbrev endsC (D : Ends) (i : Nat) : Ends := { nx := fun σ H => D.nx (σ.set i none) H, rt := D.rt, bk := fun σ H => D.bk (σ.set i none) H, ct := fun σ H => D.ct (σ.set i none) H }
/-- what the clauses wish of an error of the body, one after another -/
def wNamed (K : PySem.W.Frag) (Wout : WX) (D : Ends) : List (Value × Nat × (Addr → Value → Option Addr → TS)) → WX
  | [] => Wout
  | (c, i, ts) :: l => fun cls d σ H => ∃ b, PySem.W.exmOne K cls c = some b ∧ (b = true → ∀ a, H a = none → ts a cls d (endsC D i) (σ.set i (some (.ref a))) H) ∧ (b = false → wNamed K Wout D l cls d σ H)
inductive HdsAs (X : Cx) : List ExceptHandler → List (Value × Nat × (Addr → Value → Option Addr → TS)) → Prop
  | nil : HdsAs X [] []
  | cons {x n : Str} {c : Value} {i : Nat} {ts : Addr → Value → Option Addr → TS} {b0 : Stmt} {more : List Stmt} {p1 p2 : Pos} {hds : List ExceptHandler} {l : List (Value × Nat × (Addr → Value → Option Addr → TS))} (hi : X.N[i]? = some n) (hl : X.env.kindOf n = some .local) (hc : Names X x c)
      (hsu : ∀ (a : Addr) (oe : Obj) (cls : Value) (d : Option Addr) (pn : List (Addr × Obj)), L2N.Zn cls d oe → (∃ vs, oe.data = .fields vs) → PSs (X.suite a ((a, oe) :: pn)) (b0 :: more) (ts a cls d)) (r : HdsAs X hds l) :
      HdsAs X (.ExceptHandler (some (.Name x p1)) (some n) (b0 :: more) p2 :: hds) ((c, i, ts) :: l)
section
variable {X : Cx} {pins : List (Addr × Obj)} {Wout : WX} {D : Ends}
theorem handle_nm {a : Addr} {B : Heap} {sI : Shared} {σ : L2.St} {H : Hp} {cls : Value} {d : Option Addr} (hs : X.stack = X.env :: X.outer) (hf : X.env.frame = some X.env.locals) (hN : X.N.Nodup) (tk : L2N.Takes X Wout) :
    ∀ {hds : List ExceptHandler} {l : List (Value × Nat × (Addr → Value → Option Addr → TS))}, HdsAs X hds l → ∀ {s : Shared}, Down X pins a B sI σ H cls d s → wNamed X.K Wout D l cls d σ H → wpAny (model X.prog X.w) X.A (handleBy (.ref a) X.env hds) (SP X pins D) X.xe s := by
  intro hds l hk
  induction hk with
  | nil =>
    intro s x w
    obtain ⟨_, _, _, oe, vs, T, oT, ts, ha, hz, hd, h1, _⟩ := id x.fl
    refine wpAny_handleBy_nil ?_
    unfold PySem.passOn
    refine wpAny_bind (wpAny_field ha hd h1 ?_)
    rw [if_neg (show ¬ ((Value.ref T == Value.none) = true) from by simp)]
    have out : wpAny (model X.prog X.w) X.A (setFlight (.ref a) X.env.frame) (fun _ s2 => wpAny (model X.prog X.w) X.A (throw (.ref a) : Sem Flow) (SP X pins D) X.xe s2) X.xe s := by
      rw [hf]
      refine HandSPX.setFlight_upZ x.fl fun h2 held up2 => wpAny_throw (tk _ _ ⟨a, B, sI, pins, σ, H, cls, d, rfl, x.inv, x.gr, x.up.trans up2, .inr (.inr ?_), x.na, x.os, x.bare, w⟩)
      rw [hs]
      exact held
    first
      | exact wpAny_bind (wpAny_pure (wpAny_bind out))
      | exact wpAny_bind out
  | @cons nx n c i ts b0 more p1 p2 hds l hi hl hc hsu r ih =>
    intro s x w
    obtain ⟨b, hb, yes, no⟩ := w
    obtain ⟨oe, vs, ha, hz, hd, J⟩ := x.suite hf
    have ok := x.inv.ok
    refine wpAny_handleBy_cons (codeAny_handlers_test ?_) (by intro q; cases q)
    have ty : PySem.W.Looks (model X.prog X.w) s.heap (typeOf (.ref a)) cls := fun A Q E s' k q => wpAny_typeOf_ref (k _ _ ha) (by rw [hz.1]; exact q)
    have mt := PySem.W.exm_one (M := model X.prog X.w) x.here.kIn ty hb
    have name : ∀ {Q : Value → Shared → Prop} {E : Value → Shared → Prop}, Q c s → wpAny (model X.prog X.w) (X.A.mark (some (.ref a))) (eval (.Name nx p1) X.env) Q E s := fun {Q E} q => by
      obtain ⟨hg, hdb, hm | ⟨hm, hv, hn⟩⟩ := hc
      · exact ld_glob (X := X.suite a ((a, oe) :: (X.pn ++ pins))) J hg hm q hdb
      · exact ld_blt (X := X.suite a ((a, oe) :: (X.pn ++ pins))) J hg hm hv q hn hdb
    refine name (mt.here ?_)
    cases b with
    | false =>
      show wpAny _ X.A (handleBy (.ref a) X.env hds) _ _ _
      exact ih x (no rfl)
    | true =>
      refine codeAny_handlers_suite_as (HandSPX.lands_againZ x.fl fun h2 fl2 up2 => ?_)
      have x2 := x.at fl2 up2
      obtain ⟨o2, v2, a2, z2, d2, J2⟩ := x2.suite hf
      refine store_ok (X := X.suite a ((a, o2) :: (X.pn ++ pins))) (v := .ref a) J2 hN hi (Or.inl hl) rfl (fun s3 J3 => ?_) (.inr hl)
      refine wpAny_mono ((hsu a o2 cls d (X.pn ++ pins) z2 ⟨_, d2⟩).run [] s3 _ H _ J3 (yes rfl a x.na)) (fun fl s4 res => ?_) (fun _ _ z => False.elim z)
      have goes : ∀ {σ4 : L2.St} {H4 : Hp} {Q : Shared → Prop}, Inv (X.suite a ((a, o2) :: (X.pn ++ pins))) [] σ4 H4 s4 → (∀ s5, Inv X pins (σ4.set i none) H4 s5 → Q s5) →
          wpAny (model X.prog X.w) X.A (do bindName X.env n .none; unbindBehindTheSuite X.env n p2) (fun _ s5 => Q s5) X.xe s4 := fun {σ4 H4 Q} K4 q => gone_ok (K4.unsuite ok) hN hi hl q
      match fl, res with
      | .next, ⟨σ4, H4, K4, q4⟩ => exact goes K4 fun s5 J5 => ⟨_, _, J5, q4⟩
      | .brk, ⟨σ4, H4, K4, q4⟩ => exact goes K4 fun s5 J5 => ⟨_, _, J5, q4⟩
      | .cont, ⟨σ4, H4, K4, q4⟩ => exact goes K4 fun s5 J5 => ⟨_, _, J5, q4⟩
      | .ret u, ⟨v4, σ4, H4, K4, r4, q4⟩ => exact goes K4 fun s5 J5 => ⟨_, _, _, J5, r4, q4⟩
theorem ps_try_nm {body : List Stmt} {h0 : ExceptHandler} {hds : List ExceptHandler} {l : List (Value × Nat × (Addr → Value → Option Addr → TS))} {pos : Pos} {tb : WX → TS} (hs : X.stack = X.env :: X.outer) (hf : X.env.frame = some X.env.locals) (hN : X.N.Nodup) (tk : L2N.Takes X Wout)
    (hb : ∀ (W : WX) (pn : List (Addr × Obj)) (xe : Value → Shared → Prop), L2N.Takes (X.tr pn xe) W → PassesOwn (model X.prog X.w) X.A X.env xe → PSs (X.tr pn xe) body (tb W)) (hh : HdsAs X (h0 :: hds) l) :
    PS X (.Try body (h0 :: hds) [] [] pos) (fun D σ H => tb (fun cls d σ1 H1 => σ1.length = X.N.length → wNamed X.K Wout D l cls d σ1 H1) D σ H) := by
  refine ⟨fun pins s σ H D I h => ?_⟩
  have ok := I.ok
  have fr : X.A.frames = some (X.env :: X.outer) := by rw [ok.frames, hs]
  refine wpAny_Try_except (wpAny_mono ((hb (fun cls d σ1 H1 => σ1.length = X.N.length → wNamed X.K Wout D l cls d σ1 H1) (X.pn ++ pins) _ (fun u s1 x1 => ?_) PassesOwn.looking).run [] s σ H D (I.toTry _) h) (fun fl s1 res => ?_) (fun e s1 he => he))
  · obtain ⟨a, B, sI, p2, σ2, H2, cls, d, rfl, J, gr, up, sky, na, os, bare, w⟩ := x1
    have J : Inv X pins σ2 H2 sI := J.ofTry ok
    have sky : Sky B (X.env :: X.outer) a (L2N.Zn cls d) X.env.locals s1.heap := by rw [← hs]; exact sky
    exact L2N.Sky.land L2N.Zn.steady fr hf sky fun h2 fl2 up2 => handle_nm hs hf hN tk hh ⟨J, gr, up.trans up2, fl2, na, os, bare⟩ (w J.len)
  · match fl, res with
    | .next, ⟨σ2, H2, J, q⟩ => exact wpAny_execs_nil ⟨σ2, H2, J.ofTry ok, q⟩
    | .brk, ⟨σ2, H2, J, q⟩ => exact ⟨σ2, H2, J.ofTry ok, q⟩
    | .cont, ⟨σ2, H2, J, q⟩ => exact ⟨σ2, H2, J.ofTry ok, q⟩
    | .ret u, ⟨v, σ2, H2, J, r, q⟩ => exact ⟨v, σ2, H2, J.ofTry ok, r, q⟩
end
end J

set_option pp.maxSteps 3000
/-! J26: defs that get the caught error; its class and its field asked in a suite. -/
namespace J
open PySem PySem.Spec PyProof.Rows L2 Evl RZ
theorem hot_units {k : Nat} {A : Around} (r : L2H.RoomH k A) : A.units + 64 < cLine := by
  have := r.un
  omega
theorem room_hot {k : Nat} {A : Around} {e : Option Value} (r : Room k A) : L2H.RoomH k (A.mark e) := ⟨r.dp, r.un⟩
theorem Gd.mark {A : Around} (g : Gd A) (e : Option Value) : Gd (A.mark e) := g
/-- a def's promise where p's error is handled: cls its class, d its dict -/
structure FnK (P : Program) (w : World) (K : PySem.W.Frag) (mg : Str → Option Value) (base : Heap) (k : Nat) (f : Addr) (fd : FuncData) (ps : List Str) (sp : Addr → Value → Option Addr → Sp) : Prop where
  count : ∀ {a : Addr} {cls : Value} {d : Option Addr} {vs : List V} {H : Hp} {Q : VK} {E : XK}, sp a cls d vs H Q E → vs.length = ps.length
  runs : ∀ {A : Around} {outer : List Env} {s : Shared} {H : Hp} {args : Args} {us : List Value} {vs : List V} {Q : VK} {E : XK} {p : Addr × Obj} {cls : Value} {d : Option Addr}, L2H.RoomH k A → L2H.Hot1 A p → L2H.PinOk outer H s p → L2N.Zn cls d p.2 → Env0 P w K mg base A outer s H → BindsTo s fd args (ps.zip us) → Vals vs us →
    sp p.1 cls d vs H Q E → codeAny (model P w) A (.call (.ref f) args) (CR CX0 outer P w H s Q E) s
section
variable {P : Program} {w : World} {K : PySem.W.Frag} {mg : Str → Option Value} {base : Heap} {x qual : Str} {st : Stmt} {f : Addr} {fd : FuncData} {N ps : List Str} {k : Nat} {sp : Addr → Value → Option Addr → Sp}
theorem ok_K (F : Fun K x qual st f fd) (S : FnScope N ps (defScope st)) (len : ∀ a cls d vs H Q E, sp a cls d vs H Q E → vs.length = ps.length)
    (body : ∀ (cdv : Value) (A : Around) (outer : List Env) (s : Shared) (H : Hp) (vs : List V) (Q : VK) (E : XK) (p : Addr × Obj) (cls : Value) (d : Option Addr), L2H.Hot1 A p → L2N.Zn cls d p.2 → L2H.RoomH k (A.deeper (envOfC qual (defScope st) s.heap.objs.size f cdv)) → sp p.1 cls d vs H Q E →
      ∃ t, PSs (L2H.cxH CX0 P w K mg base N qual (defScope st) f cdv A outer s H E p).nox (defBody st) t ∧ t { nx := fun _ H' => Q .non H', rt := Q } (start N vs) H) : FnK P w K mg base (k + 1) f fd ps sp := by
  obtain ⟨oc, od, kV, doc, pm, an, cdv, ct, osl, e, lk, hcd⟩ := F.ex
  subst e
  refine ⟨fun h => len _ _ _ _ _ _ _ h, fun {A outer s H args us vs Q E p cls d} hr hot pin zn e0 hb r h => ?_⟩
  have KX : K.In s.heap := e0.mod.kin.keeps fun b o e => (e0.bs b o e).1
  have lim : s.heap.NoLimit := e0.mod.nolimit.keeps fun b o e => (e0.bs b o e).1
  have kinds : ∀ y ∈ ps.zip us, (defScope st).names.lookup y.1 = some .local ∨ ((defScope st).names.lookup y.1 = some .cell ∧ ((cellsFrom (s.heap.objs.size + 1) (defScope st).names []).lookup y.1).isSome = true) := fun y hy =>
    (S.par y.1 (List.of_mem_zip (show (y.1, y.2) ∈ ps.zip us from hy)).1).imp id fun q => ⟨q, PySem.W.cellsFrom_some _ _ _ (.inl q)⟩
  obtain ⟨t, ht, hq⟩ := body cdv A outer s H vs Q E p cls d hot zn (hr.deeper _) h
  refine codeAny_call_function hr.depth (KX _ _ lk) rfl S.co S.gen rfl (PySem.W.codeRec_of KX hcd) (hb _ _ _ _ (wpAny_newFunctionEnv_cells S.kind kinds fun env he s1 ic => ?_))
  subst he
  have I := L2H.inv_startH (CX := CX0) (w := w) (qual := qual) (f := f) (cd := cdv) (E := E) S pin e0 (len _ _ _ _ _ _ _ h) r ic
  refine ⟨lim.keeps ic.toInCall.keep, codeAny_func (wpAny_mono (ht.nox.run [] s1 (L2.start N vs) H _ I hq) (fun fl s2 res => ?_) fun _ _ z => z)⟩
  match fl, res with
  | .ret u, ⟨v, σ2, H2, J2, rv, q⟩ => exact ⟨v, H2, J2.os, J2.bare, J2.base, J2.hok, rv, q⟩
  | .next, ⟨σ2, H2, J2, q⟩ => exact ⟨.non, H2, J2.os, J2.bare, J2.base, J2.hok, rfl, q⟩
  | .brk, ⟨_, _, _, q⟩ => exact q.elim
  | .cont, ⟨_, _, _, q⟩ => exact q.elim
end
section
variable {X : Cx} {p : Addr × Obj} {cls : Value} {d : Option Addr}
/-- such a def called -/
theorem pe_callK {k : Nat} {f : Addr} {fd : FuncData} {ps : List Str} {sp : Addr → Value → Option Addr → Sp} {x : Str} {q pos : Pos} {e : Expr} {es : List Expr} {t : TA} (F : FnK X.prog X.w X.K X.mg X.base k f fd ps sp) (hr : L2H.RoomH k X.A) (hot : L2H.Hot1 X.A p) (hp : p ∈ X.pn) (zn : L2N.Zn cls d p.2) (hg : Gl X x) (hm : X.mg x = some (.ref f)) (kp : PySem.W.keepIn X.K (.ref f) = true) (hb : Binds X.K fd ps [])
    (ha : PA X (e :: es) t) (ndb : (x == ("__debug__" : Str)) = false := by decide) (e1 : starEach (e :: es) X.env = (false, eval e X.env) :: starEach es X.env := by rfl) (e2 : (backTo pos (starEach es X.env)).any (·.1) = false := by rfl) :
    PE X (.Call (.Name x q) (e :: es) [] pos) (tCall (sp p.1 cls d) [] E0 t) :=
  ⟨fun pins s σ H Q I h => wpAny_Call_Name_kw (ld_glob I hg hm (PySem.W.callWith_K (h₀ := X.base) I.ok.mod.kin kp (thn (ha.run pos pins s σ H _ I h) fun us s1 ⟨vs, H1, I1, r, z⟩ => ⟨I1.kIn, by
    have z : sp p.1 cls d vs H1 Q E0 := by
      have z' : sp p.1 cls d (vs ++ []) H1 Q E0 := z
      rwa [List.append_nil] at z'
    have gl : (us ++ []).length = ps.length := by rw [List.append_nil, ← r.length]; exact F.count z
    have bt := hb s1 us I1.kIn gl
    rw [List.append_nil] at bt
    obtain ⟨g1, g2, g3, g4, g5⟩ := I1.pin p (List.mem_append_left _ hp)
    have pin : L2H.PinOk X.stack H1 s1 p := ⟨g1, g2, fun hm => (List.mem_cons.mp (I1.stkSub p.1 hm)).elim g3 g4, g5⟩
    refine wpAny_call (codeAny_mono (F.runs hr hot pin zn I1.env0 bt r z) fun res s2 hq => ?_)
    match res, hq with
    | .error _, z => exact z.elim
    | .ok (.ret _), z => exact I1.after z
    | .ok .next, z => exact z.elim
    | .ok .brk, z => exact z.elim
    | .ok .cont, z => exact z.elim⟩) e1 e2) ndb)⟩
/-- the instance as the library sees it -/
theorem inst_of {pins : List (Addr × Obj)} {σ : L2.St} {H : Hp} {s : Shared} {D dd : Addr} {fs : List (Str × V)} (I : Inv X pins σ H s) (hp : p ∈ X.pn) (zn : L2N.Zn (.ref D) (some dd) p.2) (hf : ∃ vs, p.2.data = .fields vs) (ea : H dd = some (.xd fs)) :
    ∃ od, s.heap.get? dd = some od ∧ PySem.W.InstAt s.heap p.1 p.2 D (some od) ∧ ∀ n v, fs.lookup n = some v → ∃ u : Value, PySem.W.lookIn n od = some (some u) ∧ L2.RelV v u := by
  obtain ⟨m, hns, hr⟩ := (I.hok dd _ ea : ObjOk X.prog X.w H s.heap dd (.xd fs))
  obtain ⟨od, ho, hl⟩ := lookIn_ns hns
  obtain ⟨vs, hd⟩ := hf
  refine ⟨od, ho, ⟨(I.pin p (List.mem_append_left _ hp)).1, zn.1, by unfold PySem.W.notCls; rw [hd] <;> rfl, by rw [zn.2.1]; exact ho⟩, fun n v l => ?_⟩
  obtain ⟨u, hu, ru⟩ := RelO.some_of (v := v) (o := m n) (by rw [← l]; exact hr n)
  exact ⟨u, by rw [hl n, hu], ru⟩
/-- isinstance(e, C), e the error that is handled -/
def rIsX (K : PySem.W.Frag) (a : Addr) (cls : Value) (d : Option Addr) : List V → Hp → VK → Prop := fun xs H Q => ∃ (C D dd : Addr) (b : Bool) (fs : List (Str × V)), xs = [.ref a, .ref C] ∧ cls = .ref D ∧ d = some dd ∧ L2.ExcC K D ∧ PySem.W.kitOne K (.ref D) (.ref C) = some b ∧ H dd = some (.xd fs) ∧ Q (.bl b) H
theorem call_isX (hp : p ∈ X.pn) (zn : L2N.Zn cls d p.2) (hf : ∃ vs, p.2.data = .fields vs) : CallR X (.builtin "isinstance") (rIsX X.K p.1 cls d) := by
  intro pins s σ H xs us Q I r h
  obtain ⟨C, D, dd, b, fs, rfl, rfl, rfl, T, e, ea, q⟩ := h
  cases r with
  | cons rx rr =>
    cases rr with
    | cons rt rr =>
      cases rr
      cases rx
      cases rt
      obtain ⟨od, ho, J, _⟩ := inst_of I hp zn hf ea
      have hcl : (PySem.W.clsIn X.K D).isSome = true := by
        have z := T.hd
        unfold PySem.W.hasDictIn at z
        obtain ⟨cd, hc, _⟩ := PySem.W.any_some z
        rw [hc]
        rfl
      exact PySem.W.kia_one (PySem.W.kitx_exc hcl T.hg T.hk T.hs T.ha T.hn T.ht T.hm) I.kIn J e (fun z => nomatch z) fun tk => ⟨.bl b, H, I.kept (t' := tk) fun _ _ z => z, rfl, q⟩
/-- e.f -/
def tXv (K : PySem.W.Frag) (a : Addr) (cls : Value) (d : Option Addr) (f : Str) (te : TE) : TE := fun σ H Q => te σ H fun x H1 => x = .ref a ∧ ∃ (D dd : Addr) (fs : List (Str × V)) (v : V), cls = .ref D ∧ d = some dd ∧ L2.XfC K D ∧ PySem.W.findIn K (.ref D) f = some none ∧ H1 dd = some (.xd fs) ∧ fs.lookup f = some v ∧ Q v H1
theorem pe_xv {e : Expr} {te : TE} {pos : Pos} {f : Str} (hp : p ∈ X.pn) (zn : L2N.Zn cls d p.2) (hf : ∃ vs, p.2.data = .fields vs) (he : PE X e te) (hb : attributeBase e f X.env (eval e X.env) = eval e X.env := by rfl) : PE X (.Attribute e f pos) (tXv X.K p.1 cls d f te) := by
  refine ⟨fun pins s σ H Q I h => attr_of hb (thn (he.run pins s σ H _ I h) fun u s1 ⟨x, H1, I1, rx, ex, hx⟩ => ?_)⟩
  obtain ⟨D, dd, fs, v, rfl, rfl, T, no, ea, l, q⟩ := hx
  subst ex
  obtain rfl : u = Value.ref p.1 := rx
  obtain ⟨od, ho, J, at_⟩ := inst_of I1 hp zn hf ea
  obtain ⟨u, hu, ru⟩ := at_ f v l
  exact HandSPX.exc_get I1.kIn J T.ga T.gg T.exC (PySem.W.findObj_own T.hdC no rfl hu) (handed_of ru) ⟨v, H1, I1.tok _, ru, q⟩
end
section
variable {K : PySem.W.Frag} {r : Rs} {s : L2.St} {S : Hp} {te : TE} {ta : TA} {a : Addr} {cls : Value} {d : Option Addr}
theorem vv_isX {C D dd : Addr} {b : Bool} {fs : List (Str × V)} (h : EvAV r ta s S [.ref a, .ref C]) (e1 : cls = .ref D) (e2 : d = some dd) (T : L2.ExcC K D) (k : PySem.W.kitOne K (.ref D) (.ref C) = some b) (ea : S dd = some (.xd fs)) : EvV r (tCB (rIsX K a cls d) ta) s S (.bl b) :=
  vv_cb h fun H e Q q => ⟨C, D, dd, b, fs, rfl, e1, e2, T, k, e _ _ ea, q⟩
theorem vv_xv {D dd : Addr} {f : Str} {fs : List (Str × V)} {v : V} (h : EvV r te s S (.ref a)) (e1 : cls = .ref D) (e2 : d = some dd) (T : L2.XfC K D) (no : PySem.W.findIn K (.ref D) f = some none) (ea : S dd = some (.xd fs)) (l : fs.lookup f = some v) : EvV r (tXv K a cls d f te) s S v := fun S1 H e w Q q =>
  h S1 H e w _ fun x S2 H2 w2 s2 ex => ⟨ex, D, dd, fs, v, e1, e2, T, no, w2.ex _ _ (s2.ex _ _ (e _ _ ea)), l, q v S2 H2 w2 s2 rfl⟩
end
end J

set_option pp.maxSteps 3000
/-! J27: what the end finds of error classes; a def whose code object is known; a law that begins with tables. -/
namespace J
open PySem PySem.Spec PyProof.Rows L2 Evl RZ
/-- an error class over ValueError, as it lies -/
def oexB (K : PySem.W.Frag) (C : Addr) : Bool := match K.lookup C with
  | some ⟨.type "type", _, .cls cd, sl⟩ => (match cd.mro, sl.toList with
    | .ref C1 :: bm, [_, _, _, _, some (.builtin n), _] => C1 == C && n == "ValueError.__new__" && !cd.hasDel && cd.hasDict && PySem.HandSPX.refsVE bm
    | _, _ => false)
  | _ => false
theorem oexB_ok {K : PySem.W.Frag} {C : Addr} (h : oexB K C = true) : ∃ nm q N bs bm sn sub ab col dd k0 k1 k2 k3 k5, K.lookup C = some (excClassObj nm q C N bs bm true sn sub ab col dd k0 k1 k2 k3 k5 "ValueError.__new__") ∧ PySem.HandSPX.refsVE bm = true := by
  unfold oexB at h
  split at h
  · rename_i dd cd sl ho
    split at h
    · rename_i C1 bm k0 k1 k2 k3 n k5 hm hs
      simp only [Bool.and_eq_true, beq_iff_eq, Bool.not_eq_true'] at h
      obtain ⟨⟨⟨⟨rfl, rfl⟩, hdel⟩, hdc⟩, ht⟩ := h
      obtain ⟨nm, bs, mro, ns, qn, hd, sn, sub, ab, col, del⟩ := cd
      dsimp only at hm hdel hdc
      subst hm hdel hdc
      have e : sl = #[k0, k1, k2, k3, some (.builtin "ValueError.__new__"), k5] := by
        obtain ⟨l⟩ := sl
        simp only at hs
        rw [hs]
      subst e
      exact ⟨nm, qn, ns, bs, bm, sn, sub, ab, col, dd, k0, k1, k2, k3, k5, ho, ht⟩
    · cases h
  · cases h
/-- all that is asked of such a class and its __init__ -/
def xcAll (K : PySem.W.Frag) (C f cda : Addr) (qual fld : Str) : Bool :=
  oexB K C && decide (PySem.W.findIn K (.ref C) "__setattr__" = some (some (.builtin "object.__setattr__"))) && decide (PySem.W.subIn K (.ref C) (.type "BaseException") = some true) && decide (PySem.W.typeIn K (.ref C) = some (.type "type")) && PySem.W.keepIn K (.ref C) &&
    decide (PySem.W.typeIn K (.ref f) = some (.type "function")) && PySem.W.codeIn K (.ref cda) qual && decide (PySem.W.ks_superIn K C C "__init__" = some (some (.builtin "ValueError.__init__"))) && decide (PySem.W.subIn K (.ref C) (.type "ValueError") = some true) && decide (PySem.W.mroIn K C (.ref C) = some true) &&
    decide (PySem.W.findIn K (.ref C) fld = some none) && decide (PySem.W.nsIn K cStatics "thirdparty.any" = some none)
/-- isinstance and fields of its instances -/
def xiAll (K : PySem.W.Frag) (C : Addr) : Bool :=
  decide (PySem.W.findIn K (.ref C) "__getattribute__" = some (some (.builtin "BaseException.__getattribute__"))) && decide (PySem.W.findIn K (.ref C) "__getattr__" = some none) && decide (PySem.W.subIn K (.ref C) (.type "BaseException") = some true) && PySem.W.hasDictIn K C &&
    decide (PySem.W.findIn K (.ref C) "__class__" = some (some (.builtin "object.__class__"))) && decide (PySem.W.specialIn K (.builtin "object.__class__") "__get__" = some (some (.builtin "getset_descriptor.__get__"))) && decide (PySem.W.takesIn K (.builtin "object.__class__") = some true) && decide (PySem.W.mroIn K C (.type "object") = some true)
theorem xi_ok {K : PySem.W.Frag} {C : Addr} (h : xiAll K C = true) : L2.ExcC K C ∧ L2.XfC K C := by
  unfold xiAll at h
  simp only [Bool.and_eq_true, decide_eq_true_eq] at h
  obtain ⟨⟨⟨⟨⟨⟨⟨h1, h2⟩, h3⟩, h4⟩, h5⟩, h6⟩, h7⟩, h8⟩ := h
  exact ⟨⟨h1, h2, h3, h4, h5, h6, h7, h8⟩, ⟨h1, h2, h3, h4⟩⟩
/-- which of the classes of l C is one of -/
def kitRow (K : PySem.W.Frag) (C : Addr) : List (Addr × Bool) → Bool
  | [] => true
  | (D, b) :: l => decide (PySem.W.kitOne K (.ref C) (.ref D) = some b) && kitRow K C l
theorem kitRow_cons {K : PySem.W.Frag} {C D : Addr} {b : Bool} {l : List (Addr × Bool)} (h : kitRow K C ((D, b) :: l) = true) : PySem.W.kitOne K (.ref C) (.ref D) = some b ∧ kitRow K C l = true := by
  unfold kitRow at h
  simp only [Bool.and_eq_true, decide_eq_true_eq] at h
  exact h
theorem XcT.of {P : Program} {K : PySem.W.Frag} {mg : Str → Option Value} {C f cda cc : Addr} {qual fld prm file : Str} {st : Stmt} {oc kV doc pm ct ccl cl : Value} {od an cdd cld : Option Addr} {osl ccs csl : Array (Option Value)} {vs : Array Value} {tf : Tok}
    (ini : PySem.W.findIn K (.ref C) "__init__" = some (some (.ref f))) (l : K.lookup f = some ⟨oc, od, .func (PySem.W.ksFn "__init__" qual (defArgs st) (defBody st) (defScope st) .none kV doc pm an (.ref cda) ct cc), osl⟩)
    (lc : K.lookup cda = some ⟨ccl, cdd, .fields vs, ccs⟩) (lcc : K.lookup cc = some ⟨cl, cld, .cell (some (.ref C)), csl⟩) (hv : vs[2]? = some (.str file tf)) (hfile : ((P.main.file : Str) == file) = true) (q : xcAll K C f cda qual fld = true) (zs : mg "super" = none)
    (top : (P.main.scope.names.lookup ("super" : Str)).isSome = false)
    (body : ∃ msg j p0 p1 p2 p3 p4 p5 p6 p7 p8 p9, defBody st = xcBody msg fld prm j p0 p1 p2 p3 p4 p5 p6 p7 p8 p9 ∧ ∀ env : Env, ∃ pl : Sem Bool, eval (.Call (.Attribute (.Call (.Name "super" p0) [] [] p1) "__init__" p2) [.Constant (.str msg) j p3] [] p4) env = (do
      let ov ← attributeBase (.Call (.Name "super" p0) [] [] p1) "__init__" env (eval (.Call (.Name "super" p0) [] [] p1) env)
      standAt p2.atName
      let (f, first) ← holding [ov] (getMethod ov "__init__" pl)
      callWith p4 f first (backTo p4 (starEach [.Constant (.str msg) j p3] env)) []))
    (par : ((defArgs st).posonlyargs ++ (defArgs st).args).head?.map (fun a => a.arg) = some "self") (sc1 : (defScope st).kind = .function) (sc2 : (defScope st).isCoroutine = false) (sc3 : (defScope st).isGenerator = false) (sc4 : ∀ x ∈ (defScope st).names, x.2 ≠ .cell)
    (sc5 : (defScope st).names.lookup ("self" : Str) = some .local) (sc6 : (defScope st).names.lookup prm = some .local) (sc7 : (defScope st).names.lookup ("super" : Str) = some .globalImplicit) (sc8 : (defScope st).names.lookup ("__class__" : Str) = some .free) (np : ("self" : Str) ≠ prm) (nd : (prm == ("__debug__" : Str)) = false) :
    XcT P K mg C f qual fld prm st (PySem.W.ksFn "__init__" qual (defArgs st) (defBody st) (defScope st) .none kV doc pm an (.ref cda) ct cc) := by
  unfold xcAll at q
  simp only [Bool.and_eq_true, decide_eq_true_eq] at q
  obtain ⟨⟨⟨⟨⟨⟨⟨⟨⟨⟨⟨q1, q2⟩, q3⟩, q4⟩, q5⟩, q6⟩, q7⟩, q8⟩, q9⟩, q10⟩, q11⟩, q12⟩ := q
  exact ⟨⟨oexB_ok q1, q2, q3, q4, q5⟩, ini, q6, ⟨oc, kV, doc, pm, ct, od, an, osl, cda, cc, rfl, l, q7, ⟨ccl, cdd, vs, ccs, file, tf, lc, hv, hfile⟩, ⟨cl, cld, csl, lcc⟩⟩, q8, q9, q10, q11, zs, q12, top, body, par, sc1, sc2, sc3, sc4, sc5, sc6, sc7, sc8, np, nd⟩
/-- a def whose code object lies at c -/
structure FunC (K : PySem.W.Frag) (x qual : Str) (st : Stmt) (f : Addr) (fd : FuncData) (c : Addr) : Prop where
  ex : ∃ (oc : Value) (od : Option Addr) (kV doc pm : Value) (an : Option Addr) (ct : Value) (osl : Array (Option Value)), fd = PySem.W.fnOf x qual (defArgs st) (defBody st) (defScope st) .none kV doc pm an (.ref c) ct ∧ K.lookup f = some ⟨oc, od, .func fd, osl⟩ ∧ PySem.W.codeIn K (.ref c) qual = true
section
variable {P : Program} {w : World} {K : PySem.W.Frag} {mg : Str → Option Value} {base : Heap} {x qual : Str} {st : Stmt} {f c : Addr} {fd : FuncData} {N ps : List Str} {k : Nat} {sp : Sp}
theorem ok_GC (F : FunC K x qual st f fd c) (S : FnScope N ps (defScope st)) (len : ∀ vs H Q E, sp vs H Q E → vs.length = ps.length)
    (body : ∀ (A : Around) (outer : List Env) (s : Shared) (H : Hp) (vs : List V) (Q : VK) (E : XK), Gd A → Room k (A.deeper (envOfC qual (defScope st) s.heap.objs.size f (.ref c))) → sp vs H Q E →
      ∃ t, PSs (cxOf CX0 P w K mg base N qual (defScope st) f (.ref c) A outer s H E).nox (defBody st) t ∧ t { nx := fun _ H' => Q .non H', rt := Q } (start N vs) H) : FnG P w K mg base (k + 1) f fd ps sp := by
  obtain ⟨oc, od, kV, doc, pm, an, ct, osl, e, lk, hcd⟩ := F.ex
  subst e
  refine ⟨fun h => len _ _ _ _ h, fun {A outer s H args us vs Q E} g hr e0 hb r h => ?_⟩
  exact LamX.run_ofS lk hcd S hr e0 hb r (len _ _ _ _ h) fun hr1 => by
    obtain ⟨t, ht, hq⟩ := body A outer s H vs Q E g hr1 h
    exact ⟨t, ht.nox, hq⟩
end
/-! ### the beginning -/
/-- H without the tables of T -/
def offT (T : List (Addr × Str)) (H : Hp) : Hp := fun b => if b ∈ T.map Prod.fst then none else H b
section
variable {K : PySem.W.Frag} {T : List (Addr × Str)} {H : Hp} {a : Addr} {xs : List V}
theorem offT_ex : Ex (offT T H) H := fun b o e => by
  unfold offT at e
  split at e
  · cases e
  · exact e
theorem offT_sq (t : ∀ y ∈ T, H y.1 = some (.tbl #[])) (h : SqL K H a xs) : SqL K (offT T H) a xs := by
  have at_ : ∀ o, H a = some o → (∀ ps, o ≠ .tbl ps) → offT T H a = some o := fun o e n => by
    unfold offT
    rw [if_neg fun z => ?_]
    · exact e
    · obtain ⟨y, hy, e1⟩ := List.mem_map.mp z
      have e2 := t y hy
      rw [e1, e] at e2
      exact n #[] (Option.some.inj e2)
  rcases h with (h | ⟨o, h⟩) | h
  · exact .inl (.inl (at_ _ h fun _ z => nomatch z))
  · exact .inl (.inr ⟨o, at_ _ h fun _ z => nomatch z⟩)
  · exact .inr h
theorem tabs_nil (t : ∀ y ∈ T, H y.1 = some (.tbl #[])) : LamX.Tabs T H := fun y hy => LamX.TabS.nil (t y hy)
/-- the source beside the tables -/
theorem Wd.begin {p c : Addr} {S1 H1 : Hp} (t : ∀ y ∈ T, H y.1 = some (.tbl #[])) (w : Wd (srcR p c) S1 H1) (s : Stp Rs.nil (offT T H) H S1 H1) : Wd ((srcR p c).tabs T) S1 H1 := by
  have kp : ∀ b o, H b = some o → H1 b = some o := fun b o e => s.kp b o (fun z => by cases z) e
  refine ⟨w.ex, ⟨w.inv, (tabs_nil t).ext kp⟩, fun b hb => ?_⟩
  rcases List.mem_append.mp hb with hb | hb
  · obtain ⟨y, hy, rfl⟩ := List.mem_map.mp hb
    exact s.fr _ (ne_none (t y hy)) (if_pos hb)
  · exact w.dj b hb
end
end J

set_option pp.maxSteps 3000
/-! J28: o != p where only __eq__ is own; == and != of an instance and anything; instances made by positions and keywords. -/
namespace J
open PySem PySem.Spec PyProof.Rows L2 Evl RZ
/-- what the class says of != -/
structure NeC (K : PySem.W.Frag) (C : Addr) : Prop where
  ne : PySem.W.findIn K (.ref C) "__ne__" = some (some (.builtin "object.__ne__"))
  ob : PySem.W.mroIn K C (.type "object") = some true
section
variable {prog : Program} {w : World} {A : Around} {E : Value → Shared → Prop} {s : Shared} {K : PySem.W.Frag} {x C L f : Addr} {h0 : Heap} {m : Str → Option Value} {ox : Obj} {od : Option Obj} {b tb : Value}
theorem ne_tree {tk : List Value} {Q : Fin → Shared → Prop} (hu : A.units < cLine) (X : K.In s.heap) (I : PySem.W.InstAt s.heap x ox C od) (hs : PySem.W.findIn K (.ref C) "__eq__" = some (some (.ref f))) (hf : PySem.W.isFn K (.ref f) = true)
    (h : wpAny (model prog w) A (call (.ref f) [.ref x, b]) (fun v s1 => ∃ t, v = .bool t ∧ Q (.done (.ret (.bool (!t)))) s1) E s) : wpAny (model prog w) A (Builtin.«object.__ne__» ⟨[.ref x, b], []⟩) Q E s := by
  unfold Builtin.«object.__ne__»
  refine wpAny_bind (wpAny_of_eq (a := ((Value.ref x : Value), [b])) (by first | rfl | (simp only [slotArgs]; rfl)) ?_)
  refine wpAny_bind (wpAny_cRoomFor hu ?_)
  refine wpAny_bind (PySem.W.ifBound_K X I hs hf (wpAny_mono h (fun v s1 hv => ?_) fun _ _ z => z))
  obtain ⟨t, rfl, q⟩ := hv
  exact wpAny_bind (wpAny_truthy_bool (wpAny_pure q))
theorem ifBound_B {M : Model} {name : Str} {id : String} {args : List Value} {Q : Option Value → Shared → Prop} (X : K.In s.heap) (I : PySem.W.InstAt s.heap x ox C od) (hs : PySem.W.findIn K (.ref C) name = some (some (.builtin id))) (hb : ∀ self, bindSpecial (.builtin id) self = pure (.builtin id, [self]))
    (h : wpAny M A (call (.builtin id) (.ref x :: args)) (fun v => Q (some v)) E s) : wpAny M A (callSpecialIfBound? (.ref x) name args) Q E s := by
  simp only [callSpecialIfBound?, bindSpecialIfBound?]
  refine wpAny_holding (wpAny_bind (wpAny_bind (wpAny_bind (I.type.here ((PySem.W.looks_findIn X hs).here ?_)))))
  simp only [hb]
  refine wpAny_bind (wpAny_askSetting (wpAny_ite ?_))
  have go : wpAny M A (call (.builtin id) ([.ref x] ++ args) >>= fun v => pure (some v)) Q E s := wpAny_bind (wpAny_mono h (fun v s1 z => wpAny_pure z) fun _ _ z => z)
  split
  · exact wpAny_bind (wpAny_pure (wpAny_pure (by exact go)))
  · exact wpAny_tryCatch (wpAny_bind (wpAny_pure (wpAny_pure (by exact go))))
theorem ne_K {Q : Value → Shared → Prop} (hu : A.units + 1 < cLine) (F : Fr h0 L s.heap m) (X0 : K.In h0) (I : PySem.W.InstAt s.heap x ox C od) (hb : PySem.W.Looks (model prog w) s.heap (typeOf b) tb) (hn : PySem.W.notFirst K C tb = true) (N : NeC K C)
    (hs : PySem.W.findIn K (.ref C) "__eq__" = some (some (.ref f))) (hf : PySem.W.isFn K (.ref f) = true)
    (h : wpAny (model prog w) A.in1 (call (.ref f) [.ref x, b]) (fun v s1 => ∃ t, v = .bool t ∧ Q (.bool (!t)) s1) E s) : wpAny (model prog w) A (richCompare .NotEq (.ref x) b) Q E s := by
  have X := X0.keeps F.keep
  have sub : PySem.W.Looks (model prog w) s.heap (isInstance (.ref x) (.type "object")) true := I.type.andThen (PySem.W.looks_mroIn X N.ob)
  have one : wpAny (model prog w) A (tryCompare (.ref x) (cmpInfo .NotEq).2.1 b) (fun r s1 => ∃ v, r = some v ∧ Q v s1) E s := by
    unfold tryCompare
    refine wpAny_bind (ifBound_B X I N.ne PySem.F.cmp_object.ne.bind (wpAny_call (codeAny_call_builtin PySem.F.cmp_object.ne.plain PySem.F.cmpEntry_ne (PySem.W.check_slot PySem.F.cmpKind_ne PySem.F.cmpSplit_ne sub (PySem.F.cmpArgs_ne _ _) (ne_tree (tk := []) (A := A.in1) hu X I hs hf (wpAny_mono h (fun v s1 hv => ?_) fun _ _ z => z))))))
    obtain ⟨t, rfl, q⟩ := hv
    exact ⟨_, rfl, wpAny_pure ⟨_, rfl, q⟩⟩
  unfold richCompare
  simp only [oneThing_ref]
  refine wpAny_holding (wpAny_bind (wpAny_cRoomFor (by omega) (wpAny_bind (I.type.here (wpAny_bind (hb.here ?_))))))
  split
  · rename_i q
    have e : PySem.W.subIn K tb (.ref C) = some false := by
      rcases Bool.or_eq_true_iff.mp hn with e | e
      · rw [beq_iff_eq.mp e] at q; simp at q
      · exact beq_iff_eq.mp e
    refine wpAny_bind ((PySem.W.looks_subIn X e).here ?_)
    simp only [Bool.false_eq_true, if_false]
    refine wpAny_bind (wpAny_mono one (fun r s1 z => ?_) fun _ _ e => e)
    obtain ⟨v, rfl, hq⟩ := z
    exact wpAny_pure hq
  · refine wpAny_bind (wpAny_pure ?_)
    simp only [Bool.false_eq_true, if_false]
    refine wpAny_bind (wpAny_mono one (fun r s1 z => ?_) fun _ _ e => e)
    obtain ⟨v, rfl, hq⟩ := z
    exact wpAny_pure hq
end
section
variable {X : Cx} {CX : CXT} {k : Nat} {f C : Addr} {fd : FuncData} {ps : List Str} {sp : Sp} {E : XK}
def rNeO (C : Addr) (sp : Sp) (E : XK) : R2 := fun x y H Q => ∃ a dx fs b dy gs, x = .ref a ∧ y = .ref b ∧ H a = some (.ins C dx fs) ∧ H b = some (.ins C dy gs) ∧ sp [.ref a, .ref b] H (fun v H' => ∃ z, v = .bl z ∧ Q (.bl (!z)) H') E
theorem op_neO (F : FnOk X.prog X.w X.K X.mg X.base CX k f fd ps sp) (M : Meth X.K C "__eq__" f) (N : NeC X.K C) (hr : Room (k + 1) X.A) (hb : Binds X.K fd ps []) (hx : Passes CX X E) : OpR X (compareOp .NotEq) (rNeO C sp E) := by
  intro pins s σ H x y v u Q I rx ry h
  obtain ⟨a, dx, fs, b, dy, gs, rfl, rfl, ha, hb2, wants⟩ := h
  cases rx
  cases ry
  obtain ⟨mA, J, _⟩ := ins_get I.hok ha
  obtain ⟨od, J, _⟩ := J.look
  obtain ⟨mB, J', _⟩ := ins_get I.hok hb2
  obtain ⟨od', J', _⟩ := J'.look
  obtain ⟨m, frame⟩ := I.fr
  refine PySem.W.cmp_ofNotEq (ne_K (tb := .ref C) (units1 hr) frame I.ok.mod.kin J J'.type (by simp [PySem.W.notFirst]) N M.at_ M.fn ?_)
  refine wpAny_mono (run_sub (A := X.A.in1) (vs := [V.ref a, V.ref b]) ⟨hr.in1, rfl⟩ F hb hx I (.cons rfl (.cons rfl .nil)) wants) (fun w s' back => ?_) fun _ _ z => z
  obtain ⟨t, H', I', rt, z, rfl, q⟩ := back
  cases rt
  exact ⟨z, rfl, .bl (!z), H', I', rfl, q⟩
/-- an instance == a tuple -/
def rEqTp (K : PySem.W.Frag) (C : Addr) (sp : Sp) (E : XK) : R2 := fun x y H Q => ∃ a dx fs b ys, x = .ref a ∧ y = .ref b ∧ H a = some (.ins C dx fs) ∧ SqT K H b ys ∧ sp [.ref a, .ref b] H (fun v H' => ∃ z, v = .bl z ∧ Q (.bl z) H') E
theorem op_eqTp (F : FnOk X.prog X.w X.K X.mg X.base CX k f fd ps sp) (M : Meth X.K C "__eq__" f) (nf : PySem.W.notFirst X.K C (.type "tuple") = true) (hr : Room k X.A) (hb : Binds X.K fd ps []) (hx : Passes CX X E) : OpR X (compareOp .Eq) (rEqTp X.K C sp E) := by
  intro pins s σ H x y v u Q I rx ry h
  obtain ⟨a, dx, fs, b, ys, rfl, rfl, ha, hb2, wants⟩ := h
  cases rx
  cases ry
  obtain ⟨mA, J, _⟩ := ins_get I.hok ha
  obtain ⟨od, J, _⟩ := J.look
  obtain ⟨its, _, ⟨ob, ho, hc, _⟩, _⟩ := I.tuple hb2
  obtain ⟨m, frame⟩ := I.fr
  have ty : PySem.W.Looks (model X.prog X.w) s.heap (typeOf (.ref b)) (.type "tuple") := fun A Q E s k q => wpAny_typeOf_ref (k _ _ ho) (by rw [hc]; exact q)
  refine PySem.W.cmp_ofEq (PySem.W.cmp_K (op := .Eq) (tb := .type "tuple") hr.units0 frame I.ok.mod.kin J ty nf M.at_ M.fn ?_)
  refine wpAny_mono (run_sub (A := X.A) (vs := [V.ref a, V.ref b]) ⟨hr, rfl⟩ F hb hx I (.cons rfl (.cons rfl .nil)) wants) (fun w s' back => ?_) fun _ _ z => z
  obtain ⟨t, H', I', rt, z, rfl, q⟩ := back
  cases rt
  exact ⟨.bl z, H', I', rfl, q⟩
end
section
variable {K : PySem.W.Frag} {r : Rs} {s : L2.St} {S : Hp} {ta tb : TE} {A : Type} {C : Addr} {pre : A → List V → Hp → Prop} {post : A → V → Hp → Prop} {E : XK} {Rx Ry : V → Hp → Prop}
/-- both sides told by relations that mean instances -/
theorem ev_neO {b : Bool} (hx : EvS r ta s S Rx) (hy : ∀ S1, Ex S S1 → EvS r tb s S1 Ry) (mx : ∀ v S1 S2, Ex S1 S2 → Rx v S1 → Rx v S2) (hp : ∀ x y S1, Ex S S1 → Rx x S1 → Ry y S1 → ∃ z dx fs z' dx' fs', x = .ref z ∧ y = .ref z' ∧ S1 z = some (.ins C dx fs) ∧ S1 z' = some (.ins C dx' fs') ∧ ∃ a, pre a [x, y] S1 ∧ ∀ u S2, Ex S1 S2 → post a u S2 → u = .bl b) : EvV r (tOp (rNeO C (SpP pre post) E) ta tb) s S (.bl (!b)) := fun S1 H e w Q q =>
  hx S1 H e w _ fun x S2 H2 w2 s2 ex => hy S2 (e.trans s2.ex) S2 H2 (Ex.refl _) w2 _ fun y S3 H3 w3 s3 ey => by
    obtain ⟨z, dx, fs, z', dx', fs', rfl, rfl, hz, hz', a, p1, p2⟩ := hp x y S3 (e.trans (s2.ex.trans s3.ex)) (mx _ _ _ s3.ex ex) ey
    exact ⟨z, dx, fs, z', dx', fs', rfl, rfl, w3.ex _ _ hz, w3.ex _ _ hz', a, S3, p1, w3.ex, fun u S4 H4 w4 s4 p4 => ⟨b, p2 u S4 s4.ex p4, q _ S4 H4 (w3.lift w4 s4) ((s2.trans s3).trans s4.lift) rfl⟩⟩
theorem ev_eqO {b : Bool} (hx : EvS r ta s S Rx) (hy : ∀ S1, Ex S S1 → EvS r tb s S1 Ry) (mx : ∀ v S1 S2, Ex S1 S2 → Rx v S1 → Rx v S2) (hp : ∀ x y S1, Ex S S1 → Rx x S1 → Ry y S1 → ∃ z dx fs z' dx' fs', x = .ref z ∧ y = .ref z' ∧ S1 z = some (.ins C dx fs) ∧ S1 z' = some (.ins C dx' fs') ∧ ∃ a, pre a [x, y] S1 ∧ ∀ u S2, Ex S1 S2 → post a u S2 → u = .bl b) : EvV r (tOp (rEqO C (SpP pre post) E) ta tb) s S (.bl b) := fun S1 H e w Q q =>
  hx S1 H e w _ fun x S2 H2 w2 s2 ex => hy S2 (e.trans s2.ex) S2 H2 (Ex.refl _) w2 _ fun y S3 H3 w3 s3 ey => by
    obtain ⟨z, dx, fs, z', dx', fs', rfl, rfl, hz, hz', a, p1, p2⟩ := hp x y S3 (e.trans (s2.ex.trans s3.ex)) (mx _ _ _ s3.ex ex) ey
    exact ⟨z, dx, fs, z', dx', fs', rfl, rfl, w3.ex _ _ hz, w3.ex _ _ hz', a, S3, p1, w3.ex, fun u S4 H4 w4 s4 p4 => ⟨b, p2 u S4 s4.ex p4, q _ S4 H4 (w3.lift w4 s4) ((s2.trans s3).trans s4.lift) rfl⟩⟩
theorem ev_eqTp {b : Bool} (hx : EvS r ta s S Rx) (hy : ∀ S1, Ex S S1 → EvS r tb s S1 Ry) (mx : ∀ v S1 S2, Ex S1 S2 → Rx v S1 → Rx v S2) (hp : ∀ x y S1, Ex S S1 → Rx x S1 → Ry y S1 → ∃ z dx fs z' ys, x = .ref z ∧ y = .ref z' ∧ S1 z = some (.ins C dx fs) ∧ SqT K S1 z' ys ∧ ∃ a, pre a [x, y] S1 ∧ ∀ u S2, Ex S1 S2 → post a u S2 → u = .bl b) : EvV r (tOp (rEqTp K C (SpP pre post) E) ta tb) s S (.bl b) := fun S1 H e w Q q =>
  hx S1 H e w _ fun x S2 H2 w2 s2 ex => hy S2 (e.trans s2.ex) S2 H2 (Ex.refl _) w2 _ fun y S3 H3 w3 s3 ey => by
    obtain ⟨z, dx, fs, z', ys, rfl, rfl, hz, hz', a, p1, p2⟩ := hp x y S3 (e.trans (s2.ex.trans s3.ex)) (mx _ _ _ s3.ex ex) ey
    exact ⟨z, dx, fs, z', ys, rfl, rfl, w3.ex _ _ hz, ex_t w3.ex hz', a, S3, p1, w3.ex, fun u S4 H4 w4 s4 p4 => ⟨b, p2 u S4 s4.ex p4, q _ S4 H4 (w3.lift w4 s4) ((s2.trans s3).trans s4.lift) rfl⟩⟩
/-- C(e .., k = e, ..) -/
theorem en_makeK {fr : A → List (Str × V) → Hp → Prop} {n m : Nat} {gV : List V → List V → List V} {ts tk : TA} {us zs : List V} {R : HO → Hp → Prop} (h : EvAV r ts s S us) (h2 : EvAV r tk s S zs) (l1 : us.length = n) (l2 : zs.length = m)
    (hp : ∀ S1, Ex S S1 → ∃ a ws, (∀ x, gV (.ref x :: us) zs = .ref x :: ws) ∧ pre a ws S1 ∧ ∀ dx fs S2, Ex S1 S2 → fr a fs S2 → R (.ins C dx fs) S2) : EvN r (tMakeK C n m (SpInit C pre fr) gV E ts tk) s S R := fun S1 H e w0 Q q =>
  h S1 H e w0 _ fun us' S2 H2 w2 s2 e1 => h2 S2 H2 (e.trans s2.ex) w2 _ fun zs' S3 H3 w3 s3 e2 => by
    subst e1
    subst e2
    obtain ⟨a, ws, hg, p1, p2⟩ := hp S3 (e.trans (s2.ex.trans s3.ex))
    refine ⟨l1, l2, fun x dx hx hd ne => ?_⟩
    rw [hg x]
    exact make_tail w3 (s2.trans s3) hx hd ne p1 p2 q
end
end J

set_option pp.maxSteps 3000
/-! J29: l.count(x) of flat values; l.index(x). -/
namespace J
open PySem PySem.Spec PyProof.Rows L2 Evl RZ
def rCntF (K : PySem.W.Frag) : V → List V → Hp → VK → Prop := fun x xs H Q => ∃ (p : Addr) (ys : List V) (y : V), x = .ref p ∧ xs = [y] ∧ SqL K H p ys ∧ flatV y = true ∧ ys.all flatV = true ∧ Q (.int (ys.countP (fun z => eqV z y) : Nat)) H
theorem countU {y : V} : ∀ {ys : List V} {us : List Value}, Vals ys us → ys.all flatV = true → us.countP (eqU y) = ys.countP fun z => eqV z y
  | _, _, .nil, _ => rfl
  | _ :: _, _ :: _, .cons h t, f => by
    simp only [List.all_cons, Bool.and_eq_true] at f
    rw [List.countP_cons, List.countP_cons, countU t f.2, eqU_of h f.1]
theorem mt_countF {X : Cx} {K : PySem.W.Frag} (hK : X.K = K := by rfl) : MtR X "list.count" (rCntF K) := by
  subst hK
  intro pins s σ H x xs v us Q I rx rxs h
  obtain ⟨a, ys, y, rfl, rfl, hs, fy, fys, q⟩ := h
  cases rx
  obtain ⟨u, rfl, ru⟩ := rxs.one
  obtain ⟨its, rv, ⟨⟨cls, dd, data, sl⟩, n, ho, hc, hdn, hd⟩, hlen⟩ := I.list hs
  simp only at hc hd
  subst hc hd
  refine call_meets PySem.F.slot_list_count ⟨_, ho, rfl⟩ PySem.F.entry_list_count (PySem.F.args_list_count_2 _ _)
    (SeqAt.list_countAt a its.toArray n dd sl u (eqU y)) ⟨ho, fun w hw => mem_eqAt ru fy rv fys w (by simpa using hw), ?_⟩
  refine ⟨.int (ys.countP (fun z => eqV z y) : Nat), H, I.tok _, ⟨s.toks, ?_⟩, q⟩
  have e : its.toArray.toList.countP (eqU y) = ys.countP fun z => eqV z y := countU rv fys
  show Value.int ((its.toArray.toList.countP (eqU y) : Nat) : Int) s.toks = _
  rw [e]
section
variable {r : Rs} {s : L2.St} {S : Hp} {ta te : TE} {K : PySem.W.Frag}
/-- l.index(True), l.count(True) of a list that holds True once -/
theorem vv_bm1 {o : V → List V → Hp → VK → Prop} {a : Addr} {xs : List V} {y z : V} {ts : TA} (h : EvV r ta s S (.ref a)) (h2 : EvAV r ts s S [y]) (ha : S a = some (.lst xs)) (ho : ∀ H, H a = some (.lst xs) → ∀ Q : VK, Q z H → o (.ref a) [y] H Q) : EvV r (tBM K "list" o ta ts) s S z := fun S1 H e w Q q =>
  h S1 H e w _ fun v S2 H2 w2 s2 ev => by
    subst ev
    exact ⟨.inl ⟨rfl, _, .inl (.inl (w2.ex _ _ (s2.ex _ _ (e _ _ ha))))⟩, h2 S2 H2 (e.trans s2.ex) w2 _ fun vs S3 H3 w3 s3 evs => by
      subst evs
      exact ho H3 (w3.ex _ _ (s3.ex _ _ (s2.ex _ _ (e _ _ ha)))) Q (q z S3 H3 w3 (s2.trans s3) rfl)⟩
theorem vv_count1 {a : Addr} {xs : List V} {y : V} {n : Nat} {ts : TA} (h : EvV r ta s S (.ref a)) (h2 : EvAV r ts s S [y]) (ha : S a = some (.lst xs)) (fy : flatV y = true) (fx : xs.all flatV = true) (e : xs.countP (fun z => eqV z y) = n) : EvV r (tBM K "list" (rCntF K) ta ts) s S (.int (n : Nat)) :=
  vv_bm1 h h2 ha fun H hH Q q => ⟨a, xs, y, rfl, rfl, SqL.of hH, fy, fx, by rw [e]; exact q⟩
theorem vv_index1 {a : Addr} {xs : List V} {y z : V} {j : Nat} {ts : TA} (h : EvV r ta s S (.ref a)) (h2 : EvAV r ts s S [y]) (ha : S a = some (.lst xs)) (fy : flatV y = true) (fx : xs.all flatV = true) (hz : xs[j]? = some z) (hzj : eqV z y = true) (hno : ∀ (m : Nat) (z' : V), m < j → xs[m]? = some z' → eqV z' y = false) : EvV r (tBM K "list" (rIndex K) ta ts) s S (.int (j : Nat)) :=
  vv_bm1 h h2 ha fun H hH Q q => ⟨a, xs, y, j, z, rfl, rfl, SqL.of hH, fy, fx, hz, hzj, hno, q⟩
end
/-! a != b, a == b of data with any texts -/
def rNeP (K : PySem.W.Frag) : R2 := fun x y H Q => ∃ d e, Dp K H x d ∧ Dp K H y e ∧ d.plain = true ∧ e.plain = true ∧ d.depth ≤ 40 ∧ Q (.bl (!PyData.eqv d e)) H
def rEqP (K : PySem.W.Frag) : R2 := fun x y H Q => ∃ d e, Dp K H x d ∧ Dp K H y e ∧ d.plain = true ∧ e.plain = true ∧ d.depth ≤ 40 ∧ Q (.bl (PyData.eqv d e)) H
theorem op_neP {X : Cx} {K : PySem.W.Frag} (hu : X.A.units + 64 < cLine) (hK : X.K = K := by rfl) : OpR X (compareOp .NotEq) (rNeP K) := by
  subst hK
  intro pins s σ H x y v u Q I rx ry h
  obtain ⟨d, e, hd, he, sd, se, dp, q⟩ := h
  obtain ⟨as, r1⟩ := Dp.reads I d x v hd rx
  obtain ⟨bs, r2⟩ := Dp.reads I e y u he ry
  exact PySem.SeqAt.ne_plain r1 r2 sd se (by omega) ⟨.bl _, H, I, rfl, q⟩
theorem op_eqP {X : Cx} {K : PySem.W.Frag} (hu : X.A.units + 64 < cLine) (hK : X.K = K := by rfl) : OpR X (compareOp .Eq) (rEqP K) := by
  subst hK
  intro pins s σ H x y v u Q I rx ry h
  obtain ⟨d, e, hd, he, sd, se, dp, q⟩ := h
  obtain ⟨as, r1⟩ := Dp.reads I d x v hd rx
  obtain ⟨bs, r2⟩ := Dp.reads I e y u he ry
  exact PySem.SeqAt.eq_plain r1 r2 sd se (by omega) ⟨.bl _, H, I, rfl, q⟩
section
variable {r : Rs} {s : L2.St} {S : Hp} {ta tb : TE} {K : PySem.W.Frag} {d e : PyData}
theorem ev_neP (h1 : EvS r ta s S fun v S1 => Dp K S1 v d) (h2 : ∀ S1, Ex S S1 → EvS r tb s S1 fun v S2 => Dp K S2 v e) (pd : d.plain = true) (pe : e.plain = true) (dp : d.depth ≤ 40) : EvV r (tOp (rNeP K) ta tb) s S (.bl (!PyData.eqv d e)) :=
  ev_op2 h1 (fun _ S1 e _ => h2 S1 e) fun x y S1 S2 _ hx e hy => ⟨_, fun H eH Q q => ⟨_, _, dp_up (e.trans eH) _ _ hx, dp_up eH _ _ hy, pd, pe, dp, q⟩, rfl⟩
theorem ev_eqP (h1 : EvS r ta s S fun v S1 => Dp K S1 v d) (h2 : ∀ S1, Ex S S1 → EvS r tb s S1 fun v S2 => Dp K S2 v e) (pd : d.plain = true) (pe : e.plain = true) (dp : d.depth ≤ 40) : EvV r (tOp (rEqP K) ta tb) s S (.bl (PyData.eqv d e)) :=
  ev_op2 h1 (fun _ S1 e _ => h2 S1 e) fun x y S1 S2 _ hx e hy => ⟨_, fun H eH Q q => ⟨_, _, dp_up (e.trans eH) _ _ hx, dp_up eH _ _ hy, pd, pe, dp, q⟩, rfl⟩
end
section
variable {K : PySem.W.Frag}
theorem dp_strs {S : Hp} : ∀ {zs : List Str} {vs : List V}, All2 StrR S zs vs → DpAll K S vs (zs.map PyData.str)
  | _, _, .nil => .nil
  | _, _, .cons h t => by
    rw [show _ = _ from h]
    exact .cons (.str _) (dp_strs t)
theorem dp_strL {S : Hp} {zs : List Str} {v : V} (h : LstR StrR zs v S) : Dp K S v (.list (zs.map PyData.str)) := by
  obtain ⟨a, vs, rfl, h1, h2⟩ := h
  exact .lst (SqL.of h1) (dp_strs h2)
theorem plain_strs : ∀ zs : List Str, PyData.plainAll (zs.map PyData.str) = true
  | [] => rfl
  | z :: r => by simp only [List.map_cons, PyData.plainAll, PyData.plain, plain_strs r, Bool.and_self]
theorem depth_strs : ∀ zs : List Str, PyData.depthAll (zs.map PyData.str) = 0
  | [] => rfl
  | z :: r => by
    simp only [List.map_cons, PyData.depthAll, PyData.depth, depth_strs r]
    rfl
theorem eqv_strs : ∀ zs : List Str, PyData.eqvAll (zs.map PyData.str) (zs.map PyData.str) = true
  | [] => rfl
  | z :: r => by simp [List.map_cons, PyData.eqvAll, PyData.eqv, eqv_strs r]
variable {r : Rs} {s : L2.St} {S : Hp} {ta tb : TE} {zs : List Str}
/-- the same texts in two lists -/
theorem vv_neT (h1 : EvS r ta s S fun v S1 => LstR StrR zs v S1) (h2 : ∀ S1, Ex S S1 → EvS r tb s S1 fun v S2 => LstR StrR zs v S2) : EvV r (tOp (rNeP K) ta tb) s S (.bl false) :=
  EvV.is (ev_neP (d := .list (zs.map PyData.str)) (e := .list (zs.map PyData.str)) (h1.imp fun _ _ _ h => dp_strL h) (fun S1 e => (h2 S1 e).imp fun _ _ _ h => dp_strL h) (by simp only [PyData.plain, plain_strs]) (by simp only [PyData.plain, plain_strs]) (by simp only [PyData.depth, depth_strs]; decide)) (by
    simp only [PyData.eqv, eqv_strs]
    rfl)
theorem vv_eqT (h1 : EvS r ta s S fun v S1 => LstR StrR zs v S1) (h2 : ∀ S1, Ex S S1 → EvS r tb s S1 fun v S2 => LstR StrR zs v S2) : EvV r (tOp (rEqP K) ta tb) s S (.bl true) :=
  EvV.is (ev_eqP (d := .list (zs.map PyData.str)) (e := .list (zs.map PyData.str)) (h1.imp fun _ _ _ h => dp_strL h) (fun S1 e => (h2 S1 e).imp fun _ _ _ h => dp_strL h) (by simp only [PyData.plain, plain_strs]) (by simp only [PyData.plain, plain_strs]) (by simp only [PyData.depth, depth_strs]; decide)) (by
    simp only [PyData.eqv, eqv_strs])
end
end J

namespace K29
open PySem PySem.Spec PyProof.Rows L2 Evl J
/-! ### the text by places -/
def topS (i : Nat) : Stmt := PySem.Challenge.pw_joinedrounds_k29_whole_moves_put_in_late.main.body.getD i (.Pass ⟨0, 0, 0, 0⟩)
abbrev s_is_integer : Stmt := (topS 15)
abbrev N_is_integer : List Str := ["value"]
theorem sc_is_integer : FnScope N_is_integer ["value"] (defScope s_is_integer) := ⟨rfl, rfl, rfl, by decide +kernel, rfl, by decide +kernel, by decide +kernel⟩
abbrev s_is_between : Stmt := (topS 16)
abbrev N_is_between : List Str := ["value", "low", "high"]
theorem sc_is_between : FnScope N_is_between ["value", "low", "high"] (defScope s_is_between) := ⟨rfl, rfl, rfl, by decide +kernel, rfl, by decide +kernel, by decide +kernel⟩
abbrev s_is_part_value : Stmt := (topS 17)
abbrev N_is_part_value : List Str := ["part", "value", "word"]
theorem sc_is_part_value : FnScope N_is_part_value ["part", "value"] (defScope s_is_part_value) := ⟨rfl, rfl, rfl, by decide +kernel, rfl, by decide +kernel, by decide +kernel⟩
abbrev s_Rule_init : Stmt := (inClass (topS 18) 0)
abbrev N_Rule_init : List Str := ["self", "moves", "start", "fresh", "sees", "part", "value"]
theorem sc_Rule_init : FnScope N_Rule_init ["self", "moves", "start", "fresh", "sees"] (defScope s_Rule_init) := ⟨rfl, rfl, rfl, by decide +kernel, rfl, by decide +kernel, by decide +kernel⟩
abbrev s_Rule_fresh : Stmt := (inClass (topS 18) 3)
abbrev N_Rule_fresh : List Str := ["self"]
theorem sc_Rule_fresh : FnScope N_Rule_fresh ["self"] (defScope s_Rule_fresh) := ⟨rfl, rfl, rfl, by decide +kernel, rfl, by decide +kernel, by decide +kernel⟩
abbrev s_Rule_sees : Stmt := (inClass (topS 18) 4)
abbrev N_Rule_sees : List Str := ["self"]
theorem sc_Rule_sees : FnScope N_Rule_sees ["self"] (defScope s_Rule_sees) := ⟨rfl, rfl, rfl, by decide +kernel, rfl, by decide +kernel, by decide +kernel⟩
abbrev s_are_rows : Stmt := (topS 24)
abbrev N_are_rows : List Str := ["pages", "value", "page"]
theorem sc_are_rows : FnScope N_are_rows ["pages", "value"] (defScope s_are_rows) := ⟨rfl, rfl, rfl, by decide +kernel, rfl, by decide +kernel, by decide +kernel⟩
abbrev s_are_news : Stmt := (topS 25)
abbrev N_are_news : List Str := ["value", "time", "one", "other"]
theorem sc_are_news : FnScope N_are_news ["value"] (defScope s_are_news) := ⟨rfl, rfl, rfl, by decide +kernel, rfl, by decide +kernel, by decide +kernel⟩
abbrev s_pages_at : Stmt := (topS 26)
abbrev N_pages_at : List Str := ["pages", "news", "time", "one"]
theorem sc_pages_at : FnScope N_pages_at ["pages", "news", "time"] (defScope s_pages_at) := ⟨rfl, rfl, rfl, by decide +kernel, rfl, by decide +kernel, by decide +kernel⟩
abbrev s_can_be_made : Stmt := (topS 27)
abbrev N_can_be_made : List Str := ["pages", "news", "spots", "before", "move"]
theorem sc_can_be_made : FnScope N_can_be_made ["pages", "news", "spots", "before", "move"] (defScope s_can_be_made) := ⟨rfl, rfl, rfl, by decide +kernel, rfl, by decide +kernel, by decide +kernel⟩
abbrev s_first_wrong : Stmt := (topS 28)
abbrev N_first_wrong : List Str := ["pages", "rows", "news", "moves", "spots", "before", "move", "row", "page"]
theorem sc_first_wrong : FnScope N_first_wrong ["pages", "rows", "news", "moves"] (defScope s_first_wrong) := ⟨rfl, rfl, rfl, by decide +kernel, rfl, by decide +kernel, by decide +kernel⟩
abbrev s_Book_init : Stmt := (inClass (topS 29) 0)
abbrev N_Book_init : List Str := ["self", "pages", "rows", "news", "moves", "move"]
theorem sc_Book_init : FnScope N_Book_init ["self", "pages", "rows", "news", "moves"] (defScope s_Book_init) := ⟨rfl, rfl, rfl, by decide +kernel, rfl, by decide +kernel, by decide +kernel⟩
abbrev s_Book_pages : Stmt := (inClass (topS 29) 1)
abbrev N_Book_pages : List Str := ["self"]
theorem sc_Book_pages : FnScope N_Book_pages ["self"] (defScope s_Book_pages) := ⟨rfl, rfl, rfl, by decide +kernel, rfl, by decide +kernel, by decide +kernel⟩
abbrev s_Book_rows : Stmt := (inClass (topS 29) 2)
abbrev N_Book_rows : List Str := ["self"]
theorem sc_Book_rows : FnScope N_Book_rows ["self"] (defScope s_Book_rows) := ⟨rfl, rfl, rfl, by decide +kernel, rfl, by decide +kernel, by decide +kernel⟩
abbrev s_Book_news : Stmt := (inClass (topS 29) 3)
abbrev N_Book_news : List Str := ["self"]
theorem sc_Book_news : FnScope N_Book_news ["self"] (defScope s_Book_news) := ⟨rfl, rfl, rfl, by decide +kernel, rfl, by decide +kernel, by decide +kernel⟩
abbrev s_Book_moves : Stmt := (inClass (topS 29) 4)
abbrev N_Book_moves : List Str := ["self"]
theorem sc_Book_moves : FnScope N_Book_moves ["self"] (defScope s_Book_moves) := ⟨rfl, rfl, rfl, by decide +kernel, rfl, by decide +kernel, by decide +kernel⟩
abbrev s_Book_len : Stmt := (inClass (topS 29) 6)
abbrev N_Book_len : List Str := ["self"]
theorem sc_Book_len : FnScope N_Book_len ["self"] (defScope s_Book_len) := ⟨rfl, rfl, rfl, by decide +kernel, rfl, by decide +kernel, by decide +kernel⟩
abbrev s_Book_check : Stmt := (inClass (topS 29) 7)
abbrev N_Book_check : List Str := ["self", "row"]
theorem sc_Book_check : FnScope N_Book_check ["self", "row"] (defScope s_Book_check) := ⟨rfl, rfl, rfl, by decide +kernel, rfl, by decide +kernel, by decide +kernel⟩
abbrev s_Book_spot : Stmt := (inClass (topS 29) 12)
abbrev N_Book_spot : List Str := ["self", "row", "time", "found", "moment", "other", "page"]
theorem sc_Book_spot : FnScope N_Book_spot ["self", "row", "time"] (defScope s_Book_spot) := ⟨rfl, rfl, rfl, by decide +kernel, rfl, by decide +kernel, by decide +kernel⟩
abbrev s_Book_place : Stmt := (inClass (topS 29) 13)
abbrev N_Book_place : List Str := ["self", "row", "time"]
theorem sc_Book_place : FnScope N_Book_place ["self", "row", "time"] (defScope s_Book_place) := ⟨rfl, rfl, rfl, by decide +kernel, rfl, by decide +kernel, by decide +kernel⟩
abbrev s_with_move : Stmt := (topS 30)
abbrev N_with_move : List Str := ["book", "move", "early", "moves", "one"]
theorem sc_with_move : FnScope N_with_move ["book", "move"] (defScope s_with_move) := ⟨rfl, rfl, rfl, by decide +kernel, rfl, by decide +kernel, by decide +kernel⟩
abbrev s_Reader_init : Stmt := (inClass (topS 35) 0)
abbrev N_Reader_init : List Str := ["self", "begin", "page", "pace"]
theorem sc_Reader_init : FnScope N_Reader_init ["self", "begin", "page", "pace"] (defScope s_Reader_init) := ⟨rfl, rfl, rfl, by decide +kernel, rfl, by decide +kernel, by decide +kernel⟩
abbrev s_Reader_begin : Stmt := (inClass (topS 35) 1)
abbrev N_Reader_begin : List Str := ["self"]
theorem sc_Reader_begin : FnScope N_Reader_begin ["self"] (defScope s_Reader_begin) := ⟨rfl, rfl, rfl, by decide +kernel, rfl, by decide +kernel, by decide +kernel⟩
abbrev s_Reader_page : Stmt := (inClass (topS 35) 2)
abbrev N_Reader_page : List Str := ["self"]
theorem sc_Reader_page : FnScope N_Reader_page ["self"] (defScope s_Reader_page) := ⟨rfl, rfl, rfl, by decide +kernel, rfl, by decide +kernel, by decide +kernel⟩
abbrev s_Reader_pace : Stmt := (inClass (topS 35) 3)
abbrev N_Reader_pace : List Str := ["self"]
theorem sc_Reader_pace : FnScope N_Reader_pace ["self"] (defScope s_Reader_pace) := ⟨rfl, rfl, rfl, by decide +kernel, rfl, by decide +kernel, by decide +kernel⟩
abbrev s_old_of : Stmt := (topS 37)
abbrev N_old_of : List Str := ["book", "reader", "time"]
theorem sc_old_of : FnScope N_old_of ["book", "reader"] (defScope s_old_of) := ⟨rfl, rfl, rfl, by decide +kernel, rfl, by decide +kernel, by decide +kernel⟩
abbrev s_check_reader : Stmt := (topS 38)
abbrev N_check_reader : List Str := ["book", "reader"]
theorem sc_check_reader : FnScope N_check_reader ["book", "reader"] (defScope s_check_reader) := ⟨rfl, rfl, rfl, by decide +kernel, rfl, by decide +kernel, by decide +kernel⟩
abbrev s_all_visits : Stmt := (topS 39)
abbrev N_all_visits : List Str := ["book", "rule", "reader", "many", "found", "at", "time"]
theorem sc_all_visits : FnScope N_all_visits ["book", "rule", "reader"] (defScope s_all_visits) := ⟨rfl, rfl, rfl, by decide +kernel, rfl, by decide +kernel, by decide +kernel⟩
abbrev s_visits : Stmt := (topS 40)
abbrev N_visits : List Str := ["book", "rule", "reader"]
theorem sc_visits : FnScope N_visits ["book", "rule", "reader"] (defScope s_visits) := ⟨rfl, rfl, rfl, by decide +kernel, rfl, by decide +kernel, by decide +kernel⟩
abbrev s_end : Stmt := (topS 41)
abbrev N_end : List Str := ["book", "rule", "reader"]
theorem sc_end : FnScope N_end ["book", "rule", "reader"] (defScope s_end) := ⟨rfl, rfl, rfl, by decide +kernel, rfl, by decide +kernel, by decide +kernel⟩
abbrev s_home_of : Stmt := (topS 42)
abbrev N_home_of : List Str := ["book", "reader", "row"]
theorem sc_home_of : FnScope N_home_of ["book", "reader", "row"] (defScope s_home_of) := ⟨rfl, rfl, rfl, by decide +kernel, rfl, by decide +kernel, by decide +kernel⟩
abbrev s_seen : Stmt := (topS 43)
abbrev N_seen : List Str := ["book", "rule", "reader", "row", "rows", "time", "page"]
theorem sc_seen : FnScope N_seen ["book", "rule", "reader", "row"] (defScope s_seen) := ⟨rfl, rfl, rfl, by decide +kernel, rfl, by decide +kernel, by decide +kernel⟩
abbrev s_visited_before : Stmt := (topS 45)
abbrev N_visited_before : List Str := ["rows", "page", "time", "moment", "other"]
theorem sc_visited_before : FnScope N_visited_before ["rows", "page", "time"] (defScope s_visited_before) := ⟨rfl, rfl, rfl, by decide +kernel, rfl, by decide +kernel, by decide +kernel⟩
abbrev s_balance : Stmt := (topS 46)
abbrev N_balance : List Str := ["book", "rule", "reader", "row", "rows", "last", "spot", "outs", "ins", "time", "other", "page", "was", "will"]
theorem sc_balance : FnScope N_balance ["book", "rule", "reader", "row"] (defScope s_balance) := ⟨rfl, rfl, rfl, by decide +kernel, rfl, by decide +kernel, by decide +kernel⟩
abbrev s_L_begin : Stmt := (topS 48)
abbrev N_L_begin : List Str := ["_law_script"]
theorem sc_L_begin : FnScope N_L_begin ["_law_script"] (defScope s_L_begin) := ⟨rfl, rfl, rfl, by decide +kernel, rfl, by decide +kernel, by decide +kernel⟩
abbrev s_L_draw : Stmt := (topS 49)
abbrev N_L_draw : List Str := ["_law_source", "_law_limit", "_law_cell", "_law_digit"]
theorem sc_L_draw : FnScope N_L_draw ["_law_source", "_law_limit"] (defScope s_L_draw) := ⟨rfl, rfl, rfl, by decide +kernel, rfl, by decide +kernel, by decide +kernel⟩
abbrev s_L_case : Stmt := (topS 50)
abbrev N_L_case : List Str := ["_law_source", "_law_some", "_law_begins", "_law_new"]
theorem sc_L_case : FnScope N_L_case ["_law_source"] (defScope s_L_case) := ⟨rfl, rfl, rfl, by decide +kernel, rfl, by decide +kernel, by decide +kernel⟩
abbrev s_L_rule : Stmt := (topS 51)
abbrev N_L_rule : List Str := ["_law_case_here"]
theorem sc_L_rule : FnScope N_L_rule ["_law_case_here"] (defScope s_L_rule) := ⟨rfl, rfl, rfl, by decide +kernel, rfl, by decide +kernel, by decide +kernel⟩
abbrev s_L_there : Stmt := (topS 52)
abbrev N_L_there : List Str := ["_law_told_here", "_law_time", "_law_new"]
theorem sc_L_there : FnScope N_L_there ["_law_told_here", "_law_time"] (defScope s_L_there) := ⟨rfl, rfl, rfl, by decide +kernel, rfl, by decide +kernel, by decide +kernel⟩
abbrev s_L_place : Stmt := (topS 53)
abbrev N_L_place : List Str := ["_law_told_here", "_law_row", "_law_time", "_law_here", "_law_move"]
theorem sc_L_place : FnScope N_L_place ["_law_told_here", "_law_row", "_law_time"] (defScope s_L_place) := ⟨rfl, rfl, rfl, by decide +kernel, rfl, by decide +kernel, by decide +kernel⟩
abbrev s_L_told : Stmt := (topS 54)
abbrev N_L_told : List Str := ["_law_source", "_law_most", "_law_span", "_law_many", "_law_rows", "_law_news", "_law_told_here", "_law_time", "_law_turn", "_law_row", "_law_pages", "_law_goal"]
theorem sc_L_told : FnScope N_L_told ["_law_source", "_law_most", "_law_span"] (defScope s_L_told) := ⟨rfl, rfl, rfl, by decide +kernel, rfl, by decide +kernel, by decide +kernel⟩
abbrev s_L_book : Stmt := (topS 55)
abbrev N_L_book : List Str := ["_law_told_here"]
theorem sc_L_book : FnScope N_L_book ["_law_told_here"] (defScope s_L_book) := ⟨rfl, rfl, rfl, by decide +kernel, rfl, by decide +kernel, by decide +kernel⟩
abbrev s_L_walker : Stmt := (topS 56)
abbrev N_L_walker : List Str := ["_law_source", "_law_told_here", "_law_span", "_law_time", "_law_old"]
theorem sc_L_walker : FnScope N_L_walker ["_law_source", "_law_told_here", "_law_span"] (defScope s_L_walker) := ⟨rfl, rfl, rfl, by decide +kernel, rfl, by decide +kernel, by decide +kernel⟩
abbrev s_L_tried : Stmt := (topS 57)
abbrev N_L_tried : List Str := ["_law_book_here", "_law_move"]
theorem sc_L_tried : FnScope N_L_tried ["_law_book_here", "_law_move"] (defScope s_L_tried) := ⟨rfl, rfl, rfl, by decide +kernel, rfl, by decide +kernel, by decide +kernel⟩
abbrev s_law : Stmt := (topS 58)
abbrev N_law : List Str := ["_law_script", "_law_source", "_law_turn", "_law_told_here", "_law_case_here", "_law_walker_here", "_law_book_here", "_law_rule_here", "_law_reader", "_law_row", "_law_last_time", "_law_far", "_law_later", "_law_k", "_law_time", "_law_goal", "_law_here", "_law_there_here", "_law_again", "_law_one", "_law_two"]
theorem sc_law : FnScope N_law ["_law_script"] (defScope s_law) := ⟨rfl, rfl, rfl, by decide +kernel, rfl, by decide +kernel, by decide +kernel⟩
abbrev s_InvalidBook_init : Stmt := (inClass (topS 7) 0)
abbrev s_InvalidMove_init : Stmt := (inClass (topS 8) 0)
abbrev s_InvalidNumber_init : Stmt := (inClass (topS 3) 0)
/-! ### what the top has written -/
structure TX (P : Program) (w : World) (K : PySem.W.Frag) (mg : Str → Option Value) where
  z_all : mg "all" = none
  z_any : mg "any" = none
  z_bool : mg "bool" = none
  z_int : mg "int" = none
  z_isinstance : mg "isinstance" = none
  z_len : mg "len" = none
  z_list : mg "list" = none
  z_range : mg "range" = none
  z_sorted : mg "sorted" = none
  z_str : mg "str" = none
  z_tuple : mg "tuple" = none
  z_zip : mg "zip" = none
  c_LAST_BEGIN : MgC mg "LAST_BEGIN" (.int 1000)
  c_LAST_PAGE : MgC mg "LAST_PAGE" (.int 62)
  c_MOST_MOVES : MgC mg "MOST_MOVES" (.int 40)
  c_MOST_NEWS : MgC mg "MOST_NEWS" (.int 3)
  c_MOST_PACE : MgC mg "MOST_PACE" (.int 4)
  c_MOST_PAGES : MgC mg "MOST_PAGES" (.int 60)
  c_MOST_ROWS : MgC mg "MOST_ROWS" (.int 20)
  c_MOST_TIME : MgC mg "MOST_TIME" (.int 2000)
  A_MOVES : Addr
  c_MOVES : MgC mg "MOVES" (.ref A_MOVES)
  A_PARTS : Addr
  c_PARTS : MgC mg "PARTS" (.ref A_PARTS)
  A_WORDS : Addr
  c_WORDS : MgC mg "WORDS" (.ref A_WORDS)
  A_MOVES_0 : Addr
  tu_MOVES_0 : ∀ H : Hp, SqT K H A_MOVES_0 []
  A_MOVES_1 : Addr
  tu_MOVES_1 : ∀ H : Hp, SqT K H A_MOVES_1 [.str "ahead"]
  A_MOVES_2 : Addr
  tu_MOVES_2 : ∀ H : Hp, SqT K H A_MOVES_2 [.str "back"]
  A_MOVES_3 : Addr
  tu_MOVES_3 : ∀ H : Hp, SqT K H A_MOVES_3 [.str "ahead", .str "back"]
  tu_MOVES : ∀ H : Hp, SqT K H A_MOVES [.ref A_MOVES_0, .ref A_MOVES_1, .ref A_MOVES_2, .ref A_MOVES_3]
  tu_PARTS : ∀ H : Hp, SqT K H A_PARTS [.str "moves", .str "start", .str "fresh", .str "sees"]
  A_WORDS_0 : Addr
  tu_WORDS_0 : ∀ H : Hp, SqT K H A_WORDS_0 [.str "front", .str "any"]
  A_WORDS_1 : Addr
  tu_WORDS_1 : ∀ H : Hp, SqT K H A_WORDS_1 [.str "none", .str "unseen", .str "again"]
  A_WORDS_2 : Addr
  tu_WORDS_2 : ∀ H : Hp, SqT K H A_WORDS_2 [.str "now", .str "home"]
  kd_WORDS_start : KDct K w A_WORDS "start" (.ref A_WORDS_0)
  kd_WORDS_fresh : KDct K w A_WORDS "fresh" (.ref A_WORDS_1)
  kd_WORDS_sees : KDct K w A_WORDS "sees" (.ref A_WORDS_2)
  A_Rule_init_moves : Addr
  tu_Rule_init_moves : ∀ H : Hp, SqT K H A_Rule_init_moves []
  A_Book_init_news : Addr
  tu_Book_init_news : ∀ H : Hp, SqT K H A_Book_init_news []
  A_Book_init_moves : Addr
  tu_Book_init_moves : ∀ H : Hp, SqT K H A_Book_init_moves []
  C_Rule : Addr
  g_Rule : mg "Rule" = some (.ref C_Rule)
  cl_Rule : Cls K C_Rule
  na_Rule_kept_parts : NoAttr K C_Rule "kept_parts"
  C_Book : Addr
  g_Book : mg "Book" = some (.ref C_Book)
  cl_Book : Cls K C_Book
  na_Book_kept_pages : NoAttr K C_Book "kept_pages"
  na_Book_kept_rows : NoAttr K C_Book "kept_rows"
  na_Book_kept_news : NoAttr K C_Book "kept_news"
  na_Book_kept_moves : NoAttr K C_Book "kept_moves"
  C_Reader : Addr
  g_Reader : mg "Reader" = some (.ref C_Reader)
  cl_Reader : Cls K C_Reader
  na_Reader_kept_begin : NoAttr K C_Reader "kept_begin"
  na_Reader_kept_page : NoAttr K C_Reader "kept_page"
  na_Reader_kept_pace : NoAttr K C_Reader "kept_pace"
  ty_Reader : IsCls K C_Reader
  C_InvalidBook : Addr
  g_InvalidBook : mg "InvalidBook" = some (.ref C_InvalidBook)
  C_InvalidMove : Addr
  g_InvalidMove : mg "InvalidMove" = some (.ref C_InvalidMove)
  C_InvalidNumber : Addr
  g_InvalidNumber : mg "InvalidNumber" = some (.ref C_InvalidNumber)
  C_RoundError : Addr
  g_RoundError : mg "RoundError" = some (.ref C_RoundError)
  fi_InvalidBook : Addr
  fdi_InvalidBook : FuncData
  xc_InvalidBook : XcT P K mg C_InvalidBook fi_InvalidBook "InvalidBook.__init__" "value" "value" s_InvalidBook_init fdi_InvalidBook
  bx_InvalidBook : Binds K fdi_InvalidBook ["self", "value"] []
  xi_InvalidBook : xiAll K C_InvalidBook = true
  em_InvalidBook : PySem.W.exmOne K (.ref C_InvalidBook) (.ref C_RoundError) = some true
  em_InvalidBook_InvalidMove : PySem.W.exmOne K (.ref C_InvalidBook) (.ref C_InvalidMove) = some false
  fi_InvalidMove : Addr
  fdi_InvalidMove : FuncData
  xc_InvalidMove : XcT P K mg C_InvalidMove fi_InvalidMove "InvalidMove.__init__" "value" "value" s_InvalidMove_init fdi_InvalidMove
  bx_InvalidMove : Binds K fdi_InvalidMove ["self", "value"] []
  xi_InvalidMove : xiAll K C_InvalidMove = true
  em_InvalidMove : PySem.W.exmOne K (.ref C_InvalidMove) (.ref C_RoundError) = some true
  em_InvalidMove_InvalidMove : PySem.W.exmOne K (.ref C_InvalidMove) (.ref C_InvalidMove) = some true
  fi_InvalidNumber : Addr
  fdi_InvalidNumber : FuncData
  xc_InvalidNumber : XcT P K mg C_InvalidNumber fi_InvalidNumber "InvalidNumber.__init__" "value" "value" s_InvalidNumber_init fdi_InvalidNumber
  bx_InvalidNumber : Binds K fdi_InvalidNumber ["self", "value"] []
  xi_InvalidNumber : xiAll K C_InvalidNumber = true
  em_InvalidNumber : PySem.W.exmOne K (.ref C_InvalidNumber) (.ref C_RoundError) = some true
  em_InvalidNumber_InvalidMove : PySem.W.exmOne K (.ref C_InvalidNumber) (.ref C_InvalidMove) = some false
  f_is_integer : Addr
  fd_is_integer : FuncData
  F_is_integer : Fun K "is_integer" "is_integer" s_is_integer f_is_integer fd_is_integer
  b_is_integer : Binds K fd_is_integer ["value"] []
  g_is_integer : mg "is_integer" = some (.ref f_is_integer)
  f_is_between : Addr
  fd_is_between : FuncData
  F_is_between : Fun K "is_between" "is_between" s_is_between f_is_between fd_is_between
  b_is_between : Binds K fd_is_between ["value", "low", "high"] []
  g_is_between : mg "is_between" = some (.ref f_is_between)
  f_is_part_value : Addr
  fd_is_part_value : FuncData
  F_is_part_value : Fun K "is_part_value" "is_part_value" s_is_part_value f_is_part_value fd_is_part_value
  b_is_part_value : Binds K fd_is_part_value ["part", "value"] []
  g_is_part_value : mg "is_part_value" = some (.ref f_is_part_value)
  f_Rule_init : Addr
  fd_Rule_init : FuncData
  F_Rule_init : FunD K "__init__" "Rule.__init__" (defArgs s_Rule_init) (defBody s_Rule_init) (defScope s_Rule_init) [] [("moves", .ref A_Rule_init_moves), ("start", .str "front"), ("fresh", .str "none"), ("sees", .str "now")] f_Rule_init fd_Rule_init
  kb4_Rule_init : ∃ mv : List Value, KBn K fd_Rule_init ["self", "moves", "start", "fresh", "sees"] 1 ["moves", "start", "fresh", "sees"] (fun us ws => us ++ ws) (fun vs zs => vs ++ zs)
  mk_Rule : Mk K C_Rule f_Rule_init
  f_Rule_fresh : Addr
  fd_Rule_fresh : FuncData
  F_Rule_fresh : Fun K "fresh" "Rule.fresh" s_Rule_fresh f_Rule_fresh fd_Rule_fresh
  b_Rule_fresh : Binds K fd_Rule_fresh ["self"] []
  pa_Rule_fresh : Addr
  p_Rule_fresh : PropOf K C_Rule "fresh" pa_Rule_fresh f_Rule_fresh
  f_Rule_sees : Addr
  fd_Rule_sees : FuncData
  F_Rule_sees : Fun K "sees" "Rule.sees" s_Rule_sees f_Rule_sees fd_Rule_sees
  b_Rule_sees : Binds K fd_Rule_sees ["self"] []
  pa_Rule_sees : Addr
  p_Rule_sees : PropOf K C_Rule "sees" pa_Rule_sees f_Rule_sees
  f_are_rows : Addr
  fd_are_rows : FuncData
  F_are_rows : Fun K "are_rows" "are_rows" s_are_rows f_are_rows fd_are_rows
  b_are_rows : Binds K fd_are_rows ["pages", "value"] []
  g_are_rows : mg "are_rows" = some (.ref f_are_rows)
  f_are_news : Addr
  fd_are_news : FuncData
  F_are_news : Fun K "are_news" "are_news" s_are_news f_are_news fd_are_news
  b_are_news : Binds K fd_are_news ["value"] []
  g_are_news : mg "are_news" = some (.ref f_are_news)
  f_pages_at : Addr
  fd_pages_at : FuncData
  F_pages_at : Fun K "pages_at" "pages_at" s_pages_at f_pages_at fd_pages_at
  b_pages_at : Binds K fd_pages_at ["pages", "news", "time"] []
  g_pages_at : mg "pages_at" = some (.ref f_pages_at)
  f_can_be_made : Addr
  fd_can_be_made : FuncData
  F_can_be_made : Fun K "can_be_made" "can_be_made" s_can_be_made f_can_be_made fd_can_be_made
  b_can_be_made : Binds K fd_can_be_made ["pages", "news", "spots", "before", "move"] []
  g_can_be_made : mg "can_be_made" = some (.ref f_can_be_made)
  f_first_wrong : Addr
  fd_first_wrong : FuncData
  F_first_wrong : Fun K "first_wrong" "first_wrong" s_first_wrong f_first_wrong fd_first_wrong
  b_first_wrong : Binds K fd_first_wrong ["pages", "rows", "news", "moves"] []
  g_first_wrong : mg "first_wrong" = some (.ref f_first_wrong)
  f_Book_init : Addr
  fd_Book_init : FuncData
  F_Book_init : FunD K "__init__" "Book.__init__" (defArgs s_Book_init) (defBody s_Book_init) (defScope s_Book_init) [.ref A_Book_init_news, .ref A_Book_init_moves] [] f_Book_init fd_Book_init
  b4_Book_init : ∃ ds, Vals ([.ref A_Book_init_news, .ref A_Book_init_moves].drop 2) ds ∧ Binds K fd_Book_init ["self", "pages", "rows", "news", "moves"] ds
  mk_Book : Mk K C_Book f_Book_init
  f_Book_pages : Addr
  fd_Book_pages : FuncData
  F_Book_pages : Fun K "pages" "Book.pages" s_Book_pages f_Book_pages fd_Book_pages
  b_Book_pages : Binds K fd_Book_pages ["self"] []
  pa_Book_pages : Addr
  p_Book_pages : PropOf K C_Book "pages" pa_Book_pages f_Book_pages
  f_Book_rows : Addr
  fd_Book_rows : FuncData
  F_Book_rows : Fun K "rows" "Book.rows" s_Book_rows f_Book_rows fd_Book_rows
  b_Book_rows : Binds K fd_Book_rows ["self"] []
  pa_Book_rows : Addr
  p_Book_rows : PropOf K C_Book "rows" pa_Book_rows f_Book_rows
  f_Book_news : Addr
  fd_Book_news : FuncData
  F_Book_news : Fun K "news" "Book.news" s_Book_news f_Book_news fd_Book_news
  b_Book_news : Binds K fd_Book_news ["self"] []
  pa_Book_news : Addr
  p_Book_news : PropOf K C_Book "news" pa_Book_news f_Book_news
  f_Book_moves : Addr
  fd_Book_moves : FuncData
  F_Book_moves : Fun K "moves" "Book.moves" s_Book_moves f_Book_moves fd_Book_moves
  b_Book_moves : Binds K fd_Book_moves ["self"] []
  pa_Book_moves : Addr
  p_Book_moves : PropOf K C_Book "moves" pa_Book_moves f_Book_moves
  f_Book_len : Addr
  fd_Book_len : FuncData
  F_Book_len : Fun K "__len__" "Book.__len__" s_Book_len f_Book_len fd_Book_len
  b_Book_len : Binds K fd_Book_len ["self"] []
  m_Book_len : Meth K C_Book "__len__" f_Book_len
  f_Book_check : Addr
  fd_Book_check : FuncData
  F_Book_check : Fun K "check" "Book.check" s_Book_check f_Book_check fd_Book_check
  b_Book_check : Binds K fd_Book_check ["self", "row"] []
  m_Book_check : Meth K C_Book "check" f_Book_check
  f_Book_spot : Addr
  fd_Book_spot : FuncData
  F_Book_spot : Fun K "spot" "Book.spot" s_Book_spot f_Book_spot fd_Book_spot
  b_Book_spot : Binds K fd_Book_spot ["self", "row", "time"] []
  m_Book_spot : Meth K C_Book "spot" f_Book_spot
  f_Book_place : Addr
  fd_Book_place : FuncData
  F_Book_place : Fun K "place" "Book.place" s_Book_place f_Book_place fd_Book_place
  b_Book_place : Binds K fd_Book_place ["self", "row", "time"] []
  m_Book_place : Meth K C_Book "place" f_Book_place
  f_with_move : Addr
  fd_with_move : FuncData
  F_with_move : Fun K "with_move" "with_move" s_with_move f_with_move fd_with_move
  b_with_move : Binds K fd_with_move ["book", "move"] []
  g_with_move : mg "with_move" = some (.ref f_with_move)
  f_Reader_init : Addr
  fd_Reader_init : FuncData
  F_Reader_init : FunD K "__init__" "Reader.__init__" (defArgs s_Reader_init) (defBody s_Reader_init) (defScope s_Reader_init) [.int 0, .int 1] [] f_Reader_init fd_Reader_init
  b3_Reader_init : ∃ ds, Vals ([.int 0, .int 1].drop 2) ds ∧ Binds K fd_Reader_init ["self", "begin", "page", "pace"] ds
  mk_Reader : Mk K C_Reader f_Reader_init
  f_Reader_begin : Addr
  fd_Reader_begin : FuncData
  F_Reader_begin : Fun K "begin" "Reader.begin" s_Reader_begin f_Reader_begin fd_Reader_begin
  b_Reader_begin : Binds K fd_Reader_begin ["self"] []
  pa_Reader_begin : Addr
  p_Reader_begin : PropOf K C_Reader "begin" pa_Reader_begin f_Reader_begin
  f_Reader_page : Addr
  fd_Reader_page : FuncData
  F_Reader_page : Fun K "page" "Reader.page" s_Reader_page f_Reader_page fd_Reader_page
  b_Reader_page : Binds K fd_Reader_page ["self"] []
  pa_Reader_page : Addr
  p_Reader_page : PropOf K C_Reader "page" pa_Reader_page f_Reader_page
  f_Reader_pace : Addr
  fd_Reader_pace : FuncData
  F_Reader_pace : Fun K "pace" "Reader.pace" s_Reader_pace f_Reader_pace fd_Reader_pace
  b_Reader_pace : Binds K fd_Reader_pace ["self"] []
  pa_Reader_pace : Addr
  p_Reader_pace : PropOf K C_Reader "pace" pa_Reader_pace f_Reader_pace
  f_old_of : Addr
  fd_old_of : FuncData
  F_old_of : Fun K "old_of" "old_of" s_old_of f_old_of fd_old_of
  b_old_of : Binds K fd_old_of ["book", "reader"] []
  g_old_of : mg "old_of" = some (.ref f_old_of)
  f_check_reader : Addr
  fd_check_reader : FuncData
  F_check_reader : Fun K "check_reader" "check_reader" s_check_reader f_check_reader fd_check_reader
  b_check_reader : Binds K fd_check_reader ["book", "reader"] []
  g_check_reader : mg "check_reader" = some (.ref f_check_reader)
  f_all_visits : Addr
  fd_all_visits : FuncData
  F_all_visits : Fun K "all_visits" "all_visits" s_all_visits f_all_visits fd_all_visits
  b_all_visits : Binds K fd_all_visits ["book", "rule", "reader"] []
  g_all_visits : mg "all_visits" = some (.ref f_all_visits)
  f_visits : Addr
  fd_visits : FuncData
  F_visits : Fun K "visits" "visits" s_visits f_visits fd_visits
  b_visits : Binds K fd_visits ["book", "rule", "reader"] []
  g_visits : mg "visits" = some (.ref f_visits)
  f_end : Addr
  fd_end : FuncData
  F_end : Fun K "end" "end" s_end f_end fd_end
  b_end : Binds K fd_end ["book", "rule", "reader"] []
  g_end : mg "end" = some (.ref f_end)
  f_home_of : Addr
  fd_home_of : FuncData
  F_home_of : Fun K "home_of" "home_of" s_home_of f_home_of fd_home_of
  b_home_of : Binds K fd_home_of ["book", "reader", "row"] []
  g_home_of : mg "home_of" = some (.ref f_home_of)
  f_seen : Addr
  fd_seen : FuncData
  F_seen : Fun K "seen" "seen" s_seen f_seen fd_seen
  b_seen : Binds K fd_seen ["book", "rule", "reader", "row"] []
  g_seen : mg "seen" = some (.ref f_seen)
  f_visited_before : Addr
  fd_visited_before : FuncData
  F_visited_before : Fun K "visited_before" "visited_before" s_visited_before f_visited_before fd_visited_before
  b_visited_before : Binds K fd_visited_before ["rows", "page", "time"] []
  g_visited_before : mg "visited_before" = some (.ref f_visited_before)
  f_balance : Addr
  fd_balance : FuncData
  F_balance : Fun K "balance" "balance" s_balance f_balance fd_balance
  b_balance : Binds K fd_balance ["book", "rule", "reader", "row"] []
  g_balance : mg "balance" = some (.ref f_balance)
  f_L_begin : Addr
  fd_L_begin : FuncData
  F_L_begin : Fun K "_law_begin" "_law_begin" s_L_begin f_L_begin fd_L_begin
  b_L_begin : Binds K fd_L_begin ["_law_script"] []
  g_L_begin : mg "_law_begin" = some (.ref f_L_begin)
  f_L_draw : Addr
  fd_L_draw : FuncData
  F_L_draw : Fun K "_law_draw" "_law_draw" s_L_draw f_L_draw fd_L_draw
  b_L_draw : Binds K fd_L_draw ["_law_source", "_law_limit"] []
  g_L_draw : mg "_law_draw" = some (.ref f_L_draw)
  f_L_case : Addr
  fd_L_case : FuncData
  F_L_case : Fun K "_law_case" "_law_case" s_L_case f_L_case fd_L_case
  b_L_case : Binds K fd_L_case ["_law_source"] []
  g_L_case : mg "_law_case" = some (.ref f_L_case)
  f_L_rule : Addr
  fd_L_rule : FuncData
  F_L_rule : Fun K "_law_rule" "_law_rule" s_L_rule f_L_rule fd_L_rule
  b_L_rule : Binds K fd_L_rule ["_law_case_here"] []
  g_L_rule : mg "_law_rule" = some (.ref f_L_rule)
  f_L_there : Addr
  fd_L_there : FuncData
  F_L_there : Fun K "_law_there" "_law_there" s_L_there f_L_there fd_L_there
  b_L_there : Binds K fd_L_there ["_law_told_here", "_law_time"] []
  g_L_there : mg "_law_there" = some (.ref f_L_there)
  f_L_place : Addr
  fd_L_place : FuncData
  F_L_place : Fun K "_law_place" "_law_place" s_L_place f_L_place fd_L_place
  b_L_place : Binds K fd_L_place ["_law_told_here", "_law_row", "_law_time"] []
  g_L_place : mg "_law_place" = some (.ref f_L_place)
  f_L_told : Addr
  fd_L_told : FuncData
  F_L_told : Fun K "_law_told" "_law_told" s_L_told f_L_told fd_L_told
  b_L_told : Binds K fd_L_told ["_law_source", "_law_most", "_law_span"] []
  g_L_told : mg "_law_told" = some (.ref f_L_told)
  f_L_book : Addr
  fd_L_book : FuncData
  F_L_book : Fun K "_law_book" "_law_book" s_L_book f_L_book fd_L_book
  b_L_book : Binds K fd_L_book ["_law_told_here"] []
  g_L_book : mg "_law_book" = some (.ref f_L_book)
  f_L_walker : Addr
  fd_L_walker : FuncData
  F_L_walker : Fun K "_law_walker" "_law_walker" s_L_walker f_L_walker fd_L_walker
  b_L_walker : Binds K fd_L_walker ["_law_source", "_law_told_here", "_law_span"] []
  g_L_walker : mg "_law_walker" = some (.ref f_L_walker)
  f_L_tried : Addr
  fd_L_tried : FuncData
  F_L_tried : Fun K "_law_tried" "_law_tried" s_L_tried f_L_tried fd_L_tried
  b_L_tried : Binds K fd_L_tried ["_law_book_here", "_law_move"] []
  g_L_tried : mg "_law_tried" = some (.ref f_L_tried)
  f_law : Addr
  fd_law : FuncData
  F_law : Fun K "law" "law" s_law f_law fd_law
  b_law : Binds K fd_law ["_law_script"] []
  g_law : mg "law" = some (.ref f_law)
end K29

namespace K29
open PySem PySem.Spec PyProof.Rows L2 Evl J RZ
section
variable {P : Program} {w : World} {K : PySem.W.Frag} {mg : Str → Option Value} {base : Heap}
/-! ### tactics -/
/-! ### numbers -/
def isInt : V → Bool
  | .int _ => true
  | _ => false
/-- is_integer of an int -/
def sp_is_integer : Sp := SpP (A := Int) (fun i vs _ => vs = [.int i]) (fun _ v _ => v = .bl true)
theorem G_is_integer (T : TX P w K mg) : FnOk P w K mg base CX0 1 T.f_is_integer T.fd_is_integer ["value"] sp_is_integer := by
  refine T.F_is_integer.ok sc_is_integer (fun vs H Q E h => ?_) (fun cdv A outer s H vs Q E hr h => ?_)
  · obtain ⟨i, S, rfl, _⟩ := h
    rfl
  · obtain ⟨i, S, rfl, w0, q⟩ := h.body
    refine ⟨_, (pss_one (ps_ret (pe_and (pe_callB (call_isiK2 (K := K)) (by rfl) T.z_isinstance (by decide +kernel) (pa_cons (pv 0) (pa_cons (pe_bltn (v := .ty "int") (by rfl) T.z_int (by decide +kernel) rfl) pa_nil))) (pe_one (pe_not (pe_callB (call_isiK2 (K := K)) (by rfl) T.z_isinstance (by decide +kernel) (pa_cons (pv 0) (pa_cons (pe_bltn (v := .ty "bool") (by rfl) T.z_bool (by decide +kernel) rfl) pa_nil)))))))), ?_⟩
    refine st_ret (R := fun v _ => v = .bl true) ?_ w0 fun v S1 H1 w1 s1 p => q v S1 H1 w1 s1 p
    exact EvV.is (vv_and (a := true) (vv_isT (vv_var rfl) vv_c (.base (.int _)) (by decide +kernel)) fun _ => vv_not (a := false) (vv_isT (vv_var rfl) vv_c (.base (.int _)) (by decide +kernel))) rfl
/-- is_between of ints -/
def sp_is_between : Sp := SpP (A := Int × Int × Int) (fun a vs _ => vs = [.int a.1, .int a.2.1, .int a.2.2]) (fun a v _ => v = .bl (decide (a.2.1 ≤ a.1) && decide (a.1 ≤ a.2.2)))
theorem G_is_between (T : TX P w K mg) : FnOk P w K mg base CX0 2 T.f_is_between T.fd_is_between ["value", "low", "high"] sp_is_between := by
  refine T.F_is_between.ok sc_is_between (fun vs H Q E h => ?_) (fun cdv A outer s H vs Q E hr h => ?_)
  · obtain ⟨i, S, rfl, _⟩ := h
    rfl
  · obtain ⟨⟨i, lo, hi⟩, S, rfl, w0, q⟩ := h.body
    refine ⟨_, (pss_one (ps_ret (pe_and (pe_call (G_is_integer T) (hr.mono (by decide)) (by rfl) T.g_is_integer T.F_is_integer.kp T.b_is_integer .nil pass0 (pa_cons (pv 0) pa_nil)) (pe_one (pe_chain op_le op_le (pv 1) (pv 0) (pv 2)))))), ?_⟩
    refine st_ret ?_ w0 fun v S1 H1 w1 s1 p => q v S1 H1 w1 s1 p
    exact EvV.is (vv_and (a := true) (vv_call i (va_cons (vv_var rfl) va_nil) (fun _ _ => rfl) fun _ _ _ p => p) fun _ => vv_chain (vv_var rfl) (vv_var rfl) rs_I0 (fun _ => vv_var rfl) fun _ => rs_I0) rfl
end
end K29

namespace K29
open PySem PySem.Spec PyProof.Rows L2 Evl J RZ
section
variable {P : Program} {w : World} {K : PySem.W.Frag} {mg : Str → Option Value} {base : Heap}
theorem vv_between {r : Rs} {s : L2.St} {S : Hp} {i lo hi : Int} {b : Bool} {t : TA} (h : EvAV r t s S [.int i, .int lo, .int hi]) (e : (decide (lo ≤ i) && decide (i ≤ hi)) = b) : EvV r (tCall sp_is_between [] E0 t) s S (.bl b) :=
  vv_call (i, lo, hi) h (fun _ _ => rfl) fun v _ _ p => by
    rw [← e]
    exact p
theorem btw {i lo hi : Int} (h : lo ≤ i) (h' : i ≤ hi) : (decide (lo ≤ i) && decide (i ≤ hi)) = true := by simp [h, h']
/-! ### readers -/
def rdF (b p c : Int) : List (Str × V) := [("kept_begin", .int b), ("kept_page", .int p), ("kept_pace", .int c)]
theorem rd_b (b p c : Int) : (rdF b p c).lookup ("kept_begin" : Str) = some (V.int b) := by kernel_rfl
theorem rd_p (b p c : Int) : (rdF b p c).lookup ("kept_page" : Str) = some (V.int p) := by kernel_rfl
theorem rd_c (b p c : Int) : (rdF b p c).lookup ("kept_pace" : Str) = some (V.int c) := by kernel_rfl
theorem rd_put (b p c : Int) : putF "kept_pace" (.int c) (putF "kept_page" (.int p) (putF "kept_begin" (.int b) [])) = rdF b p c := by kernel_rfl
/-- a reader -/
def RdR (C : Addr) : Rl (Int × Int × Int) := fun a v S => ∃ x dx, v = .ref x ∧ S x = some (.ins C dx (rdF a.1 a.2.1 a.2.2))
instance {C : Addr} : Mono (RdR C) := ⟨fun e ⟨x, dx, h1, h2⟩ => ⟨x, dx, h1, e _ _ h2⟩⟩
def sp_Reader_init (C : Addr) : Sp := SpInit (A := Int × Int × Int) C (fun a us _ => us = [.int a.1, .int a.2.1, .int a.2.2] ∧ (0 ≤ a.1 ∧ a.1 ≤ 1000) ∧ (0 ≤ a.2.1 ∧ a.2.1 ≤ 62) ∧ (1 ≤ a.2.2 ∧ a.2.2 ≤ 4)) (fun a fs _ => fs = rdF a.1 a.2.1 a.2.2)
theorem G_Reader_init (T : TX P w K mg) : FnOk P w K mg base CX0 3 T.f_Reader_init T.fd_Reader_init ["self", "begin", "page", "pace"] (sp_Reader_init T.C_Reader) := by
  refine FunD.ok T.F_Reader_init sc_Reader_init (fun vs H Q E h => ?_) (fun cdv A outer s H vs Q E hr h => ?_)
  · obtain ⟨a, S, x, dx, us, rfl, ⟨rfl, _⟩, _⟩ := h
    rfl
  · obtain ⟨⟨b, p, c⟩, S, x, dx, us, rfl, ⟨rfl, hb, hp, hc⟩, hx, hs, w0, q⟩ := h
    refine ⟨_, PSs.nox (pss_cons (ps_if (pt_not (pt_val (pe_call (G_is_between T) (hr.mono (by decide)) (by rfl) T.g_is_between T.F_is_between.kp T.b_is_between .nil pass0 (pa_cons (pv 1) (pa_cons pe_int (pa_cons (pe_const (by rfl) T.c_LAST_BEGIN) pa_nil)))))) (pss_one ps_never) pss_nil)
      (pss_cons (ps_if (pt_not (pt_val (pe_call (G_is_between T) (hr.mono (by decide)) (by rfl) T.g_is_between T.F_is_between.kp T.b_is_between .nil pass0 (pa_cons (pv 2) (pa_cons pe_int (pa_cons (pe_const (by rfl) T.c_LAST_PAGE) pa_nil)))))) (pss_one ps_never) pss_nil)
      (pss_cons (ps_if (pt_not (pt_val (pe_call (G_is_between T) (hr.mono (by decide)) (by rfl) T.g_is_between T.F_is_between.kp T.b_is_between .nil pass0 (pa_cons (pv 3) (pa_cons pe_int (pa_cons (pe_const (by rfl) T.c_MOST_PACE) pa_nil)))))) (pss_one ps_never) pss_nil)
      (pss_cons (ps_fldK (K := K) (pv 0) (pv 1))
      (pss_cons (ps_fldK (K := K) (pv 0) (pv 2))
      (pss_one (ps_fldK (K := K) (pv 0) (pv 3)))))))), ?_⟩
    have n0 : x ∉ Rs.nil.M := fun z => by cases z
    refine sq_ifNo (tb_not (tb_B (vv_between (va_cons (vv_var rfl) (va_cons vv_c (va_cons vv_c va_nil))) (btw hb.1 hb.2)))) w0 fun S1 H1 w1 s1 => ?_
    refine sq_ifNo (tb_not (tb_B (vv_between (va_cons (vv_var rfl) (va_cons vv_c (va_cons vv_c va_nil))) (btw hp.1 hp.2)))) w1 fun S2 H2 w2 s2 => ?_
    refine sq_ifNo (tb_not (tb_B (vv_between (va_cons (vv_var rfl) (va_cons vv_c (va_cons vv_c va_nil))) (btw hc.1 hc.2)))) w2 fun S3 H3 w3 s3 => ?_
    have s03 := (s1.trans s2).trans s3
    refine sq_fld n0 (vv_var rfl) (vv_var rfl) w3 (s03.kp _ _ n0 hx) (s03.fr _ (ne_none hx) hs) T.cl_Reader T.na_Reader_kept_begin (pfL pf0) fun v S4 H4 w4 s4 a4 h4 e4 => ?_
    subst e4
    refine sq_fld n0 (vv_var rfl) (vv_var rfl) w4 h4 a4 T.cl_Reader T.na_Reader_kept_page (pfL (pfS pf0)) fun v S5 H5 w5 s5 a5 h5 e5 => ?_
    subst e5
    refine st_fld n0 (vv_var rfl) (vv_var rfl) w5 h5 a5 T.cl_Reader T.na_Reader_kept_pace (pfL (pfS (pfS pf0))) fun v S6 H6 w6 s6 a6 h6 e6 => ?_
    subst e6
    exact q S6 H6 _ w6 (((s03.more).trans s4).trans (s5.trans s6)) a6 h6 (rd_put b p c)
theorem G_Reader_begin (T : TX P w K mg) : FnOk P w K mg base CX0 1 T.f_Reader_begin T.fd_Reader_begin ["self"] (getSp T.C_Reader "kept_begin") := by
  refine T.F_Reader_begin.ok sc_Reader_begin (fun vs H Q E h => ?_) (fun cdv A outer s H vs Q E hr h => ?_)
  · obtain ⟨a, dx, fs, v, e, _⟩ := h
    rw [e]
    rfl
  · obtain ⟨a, dx, fs, v, e, ea, l, q⟩ := h
    subst e
    exact ⟨_, (pss_one (ps_ret (pe_fldK (K := K) (pv 0)))), .ref a, rfl, a, _, dx, fs, v, rfl, ea, T.cl_Reader, T.na_Reader_kept_begin, l, q⟩
theorem G_Reader_page (T : TX P w K mg) : FnOk P w K mg base CX0 1 T.f_Reader_page T.fd_Reader_page ["self"] (getSp T.C_Reader "kept_page") := by
  refine T.F_Reader_page.ok sc_Reader_page (fun vs H Q E h => ?_) (fun cdv A outer s H vs Q E hr h => ?_)
  · obtain ⟨a, dx, fs, v, e, _⟩ := h
    rw [e]
    rfl
  · obtain ⟨a, dx, fs, v, e, ea, l, q⟩ := h
    subst e
    exact ⟨_, (pss_one (ps_ret (pe_fldK (K := K) (pv 0)))), .ref a, rfl, a, _, dx, fs, v, rfl, ea, T.cl_Reader, T.na_Reader_kept_page, l, q⟩
theorem G_Reader_pace (T : TX P w K mg) : FnOk P w K mg base CX0 1 T.f_Reader_pace T.fd_Reader_pace ["self"] (getSp T.C_Reader "kept_pace") := by
  refine T.F_Reader_pace.ok sc_Reader_pace (fun vs H Q E h => ?_) (fun cdv A outer s H vs Q E hr h => ?_)
  · obtain ⟨a, dx, fs, v, e, _⟩ := h
    rw [e]
    rfl
  · obtain ⟨a, dx, fs, v, e, ea, l, q⟩ := h
    subst e
    exact ⟨_, (pss_one (ps_ret (pe_fldK (K := K) (pv 0)))), .ref a, rfl, a, _, dx, fs, v, rfl, ea, T.cl_Reader, T.na_Reader_kept_pace, l, q⟩
end
end K29

namespace K29
open PySem PySem.Spec PyProof.Rows L2 Evl J RZ
section
variable {P : Program} {w : World} {K : PySem.W.Frag} {mg : Str → Option Value} {base : Heap}
/-! ### what is no number there -/
def NonInt (K : PySem.W.Frag) (v : V) (S : Hp) : Prop := ∃ (t : String) (b1 b2 : Bool), TyX K S v (.type t) ∧ kitB t "int" = some b1 ∧ kitB t "bool" = some b2 ∧ (b1 && !b2) = false
theorem tyx_up {S S' : Hp} {v : V} {t : Value} (x : Ex S S') (h : TyX K S v t) : TyX K S' v t := by
  cases h with
  | base b =>
    refine .base ?_
    cases b with
    | non => exact .non
    | bl b => exact .bl b
    | int i => exact .int i
    | str z => exact .str z
    | flt z => exact .flt z
    | lst e => exact .lst (x _ _ e)
    | frz e => exact .frz (x _ _ e)
    | tup e => exact .tup (x _ _ e)
    | dK e => exact .dK (x _ _ e)
    | dT e => exact .dT (x _ _ e)
    | ins e c1 c2 c3 c4 c5 => exact .ins (x _ _ e) c1 c2 c3 c4 c5
  | byt b => exact .byt b
  | set e => exact .set (x _ _ e)
  | kList e c => exact .kList e c
  | kTuple e c => exact .kTuple e c
  | kDict e c => exact .kDict e c
  | fTuple e => exact .fTuple (x _ _ e)
  | fDict e => exact .fDict (x _ _ e)
theorem ni_up {S S' : Hp} {v : V} (x : Ex S S') (h : NonInt K v S) : NonInt K v S' := by
  obtain ⟨t, b1, b2, h1, h2⟩ := h
  exact ⟨t, b1, b2, tyx_up x h1, h2⟩
theorem ni_non {S : Hp} : NonInt K .non S := ⟨"NoneType", false, false, .base (.non), by decide +kernel, by decide +kernel, rfl⟩
theorem ni_bl {S : Hp} (b : Bool) : NonInt K (.bl b) S := ⟨"bool", true, true, .base (.bl b), by decide +kernel, by decide +kernel, rfl⟩
theorem ni_str {S : Hp} (z : Str) : NonInt K (.str z) S := ⟨"str", false, false, .base (.str z), by decide +kernel, by decide +kernel, rfl⟩
theorem ni_tup {S : Hp} {a : Addr} {xs : List V} (h : S a = some (.tup xs)) : NonInt K (.ref a) S := ⟨"tuple", false, false, .base (.tup h), by decide +kernel, by decide +kernel, rfl⟩
theorem ni_lst {S : Hp} {a : Addr} {xs : List V} (h : S a = some (.lst xs)) : NonInt K (.ref a) S := ⟨"list", false, false, .base (.lst h), by decide +kernel, by decide +kernel, rfl⟩
def sp_noint (K : PySem.W.Frag) : Sp := SpP (A := V) (fun a vs S => vs = [a] ∧ NonInt K a S) (fun _ u _ => u = .bl false)
theorem GX_is_integer (T : TX P w K mg) : FnOk P w K mg base (L2N.CX P w) 1 T.f_is_integer T.fd_is_integer ["value"] (sp_noint K) := by
  refine ok_N T.F_is_integer sc_is_integer (fun vs H Q E h => ?_) (fun cdv A outer s H vs Q E hr h => ?_)
  · obtain ⟨a, S, ⟨rfl, _⟩, _⟩ := h
    rfl
  · obtain ⟨a, S, ⟨rfl, t, b1, b2, ht, k1, k2, eb⟩, w0, q⟩ := h.body
    refine ⟨_, (pss_one (ps_ret (pe_and (pe_callB (call_isiK2 (K := K)) (by rfl) T.z_isinstance (by decide +kernel) (pa_cons (pv 0) (pa_cons (pe_bltn (v := .ty "int") (by rfl) T.z_int (by decide +kernel) rfl) pa_nil))) (pe_one (pe_not (pe_callB (call_isiK2 (K := K)) (by rfl) T.z_isinstance (by decide +kernel) (pa_cons (pv 0) (pa_cons (pe_bltn (v := .ty "bool") (by rfl) T.z_bool (by decide +kernel) rfl) pa_nil)))))))), ?_⟩
    refine st_ret (R := fun v _ => v = .bl false) ?_ w0 fun v S1 H1 w1 s1 p => q v S1 H1 w1 s1 p
    exact EvV.is (vv_and (a := b1) (vv_isT (vv_var rfl) vv_c ht k1) fun _ => vv_not (a := b2) (vv_isT (vv_var rfl) vv_c ht k2)) (by rw [eb])
theorem ev_altR {r : Rs} {s : L2.St} {S : Hp} {t u : TE} {R : V → Hp → Prop} (h : EvS r u s S R) : EvS r (tAlt t u) s S R := fun S1 H e w Q q => .inr (h S1 H e w Q q)
theorem vv_noint {r : Rs} {s : L2.St} {S : Hp} {i : Nat} {t : TE} {a : V} {E : XK} (h : s[i]? = some (some a)) (hn : NonInt K a S) : EvV r (tAlt t (tCall (sp_noint K) [] E (tCons (tVar i) tNil))) s S (.bl false) := fun S1 H e w Q q =>
  .inr ((va_cons (vv_var h) va_nil : EvAV r (tCons (tVar i) tNil) s S [a]) S1 H e w _ fun us S2 H2 w2 s2 eu => by
    subst eu
    exact ⟨a, S2, ⟨rfl, ni_up (e.trans s2.ex) hn⟩, w2.ex, fun v S3 H3 w3 s3 p3 => q v S3 H3 (w2.lift w3 s3) (s2.trans s3.lift) p3⟩)
def sp_nobet (K : PySem.W.Frag) : Sp := SpP (A := V × V × V) (fun a vs S => vs = [a.1, a.2.1, a.2.2] ∧ NonInt K a.1 S) (fun _ u _ => u = .bl false)
theorem GX_is_between (T : TX P w K mg) : FnOk P w K mg base (L2N.CX P w) 2 T.f_is_between T.fd_is_between ["value", "low", "high"] (sp_nobet K) := by
  refine ok_N T.F_is_between sc_is_between (fun vs H Q E h => ?_) (fun cdv A outer s H vs Q E hr h => ?_)
  · obtain ⟨a, S, ⟨rfl, _⟩, _⟩ := h
    rfl
  · obtain ⟨⟨a, lo, hi⟩, S, ⟨rfl, hn⟩, w0, q⟩ := h.body
    refine ⟨_, (pss_one (ps_ret (pe_and (pe_alt (pe_call (G_is_integer T) (hr.mono (by decide)) (by rfl) T.g_is_integer T.F_is_integer.kp T.b_is_integer .nil pass0 (pa_cons (pv 0) pa_nil)) (pe_call (GX_is_integer T) (hr.mono (by decide)) (by rfl) T.g_is_integer T.F_is_integer.kp T.b_is_integer .nil passN (pa_cons (pv 0) pa_nil))) (pe_one (pe_chain op_le op_le (pv 1) (pv 0) (pv 2)))))), ?_⟩
    exact st_ret (R := fun v _ => v = .bl false) (vv_and (a := false) (b := false) (vv_noint rfl hn) fun z => nomatch z) w0 fun v S1 H1 w1 s1 p => q v S1 H1 w1 s1 p
def FitV (lo hi : Int) (v : V) : Prop := ∃ i : Int, v = .int i ∧ lo ≤ i ∧ i ≤ hi
def BadV (K : PySem.W.Frag) (lo hi : Int) (v : V) (S : Hp) : Prop := NonInt K v S ∨ ∃ i : Int, v = .int i ∧ ¬ (lo ≤ i ∧ i ≤ hi)
theorem bad_up {S S' : Hp} {lo hi : Int} {v : V} (x : Ex S S') (h : BadV K lo hi v S) : BadV K lo hi v S' := h.imp (ni_up x) id
section
variable {r : Rs} {s : L2.St} {S : Hp}
theorem tb_altF {ts : TA} {lo hi : Int} {v : V} {u : TE} (ha : EvAV r ts s S [v, .int lo, .int hi]) (f : FitV lo hi v) : EvV r (tAlt (tCall sp_is_between [] E0 ts) u) s S (.bl true) := by
  obtain ⟨j, rfl, h1, h2⟩ := f
  exact ev_altL (vv_between ha (btw h1 h2))
theorem tb_altB {ts : TA} {lo hi : Int} {v : V} {E : XK} (ha : EvAV r ts s S [v, .int lo, .int hi]) (f : BadV K lo hi v S) : EvV r (tAlt (tCall sp_is_between [] E0 ts) (tCall (sp_nobet K) [] E ts)) s S (.bl false) := by
  rcases f with f | ⟨j, rfl, f⟩
  · exact ev_altR (vv_call (v, .int lo, .int hi) ha (fun S1 e => ⟨rfl, ni_up e f⟩) fun v _ _ p => p)
  · refine ev_altL (vv_between ha ?_)
    by_cases h1 : lo ≤ j
    · have h2 : ¬ j ≤ hi := fun z => f ⟨h1, z⟩
      simp [h2]
    · simp [h1]
end
end
end K29

namespace K29
open PySem PySem.Spec PyProof.Rows L2 Evl J RZ
section
variable {P : Program} {w : World} {K : PySem.W.Frag} {mg : Str → Option Value} {base : Heap}
/-! ### readers made or refused -/
def RdFit (a : Int × Int × Int) : Prop := (0 ≤ a.1 ∧ a.1 ≤ 1000) ∧ (0 ≤ a.2.1 ∧ a.2.1 ≤ 62) ∧ (1 ≤ a.2.2 ∧ a.2.2 ≤ 4)
theorem vv_betF {r : Rs} {s : L2.St} {S : Hp} {i : Nat} {lo hi : Int} {v : V} {u : TE} (h : s[i]? = some (some v)) (f : FitV lo hi v) : EvV r (tAlt (tCall sp_is_between [] E0 (tCons (tVar i) (tCons (tC (.int lo)) (tCons (tC (.int hi)) tNil)))) u) s S (.bl true) := by
  obtain ⟨j, rfl, h1, h2⟩ := f
  exact ev_altL (vv_between (va_cons (vv_var h) (va_cons vv_c (va_cons vv_c va_nil))) (btw h1 h2))
theorem vv_betB {r : Rs} {s : L2.St} {S : Hp} {i : Nat} {lo hi : Int} {v : V} {E : XK} (h : s[i]? = some (some v)) (f : BadV K lo hi v S) : EvV r (tAlt (tCall sp_is_between [] E0 (tCons (tVar i) (tCons (tC (.int lo)) (tCons (tC (.int hi)) tNil)))) (tCall (sp_nobet K) [] E (tCons (tVar i) (tCons (tC (.int lo)) (tCons (tC (.int hi)) tNil))))) s S (.bl false) := by
  have ha : EvAV r (tCons (tVar i) (tCons (tC (.int lo)) (tCons (tC (.int hi)) tNil))) s S [v, .int lo, .int hi] := va_cons (vv_var h) (va_cons vv_c (va_cons vv_c va_nil))
  rcases f with f | ⟨j, rfl, f⟩
  · exact ev_altR (vv_call (v, .int lo, .int hi) ha (fun S1 e => ⟨rfl, ni_up e f⟩) fun v _ _ p => p)
  · refine ev_altL (vv_between ha ?_)
    by_cases h1 : lo ≤ j
    · have h2 : ¬ j ≤ hi := fun z => f ⟨h1, z⟩
      simp [h2]
    · simp [h1]
/-- which of the three is refused -/
def RdBad (K : PySem.W.Frag) (b p c x : V) (S : Hp) : Prop := (BadV K 0 1000 b S ∧ x = b) ∨ (FitV 0 1000 b ∧ BadV K 0 62 p S ∧ x = p) ∨ (FitV 0 1000 b ∧ FitV 0 62 p ∧ BadV K 1 4 c S ∧ x = c)
theorem rdbad_up {b p c x : V} {S S' : Hp} (e : Ex S S') (h : RdBad K b p c x S) : RdBad K b p c x S' := h.imp (fun h => ⟨bad_up e h.1, h.2⟩) (Or.imp (fun h => ⟨h.1, bad_up e h.2.1, h.2.2⟩) fun h => ⟨h.1, h.2.1, bad_up e h.2.2.1, h.2.2.2⟩)
def spx_Reader_init (K : PySem.W.Frag) (C : Addr) : Sp := SpXi (B := V) C "value" (fun x us S => ∃ b p c, us = [b, p, c] ∧ RdBad K b p c x S) (fun x v _ => v = x)
theorem GX_Reader_init (T : TX P w K mg) : FnOk P w K mg base (L2N.CX P w) 3 T.f_Reader_init T.fd_Reader_init ["self", "begin", "page", "pace"] (spx_Reader_init K T.C_InvalidNumber) := by
  refine FunD.ok (CX := L2N.CX P w) T.F_Reader_init sc_Reader_init (fun vs H Q E h => ?_) (fun cdv A outer s H vs Q E hr h => ?_)
  · obtain ⟨x, S, ⟨_, _, rfl, b, p, c, rfl, _⟩, _⟩ := h
    rfl
  · obtain ⟨x, S, ⟨xa, _, rfl, b, p, c, rfl, hb⟩, w0, q⟩ := h
    refine ⟨_, (pss_cons (ps_if (pt_not (pt_val (pe_alt (pe_call (G_is_between T) (hr.mono (by decide)) (by rfl) T.g_is_between T.F_is_between.kp T.b_is_between .nil pass0 (pa_cons (pv 1) (pa_cons pe_int (pa_cons (pe_const (by rfl) T.c_LAST_BEGIN) pa_nil)))) (pe_call (GX_is_between T) (hr.mono (by decide)) (by rfl) T.g_is_between T.F_is_between.kp T.b_is_between .nil passN (pa_cons (pv 1) (pa_cons pe_int (pa_cons (pe_const (by rfl) T.c_LAST_BEGIN) pa_nil))))))) (pss_one (ps_rs T.xc_InvalidNumber (hr.mono (by decide)) T.bx_InvalidNumber (by rfl) T.g_InvalidNumber (pa_cons (pv 1) pa_nil))) pss_nil)
      (pss_cons (ps_if (pt_not (pt_val (pe_alt (pe_call (G_is_between T) (hr.mono (by decide)) (by rfl) T.g_is_between T.F_is_between.kp T.b_is_between .nil pass0 (pa_cons (pv 2) (pa_cons pe_int (pa_cons (pe_const (by rfl) T.c_LAST_PAGE) pa_nil)))) (pe_call (GX_is_between T) (hr.mono (by decide)) (by rfl) T.g_is_between T.F_is_between.kp T.b_is_between .nil passN (pa_cons (pv 2) (pa_cons pe_int (pa_cons (pe_const (by rfl) T.c_LAST_PAGE) pa_nil))))))) (pss_one (ps_rs T.xc_InvalidNumber (hr.mono (by decide)) T.bx_InvalidNumber (by rfl) T.g_InvalidNumber (pa_cons (pv 2) pa_nil))) pss_nil)
      (pss_cons (ps_if (pt_not (pt_val (pe_alt (pe_call (G_is_between T) (hr.mono (by decide)) (by rfl) T.g_is_between T.F_is_between.kp T.b_is_between .nil pass0 (pa_cons (pv 3) (pa_cons pe_int (pa_cons (pe_const (by rfl) T.c_MOST_PACE) pa_nil)))) (pe_call (GX_is_between T) (hr.mono (by decide)) (by rfl) T.g_is_between T.F_is_between.kp T.b_is_between .nil passN (pa_cons (pv 3) (pa_cons pe_int (pa_cons (pe_const (by rfl) T.c_MOST_PACE) pa_nil))))))) (pss_one (ps_rs T.xc_InvalidNumber (hr.mono (by decide)) T.bx_InvalidNumber (by rfl) T.g_InvalidNumber (pa_cons (pv 3) pa_nil))) pss_nil)
      (pss_cons (ps_fldK (K := K) (pv 0) (pv 1))
      (pss_cons (ps_fldK (K := K) (pv 0) (pv 2))
      (pss_one (ps_fldK (K := K) (pv 0) (pv 3)))))))), ?_⟩
    rcases hb with ⟨h1, rfl⟩ | ⟨h1, h2, rfl⟩ | ⟨h1, h2, h3, rfl⟩
    · exact sq_if (tb_not (tb_B (vv_betB rfl h1))) w0 (fun _ S1 H1 w1 s1 => st_rsV (va_cons (vv_var rfl) va_nil) w1 fun d v S2 H2 w2 s2 ev hd => q d v S2 H2 w2 (s1.trans s2) ev hd) (fun z => nomatch z)
    · refine sq_ifNo (tb_not (tb_B (vv_betF rfl h1))) w0 fun S1 H1 w1 s1 => ?_
      exact sq_if (tb_not (tb_B (vv_betB rfl (bad_up s1.ex h2)))) w1 (fun _ S2 H2 w2 s2 => st_rsV (va_cons (vv_var rfl) va_nil) w2 fun d v S3 H3 w3 s3 ev hd => q d v S3 H3 w3 ((s1.trans s2).trans s3) ev hd) (fun z => nomatch z)
    · refine sq_ifNo (tb_not (tb_B (vv_betF rfl h1))) w0 fun S1 H1 w1 s1 => ?_
      refine sq_ifNo (tb_not (tb_B (vv_betF rfl h2))) w1 fun S2 H2 w2 s2 => ?_
      exact sq_if (tb_not (tb_B (vv_betB rfl (bad_up (s1.ex.trans s2.ex) h3)))) w2 (fun _ S3 H3 w3 s3 => st_rsV (va_cons (vv_var rfl) va_nil) w3 fun d v S4 H4 w4 s4 ev hd => q d v S4 H4 w4 (((s1.trans s2).trans s3).trans s4) ev hd) (fun z => nomatch z)
theorem ex_reader {r : Rs} {s : L2.St} {S : Hp} {E : XK} {C CE : Addr} {dvs : List V} {ts : TA} {us : List V} {b p c x : V} (h : EvAV r ts s S us) (he : us ++ dvs = [b, p, c]) (hb : RdBad K b p c x S) : EvX E CE "value" r (tMake C (spx_Reader_init K CE) dvs E ts) s S fun v _ => v = x :=
  ex_make h fun us' S1 e eu => ⟨x, ⟨b, p, c, by rw [show us' = us from eu]; exact he, rdbad_up e hb⟩, fun v S2 _ ev => ev⟩
theorem ev_rdx {r : Rs} {s : L2.St} {S : Hp} {C : Addr} {E : XK} {dvs us : List V} {ts : TA} {rd : Int × Int × Int} (h : EvAV r ts s S us) (he : us ++ dvs = [.int rd.1, .int rd.2.1, .int rd.2.2]) (ro : RdFit rd) : EvS r (tMake C (sp_Reader_init C) dvs E ts) s S fun v S1 => RdR C rd v S1 :=
  EvN.stable (en_make (P := fun us' _ => us' = us) (R := fun o _ => ∃ dx, o = .ins C dx (rdF rd.1 rd.2.1 rd.2.2)) h fun us' S1 e1 eu => ⟨rd, ⟨by rw [eu]; exact he, ro.1, ro.2.1, ro.2.2⟩, fun dx fs S2 _ ef => ⟨dx, by rw [show fs = _ from ef]⟩⟩) fun p o S1 _ n0 ⟨dx, eo⟩ => ⟨p, dx, rfl, by rw [eo]; exact upd_same⟩
/-- Reader(b, page = p, pace = c) -/
theorem ev_rdk {r : Rs} {s : L2.St} {S : Hp} {C : Addr} {E : XK} {ts tk : TA} {rd : Int × Int × Int} (h : EvAV r ts s S [.int rd.1]) (h2 : EvAV r tk s S [.int rd.2.1, .int rd.2.2]) (ro : RdFit rd) : EvS r (tMakeK C 1 2 (sp_Reader_init C) (fun vs zs => vs ++ zs) E ts tk) s S fun v S1 => RdR C rd v S1 :=
  EvN.stable (en_makeK (R := fun o _ => ∃ dx, o = .ins C dx (rdF rd.1 rd.2.1 rd.2.2)) h h2 rfl rfl fun S1 e1 => ⟨rd, [.int rd.1, .int rd.2.1, .int rd.2.2], fun x => rfl, ⟨rfl, ro.1, ro.2.1, ro.2.2⟩, fun dx fs S2 _ ef => ⟨dx, by rw [show fs = _ from ef]⟩⟩) fun p o S1 _ n0 ⟨dx, eo⟩ => ⟨p, dx, rfl, by rw [eo]; exact upd_same⟩
theorem rdx_f {r : Rs} {s : L2.St} {S : Hp} {i : Nat} {a : Int × Int × Int} {v : V} {C : Addr} (h : s[i]? = some (some v)) (hb : RdR C a v S) (c : Cls K C) (n1 : NoAttr K C "kept_begin") (n2 : NoAttr K C "kept_page") (n3 : NoAttr K C "kept_pace") :
    EvV r (tFld K (tVar i) "kept_begin") s S (.int a.1) ∧ EvV r (tFld K (tVar i) "kept_page") s S (.int a.2.1) ∧ EvV r (tFld K (tVar i) "kept_pace") s S (.int a.2.2) := by
  obtain ⟨x, dx, rfl, hx⟩ := hb
  exact ⟨vv_fld (vv_var h) hx c n1 (rd_b _ _ _), vv_fld (vv_var h) hx c n2 (rd_p _ _ _), vv_fld (vv_var h) hx c n3 (rd_c _ _ _)⟩
/-- r.begin, r.page, r.pace -/
theorem rdx_p {r : Rs} {s : L2.St} {S : Hp} {i : Nat} {a : Int × Int × Int} {v : V} {C : Addr} {E : XK} (h : s[i]? = some (some v)) (hb : RdR C a v S) :
    EvV r (tProp C (getSp C "kept_begin") [] E (tVar i)) s S (.int a.1) ∧ EvV r (tProp C (getSp C "kept_page") [] E (tVar i)) s S (.int a.2.1) ∧ EvV r (tProp C (getSp C "kept_pace") [] E (tVar i)) s S (.int a.2.2) := by
  obtain ⟨x, dx, rfl, hx⟩ := hb
  exact ⟨vv_prop (vv_var h) hx (rd_b _ _ _), vv_prop (vv_var h) hx (rd_p _ _ _), vv_prop (vv_var h) hx (rd_c _ _ _)⟩
/-! ### equality -/
def sp_Reader_eq (K : PySem.W.Frag) (C : Addr) : Sp := SpP (A := (Int × Int × Int) × Option (Int × Int × Int)) (fun a vs S => ∃ v v', vs = [v, v'] ∧ RdR C a.1 v S ∧ match a.2 with
  | some b => RdR C b v' S
  | none => ∃ z xs, v' = .ref z ∧ SqT K S z xs) (fun a u _ => u = .bl (match a.2 with
  | some b => decide (a.1 = b)
  | none => false))
theorem ty_sqT {S : Hp} {a : Addr} {xs : List V} (h : SqT K S a xs) : TyX K S (.ref a) (.type "tuple") := by
  rcases h with (h | ⟨o, h⟩) | ⟨o, its, n, h1, h2, _⟩
  · exact .base (.tup h)
  · exact .fTuple h
  · exact .kTuple h1 h2
/-! ### later -/
def sp_is_count : Sp := SpP (A := Int) (fun i vs _ => vs = [.int i]) (fun i v _ => v = .bl (decide (0 ≤ i)))
def sp_Reader_later (C : Addr) : Sp := SpP (A := (Int × Int × Int) × Int) (fun a vs S => ∃ v, vs = [v, .int a.2] ∧ RdR C a.1 v S ∧ RdFit a.1 ∧ 0 ≤ a.2 ∧ a.1.1 + a.2 ≤ 1000) (fun a v S => RdR C (a.1.1 + a.2, a.1.2.1, a.1.2.2) v S)
/-- what later refuses: no count; a sum beyond the last begin -/
def LtBad (K : PySem.W.Frag) (rd : Int × Int × Int) (y x : V) (S : Hp) : Prop := (NonInt K y S ∧ x = y) ∨ ∃ i : Int, y = .int i ∧ ((i < 0 ∧ x = y) ∨ (0 ≤ i ∧ 1000 < rd.1 + i ∧ x = .int (rd.1 + i)))
def spx_Reader_later (K : PySem.W.Frag) (C CE : Addr) : Sp := SpX (B := (Int × Int × Int) × V) CE "value" (fun a vs S => ∃ v y, vs = [v, y] ∧ RdR C a.1 v S ∧ RdFit a.1 ∧ LtBad K a.1 y a.2 S) (fun a v _ => v = a.2)
theorem rdx_later (b p c : Int) : (rdF b p c).lookup ("later" : Str) = none := by kernel_rfl
theorem ev_ltx {r : Rs} {s : L2.St} {S : Hp} {i : Nat} {ts : TA} {rd : Int × Int × Int} {by_ : Int} {v : V} {C : Addr} {E : XK} (h : s[i]? = some (some v)) (h2 : EvAV r ts s S [.int by_]) (hb : RdR C rd v S) (ro : RdFit rd) (h0 : 0 ≤ by_ ∧ rd.1 + by_ ≤ 1000) : EvS r (tMeth C ("later" : Str) (sp_Reader_later C) [] E (tVar i) ts) s S fun v S1 => RdR C (rd.1 + by_, rd.2.1, rd.2.2) v S1 :=
  ev_methP (Q1 := fun x _ => x = v) (vv_var h) h2 fun x S1 S2 e1 ex e2 => by
    subst ex
    obtain ⟨y, dx, rfl, g2⟩ := id hb
    exact ⟨y, dx, _, rfl, e1 _ _ g2, rdx_later _ _ _, (rd, by_), ⟨.ref y, rfl, Mono.up (e1.trans e2) hb, ro, h0.1, h0.2⟩, fun v S3 _ p => p⟩
theorem ltbad_up {rd : Int × Int × Int} {y x : V} {S S' : Hp} (e : Ex S S') (h : LtBad K rd y x S) : LtBad K rd y x S' := h.imp (fun h => ⟨ni_up e h.1, h.2⟩) id
theorem ex_later {r : Rs} {s : L2.St} {S : Hp} {i : Nat} {ts : TA} {rd : Int × Int × Int} {y x v : V} {C CE : Addr} {E : XK} (h : s[i]? = some (some v)) (h2 : EvAV r ts s S [y]) (hb : RdR C rd v S) (ro : RdFit rd) (h0 : LtBad K rd y x S) : EvX E CE "value" r (tMeth C ("later" : Str) (spx_Reader_later K C CE) [] E (tVar i) ts) s S fun v _ => v = x :=
  ex_meth (Q1 := fun u _ => u = v) (vv_var h) h2 fun u S1 S2 e1 ex e2 => by
    subst ex
    obtain ⟨z, dx, rfl, g2⟩ := id hb
    exact ⟨z, dx, _, rfl, e1 _ _ g2, rdx_later _ _ _, (rd, x), ⟨.ref z, y, rfl, Mono.up (e1.trans e2) hb, ro, ltbad_up (e1.trans e2) h0⟩, fun v S3 _ p => p⟩
end
end K29

namespace K29
open PySem PySem.Spec PyProof.Rows L2 Evl J RZ
section
variable {P : Program} {w : World} {K : PySem.W.Frag} {mg : Str → Option Value} {base : Heap}
/-! ### rules -/
def movesL : List (List Str) := [[], [("ahead" : Str)], [("back" : Str)], [("ahead" : Str), ("back" : Str)]]
def startL : List Str := [("front" : Str), ("any" : Str)]
def freshL : List Str := [("none" : Str), ("unseen" : Str), ("again" : Str)]
def seesL : List Str := [("now" : Str), ("home" : Str)]
structure RuleD where
  moves : List Str
  start : Str
  fresh : Str
  sees : Str
structure RuleOk (a : RuleD) : Prop where
  m : a.moves ∈ movesL
  s : a.start ∈ startL
  f : a.fresh ∈ freshL
  h : a.sees ∈ seesL
/-- a value that a part may have -/
inductive PartOk (K : PySem.W.Frag) (S : Hp) : Str → V → Prop
  | moves {ms : List Str} {v : V} : ms ∈ movesL → SeqR K StrR ms v S → PartOk K S ("moves" : Str) v
  | start {z : Str} : z ∈ startL → PartOk K S ("start" : Str) (.str z)
  | fresh {z : Str} : z ∈ freshL → PartOk K S ("fresh" : Str) (.str z)
  | sees {z : Str} : z ∈ seesL → PartOk K S ("sees" : Str) (.str z)
theorem PartOk.up {K : PySem.W.Frag} {S S' : Hp} {p : Str} {v : V} (e : Ex S S') : PartOk K S p v → PartOk K S' p v
  | .moves h h2 => .moves h (Mono.up e h2)
  | .start h => .start h
  | .fresh h => .fresh h
  | .sees h => .sees h
theorem isStr_all {r : Rs} {s : L2.St} {S : Hp} {ys : List Str} {wi : TI} {j : Nat} {vs : List Nat} (hi : EvI r wi s S ys StrR) (hz : ys.length ≤ 100000) (hw : ∀ v, wipe ((wipe s vs).set j (some v)) vs = wipe s vs) (hj : ∀ v, ((wipe s vs).set j (some v))[j]? = some (some v)) : EvV r (tCB (rAll K) (tCons (tLc wi (gName j) tYes (tCB (rIsiU K) (tCons (tVar j) (tCons (tC (.ty "str")) tNil))) vs) tNil)) s S (.bl true) :=
  (vv_all (bs := ys.map fun _ => true) (EvN.lst (X := BoolR) (en_lcn (fun _ => true) hi hz hw fun y v S1 e m hy => by
    rw [show v = _ from hy]
    exact vv_isT (vv_var (hj _)) vv_c (.base (.str _)) (by decide +kernel)))).is (by simp)
def sp_is_part (K : PySem.W.Frag) : Sp := SpP (A := Str × V) (fun a vs S => vs = [.str a.1, a.2] ∧ PartOk K S a.1 a.2) (fun _ v _ => v = .bl true)
theorem lay_movesL {K : PySem.W.Frag} {S : Hp} {ms : List Str} {v : V} (hm : ms ∈ movesL) (h : TupR K StrR ms v S) : ∃ d, Dp K S v d ∧ SeqAt.shaped d = true ∧ ([PyData.tuple [], .tuple [.str ("ahead" : Str)], .tuple [.str ("back" : Str)], .tuple [.str ("ahead" : Str), .str ("back" : Str)]].any fun z => PyData.eqv z d) = true := by
  obtain ⟨a, vs, e, h1, h2⟩ := h
  subst e
  have e2 := h2.strs
  subst e2
  simp only [movesL, List.mem_cons, List.not_mem_nil, or_false] at hm
  rcases hm with rfl | rfl | rfl | rfl
  · exact ⟨.tuple [], .tup h1 .nil, by decide +kernel, by decide +kernel⟩
  · exact ⟨.tuple [.str ("ahead" : Str)], .tup h1 (.cons (.str _) .nil), by decide +kernel, by decide +kernel⟩
  · exact ⟨.tuple [.str ("back" : Str)], .tup h1 (.cons (.str _) .nil), by decide +kernel, by decide +kernel⟩
  · exact ⟨.tuple [.str ("ahead" : Str), .str ("back" : Str)], .tup h1 (.cons (.str _) (.cons (.str _) .nil)), by decide +kernel, by decide +kernel⟩
theorem inV_words {z : Str} {l : List Str} (h : z ∈ l) : inV (.str z) (l.map V.str) = true := by
  unfold inV
  rw [List.any_map, List.any_eq_true]
  exact ⟨z, h, by simp [eqV]⟩
theorem flat_words (l : List Str) : (l.map V.str).all flatV = true := by
  rw [List.all_map, List.all_eq_true]
  exact fun x _ => rfl
theorem G_is_part_value (T : TX P w K mg) : FnOk P w K mg base CX0 1 T.f_is_part_value T.fd_is_part_value ["part", "value"] (sp_is_part K) := by
  refine T.F_is_part_value.ok sc_is_part_value (fun vs H Q E h => ?_) (fun cdv A outer s H vs Q E hr h => ?_)
  · obtain ⟨a, S, ⟨rfl, _⟩, _⟩ := h
    rfl
  · obtain ⟨⟨part, val⟩, S, ⟨rfl, hp⟩, w0, q⟩ := h.body
    refine ⟨_, (pss_cons (ps_if (pt_cmpR (op_neK (K := K) hr.units) (pv 0) pe_str (nomark _)) (pss_one (ps_ret (pe_and (pe_callB (call_isiK2 (K := K)) (by rfl) T.z_isinstance (by decide +kernel) (pa_cons (pv 1) (pa_cons (pe_bltn (v := .ty "str") (by rfl) T.z_str (by decide +kernel) rfl) pa_nil))) (pe_one (pe_cmpR (op_inK (K := K)) (pv 1) (pe_ix (ix_kdK (K := K) (w := w)) (pe_const (by rfl) T.c_WORDS) (pv 0) (fun _ _ => rfl)) (by with_unfolding_all rfl)))))) pss_nil)
      (pss_cons (ps_if (PW.pt (pw_or (pt_not (pt_val (pe_callB (call_isiK2 (K := K)) (by rfl) T.z_isinstance (by decide +kernel) (pa_cons (pv 1) (pa_cons (pe_tup (pa_cons (pe_bltn (v := .ty "list") (by rfl) T.z_list (by decide +kernel) rfl) (pa_cons (pe_bltn (v := .ty "tuple") (by rfl) T.z_tuple (by decide +kernel) rfl) pa_nil))) pa_nil))))) (pw_or1 (pt_not (pt_val (pe_callB (call_allK (K := K)) (by rfl) T.z_all (by decide +kernel) (pa_cons (pe_lc (own := [("word", 2)]) (by rfl) sc_is_part_value.nd (pi_K (K := K) (pv 1)) (blkOk_by (own := [("word", 2)]) (N := N_is_part_value) (sc := (defScope s_is_part_value)) (by decide +kernel)) (fun _ _ _ _ _ => (pg_name (i := 2) sc_is_part_value.nd rfl (Or.inl rfl))) (fun _ _ _ _ _ => pts_nil) (fun _ _ _ _ _ => (pe_callB (call_isiK2 (K := K)) (by rfl) T.z_isinstance (by decide +kernel) (pa_cons (pv 2) (pa_cons (pe_bltn (v := .ty "str") (by rfl) T.z_str (by decide +kernel) rfl) pa_nil))))) pa_nil))))))) (pss_one (ps_ret pe_bl)) pss_nil)
      (pss_one (ps_ret (pe_cmpR (op_inDTK (K := K) (units65 hr)) (pe_callTy (call_tupleK (K := K)) (by rfl) T.z_tuple (by decide +kernel) (pa_cons (pv 1) pa_nil)) (pe_const (by rfl) T.c_MOVES) (by with_unfolding_all rfl)))))), ?_⟩
    dsimp only at hp
    have word : ∀ (tz : TS) (pt : Str) (ws : List Str) (a : Addr) (z : Str), pt ≠ ("moves" : Str) → z ∈ ws → KDct K w T.A_WORDS pt (.ref a) → (∀ H : Hp, SqT K H a (ws.map V.str)) → tSeq (tIfS (tTest (tOp (rNeU K) (tVar 0) (tC (.str ("moves" : Str))))) (tRet (tAndV (tCB (rIsiU K) (tCons (tVar 1) (tCons (tC (.ty "str")) tNil))) (tOp (rInU K) (tVar 1) (tOp (rIxD K w) (tC (.ref T.A_WORDS)) (tVar 0))))) tNext) tz { nx := fun _ H' => Q .non H', rt := Q } [some (.str pt), some (.str z), none] H := fun tz pt ws a z hpt hz hk ht => by
      refine sq_if (b := true) (tb_test ((vv_op (vv_var rfl) vv_c rs_neS).is (by rw [decide_eq_false hpt]; rfl))) w0 (fun _ S1 H1 w1 s1 => ?_) (fun z => nomatch z)
      exact st_ret ((vv_and (a := true) (vv_isT (vv_var rfl) vv_c (.base (.str _)) (by decide +kernel)) fun _ => vv_op (vv_var rfl) (vv_op vv_c (vv_var rfl) (rs_kd hk)) (rs_inT' (ht _) rfl (flat_words ws))).is (by rw [inV_words hz]; rfl)) w1 fun v S2 H2 w2 s2 e => q v S2 H2 w2 (s1.trans s2) e
    cases hp with
    | moves hm hv =>
      rename_i ms
      refine sq_ifNo (tb_test ((vv_op (vv_var rfl) vv_c rs_neS).is (by rw [decide_eq_true rfl]; rfl))) w0 fun S1 H1 w1 s1 => ?_
      have hms : ms.length ≤ 2 := by
        simp only [movesL, List.mem_cons, List.not_mem_nil, or_false] at hm
        rcases hm with rfl | rfl | rfl | rfl <;> decide
      have hv1 := Mono.up s1.ex hv
      have hi : EvI Rs.nil (iU K (tVar 1)) [some (.str ("moves" : Str)), some val, none] S1 ms StrR := by
        rcases hv1 with h | h
        · exact ei_list (ev_v (R := LstR StrR) rfl h)
        · exact ei_tup (ev_v (R := TupR K StrR) rfl h)
      refine sq_ifNo (EvB.is (tb_or (a := false) (tb_not (a := true) (tb_test (vv_isLT (vv_var rfl) vv_c vv_c hv1))) fun _ => tb_not (a := true) (tb_test (isStr_all hi (by omega) (by intro _; rfl) (fun _ => rfl)))) rfl) w1 fun S2 H2 w2 s2 => ?_
      have hv2 := Mono.up s2.ex hv1
      refine st_ret (R := fun v _ => v = .bl true) (ev_op2 (ev_tupS (K := K) (R := StrR) (ev_v (R := SeqR K StrR) rfl hv2)) (fun _ S e _ => vv_c) fun x y S3 S4 _ hx e4 hy => ?_) w2 fun v S3 H3 w3 s3 e => q v S3 H3 w3 (s1.trans (s2.trans s3)) e
      subst hy
      obtain ⟨d, hd, sd, he⟩ := lay_movesL hm (Mono.up e4 hx)
      exact ⟨.bl true, by
        rw [← he]
        exact rs_inDT hd (.tup (T.tu_MOVES _) (.cons (.tup (T.tu_MOVES_0 _) .nil) (.cons (.tup (T.tu_MOVES_1 _) (.cons (.str _) .nil)) (.cons (.tup (T.tu_MOVES_2 _) (.cons (.str _) .nil)) (.cons (.tup (T.tu_MOVES_3 _) (.cons (.str _) (.cons (.str _) .nil))) .nil))))) sd (by decide +kernel), rfl⟩
    | start hz => exact word _ ("start" : Str) startL T.A_WORDS_0 _ (by decide +kernel) hz T.kd_WORDS_start T.tu_WORDS_0
    | fresh hz => exact word _ ("fresh" : Str) freshL T.A_WORDS_1 _ (by decide +kernel) hz T.kd_WORDS_fresh T.tu_WORDS_1
    | sees hz => exact word _ ("sees" : Str) seesL T.A_WORDS_2 _ (by decide +kernel) hz T.kd_WORDS_sees T.tu_WORDS_2
end
end K29

namespace K29
open PySem PySem.Spec PyProof.Rows L2 Evl J RZ
section
variable {P : Program} {w : World} {K : PySem.W.Frag} {mg : Str → Option Value} {base : Heap}
/-! ### a rule as an object -/
def ruleK (t : Addr) (a : RuleD) : List (Key × V) := [(.inr ("moves" : Str), .ref t), (.inr ("start" : Str), .str a.start), (.inr ("fresh" : Str), .str a.fresh), (.inr ("sees" : Str), .str a.sees)]
theorem rk_m (t : Addr) (a : RuleD) : valV (ruleK t a) (.inr ("moves" : Str)) = some (.ref t) := by kernel_rfl
theorem rk_s (t : Addr) (a : RuleD) : valV (ruleK t a) (.inr ("start" : Str)) = some (.str a.start) := by kernel_rfl
theorem rk_f (t : Addr) (a : RuleD) : valV (ruleK t a) (.inr ("fresh" : Str)) = some (.str a.fresh) := by kernel_rfl
theorem rk_h (t : Addr) (a : RuleD) : valV (ruleK t a) (.inr ("sees" : Str)) = some (.str a.sees) := by kernel_rfl
theorem rk_merge (t : Addr) (a : RuleD) : mergeK [] (ruleK t a) = ruleK t a := by kernel_rfl
/-- the parts at d -/
def PartsAt (K : PySem.W.Frag) (d : Addr) (a : RuleD) (S : Hp) : Prop := ∃ t, S d = some (.dK (ruleK t a)) ∧ TupR K StrR a.moves (.ref t) S
def RuleR (K : PySem.W.Frag) (C : Addr) : Rl RuleD := fun a v S => ∃ x dx d, v = .ref x ∧ S x = some (.ins C dx [(("kept_parts" : Str), V.ref d)]) ∧ PartsAt K d a S ∧ RuleOk a
theorem PartsAt.up {K : PySem.W.Frag} {d : Addr} {a : RuleD} {S S' : Hp} (e : Ex S S') (h : PartsAt K d a S) : PartsAt K d a S' := h.imp fun t h => ⟨e _ _ h.1, Mono.up e h.2⟩
instance {K : PySem.W.Frag} {C : Addr} : Mono (RuleR K C) := ⟨fun e ⟨x, dx, d, h1, h2, h3, h4⟩ => ⟨x, dx, d, h1, e _ _ h2, h3.up e, h4⟩⟩
def sp_Rule_init (K : PySem.W.Frag) (C : Addr) : Sp := SpInit (A := RuleD) C (fun a us S => ∃ v, us = [v, .str a.start, .str a.fresh, .str a.sees] ∧ SeqR K StrR a.moves v S ∧ RuleOk a) (fun a fs S => ∃ d, fs = [(("kept_parts" : Str), V.ref d)] ∧ PartsAt K d a S)
theorem kp_put (d : Addr) : putF "kept_parts" (.ref d) [] = [(("kept_parts" : Str), V.ref d)] := by kernel_rfl
theorem G_Rule_init (T : TX P w K mg) : FnOk P w K mg base CX0 2 T.f_Rule_init T.fd_Rule_init ["self", "moves", "start", "fresh", "sees"] (sp_Rule_init K T.C_Rule) := by
  refine FunD.ok T.F_Rule_init sc_Rule_init (fun vs H Q E h => ?_) (fun cdv A outer s H vs Q E hr h => ?_)
  · obtain ⟨a, S, x, dx, us, rfl, ⟨v, rfl, _⟩, _⟩ := h
    rfl
  · obtain ⟨a, S, x, dx, us, rfl, ⟨v, rfl, hv, ho⟩, hx, hs, w0, q⟩ := h
    refine ⟨_, PSs.nox (pss_cons (ps_for PassesOwn.never (by rfl) (pi_zipAK (K := K) (by rfl) T.z_zip (pa_cons (pe_const (by rfl) T.c_PARTS) (pa_cons (pe_tup (pa_cons (pv 1) (pa_cons (pv 2) (pa_cons (pv 3) (pa_cons (pv 4) pa_nil))))) pa_nil))) (pg_tupK (K := K) (n := 2) (by rfl) (pgs_cons (pg_name (i := 5) sc_Rule_init.nd rfl (Or.inl rfl)) (pgs_cons (pg_name (i := 6) sc_Rule_init.nd rfl (Or.inl rfl)) pgs_nil))) (pss_one (ps_if (pt_not (pt_val (pe_call (G_is_part_value T) (hr.mono (by decide)) (by rfl) T.g_is_part_value T.F_is_part_value.kp T.b_is_part_value .nil pass0 (pa_cons (pv 5) (pa_cons (pv 6) pa_nil))))) (pss_one ps_never) pss_nil)))
      (pss_one (ps_fldK (K := K) (pv 0) (pe_disp (pps_cons pe_str (pe_callTy (call_tupleK (K := K)) (by rfl) T.z_tuple (by decide +kernel) (pa_cons (pv 1) pa_nil)) (pps_cons pe_str (pv 2) (pps_cons pe_str (pv 3) (pps_cons pe_str (pv 4) pps_nil)))) (by rfl) (by rfl) (fun z => by cases z) (by decide))))), ?_⟩
    have n0 : x ∉ Rs.nil.M := fun z => by cases z
    have hlen : (List.zip [("moves" : Str), ("start" : Str), ("fresh" : Str), ("sees" : Str)] [v, .str a.start, .str a.fresh, .str a.sees]) = [(("moves" : Str), v), (("start" : Str), .str a.start), (("fresh" : Str), .str a.fresh), (("sees" : Str), .str a.sees)] := rfl
    refine sq_for (ei_zipTT (K := K) (R := StrR) (ys := [("moves" : Str), ("start" : Str), ("fresh" : Str), ("sees" : Str)]) (R' := ValR) (zs := [v, .str a.start, .str a.fresh, .str a.sees]) (ev_kTup T.tu_PARTS) fun S1 e => ev_tupV (va_cons (vv_var rfl) (va_cons (vv_var rfl) (va_cons (vv_var rfl) (va_cons (vv_var rfl) va_nil)))) (by simp)) w0 fun S1 H1 w1 s1 => ?_
    rw [hlen]
    refine ⟨fun i s' S' H' => Wd Rs.nil S' H' ∧ Ex S1 S' ∧ Stp Rs.nil S H S' H' ∧ ∃ y1 y2, s' = [some (.ref x), some v, some (.str a.start), some (.str a.fresh), some (.str a.sees), y1, y2], ⟨w1, Ex.refl _, s1, none, none, rfl⟩, fun i s' S' H' p => ⟨p.1, p.2.1⟩, ?_, ?_⟩
    · rintro i ⟨pt, z⟩ u s' S2 H2 S3 H3 hi ⟨w2, e2, s2, y1, y2, rfl⟩ w3 s3 hu
      have hpt : PartOk K S3 pt z := by
        have hm := List.mem_of_getElem? hi
        simp only [List.mem_cons, List.not_mem_nil, or_false, Prod.mk.injEq] at hm
        rcases hm with ⟨rfl, rfl⟩ | ⟨rfl, rfl⟩ | ⟨rfl, rfl⟩ | ⟨rfl, rfl⟩
        · exact .moves ho.m (Mono.up (s2.ex.trans s3.ex) hv)
        · exact .start ho.s
        · exact .fresh ho.f
        · exact .sees ho.h
      refine g_two rfl hu w3 fun x1 x2 h1 h2 => ?_
      obtain rfl : x1 = .str pt := h1
      obtain rfl : x2 = z := h2
      refine st_ifNo (EvB.is (tb_not (a := true) (tb_B (vv_call (pt, x2) (va_cons (vv_var rfl) (va_cons (vv_var rfl) va_nil)) (fun S e => ⟨rfl, hpt.up e⟩) fun v S _ p => p))) rfl) w3 fun S4 H4 w4 s4 => ?_
      exact ⟨S4, w4, e2.trans (s3.ex.trans s4.ex), s2.trans (s3.trans s4), _, _, rfl⟩
    · rintro s' S2 H2 ⟨w2, e2, s2, y1, y2, rfl⟩
      have hv2 := Mono.up s2.ex hv
      refine st_fld n0 (vv_var rfl) (EvN.stable (R' := fun v S => ∃ d, v = .ref d ∧ PartsAt K d a S) (en_dispP (R := fun o S => ∃ t, o = .dK (ruleK t a) ∧ TupR K StrR a.moves (.ref t) S) (ep_cons vv_c (ev_tupS (K := K) (R := StrR) (ev_v (R := SeqR K StrR) rfl hv2)) fun v1 S3 e3 h3 => ep_cons vv_c (vv_var rfl) fun v2 S4 e4 h4 => ep_cons vv_c (vv_var rfl) fun v5 S5 e5 h5 => ep_cons vv_c (vv_var rfl) fun v6 S6 e6 h6 => ?_)) fun p o S3 e3 n3 ⟨t, eo, h3⟩ => ⟨p, rfl, t, by rw [eo]; exact upd_same, Mono.up (Ex.new n3) h3⟩) w2 (s2.kp _ _ n0 hx) (s2.fr _ (ne_none hx) hs) T.cl_Rule T.na_Rule_kept_parts (pfL pf0) fun v7 S7 H7 w7 s7 a7 h7 ⟨d, e7, h8⟩ => ?_
      · intro S7 H7 e7 w7 Q7 q7
        refine q7 [] S7 H7 w7 Stp.refl ?_
        obtain ⟨t, vs, e8, h8, h9⟩ := Mono.up (e4.trans (e5.trans (e6.trans e7))) h3
        subst h4 h5 h6 e8
        exact ⟨ruleK t a, rfl, by simp [ruleK], rk_merge t a, t, rfl, t, vs, rfl, h8, h9⟩
      · subst e7
        rw [kp_put] at h7
        exact q S7 H7 _ w7 (s2.more.trans s7) a7 h7 ⟨d, rfl, h8⟩
theorem rule_part {r : Rs} {s : L2.St} {S : Hp} {i : Nat} {x dx d : Addr} {nm : Str} {v : V} {kvs : List (Key × V)} {C : Addr} (hs : s[i]? = some (some (.ref x))) (hx : S x = some (.ins C dx [(("kept_parts" : Str), V.ref d)])) (hd : S d = some (.dK kvs)) (c : Cls K C) (na : NoAttr K C "kept_parts") (hv : valV kvs (.inr nm) = some v) : EvV r (tDGet (tFld K (tVar i) "kept_parts") (tC (.str nm))) s S v :=
  vv_dget (vv_fld (vv_var hs) hx c na (by kernel_rfl)) (k := .inr nm) vv_c hd hv
def sp_Rule_str (K : PySem.W.Frag) (C : Addr) (f : RuleD → Str) : Sp := SpP (A := RuleD) (fun a vs S => ∃ v, vs = [v] ∧ RuleR K C a v S) (fun a v _ => v = .str (f a))
def sp_Rule_moves (K : PySem.W.Frag) (C : Addr) : Sp := SpP (A := RuleD) (fun a vs S => ∃ v, vs = [v] ∧ RuleR K C a v S) (fun a v S => TupR K StrR a.moves v S)
theorem G_Rule_fresh (T : TX P w K mg) : FnOk P w K mg base CX0 1 T.f_Rule_fresh T.fd_Rule_fresh ["self"] (sp_Rule_str K T.C_Rule RuleD.fresh) := by
  refine T.F_Rule_fresh.ok sc_Rule_fresh (fun vs H Q E h => ?_) (fun cdv A outer s H vs Q E hr h => ?_)
  · obtain ⟨a, S, ⟨v, rfl, _⟩, _⟩ := h
    rfl
  · obtain ⟨a, S, ⟨v, rfl, x, dx, d, rfl, hx, ⟨t, hd, ht⟩, ho⟩, w0, q⟩ := h.body
    refine ⟨_, (pss_one (ps_ret (pe_dget (units1 hr) (pe_fldK (K := K) (pv 0)) pe_str (fun _ _ => rfl)))), ?_⟩
    exact st_ret (rule_part rfl hx hd T.cl_Rule T.na_Rule_kept_parts (rk_f t a)) w0 fun v S1 H1 w1 s1 e => q v S1 H1 w1 s1 e
theorem G_Rule_sees (T : TX P w K mg) : FnOk P w K mg base CX0 1 T.f_Rule_sees T.fd_Rule_sees ["self"] (sp_Rule_str K T.C_Rule RuleD.sees) := by
  refine T.F_Rule_sees.ok sc_Rule_sees (fun vs H Q E h => ?_) (fun cdv A outer s H vs Q E hr h => ?_)
  · obtain ⟨a, S, ⟨v, rfl, _⟩, _⟩ := h
    rfl
  · obtain ⟨a, S, ⟨v, rfl, x, dx, d, rfl, hx, ⟨t, hd, ht⟩, ho⟩, w0, q⟩ := h.body
    refine ⟨_, (pss_one (ps_ret (pe_dget (units1 hr) (pe_fldK (K := K) (pv 0)) pe_str (fun _ _ => rfl)))), ?_⟩
    exact st_ret (rule_part rfl hx hd T.cl_Rule T.na_Rule_kept_parts (rk_h t a)) w0 fun v S1 H1 w1 s1 e => q v S1 H1 w1 s1 e
theorem rule_prop {r : Rs} {s : L2.St} {S : Hp} {ta : TE} {a : RuleD} {C : Addr} {f : RuleD → Str} {E : XK} (h : EvS r ta s S fun v S1 => RuleR K C a v S1) : EvV r (tProp C (sp_Rule_str K C f) [] E ta) s S (.str (f a)) :=
  ev_propP h fun x S1 e hx => by
    obtain ⟨y, dx, d, e1, h1, h2, h3⟩ := hx
    exact ⟨y, dx, _, e1, h1, a, ⟨x, rfl, y, dx, d, e1, h1, h2, h3⟩, fun v S2 _ p => p⟩
theorem rule_moves {r : Rs} {s : L2.St} {S : Hp} {ta : TE} {a : RuleD} {C : Addr} {E : XK} (h : EvS r ta s S fun v S1 => RuleR K C a v S1) : EvS r (tProp C (sp_Rule_moves K C) [] E ta) s S fun v S1 => TupR K StrR a.moves v S1 :=
  ev_propP h fun x S1 e hx => by
    obtain ⟨y, dx, d, e1, h1, h2, h3⟩ := hx
    exact ⟨y, dx, _, e1, h1, a, ⟨x, rfl, y, dx, d, e1, h1, h2, h3⟩, fun v S2 _ p => p⟩
end
end K29

namespace K29
open PySem PySem.Spec PyProof.Rows L2 Evl J RZ
section
variable {P : Program} {w : World} {K : PySem.W.Frag} {mg : Str → Option Value} {base : Heap}
/-! ### tables -/
theorem vv_betw {r : Rs} {s : L2.St} {S : Hp} {i lo hi : Int} {t : TA} (h : EvAV r t s S [.int i, .int lo, .int hi]) : EvV r (tCall sp_is_between [] E0 t) s S (.bl (decide (lo ≤ i) && decide (i ≤ hi))) := vv_between h rfl
def Tr (K : PySem.W.Frag) : Rl (Int × Int × Int) := TripR K IntR IntR IntR
instance {K : PySem.W.Frag} : Mono (Tr K) := inferInstanceAs (Mono (TripR K IntR IntR IntR))
def rowsB (pages : Int) (rows : List Int) : Bool := rows.all fun p => decide (0 ≤ p) && decide (p ≤ pages - 1)
def sp_are_rows (K : PySem.W.Frag) : Sp := SpP (A := Int × List Int) (fun a vs S => ∃ v, vs = [.int a.1, v] ∧ SeqR K IntR a.2 v S ∧ a.2.length ≤ 20) (fun a v _ => v = .bl (rowsB a.1 a.2))
theorem G_are_rows (T : TX P w K mg) : FnOk P w K mg base CX0 3 T.f_are_rows T.fd_are_rows ["pages", "value"] (sp_are_rows K) := by
  refine T.F_are_rows.ok sc_are_rows (fun vs H Q E h => ?_) (fun cdv A outer s H vs Q E hr h => ?_)
  · obtain ⟨a, S, ⟨v, rfl, _⟩, _⟩ := h
    rfl
  · obtain ⟨⟨pages, rows⟩, S, ⟨v, rfl, hv, hl⟩, w0, q⟩ := h.body
    refine ⟨_, (pss_cons (ps_if (PW.pt (pw_or (pt_not (pt_val (pe_callB (call_isiK2 (K := K)) (by rfl) T.z_isinstance (by decide +kernel) (pa_cons (pv 1) (pa_cons (pe_tup (pa_cons (pe_bltn (v := .ty "list") (by rfl) T.z_list (by decide +kernel) rfl) (pa_cons (pe_bltn (v := .ty "tuple") (by rfl) T.z_tuple (by decide +kernel) rfl) pa_nil))) pa_nil))))) (pw_or1 (pt_cmpR op_gt (pe_callB (call_lenK (K := K)) (by rfl) T.z_len (by decide +kernel) (pa_cons (pv 1) pa_nil)) (pe_const (by rfl) T.c_MOST_ROWS) (nomark _))))) (pss_one (ps_ret pe_bl)) pss_nil)
      (pss_one (ps_ret (pe_callB (call_allK (K := K)) (by rfl) T.z_all (by decide +kernel) (pa_cons (pe_lc (own := [("page", 2)]) (by rfl) sc_are_rows.nd (pi_K (K := K) (pv 1)) (blkOk_by (own := [("page", 2)]) (N := N_are_rows) (sc := (defScope s_are_rows)) (by decide +kernel)) (fun _ _ _ _ _ => (pg_name (i := 2) sc_are_rows.nd rfl (Or.inl rfl))) (fun _ _ _ _ _ => pts_nil) (fun _ _ _ _ _ => (pe_call (G_is_between T) (hr.mono (by decide)) (by rfl) T.g_is_between T.F_is_between.kp T.b_is_between .nil pass0 (pa_cons (pv 2) (pa_cons pe_int (pa_cons (pe_op op_sub (pv 0) pe_int) pa_nil)))))) pa_nil))))), ?_⟩
    dsimp only at hl hv
    refine sq_ifNo (EvB.is (tb_or (a := false) (tb_not (a := true) (tb_B (vv_isLT (vv_var rfl) vv_c vv_c hv))) fun _ => tb_test (vv_op (len_v (R := IntR) rfl hv) vv_c rs_I0)) (by simp; omega)) w0 fun S1 H1 w1 s1 => ?_
    exact st_ret (vv_allF (R := IntR) (fun p => decide (0 ≤ p) && decide (p ≤ pages - 1)) (ei_seqV rfl (Mono.up s1.ex hv)) (by omega) (by intro _; rfl) fun y v S2 e m hy => by
      rw [show v = _ from hy]
      exact vv_betw (va_cons (vv_var rfl) (va_cons vv_c (va_cons (vv_op (vv_var rfl) vv_c rs_sub) va_nil)))) w1 fun v S2 H2 w2 s2 e => q v S2 H2 w2 (s1.trans s2) e
def risesB (l : List Int) : Bool := (l.zip (l.drop 1)).all fun p => decide (p.1 ≤ p.2)
def newsB (news : List Int) : Bool := (news.all fun t => decide (0 ≤ t) && decide (t ≤ 2000)) && risesB news
def sp_are_news (K : PySem.W.Frag) : Sp := SpP (A := List Int) (fun a vs S => ∃ v, vs = [v] ∧ SeqR K IntR a v S ∧ a.length ≤ 3) (fun a v _ => v = .bl (newsB a))
theorem G_are_news (T : TX P w K mg) : FnOk P w K mg base CX0 3 T.f_are_news T.fd_are_news ["value"] (sp_are_news K) := by
  refine T.F_are_news.ok sc_are_news (fun vs H Q E h => ?_) (fun cdv A outer s H vs Q E hr h => ?_)
  · obtain ⟨a, S, ⟨v, rfl, _⟩, _⟩ := h
    rfl
  · obtain ⟨news, S, ⟨v, rfl, hv, hl⟩, w0, q⟩ := h.body
    refine ⟨_, (pss_cons (ps_if (PW.pt (pw_or (pt_not (pt_val (pe_callB (call_isiK2 (K := K)) (by rfl) T.z_isinstance (by decide +kernel) (pa_cons (pv 0) (pa_cons (pe_tup (pa_cons (pe_bltn (v := .ty "list") (by rfl) T.z_list (by decide +kernel) rfl) (pa_cons (pe_bltn (v := .ty "tuple") (by rfl) T.z_tuple (by decide +kernel) rfl) pa_nil))) pa_nil))))) (pw_or1 (pt_cmpR op_gt (pe_callB (call_lenK (K := K)) (by rfl) T.z_len (by decide +kernel) (pa_cons (pv 0) pa_nil)) (pe_const (by rfl) T.c_MOST_NEWS) (nomark _))))) (pss_one (ps_ret pe_bl)) pss_nil)
      (pss_cons (ps_if (pt_not (pt_val (pe_callB (call_allK (K := K)) (by rfl) T.z_all (by decide +kernel) (pa_cons (pe_lc (own := [("time", 1)]) (by rfl) sc_are_news.nd (pi_K (K := K) (pv 0)) (blkOk_by (own := [("time", 1)]) (N := N_are_news) (sc := (defScope s_are_news)) (by decide +kernel)) (fun _ _ _ _ _ => (pg_name (i := 1) sc_are_news.nd rfl (Or.inl rfl))) (fun _ _ _ _ _ => pts_nil) (fun _ _ _ _ _ => (pe_call (G_is_between T) (hr.mono (by decide)) (by rfl) T.g_is_between T.F_is_between.kp T.b_is_between .nil pass0 (pa_cons (pv 1) (pa_cons pe_int (pa_cons (pe_const (by rfl) T.c_MOST_TIME) pa_nil)))))) pa_nil)))) (pss_one (ps_ret pe_bl)) pss_nil)
      (pss_one (ps_ret (pe_callB (call_allK (K := K)) (by rfl) T.z_all (by decide +kernel) (pa_cons (pe_lc (own := [("one", 2), ("other", 3)]) (by rfl) sc_are_news.nd (pi_zipAK (K := K) (by rfl) T.z_zip (pa_cons (pv 0) (pa_cons (pe_slice (sl_K (K := K)) (pv 0) (po_some pe_int) po_none) pa_nil))) (blkOk_by (own := [("one", 2), ("other", 3)]) (N := N_are_news) (sc := (defScope s_are_news)) (by decide +kernel)) (fun _ _ _ _ _ => (pg_tupK (K := K) (n := 2) (by rfl) (pgs_cons (pg_name (i := 2) sc_are_news.nd rfl (Or.inl rfl)) (pgs_cons (pg_name (i := 3) sc_are_news.nd rfl (Or.inl rfl)) pgs_nil)))) (fun _ _ _ _ _ => pts_nil) (fun _ _ _ _ _ => (pe_cmpR op_le (pv 2) (pv 3) (nomark _)))) pa_nil)))))), ?_⟩
    refine sq_ifNo (EvB.is (tb_or (a := false) (tb_not (a := true) (tb_B (vv_isLT (vv_var rfl) vv_c vv_c hv))) fun _ => tb_test (vv_op (len_v (R := IntR) rfl hv) vv_c rs_I0)) (by simp; omega)) w0 fun S1 H1 w1 s1 => ?_
    have hv1 := Mono.up s1.ex hv
    refine sq_if (b := !(news.all fun t => decide (0 ≤ t) && decide (t ≤ 2000))) (tb_not (tb_test (vv_allF (R := IntR) (fun t => decide (0 ≤ t) && decide (t ≤ 2000)) (ei_seqV rfl hv1) (by omega) (by intro _; rfl) fun y v S2 e m hy => by
      rw [show v = _ from hy]
      exact vv_betw (va_cons (vv_var rfl) (va_cons vv_c (va_cons vv_c va_nil)))))) w1 (fun hb S2 H2 w2 s2 => ?_) (fun hb S2 H2 w2 s2 => ?_)
    · refine st_ret vv_c w2 fun v S3 H3 w3 s3 e => q v S3 H3 w3 (s1.trans (s2.trans s3)) ?_
      rw [e]
      unfold newsB
      have : (news.all fun t => decide (0 ≤ t) && decide (t ≤ 2000)) = false := by simpa using hb
      rw [this, Bool.false_and]
    · have hb2 : (news.all fun t => decide (0 ≤ t) && decide (t ≤ 2000)) = true := by simpa using hb
      have hcut : cutD news (some (1 : Int)) none = news.drop 1 := cut_drop 1
      refine st_ret (vv_allF2 (R := IntR) (R' := IntR) (ys := news.zip (cutD news (some 1) none)) (fun p => decide (p.1 ≤ p.2)) (ei_zipSelf (R := IntR) rfl (Mono.up s2.ex hv1) (fun H Q q => ⟨1, rfl, q⟩) (fun H Q q => q)) (by rw [List.length_zip]; omega) (by intro _ _; rfl) fun y v v' S3 e m h1 h2 => by
        rw [show v = _ from h1, show v' = _ from h2]
        exact vv_op (vv_var rfl) (vv_var rfl) rs_I0) w2 fun v S3 H3 w3 s3 e => q v S3 H3 w3 (s1.trans (s2.trans s3)) ?_
      rw [e, hcut]
      unfold newsB risesB
      rw [hb2, Bool.true_and]
def pagesAt (pages : Int) (news : List Int) (time : Int) : Int := pages + ((news.filter fun t => decide (t ≤ time)).length : Int)
def sp_pages_at (K : PySem.W.Frag) : Sp := SpP (A := Int × List Int × Int) (fun a vs S => ∃ v, vs = [.int a.1, v, .int a.2.2] ∧ SeqR K IntR a.2.1 v S ∧ a.2.1.length ≤ 1000) (fun a v _ => v = .int (pagesAt a.1 a.2.1 a.2.2))
theorem G_pages_at (T : TX P w K mg) : FnOk P w K mg base CX0 1 T.f_pages_at T.fd_pages_at ["pages", "news", "time"] (sp_pages_at K) := by
  refine T.F_pages_at.ok sc_pages_at (fun vs H Q E h => ?_) (fun cdv A outer s H vs Q E hr h => ?_)
  · obtain ⟨a, S, ⟨v, rfl, _⟩, _⟩ := h
    rfl
  · obtain ⟨⟨pages, news, time⟩, S, ⟨v, rfl, hv, hl⟩, w0, q⟩ := h.body
    refine ⟨_, (pss_one (ps_ret (pe_op (op_addK (K := K)) (pv 0) (pe_callB (call_lenK (K := K)) (by rfl) T.z_len (by decide +kernel) (pa_cons (pe_lc (own := [("one", 3)]) (by rfl) sc_pages_at.nd (pi_K (K := K) (pv 1)) (blkOk_by (own := [("one", 3)]) (N := N_pages_at) (sc := (defScope s_pages_at)) (by decide +kernel)) (fun _ _ _ _ _ => (pg_name (i := 3) sc_pages_at.nd rfl (Or.inl rfl))) (fun _ _ _ _ _ => (pts_one (pt_cmpR op_le (pv 3) (pv 2) (nomark _)))) (fun _ _ _ _ _ => (pv 3))) pa_nil))))), ?_⟩
    dsimp only at hl hv
    exact st_ret (vv_op (vv_var rfl) (vv_lenF (R := IntR) (fun t => decide (t ≤ time)) (ei_seqV rfl hv) (by omega) (by intro _; rfl) (by intro _; rfl) fun y v S2 e m hy => by
      rw [show v = _ from hy]
      exact tb_test (vv_op (vv_var rfl) (vv_var rfl) rs_I0)) rs_add) w0 fun v S2 H2 w2 s2 e => q v S2 H2 w2 s2 e
structure BookD where
  pages : Int
  rows : List Int
  news : List Int
  moves : List (Int × Int × Int)
/-- a move that can be made -/
def canB (pages : Int) (news spots : List Int) (before : Int) (m : Int × Int × Int) : Bool :=
  (decide (before ≤ m.1) && decide (m.1 ≤ 2000)) && (decide (0 ≤ m.2.1) && decide (m.2.1 ≤ (spots.length : Int) - 1)) && ((decide (0 ≤ m.2.2) && decide (m.2.2 ≤ pagesAt pages news m.1 - 1)) && !decide (m.2.2 = spots.getD m.2.1.toNat 0))
def movesB (pages : Int) (news : List Int) : List Int → Int → List (Int × Int × Int) → Bool
  | _, _, [] => true
  | spots, before, m :: r => canB pages news spots before m && movesB pages news (spots.set m.2.1.toNat m.2.2) m.1 r
theorem tr_ix {r : Rs} {s : L2.St} {S : Hp} {i : Nat} {m : Int × Int × Int} {v : V} (h : s[i]? = some (some v)) (hm : Tr K m v S) : EvV r (tOp (rIx K) (tVar i) (tC (.int 0))) s S (.int m.1) ∧ EvV r (tOp (rIx K) (tVar i) (tC (.int 1))) s S (.int m.2.1) ∧ EvV r (tOp (rIx K) (tVar i) (tC (.int 2))) s S (.int m.2.2) := by
  obtain ⟨a, x, y, z, e, h1, h2, h3, h4⟩ := hm
  subst e
  obtain rfl : x = _ := h2
  obtain rfl : y = _ := h3
  obtain rfl : z = _ := h4
  exact ⟨vv_op (vv_var h) vv_c (rs_ixT' h1 (atI_nat (j := 0) rfl)), vv_op (vv_var h) vv_c (rs_ixT' h1 (atI_nat (j := 1) rfl)), vv_op (vv_var h) vv_c (rs_ixT' h1 (atI_nat (j := 2) rfl))⟩
theorem tr_len {r : Rs} {s : L2.St} {S : Hp} {i : Nat} {m : Int × Int × Int} {v : V} (h : s[i]? = some (some v)) (hm : Tr K m v S) : EvV r (tCB (rLenU K) (tCons (tVar i) tNil)) s S (.int 3) := by
  obtain ⟨a, x, y, z, e, h1, _⟩ := hm
  subst e
  exact vv_cb (va_cons (vv_var h) va_nil) (rc_lenT h1)
theorem tr_tyx {S : Hp} {m : Int × Int × Int} {v : V} (hm : Tr K m v S) : TyX K S v (.type "tuple") := by
  obtain ⟨a, x, y, z, e, h1, _⟩ := hm
  subst e
  exact tyx_tup h1
theorem vv_pages {r : Rs} {s : L2.St} {S : Hp} {ta tb tc : TE} {pages time : Int} {news : List Int} {v : V} (h1 : EvV r ta s S (.int pages)) (h2 : EvV r tb s S v) (hv : SeqR K IntR news v S) (hl : news.length ≤ 1000) (h3 : EvV r tc s S (.int time)) : EvV r (tCall (sp_pages_at K) [] E0 (tCons ta (tCons tb (tCons tc tNil)))) s S (.int (pagesAt pages news time)) :=
  vv_call (pages, news, time) (va_cons h1 (va_cons h2 (va_cons h3 va_nil))) (fun S e => ⟨v, rfl, Mono.up e hv, hl⟩) fun v _ _ p => p
def sp_can_be_made (K : PySem.W.Frag) : Sp := SpP (A := Int × List Int × List Int × Int × (Int × Int × Int)) (fun a vs S => ∃ vn vp vm, vs = [.int a.1, vn, vp, .int a.2.2.2.1, vm] ∧ SeqR K IntR a.2.1 vn S ∧ a.2.1.length ≤ 1000 ∧ LstR IntR a.2.2.1 vp S ∧ a.2.2.1.length ≤ 1000 ∧ Tr K a.2.2.2.2 vm S) (fun a v _ => v = .bl (canB a.1 a.2.1 a.2.2.1 a.2.2.2.1 a.2.2.2.2))
theorem G_can_be_made (T : TX P w K mg) : FnOk P w K mg base CX0 3 T.f_can_be_made T.fd_can_be_made ["pages", "news", "spots", "before", "move"] (sp_can_be_made K) := by
  refine T.F_can_be_made.ok sc_can_be_made (fun vs H Q E h => ?_) (fun cdv A outer s H vs Q E hr h => ?_)
  · obtain ⟨a, S, ⟨vn, vp, vm, rfl, _⟩, _⟩ := h
    rfl
  · obtain ⟨⟨pages, news, spots, before, m⟩, S, ⟨vn, vp, vm, rfl, hn, hnl, hp, hpl, hm⟩, w0, q⟩ := h.body
    dsimp only at hn hnl hp hpl hm
    refine ⟨_, (pss_cons (ps_if (PW.pt (pw_or (pt_not (pt_val (pe_callB (call_isiK2 (K := K)) (by rfl) T.z_isinstance (by decide +kernel) (pa_cons (pv 4) (pa_cons (pe_bltn (v := .ty "tuple") (by rfl) T.z_tuple (by decide +kernel) rfl) pa_nil))))) (pw_or (pt_cmpR (op_neK (K := K) hr.units) (pe_callB (call_lenK (K := K)) (by rfl) T.z_len (by decide +kernel) (pa_cons (pv 4) pa_nil)) pe_int (nomark _)) (pw_or1 (pt_not (pt_val (pe_call (G_is_between T) (hr.mono (by decide)) (by rfl) T.g_is_between T.F_is_between.kp T.b_is_between .nil pass0 (pa_cons (pe_ix (ix_K (K := K)) (pv 4) pe_int (fun _ _ => rfl)) (pa_cons (pv 3) (pa_cons (pe_const (by rfl) T.c_MOST_TIME) pa_nil)))))))))) (pss_one (ps_ret pe_bl)) pss_nil)
      (pss_cons (ps_if (pt_not (pt_val (pe_call (G_is_between T) (hr.mono (by decide)) (by rfl) T.g_is_between T.F_is_between.kp T.b_is_between .nil pass0 (pa_cons (pe_ix (ix_K (K := K)) (pv 4) pe_int (fun _ _ => rfl)) (pa_cons pe_int (pa_cons (pe_op op_sub (pe_callB (call_lenK (K := K)) (by rfl) T.z_len (by decide +kernel) (pa_cons (pv 2) pa_nil)) pe_int) pa_nil)))))) (pss_one (ps_ret pe_bl)) pss_nil)
      (pss_one (ps_ret (pe_and (pe_call (G_is_between T) (hr.mono (by decide)) (by rfl) T.g_is_between T.F_is_between.kp T.b_is_between .nil pass0 (pa_cons (pe_ix (ix_K (K := K)) (pv 4) pe_int (fun _ _ => rfl)) (pa_cons pe_int (pa_cons (pe_op op_sub (pe_call (G_pages_at T) (hr.mono (by decide)) (by rfl) T.g_pages_at T.F_pages_at.kp T.b_pages_at .nil pass0 (pa_cons (pv 0) (pa_cons (pv 1) (pa_cons (pe_ix (ix_K (K := K)) (pv 4) pe_int (fun _ _ => rfl)) pa_nil)))) pe_int) pa_nil)))) (pe_one (pe_cmpR (op_neK (K := K) hr.units) (pe_ix (ix_K (K := K)) (pv 4) pe_int (fun _ _ => rfl)) (pe_ix (ix_K (K := K)) (pv 2) (pe_ix (ix_K (K := K)) (pv 4) pe_int (fun _ _ => rfl)) (fun _ _ => rfl)) (nomark _)))))))), ?_⟩
    have no : ∀ {S1 H1 : Hp}, Wd Rs.nil S1 H1 → Stp Rs.nil S H S1 H1 → canB pages news spots before m = false → tRet (tC (.bl false)) { nx := fun _ H' => Q .non H', rt := Q } [some (.int pages), some vn, some vp, some (.int before), some vm] H1 := fun w1 s1 e => st_ret vv_c w1 fun v S2 H2 w2 s2 ev => q v S2 H2 w2 (s1.trans s2) (by rw [ev, e])
    refine sq_if (b := !(decide (before ≤ m.1) && decide (m.1 ≤ 2000))) (EvB.is (tb_or (a := false) (tb_not (a := true) (tb_B (vv_isT (vv_var rfl) vv_c (tr_tyx hm) (by decide +kernel)))) fun _ => tb_or (a := false) (tb_test ((vv_op (tr_len rfl hm) vv_c rs_neI).is rfl)) fun _ => tb_not (tb_B (vv_betw (va_cons (tr_ix rfl hm).1 (va_cons (vv_var rfl) (va_cons vv_c va_nil)))))) rfl) w0 (fun hb S1 H1 w1 s1 => ?_) (fun hb S1 H1 w1 s1 => ?_)
    · refine no w1 s1 ?_
      unfold canB
      rw [show (decide (before ≤ m.1) && decide (m.1 ≤ 2000)) = false from nt hb]
      rfl
    have hm1 := Mono.up s1.ex hm
    have hp1 := Mono.up s1.ex hp
    refine sq_if (b := !(decide (0 ≤ m.2.1) && decide (m.2.1 ≤ (spots.length : Int) - 1))) (tb_not (tb_B (vv_betw (va_cons (tr_ix rfl hm1).2.1 (va_cons vv_c (va_cons (vv_op (len_v (R := IntR) rfl (.inl hp1)) vv_c rs_sub) va_nil)))))) w1 (fun hb2 S2 H2 w2 s2 => ?_) (fun hb2 S2 H2 w2 s2 => ?_)
    · refine no w2 (s1.trans s2) ?_
      unfold canB
      rw [show (decide (0 ≤ m.2.1) && decide (m.2.1 ≤ (spots.length : Int) - 1)) = false from nt hb2, Bool.and_false]
      rfl
    have hm2 := Mono.up s2.ex hm1
    have hp2 := Mono.up s2.ex hp1
    have hn2 := Mono.up s2.ex (Mono.up s1.ex hn)
    have hb2' : 0 ≤ m.2.1 ∧ m.2.1 ≤ (spots.length : Int) - 1 := by simpa using hb2
    have hj : m.2.1.toNat < spots.length := by omega
    refine st_ret (vv_and (vv_betw (va_cons (tr_ix rfl hm2).2.2 (va_cons vv_c (va_cons (vv_op (vv_pages (vv_var rfl) (vv_var rfl) hn2 hnl (tr_ix rfl hm2).1) vv_c rs_sub) va_nil)))) fun _ => vv_op (tr_ix rfl hm2).2.2 (ev_ixL (K := K) (R := IntR) (j := m.2.1.toNat) (a := spots.getD m.2.1.toNat 0) (ev_v (R := LstR IntR) rfl hp2) (fun S e => (tr_ix rfl (Mono.up e hm2)).2.1) (by rw [List.getD_eq_getElem?_getD, List.getElem?_eq_getElem hj]; rfl) (by omega)) rs_neI) w2 fun v S3 H3 w3 s3 e => q v S3 H3 w3 (s1.trans (s2.trans s3)) ?_
    rw [e]
    unfold canB
    rw [show (decide (before ≤ m.1) && decide (m.1 ≤ 2000)) = true from nf hb, show (decide (0 ≤ m.2.1) && decide (m.2.1 ≤ (spots.length : Int) - 1)) = true from nf hb2]
    rfl
end
end K29

namespace K29
open PySem PySem.Spec PyProof.Rows L2 Evl J RZ
section
variable {P : Program} {w : World} {K : PySem.W.Frag} {mg : Str → Option Value} {base : Heap}
def sp_first_wrong (K : PySem.W.Frag) : Sp := SpP (A := BookD) (fun a vs S => ∃ vr vn vm, vs = [.int a.pages, vr, vn, vm] ∧ SeqR K IntR a.rows vr S ∧ SeqR K IntR a.news vn S ∧ SeqR K (Tr K) a.moves vm S ∧ (a.rows.length ≤ 1000 ∧ a.news.length ≤ 1000 ∧ a.moves.length ≤ 1000) ∧ movesB a.pages a.news a.rows 0 a.moves = true) (fun _ v S => LstR (Tr K) [] v S)
theorem G_first_wrong (T : TX P w K mg) : FnOk P w K mg base CX0 4 T.f_first_wrong T.fd_first_wrong ["pages", "rows", "news", "moves"] (sp_first_wrong K) := by
  refine T.F_first_wrong.ok sc_first_wrong (fun vs H Q E h => ?_) (fun cdv A outer s H vs Q E hr h => ?_)
  · obtain ⟨a, S, ⟨vr, vn, vm, rfl, _⟩, _⟩ := h
    rfl
  · obtain ⟨a, S, ⟨vr, vn, vm, rfl, hr0, hn0, hm0, ⟨l1, l2, l3⟩, hok⟩, w0, q⟩ := h.body
    refine ⟨_, (pss_cons (ps_par (i := 4) (j := 5) (by rfl) sc_first_wrong.nd rfl rfl (by decide) rfl rfl (pa_cons (pe_callTy (call_listK (K := K)) (by rfl) T.z_list (by decide +kernel) (pa_cons (pv 1) pa_nil)) (pa_cons pe_int pa_nil)) (by rfl))
      (pss_cons (ps_for PassesOwn.never (by rfl) (pi_K (K := K) (pv 3)) (pg_name (i := 6) sc_first_wrong.nd rfl (Or.inl rfl)) (pss_cons (ps_if (pt_not (pt_val (pe_call (G_can_be_made T) (hr.mono (by decide)) (by rfl) T.g_can_be_made T.F_can_be_made.kp T.b_can_be_made .nil pass0 (pa_cons (pv 0) (pa_cons (pv 2) (pa_cons (pv 4) (pa_cons (pv 5) (pa_cons (pv 6) pa_nil)))))))) (pss_one (ps_ret (pe_lst (pa_cons (pv 6) pa_nil)))) pss_nil)
        (pss_cons (ps_asg (pv 6) (pg_tupK (K := K) (n := 3) (by rfl) (pgs_cons (pg_name (i := 5) sc_first_wrong.nd rfl (Or.inl rfl)) (pgs_cons (pg_name (i := 7) sc_first_wrong.nd rfl (Or.inl rfl)) (pgs_cons (pg_name (i := 8) sc_first_wrong.nd rfl (Or.inl rfl)) pgs_nil)))))
        (pss_one (ps_asg (pv 8) (pg_sub (pv 4) (pv 7) set_list))))))
      (pss_one (ps_ret (pe_lst pa_nil))))), ?_⟩
    refine sq_par ?_
    refine (en_list (K := K) (X := IntR) (ea_one (ev_v (R := SeqR K IntR) rfl hr0)) : EvN Rs.nil _ _ S _) S H (Ex.refl _) w0 _ fun l o S1 H1 hl0 hl1 hl2 w1 s1 ⟨ws, eo, hws⟩ => ?_
    subst eo
    rw [hws.ints] at hl1
    refine ⟨_, _, rfl, ?_⟩
    have nl : l ∉ Rs.nil.M := fun z => by cases z
    refine sq_for (ei_seqV (K := K) (R := Tr K) rfl (Mono.up s1.ex hm0)) w1 fun S2 H2 w2 s2 => ?_
    refine ⟨fun i s' S' H' => Wd Rs.nil S' H' ∧ Ex S2 S' ∧ Stp Rs.nil S H S' H' ∧ S' l = none ∧ ∃ sp bf y6 y7 y8, H' l = some (.lst (sp.map V.int)) ∧ s' = [some (.int a.pages), some vr, some vn, some vm, some (.ref l), some (.int bf), y6, y7, y8] ∧ movesB a.pages a.news sp bf (a.moves.drop i) = true ∧ sp.length = a.rows.length,
      ⟨w2, Ex.refl _, s1.trans s2, s2.fr l (ne_none hl1) hl2, a.rows, 0, none, none, none, s2.kp l _ nl hl1, rfl, by rw [List.drop_zero]; exact hok, rfl⟩, fun i s' S' H' p => ⟨p.1, p.2.1⟩, ?_, ?_⟩
    · rintro i m u s' S3 H3 S4 H4 hi ⟨w3, e3, s3, n3, sp, bf, y6, y7, y8, hl3, rfl, hmv, hsl⟩ w4 s4 hu
      have hdrop : a.moves.drop i = m :: a.moves.drop (i + 1) := by
        rw [List.drop_eq_getElem_cons (List.getElem?_eq_some_iff.mp hi).1, (List.getElem?_eq_some_iff.mp hi).2]
      rw [hdrop] at hmv
      have hmv := Bool.and_eq_true_iff.mp (show (canB a.pages a.news sp bf m && movesB a.pages a.news (sp.set m.2.1.toNat m.2.2) m.1 (a.moves.drop (i + 1))) = true from hmv)
      have hl4 := s4.kp l _ nl hl3
      have n4 := s4.fr l (ne_none hl3) n3
      have e04 : Ex S S4 := s3.ex.trans s4.ex
      have eu : Ex S4 (upd S4 l (.lst (sp.map V.int))) := Ex.new n4
      refine sq_ifNoB (EvB.is (tb_not (a := true) (tb_B (vv_call (a.pages, a.news, sp, bf, m) (va_cons (vv_var rfl) (va_cons (vv_var rfl) (va_cons (vv_var rfl) (va_cons (vv_var rfl) (va_cons (vv_var rfl) va_nil))))) (fun S e => ⟨vn, .ref l, u, rfl, Mono.up (e04.trans (eu.trans e)) hn0, l2, ⟨l, _, rfl, e _ _ upd_same, All2.of_ints sp⟩, by dsimp only; omega, Mono.up (eu.trans e) hu⟩) fun v _ _ p => by rw [p]; dsimp only; rw [hmv.1]))) rfl) w4 hl4 nl n4 fun S5 H5 w5 s5 n5 => ?_
      have hl5 := s5.kp l _ nl hl4
      refine sq_three (K := K) (R := IntR) (R' := IntR) (R'' := IntR) (p := m) rfl (ev_v (R := Tr K) rfl (Mono.up s5.ex hu)) w5 fun x y z S6 H6 w6 s6 hx hy hz => ?_
      obtain rfl : x = _ := hx
      obtain rfl : y = _ := hy
      obtain rfl : z = _ := hz
      have hl6 := s6.kp l _ nl hl5
      have n6 := s6.fr l (ne_none hl5) n5
      have hc := hmv.1
      unfold canB at hc
      simp only [Bool.and_eq_true, decide_eq_true_eq] at hc
      have hj : m.2.1.toNat < sp.length := by omega
      obtain ⟨j, hj0⟩ : ∃ j : Nat, m.2.1 = (j : Int) := ⟨m.2.1.toNat, by omega⟩
      refine st_set nl (vv_var rfl) (vv_var rfl) (vv_var rfl) w6 hl6 n6 (j := j) (by rw [hj0]; exact J.ixN_nat (by rw [List.length_map]; omega)) fun v S7 H7 w7 s7 n7 h7 ev => ?_
      subst ev
      refine ⟨S7, w7, e3.trans (s4.ex.trans (s5.ex.trans (s6.ex.trans s7.ex))), Stp.drop (s3.trans (s4.trans (s5.trans s6))) s7 (fun b hb => by rw [List.mem_singleton.mp hb]; exact hl0), n7, sp.set j m.2.2, m.1, _, _, _, by rw [h7, List.map_set], rfl, ?_, by rw [List.length_set]; exact hsl⟩
      have := hmv.2
      rw [show m.2.1.toNat = j by omega] at this
      exact this
    · rintro s' S3 H3 ⟨w3, e3, s3, n3, sp, bf, y6, y7, y8, hl3, rfl, hmv, hsl⟩
      exact st_ret (ev_nilL (R := Tr K)) w3 fun v S4 H4 w4 s4 p => q v S4 H4 w4 (s3.trans s4) p
/-! ### a table as an object -/
def bookF (n : Int) (r w m : Addr) : List (Str × V) := [("kept_pages", .int n), ("kept_rows", .ref r), ("kept_news", .ref w), ("kept_moves", .ref m)]
theorem bk_p (n : Int) (r w m : Addr) : (bookF n r w m).lookup ("kept_pages" : Str) = some (V.int n) := by kernel_rfl
theorem bk_r (n : Int) (r w m : Addr) : (bookF n r w m).lookup ("kept_rows" : Str) = some (V.ref r) := by kernel_rfl
theorem bk_w (n : Int) (r w m : Addr) : (bookF n r w m).lookup ("kept_news" : Str) = some (V.ref w) := by kernel_rfl
theorem bk_m (n : Int) (r w m : Addr) : (bookF n r w m).lookup ("kept_moves" : Str) = some (V.ref m) := by kernel_rfl
theorem bk_put (n : Int) (r w m : Addr) : putF "kept_moves" (.ref m) (putF "kept_news" (.ref w) (putF "kept_rows" (.ref r) (putF "kept_pages" (.int n) []))) = bookF n r w m := by kernel_rfl
structure BookOk (a : BookD) : Prop where
  p : 1 ≤ a.pages ∧ a.pages ≤ 60
  rl : a.rows.length ≤ 20
  r : rowsB a.pages a.rows = true
  nl : a.news.length ≤ 3
  n : newsB a.news = true
  ml : a.moves.length ≤ 40
  m : movesB a.pages a.news a.rows 0 a.moves = true
def BookAt (K : PySem.W.Frag) (a : BookD) (r w m : Addr) (S : Hp) : Prop := TupR K IntR a.rows (.ref r) S ∧ TupR K IntR a.news (.ref w) S ∧ TupR K (Tr K) a.moves (.ref m) S
theorem BookAt.up {a : BookD} {r w m : Addr} {S S' : Hp} (e : Ex S S') (h : BookAt K a r w m S) : BookAt K a r w m S' := ⟨Mono.up e h.1, Mono.up e h.2.1, Mono.up e h.2.2⟩
def BookR (K : PySem.W.Frag) (C : Addr) : Rl BookD := fun a v S => ∃ x dx r w m, v = .ref x ∧ S x = some (.ins C dx (bookF a.pages r w m)) ∧ BookAt K a r w m S ∧ BookOk a
instance {C : Addr} : Mono (BookR K C) := ⟨fun e ⟨x, dx, r, w, m, h1, h2, h3, h4⟩ => ⟨x, dx, r, w, m, h1, e _ _ h2, h3.up e, h4⟩⟩
def sp_Book_init (K : PySem.W.Frag) (C : Addr) : Sp := SpInit (A := BookD) C (fun a us S => ∃ vr vn vm, us = [.int a.pages, vr, vn, vm] ∧ SeqR K IntR a.rows vr S ∧ SeqR K IntR a.news vn S ∧ SeqR K (Tr K) a.moves vm S ∧ BookOk a) (fun a fs S => ∃ r w m, fs = bookF a.pages r w m ∧ BookAt K a r w m S)
theorem tupref {α : Type} {R : Rl α} {xs : List α} {v : V} {S : Hp} (h : TupR K R xs v S) : ∃ r, v = .ref r ∧ TupR K R xs (.ref r) S := by
  obtain ⟨a, vs, e, h2⟩ := h
  subst e
  exact ⟨a, rfl, a, vs, rfl, h2⟩
theorem G_Book_init (T : TX P w K mg) : FnOk P w K mg base CX0 5 T.f_Book_init T.fd_Book_init ["self", "pages", "rows", "news", "moves"] (sp_Book_init K T.C_Book) := by
  refine FunD.ok T.F_Book_init sc_Book_init (fun vs H Q E h => ?_) (fun cdv A outer s H vs Q E hr h => ?_)
  · obtain ⟨a, S, x, dx, us, rfl, ⟨vr, vn, vm, rfl, _⟩, _⟩ := h
    rfl
  · obtain ⟨a, S, x, dx, us, rfl, ⟨vr, vn, vm, rfl, hr0, hn0, hm0, ho⟩, hx, hs, w0, q⟩ := h
    refine ⟨_, PSs.nox (pss_cons (ps_if (pt_not (pt_val (pe_call (G_is_between T) (hr.mono (by decide)) (by rfl) T.g_is_between T.F_is_between.kp T.b_is_between .nil pass0 (pa_cons (pv 1) (pa_cons pe_int (pa_cons (pe_const (by rfl) T.c_MOST_PAGES) pa_nil)))))) (pss_one ps_never) pss_nil)
      (pss_cons (ps_if (pt_not (pt_val (pe_call (G_are_rows T) (hr.mono (by decide)) (by rfl) T.g_are_rows T.F_are_rows.kp T.b_are_rows .nil pass0 (pa_cons (pv 1) (pa_cons (pv 2) pa_nil))))) (pss_one ps_never) pss_nil)
      (pss_cons (ps_if (pt_not (pt_val (pe_call (G_are_news T) (hr.mono (by decide)) (by rfl) T.g_are_news T.F_are_news.kp T.b_are_news .nil pass0 (pa_cons (pv 3) pa_nil)))) (pss_one ps_never) pss_nil)
      (pss_cons (ps_if (PW.pt (pw_or (pt_not (pt_val (pe_callB (call_isiK2 (K := K)) (by rfl) T.z_isinstance (by decide +kernel) (pa_cons (pv 4) (pa_cons (pe_tup (pa_cons (pe_bltn (v := .ty "list") (by rfl) T.z_list (by decide +kernel) rfl) (pa_cons (pe_bltn (v := .ty "tuple") (by rfl) T.z_tuple (by decide +kernel) rfl) pa_nil))) pa_nil))))) (pw_or1 (pt_cmpR op_gt (pe_callB (call_lenK (K := K)) (by rfl) T.z_len (by decide +kernel) (pa_cons (pv 4) pa_nil)) (pe_const (by rfl) T.c_MOST_MOVES) (nomark _))))) (pss_one ps_never) pss_nil)
      (pss_cons (ps_for PassesOwn.never (by rfl) (pi_K (K := K) (pe_call (G_first_wrong T) (hr.mono (by decide)) (by rfl) T.g_first_wrong T.F_first_wrong.kp T.b_first_wrong .nil pass0 (pa_cons (pv 1) (pa_cons (pv 2) (pa_cons (pv 3) (pa_cons (pv 4) pa_nil)))))) (pg_name (i := 5) sc_Book_init.nd rfl (Or.inl rfl)) (pss_one ps_never))
      (pss_cons (ps_fldK (K := K) (pv 0) (pv 1))
      (pss_cons (ps_fldK (K := K) (pv 0) (pe_callTy (call_tupleK (K := K)) (by rfl) T.z_tuple (by decide +kernel) (pa_cons (pv 2) pa_nil)))
      (pss_cons (ps_fldK (K := K) (pv 0) (pe_callTy (call_tupleK (K := K)) (by rfl) T.z_tuple (by decide +kernel) (pa_cons (pv 3) pa_nil)))
      (pss_one (ps_fldK (K := K) (pv 0) (pe_callTy (call_tupleK (K := K)) (by rfl) T.z_tuple (by decide +kernel) (pa_cons (pv 4) pa_nil)))))))))))), ?_⟩
    have n0 : x ∉ Rs.nil.M := fun z => by cases z
    refine sq_ifNo (tb_not (a := true) (tb_B (vv_between (va_cons (vv_var rfl) (va_cons vv_c (va_cons vv_c va_nil))) (btw ho.p.1 ho.p.2)))) w0 fun S1 H1 w1 s1 => ?_
    refine sq_ifNo (EvB.is (tb_not (a := true) (tb_B (vv_call (a.pages, a.rows) (va_cons (vv_var rfl) (va_cons (vv_var rfl) va_nil)) (fun S e => ⟨vr, rfl, Mono.up (s1.ex.trans e) hr0, ho.rl⟩) fun v S _ p => by rw [p]; dsimp only; rw [ho.r]))) rfl) w1 fun S2 H2 w2 s2 => ?_
    have s02 := s1.trans s2
    refine sq_ifNo (EvB.is (tb_not (a := true) (tb_B (vv_call a.news (va_cons (vv_var rfl) va_nil) (fun S e => ⟨vn, rfl, Mono.up (s02.ex.trans e) hn0, ho.nl⟩) fun v S _ p => by rw [p, ho.n]))) rfl) w2 fun S3 H3 w3 s3 => ?_
    have s03 := s02.trans s3
    have hm3 := Mono.up s03.ex hm0
    have hml := ho.ml
    refine sq_ifNo (EvB.is (tb_or (a := false) (tb_not (a := true) (tb_B (vv_isLT (vv_var rfl) vv_c vv_c hm3))) fun _ => tb_test (vv_op (len_v (R := Tr K) rfl hm3) vv_c rs_I0)) (by simp; omega)) w3 fun S4 H4 w4 s4 => ?_
    have s04 := s03.trans s4
    refine sq_for (ei_list (X := Tr K) (ys := []) (vv_call a (va_cons (vv_var rfl) (va_cons (vv_var rfl) (va_cons (vv_var rfl) (va_cons (vv_var rfl) va_nil)))) (fun S e => ⟨vr, vn, vm, rfl, Mono.up (s04.ex.trans e) hr0, Mono.up (s04.ex.trans e) hn0, Mono.up (s04.ex.trans e) hm0, ⟨by have := ho.rl; omega, by have := ho.nl; omega, by omega⟩, ho.m⟩) fun v S _ p => p)) w4 fun S5 H5 w5 s5 => ?_
    refine ⟨fun i s' S' H' => Wd Rs.nil S' H' ∧ Ex S5 S' ∧ S' = S5 ∧ H' = H5 ∧ s' = [some (.ref x), some (.int a.pages), some vr, some vn, some vm, none], ⟨w5, Ex.refl _, rfl, rfl, rfl⟩, fun i s' S' H' p => ⟨p.1, p.2.1⟩, ?_, ?_⟩
    · rintro i y v s' S' H' S3' H3' hi
      cases hi
    · rintro s' S' H' ⟨_, _, rfl, rfl, rfl⟩
      have s05 := s04.trans s5
      refine sq_fld n0 (vv_var rfl) (vv_var rfl) w5 (s05.kp _ _ n0 hx) (s05.fr _ (ne_none hx) hs) T.cl_Book T.na_Book_kept_pages (pfL pf0) fun v6 S6 H6 w6 s6 a6 h6 e6 => ?_
      subst e6
      refine sq_fld n0 (vv_var rfl) (ev_tupS (K := K) (R := IntR) (ev_v (R := SeqR K IntR) rfl (Mono.up (s05.ex.trans s6.ex) hr0))) w6 h6 a6 T.cl_Book T.na_Book_kept_rows (pfL (pfS pf0)) fun v7 S7 H7 w7 s7 a7 h7 t7 => ?_
      obtain ⟨r7, rfl, t7⟩ := tupref t7
      have e57 := s05.ex.trans (s6.ex.trans s7.ex)
      refine sq_fld n0 (vv_var rfl) (ev_tupS (K := K) (R := IntR) (ev_v (R := SeqR K IntR) rfl (Mono.up e57 hn0))) w7 h7 a7 T.cl_Book T.na_Book_kept_news (pfL (pfS (pfS pf0))) fun v8 S8 H8 w8 s8 a8 h8 t8 => ?_
      obtain ⟨r8, rfl, t8⟩ := tupref t8
      refine st_fld n0 (vv_var rfl) (ev_tupS (K := K) (R := Tr K) (ev_v (R := SeqR K (Tr K)) rfl (Mono.up (e57.trans s8.ex) hm0))) w8 h8 a8 T.cl_Book T.na_Book_kept_moves (pfL (pfS (pfS (pfS pf0)))) fun v9 S9 H9 w9 s9 a9 h9 t9 => ?_
      obtain ⟨r9, rfl, t9⟩ := tupref t9
      rw [bk_put] at h9
      exact q S9 H9 _ w9 (((s05.more).trans s6).trans ((s7.trans s8).trans s9)) a9 h9 ⟨r7, r8, r9, rfl, Mono.up (s8.ex.trans s9.ex) t7, Mono.up s9.ex t8, t9⟩
theorem G_Book_pages (T : TX P w K mg) : FnOk P w K mg base CX0 1 T.f_Book_pages T.fd_Book_pages ["self"] (getSp T.C_Book "kept_pages") := by
  refine T.F_Book_pages.ok sc_Book_pages (fun vs H Q E h => ?_) (fun cdv A outer s H vs Q E hr h => ?_)
  · obtain ⟨a, dx, fs, v, e, _⟩ := h
    rw [e]
    rfl
  · obtain ⟨a, dx, fs, v, e, ea, l, q⟩ := h
    subst e
    exact ⟨_, (pss_one (ps_ret (pe_fldK (K := K) (pv 0)))), .ref a, rfl, a, _, dx, fs, v, rfl, ea, T.cl_Book, T.na_Book_kept_pages, l, q⟩
theorem G_Book_rows (T : TX P w K mg) : FnOk P w K mg base CX0 1 T.f_Book_rows T.fd_Book_rows ["self"] (getSp T.C_Book "kept_rows") := by
  refine T.F_Book_rows.ok sc_Book_rows (fun vs H Q E h => ?_) (fun cdv A outer s H vs Q E hr h => ?_)
  · obtain ⟨a, dx, fs, v, e, _⟩ := h
    rw [e]
    rfl
  · obtain ⟨a, dx, fs, v, e, ea, l, q⟩ := h
    subst e
    exact ⟨_, (pss_one (ps_ret (pe_fldK (K := K) (pv 0)))), .ref a, rfl, a, _, dx, fs, v, rfl, ea, T.cl_Book, T.na_Book_kept_rows, l, q⟩
theorem G_Book_news (T : TX P w K mg) : FnOk P w K mg base CX0 1 T.f_Book_news T.fd_Book_news ["self"] (getSp T.C_Book "kept_news") := by
  refine T.F_Book_news.ok sc_Book_news (fun vs H Q E h => ?_) (fun cdv A outer s H vs Q E hr h => ?_)
  · obtain ⟨a, dx, fs, v, e, _⟩ := h
    rw [e]
    rfl
  · obtain ⟨a, dx, fs, v, e, ea, l, q⟩ := h
    subst e
    exact ⟨_, (pss_one (ps_ret (pe_fldK (K := K) (pv 0)))), .ref a, rfl, a, _, dx, fs, v, rfl, ea, T.cl_Book, T.na_Book_kept_news, l, q⟩
theorem G_Book_moves (T : TX P w K mg) : FnOk P w K mg base CX0 1 T.f_Book_moves T.fd_Book_moves ["self"] (getSp T.C_Book "kept_moves") := by
  refine T.F_Book_moves.ok sc_Book_moves (fun vs H Q E h => ?_) (fun cdv A outer s H vs Q E hr h => ?_)
  · obtain ⟨a, dx, fs, v, e, _⟩ := h
    rw [e]
    rfl
  · obtain ⟨a, dx, fs, v, e, ea, l, q⟩ := h
    subst e
    exact ⟨_, (pss_one (ps_ret (pe_fldK (K := K) (pv 0)))), .ref a, rfl, a, _, dx, fs, v, rfl, ea, T.cl_Book, T.na_Book_kept_moves, l, q⟩
/-- what the properties of a table give -/
theorem ev_bk {r : Rs} {s : L2.St} {S : Hp} {i : Nat} {a : BookD} {v : V} {C : Addr} {E : XK} (h : s[i]? = some (some v)) (hb : BookR K C a v S) :
    EvV r (tProp C (getSp C "kept_pages") [] E (tVar i)) s S (.int a.pages) ∧ (EvS r (tProp C (getSp C "kept_rows") [] E (tVar i)) s S fun v S1 => TupR K IntR a.rows v S1) ∧ (EvS r (tProp C (getSp C "kept_news") [] E (tVar i)) s S fun v S1 => TupR K IntR a.news v S1) ∧ (EvS r (tProp C (getSp C "kept_moves") [] E (tVar i)) s S fun v S1 => TupR K (Tr K) a.moves v S1) := by
  obtain ⟨x, dx, r, w, m, rfl, h2, h3, h4⟩ := hb
  exact ⟨vv_prop (vv_var h) h2 (bk_p _ _ _ _), (vv_prop (vv_var h) h2 (bk_r _ _ _ _)).imp fun v S1 e ev => by rw [ev]; exact Mono.up e h3.1, (vv_prop (vv_var h) h2 (bk_w _ _ _ _)).imp fun v S1 e ev => by rw [ev]; exact Mono.up e h3.2.1, (vv_prop (vv_var h) h2 (bk_m _ _ _ _)).imp fun v S1 e ev => by rw [ev]; exact Mono.up e h3.2.2⟩
end
end K29

namespace K29
open PySem PySem.Spec PyProof.Rows L2 Evl J RZ
section
variable {P : Program} {w : World} {K : PySem.W.Frag} {mg : Str → Option Value} {base : Heap}
/-- what the fields of a table give -/
theorem ev_bkf {r : Rs} {s : L2.St} {S : Hp} {i : Nat} {a : BookD} {v : V} {C : Addr} (h : s[i]? = some (some v)) (hb : BookR K C a v S) (c : Cls K C) (n1 : NoAttr K C "kept_rows") (n2 : NoAttr K C "kept_moves") :
    (EvS r (tFld K (tVar i) "kept_rows") s S fun v S1 => TupR K IntR a.rows v S1) ∧ (EvS r (tFld K (tVar i) "kept_moves") s S fun v S1 => TupR K (Tr K) a.moves v S1) := by
  obtain ⟨x, dx, r, w, m, rfl, h2, h3, h4⟩ := hb
  exact ⟨(vv_fld (vv_var h) h2 c n1 (bk_r _ _ _ _)).imp fun v S1 e ev => by rw [ev]; exact Mono.up e h3.1, (vv_fld (vv_var h) h2 c n2 (bk_m _ _ _ _)).imp fun v S1 e ev => by rw [ev]; exact Mono.up e h3.2.2⟩
def sp_Book_check (K : PySem.W.Frag) (C : Addr) : Sp := SpP (A := BookD × Int) (fun a vs S => ∃ v, vs = [v, .int a.2] ∧ BookR K C a.1 v S ∧ 0 ≤ a.2 ∧ a.2 < (a.1.rows.length : Int)) (fun _ v _ => v = .non)
theorem G_Book_check (T : TX P w K mg) : FnOk P w K mg base CX0 3 T.f_Book_check T.fd_Book_check ["self", "row"] (sp_Book_check K T.C_Book) := by
  refine T.F_Book_check.ok sc_Book_check (fun vs H Q E h => ?_) (fun cdv A outer s H vs Q E hr h => ?_)
  · obtain ⟨a, S, ⟨v, rfl, _⟩, _⟩ := h
    rfl
  · obtain ⟨⟨a, row⟩, S, ⟨v, rfl, hb, h0, h1⟩, w0, q⟩ := h.body
    refine ⟨_, (pss_one (ps_if (pt_not (pt_val (pe_call (G_is_between T) (hr.mono (by decide)) (by rfl) T.g_is_between T.F_is_between.kp T.b_is_between .nil pass0 (pa_cons (pv 1) (pa_cons pe_int (pa_cons (pe_op op_sub (pe_callB (call_lenK (K := K)) (by rfl) T.z_len (by decide +kernel) (pa_cons (pe_fldK (K := K) (pv 0)) pa_nil)) pe_int) pa_nil)))))) (pss_one ps_never) pss_nil)), ?_⟩
    dsimp only at h0 h1 hb
    exact st_ifNo (tb_not (a := true) (tb_B (vv_between (va_cons (vv_var rfl) (va_cons vv_c (va_cons (vv_op (vv_len (X := IntR) ((ev_bkf rfl hb T.cl_Book T.na_Book_kept_rows T.na_Book_kept_moves).1.imp fun v S1 _ h => .inr h)) vv_c rs_sub) va_nil))) (btw h0 (by omega))))) w0 fun S1 H1 w1 s1 => q _ S1 H1 w1 s1 rfl
def spotM (a : BookD) (row time : Int) : Int := a.moves.foldl (fun f m => if m.2.1 = row ∧ m.1 ≤ time then m.2.2 else f) (a.rows.getD row.toNat 0)
def sp_Book_spot (K : PySem.W.Frag) (C : Addr) : Sp := SpP (A := BookD × Int × Int) (fun a vs S => ∃ v, vs = [v, .int a.2.1, .int a.2.2] ∧ BookR K C a.1 v S ∧ 0 ≤ a.2.1 ∧ a.2.1 < (a.1.rows.length : Int)) (fun a v _ => v = .int (spotM a.1 a.2.1 a.2.2))
theorem getD_at {l : List Int} {j : Nat} (h : j < l.length) : l[j]? = some (l.getD j 0) := by
  rw [List.getD_eq_getElem?_getD, List.getElem?_eq_getElem h]
  rfl
theorem take_snoc {α : Type} {l : List α} {i : Nat} {x : α} (h : l[i]? = some x) : l.take (i + 1) = l.take i ++ [x] := by
  rw [List.take_add_one, h]
  rfl
theorem fold_snoc {α β : Type} {f : β → α → β} {l : List α} {i : Nat} {x : α} {b : β} (h : l[i]? = some x) : (l.take (i + 1)).foldl f b = f ((l.take i).foldl f b) x := by
  rw [take_snoc h, List.foldl_append]
  rfl
theorem G_Book_spot (T : TX P w K mg) : FnOk P w K mg base CX0 1 T.f_Book_spot T.fd_Book_spot ["self", "row", "time"] (sp_Book_spot K T.C_Book) := by
  refine T.F_Book_spot.ok sc_Book_spot (fun vs H Q E h => ?_) (fun cdv A outer s H vs Q E hr h => ?_)
  · obtain ⟨a, S, ⟨v, rfl, _⟩, _⟩ := h
    rfl
  · obtain ⟨⟨a, row, time⟩, S, ⟨v, rfl, hb, h0, h1⟩, w0, q⟩ := h.body
    refine ⟨_, (pss_cons (ps_set (i := 3) sc_Book_spot.nd rfl (Or.inl rfl) (pe_ix (ix_K (K := K)) (pe_fldK (K := K) (pv 0)) (pv 1) (fun _ _ => rfl)))
      (pss_cons (ps_for PassesOwn.never (by rfl) (pi_K (K := K) (pe_fldK (K := K) (pv 0))) (pg_tupK (K := K) (n := 3) (by rfl) (pgs_cons (pg_name (i := 4) sc_Book_spot.nd rfl (Or.inl rfl)) (pgs_cons (pg_name (i := 5) sc_Book_spot.nd rfl (Or.inl rfl)) (pgs_cons (pg_name (i := 6) sc_Book_spot.nd rfl (Or.inl rfl)) pgs_nil)))) (pss_one (ps_if (PW.pt (pw_and (pt_cmpR (op_eqK (K := K) hr.units) (pv 5) (pv 1) (nomark _)) (pw_and1 (pt_cmpR op_le (pv 4) (pv 2) (nomark _))))) (pss_one (ps_set (i := 3) sc_Book_spot.nd rfl (Or.inl rfl) (pv 6))) pss_nil)))
      (pss_one (ps_ret (pv 3))))), ?_⟩
    dsimp only at h0 h1 hb
    refine sq_asg (ev_ixT (K := K) (R := IntR) (i := row) (j := row.toNat) (a := a.rows.getD row.toNat 0) (ev_bkf rfl hb T.cl_Book T.na_Book_kept_rows T.na_Book_kept_moves).1 (fun S e => vv_var rfl) (getD_at (by omega)) (by omega)) w0 fun v1 S1 H1 w1 s1 e1 => ?_
    obtain rfl : v1 = .int _ := e1
    refine sq_for (ei_tup (X := Tr K) (ev_bkf rfl (Mono.up s1.ex hb) T.cl_Book T.na_Book_kept_rows T.na_Book_kept_moves).2) w1 fun S2 H2 w2 s2 => ?_
    refine ⟨fun i s' S' H' => Wd Rs.nil S' H' ∧ Ex S2 S' ∧ Stp Rs.nil S H S' H' ∧ ∃ y4 y5 y6, s' = [some v, some (.int row), some (.int time), some (.int ((a.moves.take i).foldl (fun f m => if m.2.1 = row ∧ m.1 ≤ time then m.2.2 else f) (a.rows.getD row.toNat 0))), y4, y5, y6], ⟨w2, Ex.refl _, s1.trans s2, none, none, none, rfl⟩, fun i s' S' H' p => ⟨p.1, p.2.1⟩, ?_, ?_⟩
    · rintro i m u s' S3 H3 S4 H4 hi ⟨w3, e3, s3, y4, y5, y6, rfl⟩ w4 s4 hu
      refine g_three (K := K) (R := IntR) (R' := IntR) (R'' := IntR) (p := m) rfl hu w4 fun x y z hx hy hz => ?_
      obtain rfl : x = _ := hx
      obtain rfl : y = _ := hy
      obtain rfl : z = _ := hz
      refine st_if (b := decide (m.2.1 = row) && decide (m.1 ≤ time)) (tb_and (tb_test (vv_op (vv_var rfl) (vv_var rfl) rs_eqI)) fun _ => tb_test (vv_op (vv_var rfl) (vv_var rfl) rs_I0)) w4 (fun hb S5 H5 w5 s5 => ?_) (fun hb S5 H5 w5 s5 => ?_)
      · refine st_asg (vv_var rfl) w5 fun v6 S6 H6 w6 s6 e6 => ?_
        subst e6
        refine ⟨S6, w6, e3.trans (s4.ex.trans (s5.ex.trans s6.ex)), s3.trans (s4.trans (s5.trans s6)), some (.int m.1), some (.int m.2.1), some (.int m.2.2), ?_⟩
        rw [fold_snoc hi, if_pos (by simpa using hb)]
        rfl
      · refine ⟨S5, w5, e3.trans (s4.ex.trans s5.ex), s3.trans (s4.trans s5), some (.int m.1), some (.int m.2.1), some (.int m.2.2), ?_⟩
        rw [fold_snoc hi, if_neg (by simpa using hb)]
        rfl
    · rintro s' S3 H3 ⟨w3, e3, s3, y4, y5, y6, rfl⟩
      refine st_ret (vv_var rfl) w3 fun v4 S4 H4 w4 s4 e4 => q v4 S4 H4 w4 (s3.trans s4) ?_
      rw [e4, List.take_length]
      rfl
end
end K29

namespace K29
open PySem PySem.Spec PyProof.Rows L2 Evl J RZ
section
variable {P : Program} {w : World} {K : PySem.W.Frag} {mg : Str → Option Value} {base : Heap}
/-! ### visits -/
def oldOf (a : BookD) (b : Int) : Int := a.pages + ((a.news.filter fun t => decide (t < b)).length : Int)
theorem ev_rd {r : Rs} {s : L2.St} {S : Hp} {i : Nat} {a : Int × Int × Int} {v : V} {C : Addr} {E : XK} (h : s[i]? = some (some v)) (hb : RdR C a v S) :
    EvV r (tProp C (getSp C "kept_begin") [] E (tVar i)) s S (.int a.1) ∧ EvV r (tProp C (getSp C "kept_page") [] E (tVar i)) s S (.int a.2.1) ∧ EvV r (tProp C (getSp C "kept_pace") [] E (tVar i)) s S (.int a.2.2) := by
  obtain ⟨x, dx, rfl, hx⟩ := hb
  exact ⟨vv_prop (vv_var h) hx (rd_b _ _ _), vv_prop (vv_var h) hx (rd_p _ _ _), vv_prop (vv_var h) hx (rd_c _ _ _)⟩
def sp_old_of (K : PySem.W.Frag) (CB CR : Addr) : Sp := SpP (A := BookD × Int × Int × Int) (fun a vs S => ∃ vb vr, vs = [vb, vr] ∧ BookR K CB a.1 vb S ∧ RdR CR a.2 vr S) (fun a v _ => v = .int (oldOf a.1 a.2.1))
theorem book_ok {a : BookD} {v : V} {S : Hp} {C : Addr} (h : BookR K C a v S) : BookOk a := by
  obtain ⟨_, _, _, _, _, _, _, _, h⟩ := h
  exact h
theorem G_old_of (T : TX P w K mg) : FnOk P w K mg base CX0 3 T.f_old_of T.fd_old_of ["book", "reader"] (sp_old_of K T.C_Book T.C_Reader) := by
  refine T.F_old_of.ok sc_old_of (fun vs H Q E h => ?_) (fun cdv A outer s H vs Q E hr h => ?_)
  · obtain ⟨a, S, ⟨vb, vr, rfl, _⟩, _⟩ := h
    rfl
  · obtain ⟨⟨a, rd⟩, S, ⟨vb, vr, rfl, hb, hrd⟩, w0, q⟩ := h.body
    refine ⟨_, (pss_one (ps_ret (pe_op (op_addK (K := K)) (pe_prop (pv 0) T.cl_Book T.p_Book_pages (G_Book_pages T) (hr.mono (by decide)) T.b_Book_pages .nil pass0 rfl) (pe_callB (call_lenK (K := K)) (by rfl) T.z_len (by decide +kernel) (pa_cons (pe_lc (own := [("time", 2)]) (by rfl) sc_old_of.nd (pi_K (K := K) (pe_prop (pv 0) T.cl_Book T.p_Book_news (G_Book_news T) (hr.mono (by decide)) T.b_Book_news .nil pass0 rfl)) (blkOk_by (own := [("time", 2)]) (N := N_old_of) (sc := (defScope s_old_of)) (by decide +kernel)) (fun _ _ _ _ _ => (pg_name (i := 2) sc_old_of.nd rfl (Or.inl rfl))) (fun _ _ _ _ _ => (pts_one (pt_cmpR op_lt (pv 2) (pe_prop (pv 1) T.cl_Reader T.p_Reader_begin (G_Reader_begin T) (hr.mono (by decide)) T.b_Reader_begin .nil pass0 rfl) (nomark _)))) (fun _ _ _ _ _ => (pv 2))) pa_nil))))), ?_⟩
    dsimp only at hb hrd
    have hn := (book_ok hb).nl
    exact st_ret (vv_op (ev_bk rfl hb).1 (vv_lenF (R := IntR) (fun t => decide (t < rd.1)) (ei_tup (ev_bk rfl hb).2.2.1) (by omega) (by intro _; rfl) (by intro _; rfl) fun y v S2 e m hy => by
      rw [show v = _ from hy]
      exact tb_test (vv_op (vv_var rfl) (ev_rd rfl (Mono.up e hrd)).1 rs_I0)) rs_add) w0 fun v S2 H2 w2 s2 e => q v S2 H2 w2 s2 e
theorem vv_old {r : Rs} {s : L2.St} {S : Hp} {ts : TA} {a : BookD} {rd : Int × Int × Int} {vb vr : V} {CB CR : Addr} (h : EvAV r ts s S [vb, vr]) (hb : BookR K CB a vb S) (hrd : RdR CR rd vr S) : EvV r (tCall (sp_old_of K CB CR) [] E0 ts) s S (.int (oldOf a rd.1)) :=
  vv_call (a, rd) h (fun S e => ⟨vb, vr, rfl, Mono.up e hb, Mono.up e hrd⟩) fun v _ _ p => p
def sp_check_reader (K : PySem.W.Frag) (CB CR : Addr) : Sp := SpP (A := BookD × Int × Int × Int) (fun a vs S => ∃ vb vr, vs = [vb, vr] ∧ BookR K CB a.1 vb S ∧ RdR CR a.2 vr S ∧ a.2.2.1 < oldOf a.1 a.2.1) (fun a v _ => v = .non)
theorem G_check_reader (T : TX P w K mg) : FnOk P w K mg base CX0 4 T.f_check_reader T.fd_check_reader ["book", "reader"] (sp_check_reader K T.C_Book T.C_Reader) := by
  refine T.F_check_reader.ok sc_check_reader (fun vs H Q E h => ?_) (fun cdv A outer s H vs Q E hr h => ?_)
  · obtain ⟨a, S, ⟨vb, vr, rfl, _⟩, _⟩ := h
    rfl
  · obtain ⟨⟨a, rd⟩, S, ⟨vb, vr, rfl, hb, hrd, hlt⟩, w0, q⟩ := h.body
    refine ⟨_, (pss_one (ps_if (PW.pt (pw_or (pt_not (pt_val (pe_callB (call_isiK2 (K := K)) (by rfl) T.z_isinstance (by decide +kernel) (pa_cons (pv 1) (pa_cons (pe_glob (v := .ref T.C_Reader) (by rfl) T.g_Reader rfl) pa_nil))))) (pw_or1 (pt_cmpR op_ge (pe_prop (pv 1) T.cl_Reader T.p_Reader_page (G_Reader_page T) (hr.mono (by decide)) T.b_Reader_page .nil pass0 rfl) (pe_call (G_old_of T) (hr.mono (by decide)) (by rfl) T.g_old_of T.F_old_of.kp T.b_old_of .nil pass0 (pa_cons (pv 0) (pa_cons (pv 1) pa_nil))) (nomark _))))) (pss_one ps_never) pss_nil)), ?_⟩
    dsimp only at hb hrd hlt
    obtain ⟨x, dx, e, hx⟩ := id hrd
    exact st_ifNo (EvB.is (tb_or (a := false) (tb_not (a := true) (tb_B (vv_isC (vv_var (by rw [← e]; rfl)) vv_c hx T.cl_Reader T.ty_Reader))) fun _ => tb_test (vv_op (ev_rd rfl hrd).2.1 (vv_old (va_cons (vv_var rfl) (va_cons (vv_var rfl) va_nil)) hb hrd) rs_I0)) (by simp; omega)) w0 fun S1 H1 w1 s1 => q _ S1 H1 w1 s1 rfl
theorem vv_chk {r : Rs} {s : L2.St} {S : Hp} {ts : TA} {a : BookD} {rd : Int × Int × Int} {vb vr : V} {CB CR : Addr} (h : EvAV r ts s S [vb, vr]) (hb : BookR K CB a vb S) (hrd : RdR CR rd vr S) (hlt : rd.2.1 < oldOf a rd.1) : EvV r (tCall (sp_check_reader K CB CR) [] E0 ts) s S .non :=
  vv_call (a, rd) h (fun S e => ⟨vb, vr, rfl, Mono.up e hb, Mono.up e hrd, hlt⟩) fun v _ _ p => p
def sp_old_pages (K : PySem.W.Frag) (CB CR : Addr) : Sp := SpP (A := BookD × Int × Int × Int) (fun a vs S => ∃ vb vr, vs = [vb, vr] ∧ BookR K CB a.1 vb S ∧ RdR CR a.2 vr S ∧ a.2.2.1 < oldOf a.1 a.2.1) (fun a v _ => v = .int (oldOf a.1 a.2.1))
/-- the k-th visit, many old pages -/
def visitM (many : Int) (rd : Int × Int × Int) (k : Nat) : Int × Int := (rd.1 + rd.2.2 * (k : Int), if (k : Int) < many then (rd.2.1 + (k : Int)) % many else (k : Int))
/-- how many visits, from L on -/
def visLen (a : BookD) (rd : Int × Int × Int) : Nat → Nat → Nat
  | 0, L => L
  | f + 1, L => if (L : Int) < pagesAt a.pages a.news (rd.1 + rd.2.2 * ((L : Int) - 1)) then visLen a rd f (L + 1) else L
def visN (a : BookD) (ag : Bool) (rd : Int × Int × Int) : Nat := if ag then visLen a rd 3 (oldOf a rd.1).toNat else (oldOf a rd.1).toNat
def visitsM (a : BookD) (ag : Bool) (rd : Int × Int × Int) : List (Int × Int) := (List.range (visN a ag rd)).map (visitM (oldOf a rd.1) rd)
end
end K29

namespace K29
open PySem PySem.Spec PyProof.Rows L2 Evl J RZ
section
variable {P : Program} {w : World} {K : PySem.W.Frag} {mg : Str → Option Value} {base : Heap}
structure RdOk (a : Int × Int × Int) : Prop where
  b : 0 ≤ a.1 ∧ a.1 ≤ 1000
  p : 0 ≤ a.2.1 ∧ a.2.1 ≤ 62
  c : 1 ≤ a.2.2 ∧ a.2.2 ≤ 4
theorem oldOf_bd {a : BookD} (h : BookOk a) (b : Int) : 1 ≤ oldOf a b ∧ oldOf a b ≤ 63 ∧ a.pages ≤ oldOf a b := by
  have h1 := h.p
  have h2 := h.nl
  have h3 := List.length_filter_le (fun t => decide (t < b)) a.news
  unfold oldOf
  omega
theorem pagesAt_le {a : BookD} (h : BookOk a) (t : Int) : pagesAt a.pages a.news t ≤ a.pages + 3 := by
  have h2 := h.nl
  have h3 := List.length_filter_le (fun x => decide (x ≤ t)) a.news
  unfold pagesAt
  omega
theorem atI_neg1 {xs : List V} {L : Nat} {v : V} (hl : xs.length = L) (h0 : 1 ≤ L) (h : xs[L - 1]? = some v) : atI xs (-1) = some v := by
  unfold atI ixN
  rw [if_neg (by decide), if_pos (by omega)]
  show xs[((-1 : Int) + (xs.length : Int)).toNat]? = _
  rw [show ((-1 : Int) + (xs.length : Int)).toNat = L - 1 by omega]
  exact h
def Pr (K : PySem.W.Frag) : Rl (Int × Int) := PairR K IntR IntR
instance {K : PySem.W.Frag} : Mono (Pr K) := inferInstanceAs (Mono (PairR K IntR IntR))
def sp_all_visits (K : PySem.W.Frag) (CB CU CR : Addr) : Sp := SpP (A := BookD × RuleD × Int × Int × Int) (fun a vs S => ∃ vb vu vr, vs = [vb, vu, vr] ∧ BookR K CB a.1 vb S ∧ RuleR K CU a.2.1 vu S ∧ RdR CR a.2.2 vr S ∧ RdOk a.2.2) (fun a v S => LstR (Pr K) (visitsM a.1 (decide (a.2.1.fresh = ("again" : Str))) a.2.2) v S)
theorem G_all_visits (T : TX P w K mg) : FnOk P w K mg base CX0 4 T.f_all_visits T.fd_all_visits ["book", "rule", "reader"] (sp_all_visits K T.C_Book T.C_Rule T.C_Reader) := by
  refine T.F_all_visits.ok sc_all_visits (fun vs H Q E h => ?_) (fun cdv A outer s H vs Q E hr h => ?_)
  · obtain ⟨a, S, ⟨vb, vu, vr, rfl, _⟩, _⟩ := h
    rfl
  · obtain ⟨⟨a, u, rd⟩, S, ⟨vb, vu, vr, rfl, hb, hu, hrd, ho⟩, w0, q⟩ := h.body
    refine ⟨_, (pss_cons (ps_set (i := 3) sc_all_visits.nd rfl (Or.inr rfl) (pe_call (G_old_of T) (hr.mono (by decide)) (by rfl) T.g_old_of T.F_old_of.kp T.b_old_of .nil pass0 (pa_cons (pv 0) (pa_cons (pv 2) pa_nil))))
      (pss_cons (ps_set (i := 4) sc_all_visits.nd rfl (Or.inr rfl) (pe_lc (own := [("at", 5)]) (by rfl) sc_all_visits.nd (pi_range1 (by rfl) T.z_range (pa_cons (pv 3) pa_nil)) (blkOk_by (own := [("at", 5)]) (N := N_all_visits) (sc := (defScope s_all_visits)) (by decide +kernel)) (fun _ _ _ _ _ => (pg_name (i := 5) sc_all_visits.nd rfl (Or.inl rfl))) (fun _ _ _ _ _ => pts_nil) (fun _ _ _ _ _ => (pe_tup (pa_cons (pe_op (op_addK (K := K)) (pe_prop (pv 2) T.cl_Reader T.p_Reader_begin (G_Reader_begin T) (hr.mono (by decide)) T.b_Reader_begin .nil pass0 rfl) (pe_op op_mulU (pe_prop (pv 2) T.cl_Reader T.p_Reader_pace (G_Reader_pace T) (hr.mono (by decide)) T.b_Reader_pace .nil pass0 rfl) (pv 5))) (pa_cons (pe_op op_mod (pe_op (op_addK (K := K)) (pe_prop (pv 2) T.cl_Reader T.p_Reader_page (G_Reader_page T) (hr.mono (by decide)) T.b_Reader_page .nil pass0 rfl) (pv 5)) (pv 3)) pa_nil))))))
      (pss_cons (ps_if (pt_cmpR (op_eqK (K := K) hr.units) (pe_prop (pv 1) T.cl_Rule T.p_Rule_fresh (G_Rule_fresh T) (hr.mono (by decide)) T.b_Rule_fresh .nil pass0 rfl) pe_str (nomark _)) (pss_one (ps_while PassesOwn.never (pt_cmpR op_gt (pe_op (op_addK (K := K)) (pe_callB (call_lenK (K := K)) (by rfl) T.z_len (by decide +kernel) (pa_cons (pe_lc (own := [("time", 6)]) (by rfl) sc_all_visits.nd (pi_K (K := K) (pe_prop (pv 0) T.cl_Book T.p_Book_news (G_Book_news T) (hr.mono (by decide)) T.b_Book_news .nil pass0 rfl)) (blkOk_by (own := [("time", 6)]) (N := N_all_visits) (sc := (defScope s_all_visits)) (by decide +kernel)) (fun _ _ _ _ _ => (pg_name (i := 6) sc_all_visits.nd rfl (Or.inl rfl))) (fun _ _ _ _ _ => (pts_one (pt_cmpR op_le (pv 6) (pe_ix (ix_K (K := K)) (pe_ix (ix_K (K := K)) (pv 4) (pe_un un_neg pe_int) (fun _ _ => rfl)) pe_int (fun _ _ => rfl)) (nomark _)))) (fun _ _ _ _ _ => (pv 6))) pa_nil)) (pe_prop (pv 0) T.cl_Book T.p_Book_pages (G_Book_pages T) (hr.mono (by decide)) T.b_Book_pages .nil pass0 rfl)) (pe_callB (call_lenK (K := K)) (by rfl) T.z_len (by decide +kernel) (pa_cons (pv 4) pa_nil)) (nomark _)) (pss_one (ps_expr (pe_bm PySem.F.plainAttrs_list PySem.F.slot_list_append PySem.F.type_list_append mt_append (pv 4) (pa_cons (pe_tup (pa_cons (pe_op (op_addK (K := K)) (pe_ix (ix_K (K := K)) (pe_ix (ix_K (K := K)) (pv 4) (pe_un un_neg pe_int) (fun _ _ => rfl)) pe_int (fun _ _ => rfl)) (pe_prop (pv 2) T.cl_Reader T.p_Reader_pace (G_Reader_pace T) (hr.mono (by decide)) T.b_Reader_pace .nil pass0 rfl)) (pa_cons (pe_callB (call_lenK (K := K)) (by rfl) T.z_len (by decide +kernel) (pa_cons (pv 4) pa_nil)) pa_nil))) pa_nil)))))) pss_nil)
      (pss_one (ps_ret (pv 4)))))), ?_⟩
    dsimp only at hb hu hrd ho q
    have bo := book_ok hb
    have bd := oldOf_bd bo rd.1
    refine sq_asg (vv_old (va_cons (vv_var rfl) (va_cons (vv_var rfl) va_nil)) hb hrd) w0 fun v1 S1 H1 w1 s1 e1 => ?_
    subst e1
    generalize hmany : oldOf a rd.1 = many at *
    refine sq_asgN (en_lcn (Yr := Pr K) (S := S1) (visitM many rd) (ei_range1 (va_cons (vv_var rfl) va_nil) (by omega)) (by rw [List.length_range]; omega) (by intro _; rfl) fun k x S2 e2 mk hk => ?_) w1 fun l o S2 H2 l0 l1 l2 w2 s2 ⟨ws, eo, hws⟩ => ?_
    · rw [show x = _ from hk]
      have hk2 := List.mem_range.mp mk
      have hr2 := Mono.up (s1.ex.trans e2) hrd
      have e0 : visitM many rd k = (rd.1 + rd.2.2 * (0 + (k : Int)), (rd.2.1 + (0 + (k : Int))) % many) := by
        unfold visitM
        rw [if_pos (by omega), Int.zero_add]
      rw [e0]
      exact ev_pair (K := K) (R := IntR) (R' := IntR) (vv_op (ev_rd rfl hr2).1 (vv_op (ev_rd rfl hr2).2.2 (vv_var rfl) (rs_mul (cmul_l (by have := ho.c; omega)))) rs_add) fun S3 e3 => vv_op (vv_op (ev_rd rfl (Mono.up e3 hr2)).2.1 (vv_var rfl) rs_add) (vv_var rfl) (rs_I (by omega))
    subst eo
    have nl : l ∉ Rs.nil.M := fun z => by cases z
    have hl0 : H l = none := pre_none s1 l0
    have fin : ∀ {S3 H3 : Hp} {ws3 : List V} {L : Nat} {y5 y6 : Option V}, Wd Rs.nil S3 H3 → Stp Rs.nil S H S3 H3 → S3 l = none → H3 l = some (.lst ws3) → All2 (Pr K) S3 ((List.range L).map (visitM many rd)) ws3 → L = visN a (decide (u.fresh = ("again" : Str))) rd → tRet (tVar 4) { nx := fun _ H' => Q .non H', rt := Q } [some vb, some vu, some vr, some (.int many), some (.ref l), y5, y6] H3 := fun {S3 H3 ws3 L y5 y6} w3 s3 n3 h3 a3 hL =>
      st_ret (S := upd S3 l (.lst ws3)) (vv_var rfl) (w3.settle h3 nl) fun v4 S4 H4 w4 s4 e4 => q v4 S4 H4 w4 ((s3.settle hl0 n3).trans s4) (by
        rw [e4]
        refine Mono.up (R := LstR (Pr K)) s4.ex ⟨l, ws3, rfl, upd_same, ?_⟩
        unfold visitsM
        rw [hmany, ← hL]
        exact a3.up (Ex.new n3))
    have s02 := s1.trans s2
    refine sq_if (b := decide (u.fresh = ("again" : Str))) (tb_test (vv_op (rule_prop (ev_v (R := RuleR K T.C_Rule) rfl (Mono.up s02.ex hu))) vv_c rs_eqS)) w2 (fun hag S3 H3 w3 s3 => ?_) (fun hag S3 H3 w3 s3 => ?_)
    · have hl3 := s3.kp l _ nl l1
      have n3 := s3.fr l (ne_none l1) l2
      refine st_while (fun m s' S' H' => ∃ L ws3 y5 y6, m ≤ 3 ∧ L = many.toNat + (3 - m) ∧ visLen a rd m L = visLen a rd 3 many.toNat ∧ Wd Rs.nil S' H' ∧ Ex S3 S' ∧ Stp Rs.nil S H S' H' ∧ S' l = none ∧ H' l = some (.lst ws3) ∧ All2 (Pr K) S' ((List.range L).map (visitM many rd)) ws3 ∧ s' = [some vb, some vu, some vr, some (.int many), some (.ref l), y5, y6]) (m0 := 3)
        ⟨many.toNat, ws, none, none, Nat.le_refl _, rfl, rfl, w3, Ex.refl _, s02.trans s3, n3, hl3, hws.up s3.ex, rfl⟩ ?_
      rintro m s' S4 H4 ⟨L, ws4, y5, y6, hm, hL, hv, w4, e4, s4, n4, hl4, a4, rfl⟩
      have hlen : ws4.length = L := by rw [a4.len, List.length_map, List.length_range]
      have hL1 : 1 ≤ L := by omega
      obtain ⟨x, hx1, hx2⟩ := a4.at (i := L - 1) (x := visitM many rd (L - 1)) (by rw [List.getElem?_map, List.getElem?_range (by omega)]; rfl)
      obtain ⟨p, x1, x2, rfl, hp, hx3, hx4⟩ := hx2
      obtain rfl : x1 = _ := hx3
      obtain rfl : x2 = _ := hx4
      have ex4 : Ex S4 (upd S4 l (.lst ws4)) := Ex.new n4
      have et : (visitM many rd (L - 1)).1 = rd.1 + rd.2.2 * ((L : Int) - 1) := by
        unfold visitM
        dsimp only
        rw [show ((L - 1 : Nat) : Int) = (L : Int) - 1 by omega]
      have last : ∀ {s : L2.St} {S5 : Hp}, Ex (upd S4 l (.lst ws4)) S5 → s[4]? = some (some (.ref l)) → EvV Rs.nil (tOp (rIx K) (tOp (rIx K) (tVar 4) (tUn (rU fun i => .int (-i)) (tC (.int 1)))) (tC (.int 0))) s S5 (.int (rd.1 + rd.2.2 * ((L : Int) - 1))) := fun e5 hs => by
        rw [← et]
        exact vv_op (vv_op (vv_var hs) (vv_un vv_c ru_neg') (rs_ixL' (SqL.of (e5 _ _ upd_same)) (atI_neg1 hlen hL1 hx1))) vv_c (rs_ixT' (ex_t (ex4.trans e5) hp) (atI_nat (j := 0) rfl))
      have hb4 := Mono.up (s4.ex.trans ex4) hb
      have hr4 := Mono.up (s4.ex.trans ex4) hrd
      have hn := bo.nl
      refine borrowT (b := decide ((ws4.length : Int) < ((a.news.filter fun t => decide (t ≤ rd.1 + rd.2.2 * ((L : Int) - 1))).length : Int) + a.pages)) (tb_test (vv_op (vv_op (vv_lenF (R := IntR) (fun t => decide (t ≤ rd.1 + rd.2.2 * ((L : Int) - 1))) (ei_tup (ev_bk rfl hb4).2.2.1) (by omega) (by intro _; rfl) (by intro _; rfl) fun y v S5 e5 m hy => by
        rw [show v = _ from hy]
        exact tb_test (vv_op (vv_var rfl) (last e5 rfl) rs_I0)) (ev_bk rfl hb4).1 rs_add) (vv_cb (va_cons (vv_var rfl) va_nil) (rc_lenL (SqL.of upd_same))) rs_I0)) w4 hl4 nl n4 fun S5 H5 w5 s5 n5 => ?_
      have hpa : ((a.news.filter fun t => decide (t ≤ rd.1 + rd.2.2 * ((L : Int) - 1))).length : Int) + a.pages = pagesAt a.pages a.news (rd.1 + rd.2.2 * ((L : Int) - 1)) := by
        unfold pagesAt
        omega
      rw [hpa, hlen]
      have hl5 := s5.kp l _ nl hl4
      by_cases hlt : (L : Int) < pagesAt a.pages a.news (rd.1 + rd.2.2 * ((L : Int) - 1))
      · rw [decide_eq_true hlt]
        have hle := pagesAt_le bo (rd.1 + rd.2.2 * ((L : Int) - 1))
        obtain ⟨m', rfl⟩ : ∃ m', m = m' + 1 := ⟨m - 1, by omega⟩
        have hv' : visLen a rd m' (L + 1) = visLen a rd 3 many.toNat := by
          rw [← hv]
          show _ = if (L : Int) < pagesAt a.pages a.news (rd.1 + rd.2.2 * ((L : Int) - 1)) then visLen a rd m' (L + 1) else L
          rw [if_pos hlt]
        refine wh_go ?_
        have ex5 : Ex (upd S4 l (.lst ws4)) (upd S5 l (.lst ws4)) := ex_both s5.ex
        refine st_appendN (c := .tup [.int (rd.1 + rd.2.2 * ((L : Int) - 1) + rd.2.2), .int (ws4.length : Int)]) nl (vv_var rfl) ((en_tup (va_cons (vv_op (last ex5 rfl) (ev_rd rfl (Mono.up ex5 hr4)).2.2 rs_add) (va_cons (vv_cb (va_cons (vv_var rfl) va_nil) (rc_lenL (SqL.of upd_same))) va_nil)) (fun vs _ e => by rw [e]; simp)).imp fun o S6 _ ⟨us, e6, e7⟩ => by rw [e6, e7]) w5 hl5 n5 (by omega) fun p6 S6 H6 w6 s6 n6 h6 hp6 => ?_
        have s46 : Stp Rs.nil S H S6 H6 := Stp.drop (s4.trans s5) s6 (fun b hb => by rw [List.mem_singleton.mp hb]; exact hl0)
        refine ⟨m', S6, by omega, L + 1, _, y5, y6, by omega, by omega, hv', w6, e4.trans (s5.ex.trans s6.ex), s46, n6, h6, ?_, rfl⟩
        rw [List.range_succ, List.map_append]
        refine (a4.up (s5.ex.trans s6.ex)).append (.cons ⟨p6, _, _, rfl, SqT.of hp6, ?_, ?_⟩ .nil)
        · show V.int _ = V.int _
          unfold visitM
          dsimp only
          congr 1
          rw [Int.mul_sub]
          omega
        · show V.int _ = V.int _
          unfold visitM
          dsimp only
          rw [if_neg (by omega), hlen]
      · rw [decide_eq_false hlt]
        refine fin w5 (s4.trans s5) n5 hl5 (a4.up s5.ex) ?_
        unfold visN
        rw [hag, if_pos rfl, hmany, ← hv]
        cases m with
        | zero => rfl
        | succ m =>
          show L = if (L : Int) < pagesAt a.pages a.news (rd.1 + rd.2.2 * ((L : Int) - 1)) then visLen a rd m (L + 1) else L
          rw [if_neg hlt]
    · refine fin w3 (s02.trans s3) (s3.fr l (ne_none l1) l2) (s3.kp l _ nl l1) (hws.up s3.ex) ?_
      unfold visN
      rw [hag, if_neg (by decide), hmany]
end
end K29

namespace K29
open PySem PySem.Spec PyProof.Rows L2 Evl J RZ
section
variable {P : Program} {w : World} {K : PySem.W.Frag} {mg : Str → Option Value} {base : Heap}
theorem bk_nomethod (n : Int) (r w m : Addr) (nm : Str) (h : nm = ("check" : Str) ∨ nm = ("spot" : Str) ∨ nm = ("there" : Str) ∨ nm = ("place" : Str) ∨ nm = ("all_parts" : Str)) : (bookF n r w m).lookup nm = none := by
  rcases h with rfl | rfl | rfl | rfl | rfl <;> kernel_rfl
theorem vv_bcheck {r : Rs} {s : L2.St} {S : Hp} {i : Nat} {ts : TA} {a : BookD} {row : Int} {v : V} {C : Addr} {E : XK} (h : s[i]? = some (some v)) (h2 : EvAV r ts s S [.int row]) (hb : BookR K C a v S) (h0 : 0 ≤ row) (h1 : row < (a.rows.length : Int)) : EvV r (tMeth C ("check" : Str) (sp_Book_check K C) [] E (tVar i) ts) s S .non :=
  ev_methP (Q1 := fun x _ => x = v) (vv_var h) h2 fun x S1 S2 e1 ex e2 => by
    subst ex
    obtain ⟨y, dx, r', w', m', rfl, g2, g3, g4⟩ := id hb
    exact ⟨y, dx, _, rfl, e1 _ _ g2, bk_nomethod _ _ _ _ _ (.inl rfl), (a, row), ⟨.ref y, rfl, Mono.up (e1.trans e2) hb, h0, h1⟩, fun v S3 _ p => p⟩
theorem vv_bspot {r : Rs} {s : L2.St} {S : Hp} {i : Nat} {ts : TA} {a : BookD} {row time : Int} {v : V} {C : Addr} {E : XK} (h : s[i]? = some (some v)) (h2 : EvAV r ts s S [.int row, .int time]) (hb : BookR K C a v S) (h0 : 0 ≤ row) (h1 : row < (a.rows.length : Int)) : EvV r (tMeth C ("spot" : Str) (sp_Book_spot K C) [] E (tVar i) ts) s S (.int (spotM a row time)) :=
  ev_methP (Q1 := fun x _ => x = v) (vv_var h) h2 fun x S1 S2 e1 ex e2 => by
    subst ex
    obtain ⟨y, dx, r', w', m', rfl, g2, g3, g4⟩ := id hb
    exact ⟨y, dx, _, rfl, e1 _ _ g2, bk_nomethod _ _ _ _ _ (.inr (.inl rfl)), (a, row, time), ⟨.ref y, rfl, Mono.up (e1.trans e2) hb, h0, h1⟩, fun v S3 _ p => p⟩
theorem ev_allv {r : Rs} {s : L2.St} {S : Hp} {ts : TA} {a : BookD} {u : RuleD} {rd : Int × Int × Int} {vb vu vr : V} {CB CU CR : Addr} (h : EvAV r ts s S [vb, vu, vr]) (hb : BookR K CB a vb S) (hu : RuleR K CU u vu S) (hrd : RdR CR rd vr S) (ho : RdOk rd) : EvS r (tCall (sp_all_visits K CB CU CR) [] E0 ts) s S fun v S1 => LstR (Pr K) (visitsM a (decide (u.fresh = ("again" : Str))) rd) v S1 :=
  vv_call (a, u, rd) h (fun S e => ⟨vb, vu, vr, rfl, Mono.up e hb, Mono.up e hu, Mono.up e hrd, ho⟩) fun v _ _ p => p
def sp_visits (K : PySem.W.Frag) (CB CU CR : Addr) : Sp := SpP (A := BookD × RuleD × Int × Int × Int) (fun a vs S => ∃ vb vu vr, vs = [vb, vu, vr] ∧ BookR K CB a.1 vb S ∧ RuleR K CU a.2.1 vu S ∧ RdR CR a.2.2 vr S ∧ RdOk a.2.2 ∧ a.2.2.2.1 < oldOf a.1 a.2.2.1) (fun a v S => TupR K (Pr K) (visitsM a.1 (decide (a.2.1.fresh = ("again" : Str))) a.2.2) v S)
theorem G_visits (T : TX P w K mg) : FnOk P w K mg base CX0 5 T.f_visits T.fd_visits ["book", "rule", "reader"] (sp_visits K T.C_Book T.C_Rule T.C_Reader) := by
  refine T.F_visits.ok sc_visits (fun vs H Q E h => ?_) (fun cdv A outer s H vs Q E hr h => ?_)
  · obtain ⟨a, S, ⟨vb, vu, vr, rfl, _⟩, _⟩ := h
    rfl
  · obtain ⟨⟨a, u, rd⟩, S, ⟨vb, vu, vr, rfl, hb, hu, hrd, ho, hlt⟩, w0, q⟩ := h.body
    refine ⟨_, (pss_cons (ps_expr (pe_call (G_check_reader T) (hr.mono (by decide)) (by rfl) T.g_check_reader T.F_check_reader.kp T.b_check_reader .nil pass0 (pa_cons (pv 0) (pa_cons (pv 2) pa_nil))))
      (pss_one (ps_ret (pe_callTy (call_tupleK (K := K)) (by rfl) T.z_tuple (by decide +kernel) (pa_cons (pe_call (G_all_visits T) (hr.mono (by decide)) (by rfl) T.g_all_visits T.F_all_visits.kp T.b_all_visits .nil pass0 (pa_cons (pv 0) (pa_cons (pv 1) (pa_cons (pv 2) pa_nil)))) pa_nil))))), ?_⟩
    dsimp only at hb hu hrd ho hlt
    refine sq_drop (vv_chk (va_cons (vv_var rfl) (va_cons (vv_var rfl) va_nil)) hb hrd hlt) w0 fun _ S1 H1 w1 s1 _ => ?_
    exact st_ret (ev_tupS (K := K) (R := Pr K) ((ev_allv (va_cons (vv_var rfl) (va_cons (vv_var rfl) (va_cons (vv_var rfl) va_nil))) (Mono.up s1.ex hb) (Mono.up s1.ex hu) (Mono.up s1.ex hrd) ho).imp fun v S2 _ h => .inl h)) w1 fun v S2 H2 w2 s2 p => q v S2 H2 w2 (s1.trans s2) p
theorem visLen_ge (a : BookD) (rd : Int × Int × Int) : ∀ f L, L ≤ visLen a rd f L
  | 0, L => Nat.le_refl _
  | f + 1, L => by
    unfold visLen
    split
    · exact Nat.le_trans (Nat.le_succ L) (visLen_ge a rd f (L + 1))
    · exact Nat.le_refl _
theorem visN_pos {a : BookD} (h : BookOk a) (ag : Bool) (rd : Int × Int × Int) : 1 ≤ visN a ag rd := by
  have h1 := oldOf_bd h rd.1
  unfold visN
  split
  · have := visLen_ge a rd 3 (oldOf a rd.1).toNat
    omega
  · omega
/-- the last visit's time -/
def endM (a : BookD) (ag : Bool) (rd : Int × Int × Int) : Int := rd.1 + rd.2.2 * ((visN a ag rd : Int) - 1)
theorem last_time {r : Rs} {s : L2.St} {S : Hp} {ta : TE} {a : BookD} {ag : Bool} {rd : Int × Int × Int} (ho : BookOk a) (h : EvS r ta s S fun v S1 => LstR (Pr K) (visitsM a ag rd) v S1) : EvV r (tOp (rIx K) (tOp (rIx K) ta (tUn (rU fun i => .int (-i)) (tC (.int 1)))) (tC (.int 0))) s S (.int (endM a ag rd)) := by
  have hp := visN_pos ho ag rd
  refine ev_op2 (A := fun v S1 => Pr K (visitM (oldOf a rd.1) rd (visN a ag rd - 1)) v S1) (B := fun v _ => v = .int 0) (ev_op2 h (fun _ S1 e _ => vv_un vv_c ru_neg') fun x y S1 S2 _ ⟨b, vs, h1, h2, h3⟩ e2 hy => ?_) (fun _ S1 e _ => vv_c) fun x y S1 S2 _ hx e2 hy => ?_
  · subst h1
    subst hy
    have hlen : vs.length = visN a ag rd := by
      rw [h3.len]
      unfold visitsM
      rw [List.length_map, List.length_range]
    obtain ⟨v, g1, g2⟩ := h3.at (i := visN a ag rd - 1) (x := visitM (oldOf a rd.1) rd (visN a ag rd - 1)) (by unfold visitsM; rw [List.getElem?_map, List.getElem?_range (by omega)]; rfl)
    exact ⟨v, rs_ixL' (SqL.of (e2 _ _ h2)) (atI_neg1 hlen hp g1), Mono.up e2 g2⟩
  · obtain ⟨b, x1, x2, e, h1, h2, h3⟩ := hx
    subst e
    subst hy
    obtain rfl : x1 = _ := h2
    refine ⟨_, rs_ixT' (ex_t e2 h1) (atI_nat (j := 0) rfl), ?_⟩
    unfold visitM endM
    dsimp only
    rw [show ((visN a ag rd - 1 : Nat) : Int) = (visN a ag rd : Int) - 1 by omega]
def sp_end (K : PySem.W.Frag) (CB CU CR : Addr) : Sp := SpP (A := BookD × RuleD × Int × Int × Int) (fun a vs S => ∃ vb vu vr, vs = [vb, vu, vr] ∧ BookR K CB a.1 vb S ∧ RuleR K CU a.2.1 vu S ∧ RdR CR a.2.2 vr S ∧ RdOk a.2.2 ∧ a.2.2.2.1 < oldOf a.1 a.2.2.1) (fun a v S => v = .int (endM a.1 (decide (a.2.1.fresh = ("again" : Str))) a.2.2))
theorem G_end (T : TX P w K mg) : FnOk P w K mg base CX0 5 T.f_end T.fd_end ["book", "rule", "reader"] (sp_end K T.C_Book T.C_Rule T.C_Reader) := by
  refine T.F_end.ok sc_end (fun vs H Q E h => ?_) (fun cdv A outer s H vs Q E hr h => ?_)
  · obtain ⟨a, S, ⟨vb, vu, vr, rfl, _⟩, _⟩ := h
    rfl
  · obtain ⟨⟨a, u, rd⟩, S, ⟨vb, vu, vr, rfl, hb, hu, hrd, ho, hlt⟩, w0, q⟩ := h.body
    refine ⟨_, (pss_cons (ps_expr (pe_call (G_check_reader T) (hr.mono (by decide)) (by rfl) T.g_check_reader T.F_check_reader.kp T.b_check_reader .nil pass0 (pa_cons (pv 0) (pa_cons (pv 2) pa_nil))))
      (pss_one (ps_ret (pe_ix (ix_K (K := K)) (pe_ix (ix_K (K := K)) (pe_call (G_all_visits T) (hr.mono (by decide)) (by rfl) T.g_all_visits T.F_all_visits.kp T.b_all_visits .nil pass0 (pa_cons (pv 0) (pa_cons (pv 1) (pa_cons (pv 2) pa_nil)))) (pe_un un_neg pe_int) (fun _ _ => rfl)) pe_int (fun _ _ => rfl))))), ?_⟩
    dsimp only at hb hu hrd ho hlt
    refine sq_drop (vv_chk (va_cons (vv_var rfl) (va_cons (vv_var rfl) va_nil)) hb hrd hlt) w0 fun _ S1 H1 w1 s1 _ => ?_
    exact st_ret (last_time (book_ok hb) (ev_allv (va_cons (vv_var rfl) (va_cons (vv_var rfl) (va_cons (vv_var rfl) va_nil))) (Mono.up s1.ex hb) (Mono.up s1.ex hu) (Mono.up s1.ex hrd) ho)) w1 fun v S2 H2 w2 s2 p => q v S2 H2 w2 (s1.trans s2) p
def sp_home_of (K : PySem.W.Frag) (CB CR : Addr) : Sp := SpP (A := (BookD × Int × Int × Int) × Int) (fun a vs S => ∃ vb vr, vs = [vb, vr, .int a.2] ∧ BookR K CB a.1.1 vb S ∧ RdR CR a.1.2 vr S ∧ 0 ≤ a.2 ∧ a.2 < (a.1.1.rows.length : Int)) (fun a v _ => v = .int (spotM a.1.1 a.2 (a.1.2.1 - 1)))
theorem G_home_of (T : TX P w K mg) : FnOk P w K mg base CX0 3 T.f_home_of T.fd_home_of ["book", "reader", "row"] (sp_home_of K T.C_Book T.C_Reader) := by
  refine T.F_home_of.ok sc_home_of (fun vs H Q E h => ?_) (fun cdv A outer s H vs Q E hr h => ?_)
  · obtain ⟨a, S, ⟨vb, vr, rfl, _⟩, _⟩ := h
    rfl
  · obtain ⟨⟨⟨a, rd⟩, row⟩, S, ⟨vb, vr, rfl, hb, hrd, h0, h1⟩, w0, q⟩ := h.body
    refine ⟨_, (pss_one (ps_ret (pe_meth (pv 0) T.cl_Book T.m_Book_spot (G_Book_spot T) (hr.mono (by decide)) T.b_Book_spot .nil pass0 (pa_cons (pv 2) (pa_cons (pe_op op_sub (pe_prop (pv 1) T.cl_Reader T.p_Reader_begin (G_Reader_begin T) (hr.mono (by decide)) T.b_Reader_begin .nil pass0 rfl) pe_int) pa_nil))))), ?_⟩
    dsimp only at hb hrd h0 h1
    exact st_ret (vv_bspot rfl (va_cons (vv_var rfl) (va_cons (vv_op (ev_rd rfl hrd).1 vv_c rs_sub) va_nil)) hb h0 h1) w0 fun v S2 H2 w2 s2 e => q v S2 H2 w2 s2 e
theorem vv_homeof {r : Rs} {s : L2.St} {S : Hp} {ts : TA} {a : BookD} {rd : Int × Int × Int} {row : Int} {vb vr : V} {CB CR : Addr} (h : EvAV r ts s S [vb, vr, .int row]) (hb : BookR K CB a vb S) (hrd : RdR CR rd vr S) (h0 : 0 ≤ row) (h1 : row < (a.rows.length : Int)) : EvV r (tCall (sp_home_of K CB CR) [] E0 ts) s S (.int (spotM a row (rd.1 - 1))) :=
  vv_call ((a, rd), row) h (fun S e => ⟨vb, vr, rfl, Mono.up e hb, Mono.up e hrd, h0, h1⟩) fun v _ _ p => p
def sp_home (K : PySem.W.Frag) (CB CR : Addr) : Sp := SpP (A := (BookD × Int × Int × Int) × Int) (fun a vs S => ∃ vb vr, vs = [vb, vr, .int a.2] ∧ BookR K CB a.1.1 vb S ∧ RdR CR a.1.2 vr S ∧ a.1.2.2.1 < oldOf a.1.1 a.1.2.1 ∧ 0 ≤ a.2 ∧ a.2 < (a.1.1.rows.length : Int)) (fun a v _ => v = .int (spotM a.1.1 a.2 (a.1.2.1 - 1)))
end
end K29

namespace K29
open PySem PySem.Spec PyProof.Rows L2 Evl J RZ
section
variable {P : Program} {w : World} {K : PySem.W.Frag} {mg : Str → Option Value} {base : Heap}
/-! ### a row of moves that cannot be made, and what a table says of it -/
def UR (K : PySem.W.Frag) : Rl ((Int × Int × Int) ⊕ V) := fun a v S => match a with
  | .inl m => Tr K m v S
  | .inr u => v = u
theorem ur_up {S S' : Hp} (e : Ex S S') : ∀ (a : (Int × Int × Int) ⊕ V) (v : V), UR K a v S → UR K a v S'
  | .inl _, _, h => Mono.up (R := Tr K) e h
  | .inr _, _, h => h
instance {K : PySem.W.Frag} : Mono (UR K) := ⟨fun e h => ur_up e _ _ h⟩
/-- (t, row, z), where z is no number -/
def OddT (K : PySem.W.Frag) (sp : List Int) (bf : Int) (u : V) (S : Hp) : Prop := ∃ p t row z d, u = .ref p ∧ SqT K S p [.int t, .int row, z] ∧ (bf ≤ t ∧ t ≤ 2000) ∧ (0 ≤ row ∧ row ≤ (sp.length : Int) - 1) ∧ NonInt K z S ∧ Dp K S u d ∧ d.canLay0 = true ∧ d.depth ≤ 10
theorem oddt_up {sp : List Int} {bf : Int} {u : V} {S S' : Hp} (e : Ex S S') (h : OddT K sp bf u S) : OddT K sp bf u S' := by
  obtain ⟨p, t, row, z, d, h1, h2, h3, h4, h5, h6, h7⟩ := h
  exact ⟨p, t, row, z, d, h1, ex_t e h2, h3, h4, ni_up e h5, dp_up e _ _ h6, h7⟩
def FW (K : PySem.W.Frag) (pages : Int) (news : List Int) : List Int → Int → List ((Int × Int × Int) ⊕ V) → Hp → Prop
  | _, _, [], _ => False
  | sp, bf, .inl m :: r, S => canB pages news sp bf m = true → FW K pages news (sp.set m.2.1.toNat m.2.2) m.1 r S
  | sp, bf, .inr u :: _, S => OddT K sp bf u S
theorem fw_up {pages : Int} {news : List Int} {S S' : Hp} (e : Ex S S') : ∀ (l : List ((Int × Int × Int) ⊕ V)) (sp : List Int) (bf : Int), FW K pages news sp bf l S → FW K pages news sp bf l S'
  | [], _, _, h => h
  | .inl m :: r, sp, bf, h => fun hc => fw_up e r _ _ ((show canB pages news sp bf m = true → FW K pages news (sp.set m.2.1.toNat m.2.2) m.1 r S from h) hc)
  | .inr u :: r, sp, bf, h => oddt_up e h
section
variable {r : Rs} {s : L2.St} {S : Hp}
theorem sq_ix3 {i : Nat} {p : Addr} {x y z : V} (h : s[i]? = some (some (.ref p))) (h1 : SqT K S p [x, y, z]) : EvV r (tOp (rIx K) (tVar i) (tC (.int 0))) s S x ∧ EvV r (tOp (rIx K) (tVar i) (tC (.int 1))) s S y ∧ EvV r (tOp (rIx K) (tVar i) (tC (.int 2))) s S z ∧ EvV r (tCB (rLenU K) (tCons (tVar i) tNil)) s S (.int 3) :=
  ⟨vv_op (vv_var h) vv_c (rs_ixT' h1 (atI_nat (j := 0) rfl)), vv_op (vv_var h) vv_c (rs_ixT' h1 (atI_nat (j := 1) rfl)), vv_op (vv_var h) vv_c (rs_ixT' h1 (atI_nat (j := 2) rfl)), vv_cb (va_cons (vv_var h) va_nil) (rc_lenT h1)⟩
end
def sp_cbmX (K : PySem.W.Frag) : Sp := SpP (A := Int × List Int × List Int × Int × V) (fun a vs S => ∃ vn vp, vs = [.int a.1, vn, vp, .int a.2.2.2.1, a.2.2.2.2] ∧ SeqR K IntR a.2.1 vn S ∧ a.2.1.length ≤ 1000 ∧ LstR IntR a.2.2.1 vp S ∧ a.2.2.1.length ≤ 1000 ∧ OddT K a.2.2.1 a.2.2.2.1 a.2.2.2.2 S) (fun _ v _ => v = .bl false)
theorem GX_can_be_made (T : TX P w K mg) : FnOk P w K mg base (L2N.CX P w) 3 T.f_can_be_made T.fd_can_be_made ["pages", "news", "spots", "before", "move"] (sp_cbmX K) := by
  refine ok_N T.F_can_be_made sc_can_be_made (fun vs H Q E h => ?_) (fun cdv A outer s H vs Q E hr h => ?_)
  · obtain ⟨a, S, ⟨vn, vp, rfl, _⟩, _⟩ := h
    rfl
  · obtain ⟨⟨pages, news, spots, before, u⟩, S, ⟨vn, vp, rfl, hn, hnl, hp, hpl, ho⟩, w0, q⟩ := h.body
    dsimp only at hn hnl hp hpl ho
    obtain ⟨p, t, row, z, d, rfl, ht, ⟨t0, t1⟩, ⟨r0, r1⟩, hz, _⟩ := ho
    refine ⟨_, (pss_cons (ps_if (PW.pt (pw_or (pt_not (pt_val (pe_callB (call_isiK2 (K := K)) (by rfl) T.z_isinstance (by decide +kernel) (pa_cons (pv 4) (pa_cons (pe_bltn (v := .ty "tuple") (by rfl) T.z_tuple (by decide +kernel) rfl) pa_nil))))) (pw_or (pt_cmpR (op_neK (K := K) hr.units) (pe_callB (call_lenK (K := K)) (by rfl) T.z_len (by decide +kernel) (pa_cons (pv 4) pa_nil)) pe_int (nomark _)) (pw_or1 (pt_not (pt_val (pe_alt (pe_call (G_is_between T) (hr.mono (by decide)) (by rfl) T.g_is_between T.F_is_between.kp T.b_is_between .nil pass0 (pa_cons (pe_ix (ix_K (K := K)) (pv 4) pe_int (fun _ _ => rfl)) (pa_cons (pv 3) (pa_cons (pe_const (by rfl) T.c_MOST_TIME) pa_nil)))) (pe_call (GX_is_between T) (hr.mono (by decide)) (by rfl) T.g_is_between T.F_is_between.kp T.b_is_between .nil passN (pa_cons (pe_ix (ix_K (K := K)) (pv 4) pe_int (fun _ _ => rfl)) (pa_cons (pv 3) (pa_cons (pe_const (by rfl) T.c_MOST_TIME) pa_nil))))))))))) (pss_one (ps_ret pe_bl)) pss_nil)
      (pss_cons (ps_if (pt_not (pt_val (pe_alt (pe_call (G_is_between T) (hr.mono (by decide)) (by rfl) T.g_is_between T.F_is_between.kp T.b_is_between .nil pass0 (pa_cons (pe_ix (ix_K (K := K)) (pv 4) pe_int (fun _ _ => rfl)) (pa_cons pe_int (pa_cons (pe_op op_sub (pe_callB (call_lenK (K := K)) (by rfl) T.z_len (by decide +kernel) (pa_cons (pv 2) pa_nil)) pe_int) pa_nil)))) (pe_call (GX_is_between T) (hr.mono (by decide)) (by rfl) T.g_is_between T.F_is_between.kp T.b_is_between .nil passN (pa_cons (pe_ix (ix_K (K := K)) (pv 4) pe_int (fun _ _ => rfl)) (pa_cons pe_int (pa_cons (pe_op op_sub (pe_callB (call_lenK (K := K)) (by rfl) T.z_len (by decide +kernel) (pa_cons (pv 2) pa_nil)) pe_int) pa_nil))))))) (pss_one (ps_ret pe_bl)) pss_nil)
      (pss_one (ps_ret (pe_and (pe_alt (pe_call (G_is_between T) (hr.mono (by decide)) (by rfl) T.g_is_between T.F_is_between.kp T.b_is_between .nil pass0 (pa_cons (pe_ix (ix_K (K := K)) (pv 4) pe_int (fun _ _ => rfl)) (pa_cons pe_int (pa_cons (pe_op op_sub (pe_call (G_pages_at T) (hr.mono (by decide)) (by rfl) T.g_pages_at T.F_pages_at.kp T.b_pages_at .nil pass0 (pa_cons (pv 0) (pa_cons (pv 1) (pa_cons (pe_ix (ix_K (K := K)) (pv 4) pe_int (fun _ _ => rfl)) pa_nil)))) pe_int) pa_nil)))) (pe_call (GX_is_between T) (hr.mono (by decide)) (by rfl) T.g_is_between T.F_is_between.kp T.b_is_between .nil passN (pa_cons (pe_ix (ix_K (K := K)) (pv 4) pe_int (fun _ _ => rfl)) (pa_cons pe_int (pa_cons (pe_op op_sub (pe_call (G_pages_at T) (hr.mono (by decide)) (by rfl) T.g_pages_at T.F_pages_at.kp T.b_pages_at .nil pass0 (pa_cons (pv 0) (pa_cons (pv 1) (pa_cons (pe_ix (ix_K (K := K)) (pv 4) pe_int (fun _ _ => rfl)) pa_nil)))) pe_int) pa_nil))))) (pe_one (pe_cmpR (op_neK (K := K) hr.units) (pe_ix (ix_K (K := K)) (pv 4) pe_int (fun _ _ => rfl)) (pe_ix (ix_K (K := K)) (pv 2) (pe_ix (ix_K (K := K)) (pv 4) pe_int (fun _ _ => rfl)) (fun _ _ => rfl)) (nomark _)))))))), ?_⟩
    refine sq_ifNo (EvB.is (tb_or (a := false) (tb_not (a := true) (tb_B (vv_isT (vv_var rfl) vv_c (tyx_tup ht) (by decide +kernel)))) fun _ => tb_or (a := false) (tb_test ((vv_op (sq_ix3 rfl ht).2.2.2 vv_c rs_neI).is rfl)) fun _ => tb_not (a := true) (tb_B (tb_altF (va_cons (sq_ix3 rfl ht).1 (va_cons (vv_var rfl) (va_cons vv_c va_nil))) ⟨t, rfl, t0, t1⟩))) rfl) w0 fun S1 H1 w1 s1 => ?_
    have ht1 := ex_t s1.ex ht
    have hp1 := Mono.up s1.ex hp
    refine sq_ifNo (tb_not (a := true) (tb_B (tb_altF (va_cons (sq_ix3 rfl ht1).2.1 (va_cons vv_c (va_cons (vv_op (len_v (R := IntR) rfl (.inl hp1)) vv_c rs_sub) va_nil))) ⟨row, rfl, r0, r1⟩))) w1 fun S2 H2 w2 s2 => ?_
    have ht2 := ex_t s2.ex ht1
    have hn2 := Mono.up s2.ex (Mono.up s1.ex hn)
    refine st_ret (R := fun v _ => v = .bl false) (vv_and (a := false) (b := false) (tb_altB (va_cons (sq_ix3 rfl ht2).2.2.1 (va_cons vv_c (va_cons (vv_op (vv_pages (vv_var rfl) (vv_var rfl) hn2 hnl (sq_ix3 rfl ht2).1) vv_c rs_sub) va_nil))) (.inl (ni_up (s1.ex.trans s2.ex) hz))) fun z => nomatch z) w2 fun v S3 H3 w3 s3 e => q v S3 H3 w3 (s1.trans (s2.trans s3)) e
def sp_fwX (K : PySem.W.Frag) : Sp := SpP (A := Int × List Int × List Int × List ((Int × Int × Int) ⊕ V)) (fun a vs S => ∃ vr vn vm, vs = [.int a.1, vr, vn, vm] ∧ SeqR K IntR a.2.1 vr S ∧ SeqR K IntR a.2.2.1 vn S ∧ SeqR K (UR K) a.2.2.2 vm S ∧ (a.2.1.length ≤ 1000 ∧ a.2.2.1.length ≤ 1000) ∧ FW K a.1 a.2.2.1 a.2.1 0 a.2.2.2 S) (fun _ v S => ∃ l u d, v = .ref l ∧ S l = some (.lst [u]) ∧ Dp K S u d ∧ d.canLay0 = true ∧ d.depth ≤ 10)
theorem GX_first_wrong (T : TX P w K mg) : FnOk P w K mg base (L2N.CX P w) 4 T.f_first_wrong T.fd_first_wrong ["pages", "rows", "news", "moves"] (sp_fwX K) := by
  refine ok_N T.F_first_wrong sc_first_wrong (fun vs H Q E h => ?_) (fun cdv A outer s H vs Q E hr h => ?_)
  · obtain ⟨a, S, ⟨vr, vn, vm, rfl, _⟩, _⟩ := h
    rfl
  · obtain ⟨⟨pages, rows, news, ms⟩, S, ⟨vr, vn, vm, rfl, hr0, hn0, hm0, ⟨l1, l2⟩, hfw⟩, w0, q⟩ := h.body
    dsimp only at hr0 hn0 hm0 l1 l2 hfw q
    refine ⟨_, (pss_cons (ps_par (i := 4) (j := 5) (by rfl) sc_first_wrong.nd rfl rfl (by decide) rfl rfl (pa_cons (pe_callTy (call_listK (K := K)) (by rfl) T.z_list (by decide +kernel) (pa_cons (pv 1) pa_nil)) (pa_cons pe_int pa_nil)) (by rfl))
      (pss_cons (ps_for ownN (by rfl) (pi_K (K := K) (pv 3)) (pg_name (i := 6) sc_first_wrong.nd rfl (Or.inl rfl)) (pss_cons (ps_if (pt_not (pt_val (pe_alt (pe_call (G_can_be_made T) (hr.mono (by decide)) (by rfl) T.g_can_be_made T.F_can_be_made.kp T.b_can_be_made .nil pass0 (pa_cons (pv 0) (pa_cons (pv 2) (pa_cons (pv 4) (pa_cons (pv 5) (pa_cons (pv 6) pa_nil)))))) (pe_call (GX_can_be_made T) (hr.mono (by decide)) (by rfl) T.g_can_be_made T.F_can_be_made.kp T.b_can_be_made .nil passN (pa_cons (pv 0) (pa_cons (pv 2) (pa_cons (pv 4) (pa_cons (pv 5) (pa_cons (pv 6) pa_nil))))))))) (pss_one (ps_ret (pe_lst (pa_cons (pv 6) pa_nil)))) pss_nil)
        (pss_cons (ps_asg (pv 6) (pg_tupK (K := K) (n := 3) (by rfl) (pgs_cons (pg_name (i := 5) sc_first_wrong.nd rfl (Or.inl rfl)) (pgs_cons (pg_name (i := 7) sc_first_wrong.nd rfl (Or.inl rfl)) (pgs_cons (pg_name (i := 8) sc_first_wrong.nd rfl (Or.inl rfl)) pgs_nil)))))
        (pss_one (ps_asg (pv 8) (pg_sub (pv 4) (pv 7) set_list))))))
      (pss_one (ps_ret (pe_lst pa_nil))))), ?_⟩
    refine sq_par ?_
    refine (en_list (K := K) (X := IntR) (ea_one (ev_v (R := SeqR K IntR) rfl hr0)) : EvN Rs.nil _ _ S _) S H (Ex.refl _) w0 _ fun l o S1 H1 hl0 hl1 hl2 w1 s1 ⟨ws, eo, hws⟩ => ?_
    subst eo
    rw [hws.ints] at hl1
    refine ⟨_, _, rfl, ?_⟩
    have nl : l ∉ Rs.nil.M := fun z => by cases z
    refine sq_for (ei_seqV (K := K) (R := UR K) rfl (Mono.up s1.ex hm0)) w1 fun S2 H2 w2 s2 => ?_
    have e02 := s1.ex.trans s2.ex
    refine ⟨fun i s' S' H' => Wd Rs.nil S' H' ∧ Ex S2 S' ∧ Stp Rs.nil S H S' H' ∧ S' l = none ∧ ∃ sp bf y6 y7 y8, H' l = some (.lst (sp.map V.int)) ∧ s' = [some (.int pages), some vr, some vn, some vm, some (.ref l), some (.int bf), y6, y7, y8] ∧ FW K pages news sp bf (ms.drop i) S2 ∧ sp.length = rows.length,
      ⟨w2, Ex.refl _, s1.trans s2, s2.fr l (ne_none hl1) hl2, rows, 0, none, none, none, s2.kp l _ nl hl1, rfl, by rw [List.drop_zero]; exact fw_up e02 _ _ _ hfw, rfl⟩, fun i s' S' H' p => ⟨p.1, p.2.1⟩, ?_, ?_⟩
    · rintro i x u s' S3 H3 S4 H4 hi ⟨w3, e3, s3, n3, sp, bf, y6, y7, y8, hl3, rfl, hmv, hsl⟩ w4 s4 hu
      have hdrop : ms.drop i = x :: ms.drop (i + 1) := by
        rw [List.drop_eq_getElem_cons (List.getElem?_eq_some_iff.mp hi).1, (List.getElem?_eq_some_iff.mp hi).2]
      rw [hdrop] at hmv
      have hl4 := s4.kp l _ nl hl3
      have n4 := s4.fr l (ne_none hl3) n3
      have e04 : Ex S S4 := s3.ex.trans s4.ex
      have e24 : Ex S2 S4 := e3.trans s4.ex
      have eu : Ex S4 (upd S4 l (.lst (sp.map V.int))) := Ex.new n4
      have done : ∀ {S5 H5 : Hp} {d : PyData}, Wd Rs.nil S5 H5 → Stp Rs.nil S4 H4 S5 H5 → Dp K S5 u d → d.canLay0 = true → d.depth ≤ 10 → ∀ {nx ct bk : L2.St → Hp → Prop}, tRet (tLst (tCons (tVar 6) tNil)) { nx := nx, ct := ct, bk := bk, rt := Q } [some (.int pages), some vr, some vn, some vm, some (.ref l), some (.int bf), some u, y7, y8] H5 := by
        intro S5 H5 d w5 s5 hd c1 c2 nx ct bk
        refine st_ret (R := fun v S => ∃ l, v = .ref l ∧ S l = some (.lst [u])) (EvN.stable (en_lst (P := fun us _ => us = [u]) (va_cons (vv_var rfl) va_nil) fun us S1 e => by
          rw [e]
          show 1 ≤ 100000
          decide) fun p o S1 _ n ⟨us, eo, eu⟩ => ⟨p, rfl, by rw [eo, eu]; exact upd_same⟩) w5 fun v S6 H6 w6 s6 ⟨l', e1, e2⟩ => q v S6 H6 w6 (s3.trans (s4.trans (s5.trans s6))) ⟨l', u, d, e1, e2, dp_up s6.ex _ _ hd, c1, c2⟩
      match x, hu, hmv with
      | .inr u', hu, hmv =>
        obtain rfl : u = u' := hu
        have ho : OddT K sp bf u S4 := oddt_up e24 hmv
        obtain ⟨p, t, row, z, d, _, _, _, _, _, hd, c1, c2⟩ := id ho
        refine sq_ifB (b := true) (EvB.is (tb_not (a := false) (tb_B (ev_altR (vv_call (pages, news, sp, bf, u) (va_cons (vv_var rfl) (va_cons (vv_var rfl) (va_cons (vv_var rfl) (va_cons (vv_var rfl) (va_cons (vv_var rfl) va_nil))))) (fun S e => ⟨vn, .ref l, rfl, Mono.up (e04.trans (eu.trans e)) hn0, l2, ⟨l, _, rfl, e _ _ upd_same, All2.of_ints sp⟩, by dsimp only; omega, oddt_up (eu.trans e) ho⟩) fun v _ _ p => p)))) rfl) w4 hl4 nl n4 (fun _ S5 H5 w5 s5 n5 => done w5 s5 (dp_up s5.ex _ _ hd) c1 c2) (fun z => nomatch z)
      | .inl m, hu, hmv =>
        have hmv : canB pages news sp bf m = true → FW K pages news (sp.set m.2.1.toNat m.2.2) m.1 (ms.drop (i + 1)) S2 := hmv
        have hu : Tr K m u S4 := hu
        refine sq_ifB (b := !canB pages news sp bf m) (tb_not (tb_B (ev_altL (vv_call (pages, news, sp, bf, m) (va_cons (vv_var rfl) (va_cons (vv_var rfl) (va_cons (vv_var rfl) (va_cons (vv_var rfl) (va_cons (vv_var rfl) va_nil))))) (fun S e => ⟨vn, .ref l, u, rfl, Mono.up (e04.trans (eu.trans e)) hn0, l2, ⟨l, _, rfl, e _ _ upd_same, All2.of_ints sp⟩, by dsimp only; omega, Mono.up (eu.trans e) hu⟩) fun v _ _ p => p)))) w4 hl4 nl n4 (fun hb S5 H5 w5 s5 n5 => ?_) (fun hb S5 H5 w5 s5 n5 => ?_)
        · exact done w5 s5 (Dt.dp (K := K) (R := TripR K IntR IntR IntR) (Mono.up s5.ex hu)) (Dt.lay (K := K) (R := TripR K IntR IntR IntR) m) (Nat.le_trans (Dt.dep_le (K := K) (R := TripR K IntR IntR IntR) m) (Nat.le_of_ble_eq_true rfl))
        have hc : canB pages news sp bf m = true := by simpa using hb
        have hrest := hmv hc
        have hl5 := s5.kp l _ nl hl4
        refine sq_three (K := K) (R := IntR) (R' := IntR) (R'' := IntR) (p := m) rfl (ev_v (R := Tr K) rfl (Mono.up s5.ex hu)) w5 fun x y z S6 H6 w6 s6 hx hy hz => ?_
        obtain rfl : x = _ := hx
        obtain rfl : y = _ := hy
        obtain rfl : z = _ := hz
        have hl6 := s6.kp l _ nl hl5
        have n6 := s6.fr l (ne_none hl5) n5
        unfold canB at hc
        simp only [Bool.and_eq_true, decide_eq_true_eq] at hc
        have hj : m.2.1.toNat < sp.length := by omega
        obtain ⟨j, hj0⟩ : ∃ j : Nat, m.2.1 = (j : Int) := ⟨m.2.1.toNat, by omega⟩
        refine st_set nl (vv_var rfl) (vv_var rfl) (vv_var rfl) w6 hl6 n6 (j := j) (by rw [hj0]; exact J.ixN_nat (by rw [List.length_map]; omega)) fun v S7 H7 w7 s7 n7 h7 ev => ?_
        subst ev
        refine ⟨S7, w7, e3.trans (s4.ex.trans (s5.ex.trans (s6.ex.trans s7.ex))), Stp.drop (s3.trans (s4.trans (s5.trans s6))) s7 (fun b hb => by rw [List.mem_singleton.mp hb]; exact hl0), n7, sp.set j m.2.2, m.1, _, _, _, by rw [h7, List.map_set], rfl, ?_, by rw [List.length_set]; exact hsl⟩
        rw [show m.2.1.toNat = j by omega] at hrest
        exact hrest
    · rintro s' S3 H3 ⟨w3, e3, s3, n3, sp, bf, y6, y7, y8, hl3, rfl, hmv, hsl⟩
      rw [List.drop_length] at hmv
      exact hmv.elim
end
end K29

namespace K29
open PySem PySem.Spec PyProof.Rows L2 Evl J RZ
section
variable {P : Program} {w : World} {K : PySem.W.Frag} {mg : Str → Option Value} {base : Heap}
/-! ### the law's draws, out of a source -/
def sp_draw : Sp := SpR (A := Addr × Addr × Int) (fun a => srcR a.1 a.2.1) (fun a vs _ _ => vs = [.ref a.1, .int a.2.2] ∧ 1 ≤ a.2.2 ∧ a.2.2 < 10 ^ 40) (fun a v _ _ => ∃ i, v = .int i ∧ 0 ≤ i ∧ i < a.2.2)
theorem ev_draw {p c : Addr} {s : L2.St} {S : Hp} {t : TA} {n : Int} (h : EvAV (srcR p c) t s S [.ref p, .int n]) (h1 : 1 ≤ n) (h2 : n < 10 ^ 40) : EvS (srcR p c) (tCall sp_draw [] E0 t) s S fun v _ => ∃ i, v = .int i ∧ 0 ≤ i ∧ i < n :=
  ev_callR (p, c, n) rfl h (fun _ _ _ _ => ⟨rfl, h1, h2⟩) fun v _ _ _ _ p => p
theorem ev_draw1 {p c : Addr} {s : L2.St} {S : Hp} {t : TA} {n lo : Int} (h : EvAV (srcR p c) t s S [.ref p, .int n]) (h1 : 1 ≤ n) (h2 : n < 10 ^ 40) : EvS (srcR p c) (tOp (rAddU K) (tC (.int lo)) (tCall sp_draw [] E0 t)) s S fun v _ => ∃ i, v = .int i ∧ lo ≤ i ∧ i < lo + n :=
  ev_op2 vv_c (fun _ S e _ => ev_draw (EvAS.mono' e h) h1 h2) fun x y S S' _ hx _ ⟨i, hy, h1, h2⟩ => by
    subst hx
    subst hy
    exact ⟨_, rs_add, _, rfl, by omega, by omega⟩
theorem G_L_draw (T : TX P w K mg) : FnOk P w K mg base CX0 1 T.f_L_draw T.fd_L_draw ["_law_source", "_law_limit"] sp_draw := by
  refine T.F_L_draw.ok sc_L_draw (fun vs H Q E h => ?_) (fun cdv A outer s H vs Q E hr h => ?_)
  · obtain ⟨i, S, ⟨rfl, _⟩, _⟩ := h
    rfl
  · obtain ⟨⟨p, c, n⟩, S, ⟨rfl, hn1, hn2⟩, w0, q⟩ := h
    dsimp only at hn1 hn2 w0 q
    obtain ⟨cs, pos, big, seed, hp⟩ := w0.inv
    have x0 := SW.start w0 hp
    refine ⟨_, (pss_cons (ps_if (PW.pt (pw_and (pt_cmpR op_lt (pe_ix (ix_K (K := K)) (pv 0) pe_int (fun _ _ => rfl)) (pe_op op_pow pe_int pe_int) (nomark _)) (pw_and1 (pt_cmpR op_lt (pe_ix (ix_K (K := K)) (pv 0) pe_int (fun _ _ => rfl)) (pe_callB (call_lenK (K := K)) (by rfl) T.z_len (by decide +kernel) (pa_cons (pe_ix (ix_K (K := K)) (pv 0) pe_int (fun _ _ => rfl)) pa_nil)) (nomark _))))) (pss_cons (ps_set (i := 2) sc_L_draw.nd rfl (Or.inl rfl) (pe_callTy call_int1 (by rfl) T.z_int (by decide +kernel) (pa_cons (pe_ix (ix_K (K := K)) (pe_ix (ix_K (K := K)) (pv 0) pe_int (fun _ _ => rfl)) (pe_ix (ix_K (K := K)) (pv 0) pe_int (fun _ _ => rfl)) (fun _ _ => rfl)) pa_nil)))
        (pss_cons (ps_asg (pe_op (op_addK (K := K)) (pe_ix (ix_K (K := K)) (pv 0) pe_int (fun _ _ => rfl)) pe_int) (pg_sub (pv 0) pe_int set_list))
        (pss_cons (ps_asg pe_int (pg_sub (pv 0) pe_int set_list))
        (pss_cons (ps_if (pt_cmpR op_ge (pv 2) (pe_op op_pow pe_int pe_int) (nomark _)) (pss_one (ps_asg (pv 2) (pg_sub (pv 0) pe_int set_list))) pss_nil)
        (pss_one (ps_asg (pe_op op_mod (pe_callTy call_int1 (by rfl) T.z_int (by decide +kernel) (pa_cons (pe_op (op_addK (K := K)) (pe_op (op_addK (K := K)) (pe_op op_mulU (pe_ix (ix_K (K := K)) (pv 0) pe_int (fun _ _ => rfl)) pe_int) (pe_op op_mod (pv 2) pe_int)) pe_int) pa_nil)) pe_int) (pg_sub (pv 0) pe_int set_list))))))) pss_nil)
      (pss_cons (ps_if (pt_cmpR op_ge (pe_ix (ix_K (K := K)) (pv 0) pe_int (fun _ _ => rfl)) (pe_op op_pow pe_int pe_int) (nomark _)) (pss_cons (ps_set (i := 3) sc_L_draw.nd rfl (Or.inl rfl) (pe_op op_mod (pe_callTy call_int1 (by rfl) T.z_int (by decide +kernel) (pa_cons (pe_ix (ix_K (K := K)) (pv 0) pe_int (fun _ _ => rfl)) pa_nil)) (pv 1)))
        (pss_cons (ps_asg (pe_op op_fdivW (pe_ix (ix_K (K := K)) (pv 0) pe_int (fun _ _ => rfl)) (pv 1)) (pg_sub (pv 0) pe_int set_list))
        (pss_one (ps_ret (pv 3))))) pss_nil)
      (pss_cons (ps_asg (pe_op op_mod (pe_callTy call_int1 (by rfl) T.z_int (by decide +kernel) (pa_cons (pe_op (op_addK (K := K)) (pe_op op_mulU (pe_ix (ix_K (K := K)) (pv 0) pe_int (fun _ _ => rfl)) pe_int) pe_int) pa_nil)) pe_int) (pg_sub (pv 0) pe_int set_list))
      (pss_one (ps_ret (pe_op op_mod (pe_callTy call_int1 (by rfl) T.z_int (by decide +kernel) (pa_cons (pe_op op_fdivW (pe_ix (ix_K (K := K)) (pv 0) pe_int (fun _ _ => rfl)) pe_int) pa_nil)) (pv 1))))))), ?_⟩
    have at1 : ∀ {s : L2.St} {S H : Hp} {pos big seed : Int}, s[0]? = some (some (.ref p)) → SrcAt p c cs pos big seed H → EvV Rs.nil (tOp (rIx K) (tVar 0) (tC (.int 1))) s (sup [p, c] H S) (.int pos) := fun hs h => vv_op (vv_var hs) vv_c (rs_ixL' (SqL.of (sup_p h.hp)) (atI_nat (j := 1) rfl))
    have at2 : ∀ {s : L2.St} {S H : Hp} {pos big seed : Int}, s[0]? = some (some (.ref p)) → SrcAt p c cs pos big seed H → EvV Rs.nil (tOp (rIx K) (tVar 0) (tC (.int 2))) s (sup [p, c] H S) (.int big) := fun hs h => vv_op (vv_var hs) vv_c (rs_ixL' (SqL.of (sup_p h.hp)) (atI_nat (j := 2) rfl))
    have at3 : ∀ {s : L2.St} {S H : Hp} {pos big seed : Int}, s[0]? = some (some (.ref p)) → SrcAt p c cs pos big seed H → EvV Rs.nil (tOp (rIx K) (tVar 0) (tC (.int 3))) s (sup [p, c] H S) (.int seed) := fun hs h => vv_op (vv_var hs) vv_c (rs_ixL' (SqL.of (sup_p h.hp)) (atI_nat (j := 3) rfl))
    have ten : ∀ {s : L2.St} {S : Hp}, EvV Rs.nil (tOp (rI CPow fun i j => .int (i ^ j.toNat)) (tC (.int 10)) (tC (.int 18))) s S (.int (10 ^ 18)) := vv_op vv_c vv_c (rs_I (show CPow 10 18 from ⟨by decide, by decide, by decide⟩))
    have hdv : ∀ x, CDivW x n := fun x => cdiv (by omega) (by
      have : (10 : Int) ^ 40 < 10 ^ 100 := by decide +kernel
      omega)
    refine sq_join (fun s' H' => ∃ S' pos' big' seed' y2 y3, SW p c S H cs pos' big' seed' S' H' ∧ s' = [some (.ref p), some (.int n), y2, y3]) ?_ fun fin => ?_
    · rintro s' H5 ⟨S5, pos5, big5, seed5, y2, y3, x5, rfl⟩
      refine sq_ifL [p, c] (tb_test (vv_op (at2 rfl x5.at_) ten rs_I0)) x5.w x5.l (fun hb S6 H6 w6 s6 => ?_) (fun hb S6 H6 w6 s6 => ?_)
      · have x6 := x5.step w6 s6
        refine sq_asgL [p, c] (v := .int (big5 % n)) (vv_op (vv_cb (va_cons (at2 rfl x6.at_) va_nil) rc_int) (vv_var rfl) (rs_I (by omega))) x6.w x6.l fun S7 H7 w7 s7 => ?_
        have x7 := x6.step w7 s7
        refine sq_setL [p, c] (v := .int (big5 / n)) (i := 2) (j := 2) (vv_op (at2 rfl x7.at_) (vv_var rfl) (rs_I (hdv big5))) (vv_var rfl) vv_c x7.w x7.l (by simp) x7.at_.hp rfl fun S8 H8 w8 s8 h8 kp8 => ?_
        have x8 := x7.setp w8 s8 (pos' := pos5) (big' := big5 / n) (seed' := seed5) h8 kp8 x7.at_.pos0 (Int.ediv_nonneg x7.at_.big0 (by omega)) x7.at_.seed0
        exact st_ret (vv_var rfl) x8.w fun v S9 H9 w9 s9 e9 => q v S9 H9 (x8.step w9 s9).done.1 (x8.step w9 s9).done.2 ⟨_, e9, Int.emod_nonneg _ (by omega), Int.emod_lt_of_pos _ (by omega)⟩
      · have x6 := x5.step w6 s6
        refine sq_setL [p, c] (v := .int ((seed5 * 39373 + 12820163) % 2147483647)) (i := 3) (j := 3) (vv_op (vv_cb (va_cons (vv_op (vv_op (at3 rfl x6.at_) vv_c (rs_mul (cmul_r (by decide)))) vv_c rs_add) va_nil) rc_int) vv_c (rs_I (by decide))) (vv_var rfl) vv_c x6.w x6.l (by simp) x6.at_.hp rfl fun S7 H7 w7 s7 h7 kp7 => ?_
        have x7 := x6.setp w7 s7 (pos' := pos5) (big' := big5) (seed' := (seed5 * 39373 + 12820163) % 2147483647) h7 kp7 x6.at_.pos0 x6.at_.big0 (by omega)
        exact st_retL [p, c] (v := .int ((seed5 * 39373 + 12820163) % 2147483647 / 16 % n)) (vv_op (vv_cb (va_cons (vv_op (at3 rfl x7.at_) vv_c (rs_I (cdiv (by decide) (by decide)))) va_nil) rc_int) (vv_var rfl) (rs_I (by omega))) x7.w x7.l fun S8 H8 w8 s8 => q _ S8 H8 (x7.step w8 s8).done.1 (x7.step w8 s8).done.2 ⟨_, rfl, Int.emod_nonneg _ (by omega), Int.emod_lt_of_pos _ (by omega)⟩
    · refine sq_ifL [p, c] (tb_and (tb_test (vv_op (at2 rfl x0.at_) ten rs_I0)) fun _ => tb_test (vv_op (at1 rfl x0.at_) (vv_cb (va_cons (vv_op (vv_var rfl) vv_c (rs_ixL' (SqL.of (sup_p x0.at_.hp)) (atI_nat (j := 0) rfl))) va_nil) (rc_lenL (SqL.of (sup_c x0.at_.hc)))) rs_I0)) x0.w x0.l (fun hb S1 H1 w1 s1 => ?_) (fun hb S1 H1 w1 s1 => fin _ _ ⟨_, _, _, _, none, none, x0.step w1 s1, rfl⟩)
      have x1 := x0.step w1 s1
      have hp0 := hp.pos0
      simp only [Bool.and_eq_true, decide_eq_true_eq, List.length_map] at hb
      obtain ⟨j, rfl⟩ : ∃ j : Nat, pos = (j : Int) := ⟨pos.toNat, by omega⟩
      have hj : j < cs.length := by omega
      have gj : (cs.map V.int)[j]? = some (.int cs[j]) := by
        rw [List.getElem?_map, List.getElem?_eq_getElem hj]
        rfl
      generalize hxx : cs[j] = x at *
      refine sq_asgL [p, c] (v := .int x) (vv_cb (va_cons (vv_op (vv_op (vv_var rfl) vv_c (rs_ixL' (SqL.of (sup_p x1.at_.hp)) (atI_nat (j := 0) rfl))) (at1 rfl x1.at_) (rs_ixL' (SqL.of (sup_c x1.at_.hc)) (atI_nat gj))) va_nil) rc_int) x1.w x1.l fun S2 H2 w2 s2 => ?_
      have x2 := x1.step w2 s2
      refine sq_setL [p, c] (v := .int ((j : Int) + 1)) (i := 1) (j := 1) (vv_op (at1 rfl x2.at_) vv_c rs_add) (vv_var rfl) vv_c x2.w x2.l (by simp) x2.at_.hp rfl fun S3 H3 w3 s3 h3 kp3 => ?_
      have x3 := x2.setp w3 s3 (pos' := (j : Int) + 1) (big' := big) (seed' := seed) h3 kp3 (by omega) hp.big0 hp.seed0
      refine sq_setL [p, c] (v := .int 0) (i := 2) (j := 2) vv_c (vv_var rfl) vv_c x3.w x3.l (by simp) x3.at_.hp rfl fun S4 H4 w4 s4 h4 kp4 => ?_
      have x4 := x3.setp w4 s4 (pos' := (j : Int) + 1) (big' := 0) (seed' := seed) h4 kp4 (by omega) (by decide) hp.seed0
      refine sq_join (fun s' H' => ∃ S' big', SW p c S H cs ((j : Int) + 1) big' seed S' H' ∧ s' = [some (.ref p), some (.int n), some (.int x), none]) ?_ fun fin2 => ?_
      · rintro s' H5 ⟨S5, big5, x5, rfl⟩
        refine st_setL [p, c] (v := .int ((seed * 48271 + x % 2147483629 + 11) % 2147483647)) (i := 3) (j := 3) (vv_op (vv_cb (va_cons (vv_op (vv_op (vv_op (at3 rfl x5.at_) vv_c (rs_mul (cmul_r (by decide)))) (vv_op (vv_var rfl) vv_c (rs_I (by decide))) rs_add) vv_c rs_add) va_nil) rc_int) vv_c (rs_I (by decide))) (vv_var rfl) vv_c x5.w x5.l (by simp) x5.at_.hp rfl fun S6 H6 w6 s6 h6 kp6 => ?_
        exact fin _ _ ⟨S6, _, _, _, _, _, x5.setp w6 s6 (pos' := (j : Int) + 1) (big' := big5) (seed' := (seed * 48271 + x % 2147483629 + 11) % 2147483647) h6 kp6 (by omega) x5.at_.big0 (by omega), rfl⟩
      · refine sq_ifL [p, c] (tb_test (vv_op (vv_var rfl) ten rs_I0)) x4.w x4.l (fun hb5 S5 H5 w5 s5 => ?_) (fun hb5 S5 H5 w5 s5 => fin2 _ _ ⟨_, _, x4.step w5 s5, rfl⟩)
        have x5 := x4.step w5 s5
        have hx : (10 : Int) ^ 18 ≤ x := by simpa using hb5
        refine st_setL [p, c] (v := .int x) (i := 2) (j := 2) (vv_var rfl) (vv_var rfl) vv_c x5.w x5.l (by simp) x5.at_.hp rfl fun S6 H6 w6 s6 h6 kp6 => ?_
        exact fin2 _ _ ⟨S6, x, x5.setp w6 s6 (pos' := (j : Int) + 1) (big' := x) (seed' := seed) h6 kp6 (by omega) (by omega) hp.seed0, rfl⟩
def sp_begin (K : PySem.W.Frag) : Sp := fun vs H Q _ => ∃ (a : Addr) (ns : List Int) (S : Hp), vs = [.ref a] ∧ SqL K S a (ns.map V.int) ∧ ns.length ≤ 63 ∧ Wd Rs.nil S H ∧ ∀ p c S1 H1, H p = none → H c = none → Wd (srcR p c) S1 H1 → Stp Rs.nil S H S1 H1 → Q (.ref p) H1
theorem st_retLst {te : TE} {tr : TA} {D : Ends} {s : L2.St} {H : Hp} (h : te s H fun x H1 => tr s H1 fun xs H2 => (x :: xs).length ≤ sizeLine ∧ ∀ p, H2 p = none → D.rt (.ref p) (upd H2 p (.lst (x :: xs)))) : tRet (tLst (tCons te tr)) D s H := h
theorem cut_intsK (ns : List Int) (lo hi : Option Int) : ∃ ms : List Int, cutV (ns.map V.int) lo hi = ms.map V.int := by
  refine ⟨_, by unfold cutV; rw [← List.map_drop, ← List.map_take]⟩
theorem G_L_begin (T : TX P w K mg) : FnOk P w K mg base CX0 1 T.f_L_begin T.fd_L_begin ["_law_script"] (sp_begin K) := by
  refine T.F_L_begin.ok sc_L_begin (fun vs H Q E h => ?_) (fun cdv A outer s H vs Q E hr h => ?_)
  · obtain ⟨a, ns, S, rfl, _⟩ := h
    rfl
  · obtain ⟨a, ns, S, rfl, hS, hl, w0, q⟩ := h
    refine ⟨_, (pss_one (ps_ret (pe_lst (pa_cons (pe_callTy (call_listK (K := K)) (by rfl) T.z_list (by decide +kernel) (pa_cons (pe_slice (sl_K (K := K)) (pv 0) po_none (po_some pe_int)) pa_nil)) (pa_cons pe_int (pa_cons pe_int (pa_cons pe_int pa_nil))))))), ?_⟩
    refine st_retLst ?_
    obtain ⟨ms, em⟩ := cut_intsK ns none (some 63)
    refine (en_list (K := K) (X := IntR) (ys := ms) (ea_one (EvN.lst (X := IntR) ((en_slice (lo := none) (hi := some 63) (vv_var rfl) hS (fun H Q q => q) (fun H Q q => ⟨63, rfl, q⟩)).imp fun o S2 _ eo => ⟨_, eo, by rw [em]; exact All2.of_ints ms⟩) |>.imp fun v S1 _ h => .inl h)) : EvN Rs.nil _ _ S _) S H (Ex.refl _) w0 _ fun c o S4 H4 hc lc sc w4 s4 ⟨ws, eo, hws⟩ => ?_
    subst eo
    rw [hws.ints] at lc
    refine ⟨by show 4 ≤ sizeLine; decide, fun p hp => ?_⟩
    have w5 : Wd Rs.nil S4 (upd H4 p (.lst [.ref c, .int 0, .int 0, .int 7])) := w4.new hp
    have s5 : Stp Rs.nil S H S4 (upd H4 p (.lst [.ref c, .int 0, .int 0, .int 7])) := s4.trans (Stp.new hp)
    have ncp : c ≠ p := ne_of_none lc hp
    have hat : SrcAt p c ms 0 0 7 (upd H4 p (.lst [.ref c, .int 0, .int 0, .int 7])) := ⟨upd_same, by
      rw [upd_ne ncp]
      exact lc, by decide, by decide, by decide⟩
    refine q p c S4 _ (pre_none s4 hp) hc ⟨w5.ex, ⟨_, _, _, _, hat⟩, fun b hb => ?_⟩ s5
    rcases List.mem_cons.mp hb with rfl | hb
    · exact w4.fresh hp
    · rw [List.mem_singleton.mp hb]
      exact sc
theorem call_run {sp : Sp} {dvs : List V} {E : XK} {ta : TA} {s : L2.St} {H : Hp} {Q : VK} (h : ta s H fun vs H1 => sp (vs ++ dvs) H1 Q E) : tCall sp dvs E ta s H Q := h
theorem sq_begin {i : Nat} {a : Addr} {ns : List Int} {s : L2.St} {H : Hp} {tz : TS} {D : Ends} (h : s[0]? = some (some (.ref a))) (hS : SqL K H a (ns.map V.int)) (hl : ns.length ≤ 63) (k : ∀ p c S1 H1, Wd (srcR p c) S1 H1 → tz D (s.set i (some (.ref p))) H1) : tSeq (tAsg (tCall (sp_begin K) [] E0 (tCons (tVar 0) tNil)) (gName i)) tz D s H :=
  have h0 : EvAV Rs.nil (tCons (tVar 0) tNil) s H [.ref a] := va_cons (vv_var h) va_nil
  sq_asgRun (call_run (h0 H H (Ex.refl _) ⟨Ex.refl _, True.intro, fun a h => by cases h⟩ (fun vs H1 => sp_begin K (vs ++ []) H1 (fun v H1 => tz D (s.set i (some v)) H1) E0) fun us S1 H1 w1 s1 eu => by
    subst eu
    exact ⟨a, ns, S1, rfl, ex_l s1.ex hS, hl, w1, fun p c S2 H2 _ _ w2 s2 => k p c S2 H2 w2⟩))
def sp_law (K : PySem.W.Frag) : Sp := fun vs H Q _ => ∃ (a : Addr) (ns : List Int), vs = [.ref a] ∧ SqL K H a (ns.map V.int) ∧ ns.length ≤ 63 ∧ ∀ H', Q (.bl true) H'
end
end K29

namespace K29
open PySem PySem.Spec PyProof.Rows L2 Evl J RZ
section
variable {P : Program} {w : World} {K : PySem.W.Frag} {mg : Str → Option Value} {base : Heap}
/-! ### displays told by a relation, picks -/
theorem ar_nil {α : Type} {R : Rl α} {r : Rs} {s : L2.St} {S : Hp} : EvAS r tNil s S fun us S1 => All2 R S1 [] us := J.ea_nil.imp' fun us S1 _ e => by
  rw [show us = _ from e]
  exact .nil
theorem ar_cons {α : Type} {R : Rl α} [Mono R] {r : Rs} {s : L2.St} {S : Hp} {ta : TE} {tr : TA} {a : α} {xs : List α} (h : EvS r ta s S fun v S1 => R a v S1) (hr : ∀ S1, Ex S S1 → EvAS r tr s S1 fun us S2 => All2 R S2 xs us) : EvAS r (tCons ta tr) s S fun us S1 => All2 R S1 (a :: xs) us :=
  (ea_all h hr fun v S1 S2 e p => Mono.up e p).imp' fun us S1 _ ⟨v, vs, e, h1, h2⟩ => by
    rw [e]
    exact .cons h1 h2
theorem ev_lstA {α : Type} {R : Rl α} [Mono R] {r : Rs} {s : L2.St} {S : Hp} {ta : TA} {xs : List α} (h : EvAS r ta s S fun us S1 => All2 R S1 xs us) (hl : xs.length ≤ 100000) : EvS r (tLst ta) s S fun v S1 => LstR R xs v S1 :=
  EvN.lst (X := R) (en_lst h fun us S1 p => by rw [p.len]; exact hl)
theorem ev_tupA {α : Type} {R : Rl α} [Mono R] {r : Rs} {s : L2.St} {S : Hp} {ta : TA} {xs : List α} (h : EvAS r ta s S fun us S1 => All2 R S1 xs us) (hl : xs.length ≤ 100000) : EvS r (tTup ta) s S fun v S1 => TupR K R xs v S1 :=
  EvN.tup (X := R) (en_tup h fun us S1 p => by rw [p.len]; exact hl)
theorem ev_pickR {α : Type} {R : Rl α} [Mono R] {r : Rs} {s : L2.St} {S : Hp} {ta ti : TE} {xs : List α} {n : Int} (h : EvS r ta s S fun v S1 => LstR R xs v S1) (hi : ∀ S1, Ex S S1 → EvS r ti s S1 fun v _ => ∃ i, v = .int i ∧ 0 ≤ i ∧ i < n) (hn : n = (xs.length : Int)) : EvS r (tOp (rIx K) ta ti) s S fun v S1 => ∃ x, x ∈ xs ∧ R x v S1 :=
  ev_op2 h (fun _ S1 e _ => hi S1 e) fun x y S1 S2 _ ⟨b, vs, h1, h2, h3⟩ e2 ⟨i, hy, h0, hlt⟩ => by
    obtain ⟨j, rfl⟩ : ∃ j : Nat, i = (j : Int) := ⟨i.toNat, by omega⟩
    have hj : j < xs.length := by omega
    obtain ⟨v, g1, g2⟩ := h3.at (List.getElem?_eq_getElem hj)
    subst h1
    subst hy
    exact ⟨v, rs_ixL' (SqL.of (e2 _ _ h2)) (atI_nat g1), xs[j], List.getElem_mem hj, Mono.up e2 g2⟩
/-- items of a list of known values -/
theorem vv_ixK {r : Rs} {s : L2.St} {S : Hp} {i j : Nat} {a : Addr} {vs : List V} {v : V} (h : s[i]? = some (some (.ref a))) (ha : S a = some (.lst vs)) (hj : vs[j]? = some v) : EvV r (tOp (rIx K) (tVar i) (tC (.int (j : Int)))) s S v := vv_op (vv_var h) vv_c (rs_ixL' (SqL.of ha) (atI_nat hj))
theorem vv_ix0 {r : Rs} {s : L2.St} {S : Hp} {i : Nat} {a : Addr} {vs : List V} {v : V} (h : s[i]? = some (some (.ref a))) (ha : S a = some (.lst vs)) (hj : vs[0]? = some v) : EvV r (tOp (rIx K) (tVar i) (tC (.int 0))) s S v := vv_ixK (j := 0) h ha hj
theorem vv_ix1 {r : Rs} {s : L2.St} {S : Hp} {i : Nat} {a : Addr} {vs : List V} {v : V} (h : s[i]? = some (some (.ref a))) (ha : S a = some (.lst vs)) (hj : vs[1]? = some v) : EvV r (tOp (rIx K) (tVar i) (tC (.int 1))) s S v := vv_ixK (j := 1) h ha hj
theorem vv_ix2 {r : Rs} {s : L2.St} {S : Hp} {i : Nat} {a : Addr} {vs : List V} {v : V} (h : s[i]? = some (some (.ref a))) (ha : S a = some (.lst vs)) (hj : vs[2]? = some v) : EvV r (tOp (rIx K) (tVar i) (tC (.int 2))) s S v := vv_ixK (j := 2) h ha hj
theorem vv_ix3 {r : Rs} {s : L2.St} {S : Hp} {i : Nat} {a : Addr} {vs : List V} {v : V} (h : s[i]? = some (some (.ref a))) (ha : S a = some (.lst vs)) (hj : vs[3]? = some v) : EvV r (tOp (rIx K) (tVar i) (tC (.int 3))) s S v := vv_ixK (j := 3) h ha hj
/-- range(e) walked by a for, e only bounded -/
theorem sq_forR {r : Rs} {s : L2.St} {S H : Hp} {te : TE} {tu tz : TS} {D : Ends} {g : TG} {P : Int → Prop} (h : EvS r te s S fun v _ => ∃ n, v = .int n ∧ P n) (w0 : Wd r S H) (k : ∀ n S1 H1, P n → Wd r S1 H1 → Stp r S H S1 H1 → tSeq (tFor (iRng1 (tCons (tC (.int n)) tNil)) g tu) tz D s H1) : tSeq (tFor (iRng1 (tCons te tNil)) g tu) tz D s H := for_rng1 (D := { D with nx := tz D }) h w0 k
/-- lists of written texts -/
theorem ev_w1 {r : Rs} {s : L2.St} {S : Hp} (a : Str) : EvS r (tLst (tCons (tC (.str a)) tNil)) s S fun v S1 => LstR StrR [a] v S1 := ev_lstA (ar_cons (R := StrR) vv_c fun S1 e => ar_nil) (by simp)
theorem ev_w2 {r : Rs} {s : L2.St} {S : Hp} (a b : Str) : EvS r (tLst (tCons (tC (.str a)) (tCons (tC (.str b)) tNil))) s S fun v S1 => LstR StrR [a, b] v S1 := ev_lstA (ar_cons (R := StrR) vv_c fun S1 e => ar_cons (R := StrR) vv_c fun S1 e => ar_nil) (by simp)
theorem ev_w3 {r : Rs} {s : L2.St} {S : Hp} (a b c : Str) : EvS r (tLst (tCons (tC (.str a)) (tCons (tC (.str b)) (tCons (tC (.str c)) tNil)))) s S fun v S1 => LstR StrR [a, b, c] v S1 := ev_lstA (ar_cons (R := StrR) vv_c fun S1 e => ar_cons (R := StrR) vv_c fun S1 e => ar_cons (R := StrR) vv_c fun S1 e => ar_nil) (by simp)
theorem ev_ways {r : Rs} {s : L2.St} {S : Hp} (a b c d : Str) : EvS r (tLst (tCons (tLst tNil) (tCons (tLst (tCons (tC (.str a)) tNil)) (tCons (tLst (tCons (tC (.str b)) tNil)) (tCons (tLst (tCons (tC (.str c)) (tCons (tC (.str d)) tNil))) tNil))))) s S fun v S1 => LstR (LstR StrR) [[], [a], [b], [c, d]] v S1 :=
  ev_lstA (ar_cons (R := LstR StrR) ev_nilL fun S1 e => ar_cons (R := LstR StrR) (ev_w1 a) fun S1 e => ar_cons (R := LstR StrR) (ev_w1 b) fun S1 e => ar_cons (R := LstR StrR) (ev_w2 c d) fun S1 e => ar_nil) (by simp)
/-- one of a few written texts, drawn -/
theorem ev_pick2 {r : Rs} {s : L2.St} {S : Hp} {ti : TE} (a b : Str) (hi : ∀ S1, Ex S S1 → EvS r ti s S1 fun v _ => ∃ i, v = .int i ∧ 0 ≤ i ∧ i < 2) : EvS r (tOp (rIx K) (tLst (tCons (tC (.str a)) (tCons (tC (.str b)) tNil))) ti) s S fun v _ => ∃ z, z ∈ [a, b] ∧ v = .str z := ev_pickR (R := StrR) (ev_w2 a b) hi rfl
theorem ev_pick3 {r : Rs} {s : L2.St} {S : Hp} {ti : TE} (a b c : Str) (hi : ∀ S1, Ex S S1 → EvS r ti s S1 fun v _ => ∃ i, v = .int i ∧ 0 ≤ i ∧ i < 3) : EvS r (tOp (rIx K) (tLst (tCons (tC (.str a)) (tCons (tC (.str b)) (tCons (tC (.str c)) tNil)))) ti) s S fun v _ => ∃ z, z ∈ [a, b, c] ∧ v = .str z := ev_pickR (R := StrR) (ev_w3 a b c) hi rfl
theorem ev_pickW {r : Rs} {s : L2.St} {S : Hp} {ti : TE} (a b c d : Str) (hi : ∀ S1, Ex S S1 → EvS r ti s S1 fun v _ => ∃ i, v = .int i ∧ 0 ≤ i ∧ i < 4) : EvS r (tOp (rIx K) (tLst (tCons (tLst tNil) (tCons (tLst (tCons (tC (.str a)) tNil)) (tCons (tLst (tCons (tC (.str b)) tNil)) (tCons (tLst (tCons (tC (.str c)) (tCons (tC (.str d)) tNil))) tNil))))) ti) s S fun v S1 => ∃ z, z ∈ [[], [a], [b], [c, d]] ∧ LstR StrR z v S1 := ev_pickR (R := LstR StrR) (ev_ways a b c d) hi rfl
/-- x, y = (e, e') where the names are no cells -/
theorem sq_parR {r : Rs} {s : L2.St} {S H : Hp} {ta tb : TE} {tz : TS} {D : Ends} {A B : V → Hp → Prop} {i j : Nat} (h : EvS r ta s S A) (h2 : ∀ S1, Ex S S1 → EvS r tb s S1 B) (m : ∀ v S1 S2, Ex S1 S2 → A v S1 → A v S2) (w0 : Wd r S H) (k : ∀ v v' S1 H1, Wd r S1 H1 → Stp r S H S1 H1 → A v S1 → B v' S1 → tz D ((s.set i (some v)).set j (some v')) H1) : tSeq (tPar i j (tCons ta (tCons tb tNil))) tz D s H :=
  sq_par (h S H (Ex.refl _) w0 _ fun v S2 H2 w2 s2 hv => h2 S2 s2.ex S2 H2 (Ex.refl _) w2 _ fun v' S3 H3 w3 s3 hv' => ⟨v, v', rfl, k v v' S3 H3 w3 (s2.trans s3) (m _ _ _ s3.ex hv) hv'⟩)
theorem pg_unlK {X : Cx} {es : List Expr} {k : Nat} {t : TGs} {n : Nat} {pos : Pos} (hc : X.calm = true) (h : PGs X es t) (hn : (assignEach es X.env).length = n := by rfl) (hst : (assignEach es X.env).findIdx? (·.1) = none := by rfl) (hK : X.K = K := by rfl) : PG X (.Tuple es k pos) (gUnl K n t) := by
  subst hK
  exact pg_unl hc h hn hst
theorem sq_three_l {r : Rs} {s : L2.St} {S H : Hp} {te : TE} {tz : TS} {D : Ends} {i j l n : Nat} {a b c : V} {p : Addr} (hn : n = 3) (h : EvV r te s S (.ref p)) (hp : S p = some (.lst [a, b, c])) (w0 : Wd r S H) (k : ∀ S1 H1, Wd r S1 H1 → Stp r S H S1 H1 → tz D (((s.set i (some a)).set j (some b)).set l (some c)) H1) : tSeq (tAsg te (gUnl K n (gCons (gName i) (gCons (gName j) (gCons (gName l) gNil))))) tz D s H :=
  h S H (Ex.refl _) w0 _ fun v S1 H1 w1 s1 e => ⟨p, _, e, SqL.of (w1.ex _ _ (s1.ex _ _ hp)), hn.symm, _, _, rfl, _, _, rfl, _, _, rfl, rfl, k S1 H1 w1 s1⟩
end
end K29

namespace K29
open PySem PySem.Spec PyProof.Rows L2 Evl J RZ
section
variable {P : Program} {w : World} {K : PySem.W.Frag} {mg : Str → Option Value} {base : Heap}
/-! ### the law's own tables -/
theorem vv_draw0 {p c : Addr} {s : L2.St} {S : Hp} {i : Nat} {n : Int} (h : s[i]? = some (some (.ref p))) (h1 : 1 ≤ n) (h2 : n < 10 ^ 40) : EvS (srcR p c) (tCall sp_draw [] E0 (tCons (tVar i) (tCons (tC (.int n)) tNil))) s S fun v _ => ∃ i, v = .int i ∧ 0 ≤ i ∧ i < n := ev_draw (va_cons (vv_var h) (va_cons vv_c va_nil)) h1 h2
def CaseR (K : PySem.W.Frag) : Rl RuleD := fun a v S => ∃ b m, v = .ref b ∧ S b = some (.lst [.ref m, .str a.start, .str a.fresh, .str a.sees]) ∧ LstR StrR a.moves (.ref m) S ∧ RuleOk a
instance {K : PySem.W.Frag} : Mono (CaseR K) := ⟨fun e ⟨b, m, h1, h2, h3, h4⟩ => ⟨b, m, h1, e _ _ h2, Mono.up e h3, h4⟩⟩
def sp_case (K : PySem.W.Frag) : Sp := SpR (A := Addr × Addr) (fun a => srcR a.1 a.2) (fun a vs _ _ => vs = [.ref a.1]) (fun _ v S _ => ∃ u, CaseR K u v S)
theorem ev_words {r : Rs} {s : L2.St} {S : Hp} : EvS r (tLst tNil) s S fun v S1 => LstR StrR [] v S1 := ev_nilL
theorem G_L_case (T : TX P w K mg) : FnOk P w K mg base CX0 2 T.f_L_case T.fd_L_case ["_law_source"] (sp_case K) := by
  refine T.F_L_case.ok sc_L_case (fun vs H Q E h => ?_) (fun cdv A outer s H vs Q E hr h => ?_)
  · obtain ⟨a, S, rfl, _⟩ := h
    rfl
  · obtain ⟨⟨p, c⟩, S, rfl, w0, q⟩ := h
    dsimp only at w0 q
    refine ⟨_, (pss_cons (ps_set (i := 1) sc_L_case.nd rfl (Or.inl rfl) (pe_ix (ix_K (K := K)) (pe_lst (pa_cons (pe_lst pa_nil) (pa_cons (pe_lst (pa_cons pe_str pa_nil)) (pa_cons (pe_lst (pa_cons pe_str pa_nil)) (pa_cons (pe_lst (pa_cons pe_str (pa_cons pe_str pa_nil))) pa_nil))))) (pe_call (G_L_draw T) (hr.mono (by decide)) (by rfl) T.g_L_draw T.F_L_draw.kp T.b_L_draw .nil pass0 (pa_cons (pv 0) (pa_cons pe_int pa_nil))) (fun _ _ => rfl)))
      (pss_cons (ps_par (i := 2) (j := 3) (by rfl) sc_L_case.nd rfl rfl (by decide) rfl rfl (pa_cons (pe_ix (ix_K (K := K)) (pe_lst (pa_cons pe_str (pa_cons pe_str pa_nil))) (pe_call (G_L_draw T) (hr.mono (by decide)) (by rfl) T.g_L_draw T.F_L_draw.kp T.b_L_draw .nil pass0 (pa_cons (pv 0) (pa_cons pe_int pa_nil))) (fun _ _ => rfl)) (pa_cons (pe_ix (ix_K (K := K)) (pe_lst (pa_cons pe_str (pa_cons pe_str (pa_cons pe_str pa_nil)))) (pe_call (G_L_draw T) (hr.mono (by decide)) (by rfl) T.g_L_draw T.F_L_draw.kp T.b_L_draw .nil pass0 (pa_cons (pv 0) (pa_cons pe_int pa_nil))) (fun _ _ => rfl)) pa_nil)) (by rfl))
      (pss_one (ps_ret (pe_lst (pa_cons (pv 1) (pa_cons (pv 2) (pa_cons (pv 3) (pa_cons (pe_ix (ix_K (K := K)) (pe_lst (pa_cons pe_str (pa_cons pe_str (pa_cons pe_str pa_nil)))) (pe_call (G_L_draw T) (hr.mono (by decide)) (by rfl) T.g_L_draw T.F_L_draw.kp T.b_L_draw .nil pass0 (pa_cons (pv 0) (pa_cons pe_int pa_nil))) (fun _ _ => rfl)) pa_nil))))))))), ?_⟩
    refine sq_asg (ev_pickW _ _ _ _ fun S1 e => vv_draw0 rfl (by decide) (by decide)) w0 fun v1 S1 H1 w1 s1 ⟨ms, hm1, hm2⟩ => ?_
    refine sq_parR (ev_pick2 _ _ fun S1 e => vv_draw0 rfl (by decide) (by decide)) (fun S1 e => ev_pick3 _ _ _ fun S1 e => vv_draw0 rfl (by decide) (by decide)) (fun v S S' _ h => h) w1 fun v2 v3 S2 H2 w2 s2 ⟨z2, h2, e2⟩ ⟨z3, h3, e3⟩ => ?_
    subst e2
    subst e3
    obtain ⟨m, hm⟩ : ∃ m, v1 = .ref m := by
      obtain ⟨m, _, e, _⟩ := hm2
      exact ⟨m, e⟩
    subst hm
    refine st_ret (R := fun v S3 => ∃ u, CaseR K u v S3) (EvN.stable (R' := fun v S3 => ∃ u, CaseR K u v S3) (en_lst (P := fun us S3 => ∃ z, z ∈ seesL ∧ us = [.ref m, .str z2, .str z3, .str z] ∧ LstR StrR ms (.ref m) S3) ?_ (fun us S3 ⟨z, _, e, _⟩ => by rw [e]; simp)) fun p o S3 e3 n3 ⟨us, eo, z, hz, eus, hms⟩ => ⟨⟨ms, z2, z3, z⟩, p, m, rfl, by rw [eo, eus]; exact upd_same, Mono.up (Ex.new n3) hms, hm1, h2, h3, hz⟩) w2 fun v S3 H3 w3 s3 h => q v S3 H3 w3 (s1.trans (s2.trans s3)) h
    refine J.ea_cons (vv_var rfl) fun x1 S3 e3 hx1 => J.ea_cons (vv_var rfl) fun x2 S4 e4 hx2 => J.ea_cons (vv_var rfl) fun x3 S5 e5 hx3 => J.ea_cons (ev_pick3 _ _ _ fun S1 e => vv_draw0 rfl (by decide) (by decide)) fun x4 S6 e6 ⟨z, hz, hx4⟩ => J.ea_nil.imp' fun us S7 e7 eu => ⟨z, ?_, ?_, ?_⟩
    · simp only [List.mem_cons, List.not_mem_nil, or_false] at hz
      rcases hz with rfl | rfl | rfl
      · exact List.mem_cons_self
      · exact List.mem_cons_self
      · exact List.mem_cons_of_mem _ List.mem_cons_self
    · rw [hx1, hx2, hx3, show x4 = _ from hx4, eu]
    · exact Mono.up (s2.ex.trans (e3.trans (e4.trans (e5.trans (e6.trans e7))))) hm2
def sp_lrule (K : PySem.W.Frag) (C : Addr) : Sp := SpP (A := RuleD) (fun a vs S => ∃ v, vs = [v] ∧ CaseR K a v S) (fun a v S => RuleR K C a v S)
theorem G_L_rule (T : TX P w K mg) : FnOk P w K mg base CX0 4 T.f_L_rule T.fd_L_rule ["_law_case_here"] (sp_lrule K T.C_Rule) := by
  refine T.F_L_rule.ok sc_L_rule (fun vs H Q E h => ?_) (fun cdv A outer s H vs Q E hr h => ?_)
  · obtain ⟨a, S, ⟨v, rfl, _⟩, _⟩ := h
    rfl
  · obtain ⟨a, S, ⟨v, rfl, b, m, rfl, hb, hm, ho⟩, w0, q⟩ := h.body
    refine ⟨_, (pss_one (ps_ret (pe_makeK0 T.mk_Rule (G_Rule_init T) (hr.mono (by decide)) (by rfl) T.g_Rule T.kb4_Rule_init.choose_spec pass0 (pk_cons (pe_callTy (call_tupleK (K := K)) (by rfl) T.z_tuple (by decide +kernel) (pa_cons (pe_ix (ix_K (K := K)) (pv 0) pe_int (fun _ _ => rfl)) pa_nil)) (pk_cons (pe_ix (ix_K (K := K)) (pv 0) pe_int (fun _ _ => rfl)) (pk_cons (pe_ix (ix_K (K := K)) (pv 0) pe_int (fun _ _ => rfl)) (pk_cons (pe_ix (ix_K (K := K)) (pv 0) pe_int (fun _ _ => rfl)) pk_nil))))))), ?_⟩
    refine st_ret (R := fun v S1 => RuleR K T.C_Rule a v S1) (EvN.stable (R' := fun v S1 => RuleR K T.C_Rule a v S1) (en_makeK0 (P := fun us S1 => ∃ v, us = [v, .str a.start, .str a.fresh, .str a.sees] ∧ TupR K StrR a.moves v S1) (R := fun o S1 => ∃ dx d, o = .ins T.C_Rule dx [(("kept_parts" : Str), V.ref d)] ∧ PartsAt K d a S1) ?_ fun zs S1 e1 ⟨v, ez, hv⟩ => ?_) fun p o S1 e1 n1 ⟨dx, d, eo, hd⟩ => ⟨p, dx, d, rfl, by rw [eo]; exact upd_same, hd.up (Ex.new n1), ho⟩) w0 fun v S1 H1 w1 s1 h => q v S1 H1 w1 s1 h
    · refine J.ea_cons (ev_tupS (K := K) (R := StrR) ((vv_ix0 rfl hb rfl).imp fun v S1 e ev => .inl (by rw [ev]; exact Mono.up e hm))) fun x1 S1 e1 h1 => J.ea_cons (vv_ix1 rfl (e1 _ _ hb) rfl) fun x2 S2 e2 h2 => J.ea_cons (vv_ix2 rfl (e2 _ _ (e1 _ _ hb)) rfl) fun x3 S3 e3 h3 => J.ea_cons (vv_ix3 rfl (e3 _ _ (e2 _ _ (e1 _ _ hb))) rfl) fun x4 S4 e4 h4 => J.ea_nil.imp' fun us S5 e5 eu => ⟨x1, by rw [h2, h3, h4, eu], Mono.up (e2.trans (e3.trans (e4.trans e5))) h1⟩
    · subst ez
      exact ⟨rfl, a, _, fun x => rfl, ⟨v, rfl, .inr hv, ho⟩, fun dx fs S2 e2 ⟨d, ef, hd⟩ => ⟨dx, d, by rw [ef], hd⟩⟩
end
end K29

namespace K29
open PySem PySem.Spec PyProof.Rows L2 Evl J RZ
section
variable {P : Program} {w : World} {K : PySem.W.Frag} {mg : Str → Option Value} {base : Heap}
/-! ### tables as the law tells them -/
def ToldQ (K : PySem.W.Frag) (pages : Int) (news : List Int) (v : V) (S : Hp) : Prop := ∃ t r w m, v = .ref t ∧ S t = some (.lst [.int pages, r, .ref w, m]) ∧ LstR IntR news (.ref w) S
theorem ToldQ.up {pages : Int} {news : List Int} {v : V} {S S' : Hp} (e : Ex S S') (h : ToldQ K pages news v S) : ToldQ K pages news v S' := by
  obtain ⟨t, r, w, m, h1, h2, h3⟩ := h
  exact ⟨t, r, w, m, h1, e _ _ h2, Mono.up e h3⟩
def ToldR (K : PySem.W.Frag) : Rl BookD := fun a v S => ∃ t r w m, v = .ref t ∧ S t = some (.lst [.int a.pages, .ref r, .ref w, .ref m]) ∧ LstR IntR a.rows (.ref r) S ∧ LstR IntR a.news (.ref w) S ∧ LstR (Tr K) a.moves (.ref m) S
instance {K : PySem.W.Frag} : Mono (ToldR K) := ⟨fun e ⟨t, r, w, m, h1, h2, h3, h4, h5⟩ => ⟨t, r, w, m, h1, e _ _ h2, Mono.up e h3, Mono.up e h4, Mono.up e h5⟩⟩
theorem ToldR.q {a : BookD} {v : V} {S : Hp} (h : ToldR K a v S) : ToldQ K a.pages a.news v S := by
  obtain ⟨t, r, w, m, h1, h2, h3, h4, h5⟩ := h
  exact ⟨t, _, w, _, h1, h2, h4⟩
def sp_there (K : PySem.W.Frag) : Sp := SpP (A := Int × List Int × Int) (fun a vs S => ∃ v, vs = [v, .int a.2.2] ∧ ToldQ K a.1 a.2.1 v S ∧ a.2.1.length ≤ 1000) (fun a v _ => v = .int (pagesAt a.1 a.2.1 a.2.2))
theorem G_L_there (T : TX P w K mg) : FnOk P w K mg base CX0 1 T.f_L_there T.fd_L_there ["_law_told_here", "_law_time"] (sp_there K) := by
  refine T.F_L_there.ok sc_L_there (fun vs H Q E h => ?_) (fun cdv A outer s H vs Q E hr h => ?_)
  · obtain ⟨a, S, ⟨v, rfl, _⟩, _⟩ := h
    rfl
  · obtain ⟨⟨pages, news, time⟩, S, ⟨v, rfl, ⟨t, r, w', m, rfl, ht, hw⟩, hl⟩, w0, q⟩ := h.body
    refine ⟨_, (pss_one (ps_ret (pe_op (op_addK (K := K)) (pe_ix (ix_K (K := K)) (pv 0) pe_int (fun _ _ => rfl)) (pe_callB (call_lenK (K := K)) (by rfl) T.z_len (by decide +kernel) (pa_cons (pe_lc (own := [("_law_new", 2)]) (by rfl) sc_L_there.nd (pi_K (K := K) (pe_ix (ix_K (K := K)) (pv 0) pe_int (fun _ _ => rfl))) (blkOk_by (own := [("_law_new", 2)]) (N := N_L_there) (sc := (defScope s_L_there)) (by decide +kernel)) (fun _ _ _ _ _ => (pg_name (i := 2) sc_L_there.nd rfl (Or.inl rfl))) (fun _ _ _ _ _ => (pts_one (pt_cmpR op_le (pv 2) (pv 1) (nomark _)))) (fun _ _ _ _ _ => (pv 2))) pa_nil))))), ?_⟩
    dsimp only at hl ht hw
    exact st_ret (vv_op (vv_ix0 rfl ht rfl) (vv_lenF (R := IntR) (ys := news) (fun t => decide (t ≤ time)) (ei_list ((vv_ix2 rfl ht rfl).imp fun v S1 e ev => by rw [ev]; exact Mono.up e hw)) (by omega) (by intro _; rfl) (by intro _; rfl) fun y v S2 e m hy => by
      rw [show v = _ from hy]
      exact tb_test (vv_op (vv_var rfl) (vv_var rfl) rs_I0)) rs_add) w0 fun v S2 H2 w2 s2 e => q v S2 H2 w2 s2 e
theorem vv_there {r : Rs} {s : L2.St} {S : Hp} {ts : TA} {pages time : Int} {news : List Int} {v : V} (h : EvAV r ts s S [v, .int time]) (hv : ToldQ K pages news v S) (hl : news.length ≤ 1000) : EvV r (tCall (sp_there K) [] E0 ts) s S (.int (pagesAt pages news time)) :=
  vv_call (pages, news, time) h (fun S e => ⟨v, rfl, hv.up e, hl⟩) fun v _ _ p => p
def sp_place (K : PySem.W.Frag) : Sp := SpP (A := BookD × Int × Int) (fun a vs S => ∃ v, vs = [v, .int a.2.1, .int a.2.2] ∧ ToldR K a.1 v S ∧ 0 ≤ a.2.1 ∧ a.2.1 < (a.1.rows.length : Int)) (fun a v _ => v = .int (spotM a.1 a.2.1 a.2.2))
theorem G_L_place (T : TX P w K mg) : FnOk P w K mg base CX0 1 T.f_L_place T.fd_L_place ["_law_told_here", "_law_row", "_law_time"] (sp_place K) := by
  refine T.F_L_place.ok sc_L_place (fun vs H Q E h => ?_) (fun cdv A outer s H vs Q E hr h => ?_)
  · obtain ⟨a, S, ⟨v, rfl, _⟩, _⟩ := h
    rfl
  · obtain ⟨⟨a, row, time⟩, S, ⟨v, rfl, ⟨t, r, w', m, rfl, ht, hr', hw', hm'⟩, h0, h1⟩, w0, q⟩ := h.body
    refine ⟨_, (pss_cons (ps_set (i := 3) sc_L_place.nd rfl (Or.inl rfl) (pe_ix (ix_K (K := K)) (pe_ix (ix_K (K := K)) (pv 0) pe_int (fun _ _ => rfl)) (pv 1) (fun _ _ => rfl)))
      (pss_cons (ps_for PassesOwn.never (by rfl) (pi_K (K := K) (pe_ix (ix_K (K := K)) (pv 0) pe_int (fun _ _ => rfl))) (pg_name (i := 4) sc_L_place.nd rfl (Or.inl rfl)) (pss_one (ps_if (PW.pt (pw_and (pt_cmpR (op_eqK (K := K) hr.units) (pe_ix (ix_K (K := K)) (pv 4) pe_int (fun _ _ => rfl)) (pv 1) (nomark _)) (pw_and1 (pt_cmpR op_le (pe_ix (ix_K (K := K)) (pv 4) pe_int (fun _ _ => rfl)) (pv 2) (nomark _))))) (pss_one (ps_set (i := 3) sc_L_place.nd rfl (Or.inl rfl) (pe_ix (ix_K (K := K)) (pv 4) pe_int (fun _ _ => rfl)))) pss_nil)))
      (pss_one (ps_ret (pv 3))))), ?_⟩
    dsimp only at h0 h1 ht hr' hw' hm'
    refine sq_asg (ev_ixL (K := K) (R := IntR) (i := row) (j := row.toNat) (a := a.rows.getD row.toNat 0) ((vv_ix1 rfl ht rfl).imp fun v S1 e ev => by rw [ev]; exact Mono.up e hr') (fun S e => vv_var rfl) (getD_at (by omega)) (by omega)) w0 fun v1 S1 H1 w1 s1 e1 => ?_
    obtain rfl : v1 = .int _ := e1
    refine sq_for (ei_list (X := Tr K) ((vv_ix3 rfl (s1.ex _ _ ht) rfl).imp fun v S2 e ev => by rw [ev]; exact Mono.up (s1.ex.trans e) hm')) w1 fun S2 H2 w2 s2 => ?_
    refine ⟨fun i s' S' H' => Wd Rs.nil S' H' ∧ Ex S2 S' ∧ Stp Rs.nil S H S' H' ∧ ∃ y4, s' = [some (.ref t), some (.int row), some (.int time), some (.int ((a.moves.take i).foldl (fun f m => if m.2.1 = row ∧ m.1 ≤ time then m.2.2 else f) (a.rows.getD row.toNat 0))), y4], ⟨w2, Ex.refl _, s1.trans s2, none, rfl⟩, fun i s' S' H' p => ⟨p.1, p.2.1⟩, ?_, ?_⟩
    · rintro i m u s' S3 H3 S4 H4 hi ⟨w3, e3, s3, y4, rfl⟩ w4 s4 hu
      refine st_if (b := decide (m.2.1 = row) && decide (m.1 ≤ time)) (tb_and (tb_test (vv_op (tr_ix rfl hu).2.1 (vv_var rfl) rs_eqI)) fun _ => tb_test (vv_op (tr_ix rfl hu).1 (vv_var rfl) rs_I0)) w4 (fun hb S5 H5 w5 s5 => ?_) (fun hb S5 H5 w5 s5 => ?_)
      · refine st_asg (tr_ix rfl (Mono.up s5.ex hu)).2.2 w5 fun v6 S6 H6 w6 s6 e6 => ?_
        subst e6
        refine ⟨S6, w6, e3.trans (s4.ex.trans (s5.ex.trans s6.ex)), s3.trans (s4.trans (s5.trans s6)), some u, ?_⟩
        rw [fold_snoc hi, if_pos (by simpa using hb)]
        rfl
      · refine ⟨S5, w5, e3.trans (s4.ex.trans s5.ex), s3.trans (s4.trans s5), some u, ?_⟩
        rw [fold_snoc hi, if_neg (by simpa using hb)]
        rfl
    · rintro s' S3 H3 ⟨w3, e3, s3, y4, rfl⟩
      refine st_ret (vv_var rfl) w3 fun v4 S4 H4 w4 s4 e4 => q v4 S4 H4 w4 (s3.trans s4) ?_
      rw [e4, List.take_length]
      rfl
theorem vv_place {r : Rs} {s : L2.St} {S : Hp} {ts : TA} {a : BookD} {row time : Int} {v : V} (h : EvAV r ts s S [v, .int row, .int time]) (hv : ToldR K a v S) (h0 : 0 ≤ row) (h1 : row < (a.rows.length : Int)) : EvV r (tCall (sp_place K) [] E0 ts) s S (.int (spotM a row time)) :=
  vv_call (a, row, time) h (fun S e => ⟨v, rfl, Mono.up e hv, h0, h1⟩) fun v _ _ p => p
/-! the moves so far -/
def spotsAfter (sp : List Int) (ms : List (Int × Int × Int)) : List Int := ms.foldl (fun sp m => sp.set m.2.1.toNat m.2.2) sp
def lastT (bf : Int) (ms : List (Int × Int × Int)) : Int := ms.foldl (fun _ m => m.1) bf
theorem movesB_snoc {pages : Int} {news : List Int} {m : Int × Int × Int} : ∀ (ms : List (Int × Int × Int)) (sp : List Int) (bf : Int), movesB pages news sp bf (ms ++ [m]) = (movesB pages news sp bf ms && canB pages news (spotsAfter sp ms) (lastT bf ms) m)
  | [], sp, bf => by
    show (canB pages news sp bf m && true) = (true && canB pages news sp bf m)
    rw [Bool.and_true, Bool.true_and]
  | x :: ms, sp, bf => by
    show (canB pages news sp bf x && movesB pages news (sp.set x.2.1.toNat x.2.2) x.1 (ms ++ [m])) = ((canB pages news sp bf x && movesB pages news (sp.set x.2.1.toNat x.2.2) x.1 ms) && canB pages news (spotsAfter (sp.set x.2.1.toNat x.2.2) ms) (lastT x.1 ms) m)
    rw [movesB_snoc ms, Bool.and_assoc]
theorem lastT_le {t : Int} : ∀ (ms : List (Int × Int × Int)) (bf : Int), bf ≤ t → (∀ x, x ∈ ms → x.1 ≤ t) → lastT bf ms ≤ t
  | [], bf, h, _ => h
  | x :: ms, bf, _, h => lastT_le ms x.1 (h x List.mem_cons_self) fun y hy => h y (List.mem_cons_of_mem _ hy)
theorem spotsAfter_len : ∀ (ms : List (Int × Int × Int)) (sp : List Int), (spotsAfter sp ms).length = sp.length
  | [], sp => rfl
  | x :: ms, sp => by
    show (spotsAfter (sp.set x.2.1.toNat x.2.2) ms).length = _
    rw [spotsAfter_len ms, List.length_set]
theorem spot_after {pages time row : Int} {news : List Int} : ∀ (ms : List (Int × Int × Int)) (sp : List Int) (bf : Int), movesB pages news sp bf ms = true → 0 ≤ row → row < (sp.length : Int) → (∀ x, x ∈ ms → x.1 ≤ time) →
    ms.foldl (fun f m => if m.2.1 = row ∧ m.1 ≤ time then m.2.2 else f) (sp.getD row.toNat 0) = (spotsAfter sp ms).getD row.toNat 0
  | [], sp, bf, _, _, _, _ => rfl
  | x :: ms, sp, bf, h, h0, h1, ht => by
    have h2 := Bool.and_eq_true_iff.mp (show (canB pages news sp bf x && movesB pages news (sp.set x.2.1.toNat x.2.2) x.1 ms) = true from h)
    have hc := h2.1
    unfold canB at hc
    simp only [Bool.and_eq_true, decide_eq_true_eq] at hc
    rw [List.foldl_cons]
    have e : (if x.2.1 = row ∧ x.1 ≤ time then x.2.2 else sp.getD row.toNat 0) = (sp.set x.2.1.toNat x.2.2).getD row.toNat 0 := by
      have hx := ht x List.mem_cons_self
      rw [List.getD_eq_getElem?_getD (l := sp.set _ _)]
      by_cases e : x.2.1 = row
      · rw [if_pos ⟨e, hx⟩, e, List.getElem?_set_self (by omega)]
        rfl
      · rw [if_neg (fun z => e z.1), List.getElem?_set_ne (by omega), ← List.getD_eq_getElem?_getD]
    rw [e]
    exact spot_after ms _ x.1 h2.2 h0 (by rw [List.length_set]; exact h1) fun y hy => ht y (List.mem_cons_of_mem _ hy)
theorem pagesAt_ge (pages : Int) (news : List Int) (t : Int) : pages ≤ pagesAt pages news t := by
  unfold pagesAt
  omega
end
end K29

namespace K29
open PySem PySem.Spec PyProof.Rows L2 Evl J RZ
section
variable {P : Program} {w : World} {K : PySem.W.Frag} {mg : Str → Option Value} {base : Heap}
theorem en_sortedX {r : Rs} {s : L2.St} {S : Hp} {ta : TE} {P : List Int → Prop} (h : EvS r ta s S fun v S1 => ∃ ns, P ns ∧ LstR IntR ns v S1) (hz : ∀ ns, P ns → ns.length < 64) : EvN r (tCB (rSortedU K) (tCons ta tNil)) s S fun o S1 => ∃ ms ns : List Int, o = .lst (ms.map V.int) ∧ P ns ∧ ms.Perm ns ∧ ms.Pairwise (· ≤ ·) := fun S1 H e w0 Q q =>
  h S1 H e w0 _ fun v S2 H2 w2 s2 ⟨ns, hp, hl⟩ => by
    have := en_sorted (K := K) (r := r) (s := s) (S := S2) (ta := tC v) (hz ns hp) (vv_c.imp fun u S3 e3 eu => by rw [eu]; exact Mono.up e3 hl)
    exact this S2 H2 (Ex.refl _) w2 Q fun p o S3 H3 h0 h1 h2 w3 s3 ⟨ms, e1, e2, e3⟩ => q p o S3 H3 (pre_none s2 h0) h1 h2 w3 (s2.trans s3) ⟨ms, ns, e1, hp, e2, e3⟩
theorem ev_addDraw {p c : Addr} {s : L2.St} {S : Hp} {t : TA} {ta : TE} {n lo : Int} (ha : EvV (srcR p c) ta s S (.int lo)) (h : EvAV (srcR p c) t s S [.ref p, .int n]) (h1 : 1 ≤ n) (h2 : n < 10 ^ 40) : EvS (srcR p c) (tOp (rAddU K) ta (tCall sp_draw [] E0 t)) s S fun v _ => ∃ i, v = .int i ∧ lo ≤ i ∧ i < lo + n :=
  ev_op2 ha (fun _ S e _ => ev_draw (EvAS.mono' e h) h1 h2) fun x y S S' _ hx _ ⟨i, hy, h1, h2⟩ => by
    subst hx
    subst hy
    exact ⟨_, rs_add, _, rfl, by omega, by omega⟩
theorem ev_intX {r : Rs} {s : L2.St} {S : Hp} {te : TE} {n : Int} (h : EvS r te s S fun v _ => ∃ i, v = .int i ∧ 0 ≤ i ∧ i < n) : EvS r (tCB (fun xs H Q => (∃ i, xs = [V.int i] ∧ Q (.int i) H) ∨ ∃ k, xs = [V.bl k] ∧ Q (.int (if k then 1 else 0)) H) (tCons te tNil)) s S fun v S1 => ∃ i, (0 ≤ i ∧ i < n) ∧ IntR i v S1 := fun S1 H e w0 Q q =>
  h S1 H e w0 _ fun v S2 H2 w2 s2 ⟨i, ev, h1, h2⟩ => .inl ⟨i, by rw [ev], q _ S2 H2 w2 s2 ⟨i, ⟨h1, h2⟩, rfl⟩⟩
structure ToldOk (most span : Int) (a : BookD) : Prop where
  p : 2 ≤ a.pages ∧ a.pages ≤ most
  rl : 1 ≤ a.rows.length ∧ a.rows.length ≤ 3
  r : ∀ x, x ∈ a.rows → 0 ≤ x ∧ x < a.pages
  nl : a.news.length ≤ 2
  n : ∀ x, x ∈ a.news → 0 ≤ x ∧ x < span
  ns : a.news.Pairwise (· ≤ ·)
  ml : a.moves.length ≤ 7
  m : movesB a.pages a.news a.rows 0 a.moves = true
  mt : ∀ x, x ∈ a.moves → x.1 ≤ 14
theorem rises_of {l : List Int} (h : l.Pairwise (· ≤ ·)) : risesB l = true := by
  unfold risesB
  rw [List.all_eq_true]
  intro p hp
  obtain ⟨i, hi⟩ := List.mem_iff_getElem?.mp hp
  rw [List.getElem?_zip_eq_some, List.getElem?_drop] at hi
  obtain ⟨h1, h2⟩ := List.getElem?_eq_some_iff.mp hi.1
  obtain ⟨h3, h4⟩ := List.getElem?_eq_some_iff.mp hi.2
  have := List.pairwise_iff_getElem.mp h i (1 + i) h1 h3 (by omega)
  rw [h2, h4] at this
  exact decide_eq_true this
theorem ToldOk.book {most span : Int} {a : BookD} (h : ToldOk most span a) (h1 : most ≤ 60) (h2 : span ≤ 2001) : BookOk a where
  p := by have := h.p; omega
  rl := by have := h.rl; omega
  r := by
    unfold rowsB
    rw [List.all_eq_true]
    intro x hx
    have := h.r x hx
    simp
    omega
  nl := by have := h.nl; omega
  n := by
    unfold newsB
    rw [rises_of h.ns, Bool.and_true, List.all_eq_true]
    intro x hx
    have := h.n x hx
    simp
    omega
  ml := by have := h.ml; omega
  m := h.m
def sp_told (K : PySem.W.Frag) : Sp := SpR (A := (Addr × Addr) × Int × Int) (fun a => srcR a.1.1 a.1.2) (fun a vs _ _ => vs = [.ref a.1.1, .int a.2.1, .int a.2.2] ∧ (2 ≤ a.2.1 ∧ a.2.1 ≤ 60) ∧ 1 ≤ a.2.2 ∧ a.2.2 ≤ 2000) (fun a v S _ => ∃ b, ToldR K b v S ∧ ToldOk a.2.1 a.2.2 b)
theorem lstref {α : Type} {R : Rl α} {xs : List α} {v : V} {S : Hp} (h : LstR R xs v S) : ∃ r, v = .ref r ∧ LstR R xs (.ref r) S := by
  obtain ⟨a, vs, e, h2⟩ := h
  subst e
  exact ⟨a, rfl, a, vs, rfl, h2⟩
theorem G_L_told (T : TX P w K mg) : FnOk P w K mg base CX0 2 T.f_L_told T.fd_L_told ["_law_source", "_law_most", "_law_span"] (sp_told K) := by
  refine T.F_L_told.ok sc_L_told (fun vs H Q E h => ?_) (fun cdv A outer s H vs Q E hr h => ?_)
  · obtain ⟨a, S, ⟨rfl, _⟩, _⟩ := h
    rfl
  · obtain ⟨⟨⟨p, c⟩, most, span⟩, S, ⟨rfl, hmost, hspan⟩, w0, q⟩ := h
    dsimp only at w0 q hmost hspan
    refine ⟨_, (pss_cons (ps_set (i := 3) sc_L_told.nd rfl (Or.inr rfl) (pe_op (op_addK (K := K)) pe_int (pe_call (G_L_draw T) (hr.mono (by decide)) (by rfl) T.g_L_draw T.F_L_draw.kp T.b_L_draw .nil pass0 (pa_cons (pv 0) (pa_cons (pe_op op_sub (pv 1) pe_int) pa_nil)))))
      (pss_cons (ps_setLc (i := 4) (own := [("_law_turn", 8)]) (by rfl) sc_L_told.nd rfl rfl (sw_true rfl rfl rfl (by decide +kernel)) (pi_range1 (by rfl) T.z_range (pa_cons (pe_op (op_addK (K := K)) pe_int (pe_call (G_L_draw T) (hr.mono (by decide)) (by rfl) T.g_L_draw T.F_L_draw.kp T.b_L_draw .nil pass0 (pa_cons (pv 0) (pa_cons pe_int pa_nil)))) pa_nil)) (blkOk_by (own := [("_law_turn", 8)]) (N := N_L_told) (sc := (defScope s_L_told)) (by decide +kernel)) (fun _ _ _ _ _ => (pg_name (i := 8) sc_L_told.nd rfl (Or.inl rfl))) (fun _ _ _ _ _ => pts_nil) (fun _ _ _ _ _ => (pe_call (G_L_draw T) (hr.mono (by decide)) (by rfl) T.g_L_draw T.F_L_draw.kp T.b_L_draw .nil pass0 (pa_cons (pv 0) (pa_cons (pv 3) pa_nil)))))
      (pss_cons (ps_set (i := 5) sc_L_told.nd rfl (Or.inl rfl) (pe_callB (call_sortedK (K := K)) (by rfl) T.z_sorted (by decide +kernel) (pa_cons (pe_lc (own := [("_law_turn", 8)]) (by rfl) sc_L_told.nd (pi_range1 (by rfl) T.z_range (pa_cons (pe_call (G_L_draw T) (hr.mono (by decide)) (by rfl) T.g_L_draw T.F_L_draw.kp T.b_L_draw .nil pass0 (pa_cons (pv 0) (pa_cons pe_int pa_nil))) pa_nil)) (blkOk_by (own := [("_law_turn", 8)]) (N := N_L_told) (sc := (defScope s_L_told)) (by decide +kernel)) (fun _ _ _ _ _ => (pg_name (i := 8) sc_L_told.nd rfl (Or.inl rfl))) (fun _ _ _ _ _ => pts_nil) (fun _ _ _ _ _ => (pe_callTy call_int1 (by rfl) T.z_int (by decide +kernel) (pa_cons (pe_call (G_L_draw T) (hr.mono (by decide)) (by rfl) T.g_L_draw T.F_L_draw.kp T.b_L_draw .nil pass0 (pa_cons (pv 0) (pa_cons (pv 2) pa_nil))) pa_nil)))) pa_nil)))
      (pss_cons (ps_par (i := 6) (j := 7) (by rfl) sc_L_told.nd rfl rfl (by decide) rfl rfl (pa_cons (pe_lst (pa_cons (pv 3) (pa_cons (pv 4) (pa_cons (pv 5) (pa_cons (pe_lst pa_nil) pa_nil))))) (pa_cons pe_int pa_nil)) (by rfl))
      (pss_cons (ps_for PassesOwn.never (by rfl) (pi_range1 (by rfl) T.z_range (pa_cons (pe_call (G_L_draw T) (hr.mono (by decide)) (by rfl) T.g_L_draw T.F_L_draw.kp T.b_L_draw .nil pass0 (pa_cons (pv 0) (pa_cons pe_int pa_nil))) pa_nil)) (pg_name (i := 8) sc_L_told.nd rfl (Or.inl rfl)) (pss_cons (ps_set (i := 7) sc_L_told.nd rfl (Or.inl rfl) (pe_op (op_addK (K := K)) (pv 7) (pe_call (G_L_draw T) (hr.mono (by decide)) (by rfl) T.g_L_draw T.F_L_draw.kp T.b_L_draw .nil pass0 (pa_cons (pv 0) (pa_cons pe_int pa_nil)))))
        (pss_cons (ps_par (i := 9) (j := 10) (by rfl) sc_L_told.nd rfl rfl (by decide) rfl rfl (pa_cons (pe_call (G_L_draw T) (hr.mono (by decide)) (by rfl) T.g_L_draw T.F_L_draw.kp T.b_L_draw .nil pass0 (pa_cons (pv 0) (pa_cons (pe_callB (call_lenK (K := K)) (by rfl) T.z_len (by decide +kernel) (pa_cons (pv 4) pa_nil)) pa_nil))) (pa_cons (pe_call (G_L_there T) (hr.mono (by decide)) (by rfl) T.g_L_there T.F_L_there.kp T.b_L_there .nil pass0 (pa_cons (pv 6) (pa_cons (pv 7) pa_nil))) pa_nil)) (by rfl))
        (pss_cons (ps_set (i := 11) sc_L_told.nd rfl (Or.inl rfl) (pe_call (G_L_draw T) (hr.mono (by decide)) (by rfl) T.g_L_draw T.F_L_draw.kp T.b_L_draw .nil pass0 (pa_cons (pv 0) (pa_cons (pv 10) pa_nil))))
        (pss_one (ps_if (pt_cmpR (op_neK (K := K) hr.units) (pv 11) (pe_call (G_L_place T) (hr.mono (by decide)) (by rfl) T.g_L_place T.F_L_place.kp T.b_L_place .nil pass0 (pa_cons (pv 6) (pa_cons (pv 9) (pa_cons (pv 7) pa_nil)))) (nomark _)) (pss_one (ps_expr (pe_bm PySem.F.plainAttrs_list PySem.F.slot_list_append PySem.F.type_list_append mt_append (pe_ix (ix_K (K := K)) (pv 6) pe_int (fun _ _ => rfl)) (pa_cons (pe_tup (pa_cons (pv 7) (pa_cons (pv 9) (pa_cons (pv 11) pa_nil)))) pa_nil)))) pss_nil))))))
      (pss_one (ps_ret (pv 6)))))))), ?_⟩
    have big : most < 10 ^ 40 ∧ span < 10 ^ 40 := by
      have : (2000 : Int) < 10 ^ 40 := by decide +kernel
      omega
    refine sq_asg (ev_draw1 (n := most - 1) (va_cons (vv_var rfl) (va_cons (vv_op (vv_var rfl) vv_c rs_sub) va_nil)) (by omega) (by omega)) w0 fun v1 S1 H1 w1 s1 ⟨n, e1, hn1, hn2⟩ => ?_
    subst e1
    have hn40 : n < 10 ^ 40 := by omega
    refine sq_asg (ev_lcr (R := IntR) (P := fun k => 1 ≤ k ∧ k < 1 + 3) (fun y => 0 ≤ y ∧ y < n) (ev_draw1 (va_cons (vv_var rfl) (va_cons vv_c va_nil)) (by decide) (by decide)) (fun k hk => by omega) (by intro _; rfl) fun i S e => (ev_draw (va_cons (vv_var rfl) (va_cons (vv_var rfl) va_nil)) (by omega) hn40).imp fun v S _ ⟨i, h1, h2, h3⟩ => ⟨i, ⟨h2, h3⟩, h1⟩) w1 fun v2 S2 H2 w2 s2 ⟨rows, kr, hkr, hrl, hrb, hrr⟩ => ?_
    obtain ⟨r, rfl, hrr⟩ := lstref hrr
    have hrows : 1 ≤ rows.length ∧ rows.length ≤ 3 := by omega
    clear hrl hkr
    refine sq_asg (EvN.stable (R' := fun v S => ∃ news : List Int, (news.length ≤ 2 ∧ ∀ x, x ∈ news → 0 ≤ x ∧ x < span) ∧ news.Pairwise (· ≤ ·) ∧ LstR IntR news v S) (en_sortedX (P := fun ns => ns.length ≤ 2 ∧ ∀ x, x ∈ ns → 0 ≤ x ∧ x < span) ((ev_lcr (R := IntR) (P := fun k => 0 ≤ k ∧ k < 3) (fun y => 0 ≤ y ∧ y < span) (ev_draw (va_cons (vv_var rfl) (va_cons vv_c va_nil)) (by decide) (by decide)) (fun k hk => by omega) (by intro _; rfl) fun i S e => ev_intX (ev_draw (va_cons (vv_var rfl) (va_cons (vv_var rfl) va_nil)) hspan.1 big.2)).imp fun v S _ ⟨zs, k, hk, hl, hb, hr⟩ => ⟨zs, ⟨by omega, hb⟩, hr⟩) (fun ns h => by omega)) fun po o S e n0 ⟨ms, ns, eo, ⟨hn1, hn2⟩, hp, hs⟩ => ⟨ms, ⟨by rw [hp.length_eq]; exact hn1, fun x hx => hn2 x (hp.mem_iff.mp hx)⟩, hs, po, _, rfl, by rw [eo]; exact upd_same, All2.of_ints ms⟩) w2 fun v3 S3 H3 w3 s3 ⟨news, ⟨hnl, hnb⟩, hns, hnr⟩ => ?_
    obtain ⟨wn, rfl, hnr⟩ := lstref hnr
    have hrr3 := Mono.up s3.ex hrr
    refine sq_par ?_
    refine ⟨_, rfl, _, rfl, _, rfl, by decide, fun m hm => ⟨sz_of (by simp), fun t ht => ?_⟩⟩
    refine ⟨_, _, rfl, ?_⟩
    have r0 : (srcR p c).M = [p, c] := rfl
    have nm : m ∉ (srcR p c).M := w3.notM hm
    have nmt : m ≠ t := fun e => by
      rw [e] at ht
      rw [upd_same] at ht
      cases ht
    have w4 : Wd (srcR p c) (upd S3 t (.lst [.int n, .ref r, .ref wn, .ref m])) (upd (upd H3 m (.lst [])) t (.lst [.int n, .ref r, .ref wn, .ref m])) := (w3.new hm).newS ht
    have s4 : Stp (srcR p c) S3 H3 (upd S3 t (.lst [.int n, .ref r, .ref wn, .ref m])) (upd (upd H3 m (.lst [])) t (.lst [.int n, .ref r, .ref wn, .ref m])) := (Stp.new hm).trans (Stp.newS (w3.new hm) ht)
    have h4m : (upd (upd H3 m (.lst [])) t (.lst [.int n, .ref r, .ref wn, .ref m])) m = some (.lst []) := by
      rw [upd_ne nmt]
      exact upd_same
    have n4 : (upd S3 t (.lst [.int n, .ref r, .ref wn, .ref m])) m = none := by
      rw [upd_ne nmt]
      exact w3.fresh hm
    have t4 : (upd S3 t (.lst [.int n, .ref r, .ref wn, .ref m])) t = some (.lst [.int n, .ref r, .ref wn, .ref m]) := upd_same
    have e34 : Ex S3 (upd S3 t (.lst [.int n, .ref r, .ref wn, .ref m])) := s4.ex
    have hm0 : H m = none := pre_none (s1.trans (s2.trans s3)) hm
    have s04 := (s1.trans (s2.trans s3)).trans s4
    have hrr4 := Mono.up e34 hrr3
    have hnr4 := Mono.up e34 hnr
    clear hrr hrr3 hnr s4 e34
    generalize (upd S3 t (HO.lst [.int n, .ref r, .ref wn, .ref m])) = S4 at *
    generalize (upd (upd H3 m (HO.lst [])) t (HO.lst [.int n, .ref r, .ref wn, .ref m])) = H4 at *
    refine sq_forR (P := fun k => 0 ≤ k ∧ k < 8) (ev_draw (va_cons (vv_var rfl) (va_cons vv_c va_nil)) (by decide) (by decide)) w4 fun k S5 H5 hk w5 s5 => ?_
    refine sq_for (ei_range1 (va_cons vv_c va_nil) (by omega)) w5 fun S6 H6 w6 s6 => ?_
    have s46 := s5.trans s6
    refine ⟨fun i s' S' H' => Wd (srcR p c) S' H' ∧ Ex S6 S' ∧ Stp (srcR p c) S H S' H' ∧ S' m = none ∧ ∃ ms ws time y8 y9 y10 y11, H' m = some (.lst ws) ∧ All2 (Tr K) S' ms ws ∧ s' = [some (.ref p), some (.int most), some (.int span), some (.int n), some (.ref r), some (.ref wn), some (.ref t), some (.int time), y8, y9, y10, y11] ∧ movesB n news rows 0 ms = true ∧ (∀ x, x ∈ ms → x.1 ≤ time) ∧ (0 ≤ time ∧ time ≤ 2 * (i : Int)) ∧ ms.length ≤ i,
      ⟨w6, Ex.refl _, s04.trans s46, s46.fr m (ne_none h4m) n4, [], [], 0, none, none, none, none, s46.kp m _ nm h4m, .nil, rfl, rfl, (fun x hx => by cases hx), ⟨Int.le_refl _, by omega⟩, Nat.le_refl _⟩, fun i s' S' H' p => ⟨p.1, p.2.1⟩, ?_, ?_⟩
    · rintro i i' v s' S7 H7 S8 H8 hi ⟨w7, e7, s7, n7, ms, ws, time, y8, y9, y10, y11, h7, a7, rfl, hmv, hmt, htm, hml⟩ w8 s8 hv
      have hi2 : i < k.toNat := by
        have := (List.getElem?_eq_some_iff.mp hi).1
        rw [List.length_range] at this
        exact this
      have e8 := e7.trans s8.ex
      have h8 := s8.kp m _ nm h7
      have n8 := s8.fr m (ne_none h7) n7
      have e48 := s46.ex.trans e8
      refine sq_asg (ev_addDraw (vv_var rfl) (va_cons (vv_var rfl) (va_cons vv_c va_nil)) (by decide) (by decide)) w8 fun v9 S9 H9 w9 s9 ⟨time', e9, ht1, ht2⟩ => ?_
      subst e9
      have e49 := e48.trans s9.ex
      have tq : ToldQ K n news (.ref t) S9 := ⟨t, _, wn, _, rfl, e49 _ _ t4, Mono.up e49 hnr4⟩
      have hrr9 := Mono.up e49 hrr4
      refine sq_parR (A := fun v _ => ∃ j, v = .int j ∧ 0 ≤ j ∧ j < (rows.length : Int)) (B := fun v _ => v = .int (pagesAt n news time')) (ev_draw (n := (rows.length : Int)) (va_cons (vv_var rfl) (va_cons (len_v (K := K) (R := IntR) rfl (.inl hrr9)) va_nil)) (by omega) (by
        have : (3 : Int) < 10 ^ 40 := by decide +kernel
        omega)) (fun S e => vv_there (va_cons (vv_var rfl) (va_cons (vv_var rfl) va_nil)) (tq.up e) (by omega)) (fun v S S' _ h => h) w9 fun v10 v10' S10 H10 w10 s10 ⟨row, e10, hr0, hr1⟩ e10' => ?_
      subst e10
      subst e10'
      have hpg := pagesAt_ge n news time'
      have hpl : pagesAt n news time' ≤ n + 2 := by
        have := List.length_filter_le (fun x => decide (x ≤ time')) news
        unfold pagesAt
        omega
      refine sq_asg (ev_draw (va_cons (vv_var rfl) (va_cons (vv_var rfl) va_nil)) (by omega) (by
        have : (62 : Int) < 10 ^ 40 := by decide +kernel
        omega)) w10 fun v11 S11 H11 w11 s11 ⟨goal, e11, hg0, hg1⟩ => ?_
      subst e11
      have s811 := s9.trans (s10.trans s11)
      have h11 := s811.kp m _ nm h8
      have n11 := s811.fr m (ne_none h8) n8
      have e411 := e48.trans s811.ex
      have a11 := (a7.up s8.ex).up s811.ex
      have eu : Ex S11 (upd S11 m (.lst ws)) := Ex.new n11
      have tr11 : ToldR K ⟨n, rows, news, ms⟩ (.ref t) (upd S11 m (.lst ws)) := ⟨t, r, wn, m, rfl, eu _ _ (e411 _ _ t4), Mono.up (e411.trans eu) hrr4, Mono.up (e411.trans eu) hnr4, m, ws, rfl, upd_same, a11.up eu⟩
      have hsp : spotM ⟨n, rows, news, ms⟩ row time' = (spotsAfter rows ms).getD row.toNat 0 := spot_after ms rows 0 hmv hr0 hr1 fun x hx => by
        have := hmt x hx
        omega
      have ex11 := e8.trans s811.ex
      have st11 := s7.trans (s8.trans s811)
      refine st_ifB (b := !decide (goal = spotM ⟨n, rows, news, ms⟩ row time')) (tb_test (vv_op (vv_var rfl) (vv_place (va_cons (vv_var rfl) (va_cons (vv_var rfl) (va_cons (vv_var rfl) va_nil))) tr11 hr0 hr1) rs_neI)) w11 h11 nm n11 (fun hb S12 H12 w12 s12 n12 => ?_) (fun hb S12 H12 w12 s12 n12 => ?_)
      · have h12 := s12.kp m _ nm h11
        have t12 := s12.ex _ _ (e411 _ _ t4)
        refine st_append nm (vv_ix3 rfl t12 rfl) (ev_trip (K := K) (R := IntR) (R' := IntR) (R'' := IntR) (a := time') (b := row) (c := goal) (vv_var rfl) (fun S e => vv_var rfl) (fun S e => vv_var rfl)) w12 h12 n12 (by rw [a11.len]; omega) fun v13 S13 H13 w13 s13 n13 h13 hv13 => ?_
        have hc : canB n news (spotsAfter rows ms) (lastT 0 ms) (time', row, goal) = true := by
          have hl := lastT_le (t := time') ms 0 (by omega) fun x hx => by
            have := hmt x hx
            omega
          have hne := of_decide_eq_false (nt hb)
          rw [hsp] at hne
          unfold canB
          rw [spotsAfter_len]
          simp only [Bool.and_eq_true, decide_eq_true_eq, Bool.not_eq_true', decide_eq_false_iff_not]
          exact ⟨⟨⟨hl, by omega⟩, hr0, by omega⟩, ⟨hg0, by omega⟩, hne⟩
        refine ⟨S13, w13, ex11.trans (s12.ex.trans s13.ex), Stp.drop (st11.trans s12) s13 (fun b hb => by rw [List.mem_singleton.mp hb]; exact hm0), n13, ms ++ [(time', row, goal)], _, time', _, _, _, _, h13, (a11.up (s12.ex.trans s13.ex)).snoc hv13, rfl, by rw [movesB_snoc, hmv, hc]; rfl, fun x hx => ?_, by omega, by rw [List.length_append, List.length_singleton]; omega⟩
        rcases List.mem_append.mp hx with hx | hx
        · have := hmt x hx
          omega
        · rw [List.mem_singleton.mp hx]
          exact Int.le_refl _
      · exact ⟨S12, w12, ex11.trans s12.ex, st11.trans s12, n12, ms, ws, time', _, _, _, _, s12.kp m _ nm h11, a11.up s12.ex, rfl, hmv, fun x hx => by have := hmt x hx; omega, by omega, by omega⟩
    · rintro s' S7 H7 ⟨w7, e7, s7, n7, ms, ws, time, y8, y9, y10, y11, h7, a7, rfl, hmv, hmt, htm, hml⟩
      rw [List.length_range] at hml
      have e47 := s46.ex.trans e7
      have eu : Ex S7 (upd S7 m (.lst ws)) := Ex.new n7
      refine st_ret (S := upd S7 m (.lst ws)) (vv_var rfl) (w7.settle h7 nm) fun v8 S8 H8 w8 s8 e8 => q v8 S8 H8 w8 ((s7.settle hm0 n7).trans s8) ⟨⟨n, rows, news, ms⟩, ?_, ⟨by dsimp only; omega, by dsimp only; omega⟩, hrows, hrb, hnl, hnb, hns, by dsimp only; omega, hmv, fun x hx => by
        have := hmt x hx
        rw [List.length_range] at htm
        omega⟩
      rw [e8]
      exact Mono.up (R := ToldR K) s8.ex ⟨t, r, wn, m, rfl, eu _ _ (e47 _ _ t4), Mono.up (e47.trans eu) hrr4, Mono.up (e47.trans eu) hnr4, m, ws, rfl, upd_same, a7.up eu⟩
end
end K29

namespace K29
open PySem PySem.Spec PyProof.Rows L2 Evl J RZ
section
variable {P : Program} {w : World} {K : PySem.W.Frag} {mg : Str → Option Value} {base : Heap}
def sp_lbook (K : PySem.W.Frag) (C : Addr) : Sp := SpP (A := BookD) (fun a vs S => ∃ v, vs = [v] ∧ ToldR K a v S ∧ BookOk a) (fun a v S => BookR K C a v S)
theorem G_L_book (T : TX P w K mg) : FnOk P w K mg base CX0 7 T.f_L_book T.fd_L_book ["_law_told_here"] (sp_lbook K T.C_Book) := by
  refine T.F_L_book.ok sc_L_book (fun vs H Q E h => ?_) (fun cdv A outer s H vs Q E hr h => ?_)
  · obtain ⟨a, S, ⟨v, rfl, _⟩, _⟩ := h
    rfl
  · obtain ⟨a, S, ⟨v, rfl, ⟨t, r, w', m, rfl, ht, hr', hw', hm'⟩, ho⟩, w0, q⟩ := h.body
    refine ⟨_, (pss_one (ps_ret (pe_make T.mk_Book (G_Book_init T) (hr.mono (by decide)) (by rfl) T.g_Book T.b4_Book_init.choose_spec.2 T.b4_Book_init.choose_spec.1 pass0 (pa_cons (pe_ix (ix_K (K := K)) (pv 0) pe_int (fun _ _ => rfl)) (pa_cons (pe_callTy (call_listK (K := K)) (by rfl) T.z_list (by decide +kernel) (pa_cons (pe_ix (ix_K (K := K)) (pv 0) pe_int (fun _ _ => rfl)) pa_nil)) (pa_cons (pe_callTy (call_listK (K := K)) (by rfl) T.z_list (by decide +kernel) (pa_cons (pe_ix (ix_K (K := K)) (pv 0) pe_int (fun _ _ => rfl)) pa_nil)) (pa_cons (pe_callTy (call_listK (K := K)) (by rfl) T.z_list (by decide +kernel) (pa_cons (pe_ix (ix_K (K := K)) (pv 0) pe_int (fun _ _ => rfl)) pa_nil)) pa_nil))))))), ?_⟩
    have hrl := ho.rl
    have hnl := ho.nl
    have hml := ho.ml
    refine st_ret (R := fun v S1 => BookR K T.C_Book a v S1) (EvN.stable (R' := fun v S1 => BookR K T.C_Book a v S1) (en_make (P := fun us S1 => ∃ vr vn vm, us = [.int a.pages, vr, vn, vm] ∧ LstR IntR a.rows vr S1 ∧ LstR IntR a.news vn S1 ∧ LstR (Tr K) a.moves vm S1) (R := fun o S1 => ∃ dx r w m, o = .ins T.C_Book dx (bookF a.pages r w m) ∧ BookAt K a r w m S1) ?_ fun us S1 e1 ⟨vr, vn, vm, eu, h1, h2, h3⟩ => ⟨a, ⟨vr, vn, vm, by rw [eu]; rfl, .inl h1, .inl h2, .inl h3, ho⟩, fun dx fs S2 e2 ⟨r, w, m, ef, hb⟩ => ⟨dx, r, w, m, by rw [ef], hb⟩⟩) fun p o S1 e1 n1 ⟨dx, r, w, m, eo, hb⟩ => ⟨p, dx, r, w, m, rfl, by rw [eo]; exact upd_same, hb.up (Ex.new n1), ho⟩) w0 fun v S1 H1 w1 s1 h => q v S1 H1 w1 s1 h
    refine J.ea_cons (vv_ix0 rfl ht rfl) fun x1 S1 e1 h1 => J.ea_cons (EvN.lst (X := IntR) (en_list (ea_one ((vv_ix1 rfl (e1 _ _ ht) rfl).imp fun v S2 e ev => .inl (by rw [ev]; exact Mono.up (e1.trans e) hr'))))) fun x2 S2 e2 h2 => J.ea_cons (EvN.lst (X := IntR) (en_list (ea_one ((vv_ix2 rfl (e2 _ _ (e1 _ _ ht)) rfl).imp fun v S3 e ev => .inl (by rw [ev]; exact Mono.up (e1.trans (e2.trans e)) hw'))))) fun x3 S3 e3 h3 => J.ea_cons (EvN.lst (X := Tr K) (en_list (ea_one ((vv_ix3 rfl (e3 _ _ (e2 _ _ (e1 _ _ ht))) rfl).imp fun v S4 e ev => .inl (by rw [ev]; exact Mono.up (e1.trans (e2.trans (e3.trans e))) hm'))))) fun x4 S4 e4 h4 => J.ea_nil.imp' fun us S5 e5 eu => ⟨x2, x3, x4, by rw [h1, eu], Mono.up (e3.trans (e4.trans e5)) h2, Mono.up (e4.trans e5) h3, Mono.up e5 h4⟩
theorem old_pages_at (a : BookD) (b : Int) : pagesAt a.pages a.news (b - 1) = oldOf a b := by
  unfold pagesAt oldOf
  have : (fun t : Int => decide (t ≤ b - 1)) = fun t => decide (t < b) := by
    funext t
    exact decide_eq_decide.mpr (by omega)
  rw [this]
def WalkR (a : Int × Int × Int) (v : V) (S : Hp) : Prop := ∃ p, v = .ref p ∧ S p = some (.lst [.int a.1, .int a.2.1, .int a.2.2])
theorem WalkR.up {a : Int × Int × Int} {v : V} {S S' : Hp} (e : Ex S S') (h : WalkR a v S) : WalkR a v S' := h.imp fun p h => ⟨h.1, e _ _ h.2⟩
structure WalkOk (span : Int) (a : BookD) (rd : Int × Int × Int) : Prop where
  b : 0 ≤ rd.1 ∧ rd.1 < span
  p : 0 ≤ rd.2.1 ∧ rd.2.1 < oldOf a rd.1
  c : 1 ≤ rd.2.2 ∧ rd.2.2 < 1 + 4
end
end K29

namespace K29
open PySem PySem.Spec PyProof.Rows L2 Evl J RZ
section
variable {P : Program} {w : World} {K : PySem.W.Frag} {mg : Str → Option Value} {base : Heap}
def sp_walker (K : PySem.W.Frag) : Sp := SpR (A := (Addr × Addr) × BookD × Int) (fun a => srcR a.1.1 a.1.2) (fun a vs S _ => ∃ v, vs = [.ref a.1.1, v, .int a.2.2] ∧ ToldR K a.2.1 v S ∧ BookOk a.2.1 ∧ 1 ≤ a.2.2 ∧ a.2.2 ≤ 1000) (fun a v S _ => ∃ rd, WalkR rd v S ∧ WalkOk a.2.2 a.2.1 rd)
theorem G_L_walker (T : TX P w K mg) : FnOk P w K mg base CX0 2 T.f_L_walker T.fd_L_walker ["_law_source", "_law_told_here", "_law_span"] (sp_walker K) := by
  refine T.F_L_walker.ok sc_L_walker (fun vs H Q E h => ?_) (fun cdv A outer s H vs Q E hr h => ?_)
  · obtain ⟨a, S, ⟨v, rfl, _⟩, _⟩ := h
    rfl
  · obtain ⟨⟨⟨p, c⟩, a, span⟩, S, ⟨v, rfl, hv, ho, hs1, hs2⟩, w0, q⟩ := h
    dsimp only at w0 q hv ho hs1 hs2
    refine ⟨_, (pss_cons (ps_set (i := 3) sc_L_walker.nd rfl (Or.inl rfl) (pe_call (G_L_draw T) (hr.mono (by decide)) (by rfl) T.g_L_draw T.F_L_draw.kp T.b_L_draw .nil pass0 (pa_cons (pv 0) (pa_cons (pv 2) pa_nil))))
      (pss_cons (ps_set (i := 4) sc_L_walker.nd rfl (Or.inl rfl) (pe_call (G_L_there T) (hr.mono (by decide)) (by rfl) T.g_L_there T.F_L_there.kp T.b_L_there .nil pass0 (pa_cons (pv 1) (pa_cons (pe_op op_sub (pv 3) pe_int) pa_nil))))
      (pss_one (ps_ret (pe_lst (pa_cons (pv 3) (pa_cons (pe_call (G_L_draw T) (hr.mono (by decide)) (by rfl) T.g_L_draw T.F_L_draw.kp T.b_L_draw .nil pass0 (pa_cons (pv 0) (pa_cons (pv 4) pa_nil))) (pa_cons (pe_op (op_addK (K := K)) pe_int (pe_call (G_L_draw T) (hr.mono (by decide)) (by rfl) T.g_L_draw T.F_L_draw.kp T.b_L_draw .nil pass0 (pa_cons (pv 0) (pa_cons pe_int pa_nil)))) pa_nil)))))))), ?_⟩
    have hnl := ho.nl
    refine sq_asg (ev_draw (n := span) (va_cons (vv_var rfl) (va_cons (vv_var rfl) va_nil)) hs1 (by
      have : (1000 : Int) < 10 ^ 40 := by decide +kernel
      omega)) w0 fun v1 S1 H1 w1 s1 ⟨b, e1, hb0, hb1⟩ => ?_
    subst e1
    refine sq_asg (vv_there (va_cons (vv_var rfl) (va_cons (vv_op (vv_var rfl) vv_c rs_sub) va_nil)) ((Mono.up s1.ex hv).q) (by omega)) w1 fun v2 S2 H2 w2 s2 e2 => ?_
    subst e2
    rw [old_pages_at]
    have bd := oldOf_bd ho b
    refine st_ret (R := fun v S3 => ∃ rd, WalkR rd v S3 ∧ WalkOk span a rd) (EvN.stable (R' := fun v S3 => ∃ rd, WalkR rd v S3 ∧ WalkOk span a rd) (en_lst (P := fun us _ => ∃ y z, us = [.int b, .int y, .int z] ∧ (0 ≤ y ∧ y < oldOf a b) ∧ (1 ≤ z ∧ z < 1 + 4)) ?_ fun us S3 ⟨y, z, e, _⟩ => by rw [e]; simp) fun p o S3 e3 n3 ⟨us, eo, y, z, eu, hy, hz⟩ => ⟨(b, y, z), ⟨p, rfl, by rw [eo, eu]; exact upd_same⟩, ⟨hb0, hb1⟩, hy, hz⟩) w2 fun v S3 H3 w3 s3 h => q v S3 H3 w3 (s1.trans (s2.trans s3)) h
    refine J.ea_cons (vv_var rfl) fun x1 S3 e3 h1 => J.ea_cons (ev_draw (n := oldOf a b) (va_cons (vv_var rfl) (va_cons (vv_var rfl) va_nil)) (by omega) (by
      have : (63 : Int) < 10 ^ 40 := by decide +kernel
      omega)) fun x2 S4 e4 ⟨y, h2, hy⟩ => J.ea_cons (ev_draw1 (va_cons (vv_var rfl) (va_cons vv_c va_nil)) (by decide) (by decide)) fun x3 S5 e5 ⟨z, h3, hz⟩ => J.ea_nil.imp' fun us S6 e6 eu => ⟨y, z, by rw [h1, h2, h3, eu], hy, hz⟩
end
end K29

namespace K29
open PySem PySem.Spec PyProof.Rows L2 Evl J RZ
section
variable {P : Program} {w : World} {K : PySem.W.Frag} {mg : Str → Option Value} {base : Heap}
/-! ### what a reader sees of a row -/
/-- the times at which the row is seen -/
def seenM (a : BookD) (u : RuleD) (rd : Int × Int × Int) (row : Int) : List Int :=
  ((visitsM a (decide (u.fresh = ("again" : Str))) rd).filter fun y => decide (y.2 = if u.sees = ("home" : Str) then spotM a row (rd.1 - 1) else spotM a row y.1)).map fun y => y.1
theorem ev_lc2f {α β γ : Type} {R : Rl α} {R' : Rl β} {Y : Rl γ} [Mono R] [Mono R'] [Mono Y] {r : Rs} {s : L2.St} {S : Hp} {wi : TI} {tt : TT} {te : TE} {j1 j2 : Nat} {vs : List Nat} {ys : List (α × β)} (f : α × β → Bool) (gf : α × β → γ) (hi : EvI r wi s S ys (PairR K R R')) (hz : ys.length ≤ 100000) (hw : ∀ v v', wipe (((wipe s vs).set j1 (some v)).set j2 (some v')) vs = wipe s vs)
    (ht : ∀ y v v' S1, Ex S S1 → y ∈ ys → R y.1 v S1 → R' y.2 v' S1 → EvB r tt (((wipe s vs).set j1 (some v)).set j2 (some v')) S1 (f y)) (hb : ∀ y v v' S1, Ex S S1 → y ∈ ys → f y = true → R y.1 v S1 → R' y.2 v' S1 → EvS r te (((wipe s vs).set j1 (some v)).set j2 (some v')) S1 fun u S2 => Y (gf y) u S2) : EvS r (tLc wi (gTup K 2 (gCons (gName j1) (gCons (gName j2) gNil))) tt te vs) s S fun v S1 => LstR Y ((ys.filter f).map gf) v S1 :=
  EvN.lst (X := Y) (en_lc2 f gf hi hz hw ht hb)
theorem vis_len {a : BookD} (h : BookOk a) (ag : Bool) (rd : Int × Int × Int) : (visitsM a ag rd).length ≤ 66 := by
  unfold visitsM
  rw [List.length_map, List.length_range]
  have h1 := oldOf_bd h rd.1
  have hl : ∀ f L, visLen a rd f L ≤ L + f := fun f => by
    induction f with
    | zero => intro L; exact Nat.le_refl _
    | succ f ih =>
      intro L
      unfold visLen
      split
      · have := ih (L + 1)
        omega
      · omega
  unfold visN
  split
  · have := hl 3 (oldOf a rd.1).toNat
    omega
  · omega
def SeenPre (K : PySem.W.Frag) (CB CU CR : Addr) (a : (BookD × RuleD × Int × Int × Int) × Int) (vs : List V) (S : Hp) : Prop := ∃ vb vu vr, vs = [vb, vu, vr, .int a.2] ∧ BookR K CB a.1.1 vb S ∧ RuleR K CU a.1.2.1 vu S ∧ RdR CR a.1.2.2 vr S ∧ RdOk a.1.2.2 ∧ a.1.2.2.2.1 < oldOf a.1.1 a.1.2.2.1 ∧ 0 ≤ a.2 ∧ a.2 < (a.1.1.rows.length : Int)
theorem SeenPre.up {CB CU CR : Addr} {a : (BookD × RuleD × Int × Int × Int) × Int} {vs : List V} {S S' : Hp} (e : Ex S S') (h : SeenPre K CB CU CR a vs S) : SeenPre K CB CU CR a vs S' := by
  obtain ⟨vb, vu, vr, h1, h2, h3, h4, h5⟩ := h
  exact ⟨vb, vu, vr, h1, Mono.up e h2, Mono.up e h3, Mono.up e h4, h5⟩
def sp_seen (K : PySem.W.Frag) (CB CU CR : Addr) : Sp := SpP (SeenPre K CB CU CR) (fun a v S => TupR K IntR (seenM a.1.1 a.1.2.1 a.1.2.2 a.2) v S)
theorem G_seen (T : TX P w K mg) : FnOk P w K mg base CX0 5 T.f_seen T.fd_seen ["book", "rule", "reader", "row"] (sp_seen K T.C_Book T.C_Rule T.C_Reader) := by
  refine T.F_seen.ok sc_seen (fun vs H Q E h => ?_) (fun cdv A outer s H vs Q E hr h => ?_)
  · obtain ⟨a, S, ⟨vb, vu, vr, rfl, _⟩, _⟩ := h
    rfl
  · obtain ⟨⟨⟨a, u, rd⟩, row⟩, S, ⟨vb, vu, vr, rfl, hb, hu, hrd, ho, hlt, h0, h1⟩, w0, q⟩ := h.body
    refine ⟨_, (pss_cons (ps_expr (pe_call (G_check_reader T) (hr.mono (by decide)) (by rfl) T.g_check_reader T.F_check_reader.kp T.b_check_reader .nil pass0 (pa_cons (pv 0) (pa_cons (pv 2) pa_nil))))
      (pss_cons (ps_expr (pe_meth (pv 0) T.cl_Book T.m_Book_check (G_Book_check T) (hr.mono (by decide)) T.b_Book_check .nil pass0 (pa_cons (pv 3) pa_nil)))
      (pss_cons (ps_set (i := 4) sc_seen.nd rfl (Or.inl rfl) (pe_call (G_all_visits T) (hr.mono (by decide)) (by rfl) T.g_all_visits T.F_all_visits.kp T.b_all_visits .nil pass0 (pa_cons (pv 0) (pa_cons (pv 1) (pa_cons (pv 2) pa_nil)))))
      (pss_cons (ps_if (pt_cmpR (op_eqK (K := K) hr.units) (pe_prop (pv 1) T.cl_Rule T.p_Rule_sees (G_Rule_sees T) (hr.mono (by decide)) T.b_Rule_sees .nil pass0 rfl) pe_str (nomark _)) (pss_one (ps_ret (pe_callTy (call_tupleK (K := K)) (by rfl) T.z_tuple (by decide +kernel) (pa_cons (pe_lc (own := [("time", 5), ("page", 6)]) (by rfl) sc_seen.nd (pi_K (K := K) (pv 4)) (blkOk_by (own := [("time", 5), ("page", 6)]) (N := N_seen) (sc := (defScope s_seen)) (by decide +kernel)) (fun _ _ _ _ _ => (pg_tupK (K := K) (n := 2) (by rfl) (pgs_cons (pg_name (i := 5) sc_seen.nd rfl (Or.inl rfl)) (pgs_cons (pg_name (i := 6) sc_seen.nd rfl (Or.inl rfl)) pgs_nil)))) (fun _ _ _ _ _ => (pts_one (pt_cmpR (op_eqK (K := K) hr.units) (pv 6) (pe_call (G_home_of T) (hr.mono (by decide)) (by rfl) T.g_home_of T.F_home_of.kp T.b_home_of .nil pass0 (pa_cons (pv 0) (pa_cons (pv 2) (pa_cons (pv 3) pa_nil)))) (nomark _)))) (fun _ _ _ _ _ => (pv 5))) pa_nil)))) pss_nil)
      (pss_one (ps_ret (pe_callTy (call_tupleK (K := K)) (by rfl) T.z_tuple (by decide +kernel) (pa_cons (pe_lc (own := [("time", 5), ("page", 6)]) (by rfl) sc_seen.nd (pi_K (K := K) (pv 4)) (blkOk_by (own := [("time", 5), ("page", 6)]) (N := N_seen) (sc := (defScope s_seen)) (by decide +kernel)) (fun _ _ _ _ _ => (pg_tupK (K := K) (n := 2) (by rfl) (pgs_cons (pg_name (i := 5) sc_seen.nd rfl (Or.inl rfl)) (pgs_cons (pg_name (i := 6) sc_seen.nd rfl (Or.inl rfl)) pgs_nil)))) (fun _ _ _ _ _ => (pts_one (pt_cmpR (op_eqK (K := K) hr.units) (pv 6) (pe_meth (pv 0) T.cl_Book T.m_Book_spot (G_Book_spot T) (hr.mono (by decide)) T.b_Book_spot .nil pass0 (pa_cons (pv 3) (pa_cons (pv 5) pa_nil))) (nomark _)))) (fun _ _ _ _ _ => (pv 5))) pa_nil)))))))), ?_⟩
    dsimp only at hb hu hrd h0 h1 hlt ho q
    have bo := book_ok hb
    refine sq_drop (vv_chk (va_cons (vv_var rfl) (va_cons (vv_var rfl) va_nil)) hb hrd hlt) w0 fun _ S1 H1 w1 s1 _ => ?_
    refine sq_drop (vv_bcheck rfl (va_cons (vv_var rfl) va_nil) (Mono.up s1.ex hb) h0 h1) w1 fun _ S2 H2 w2 s2 _ => ?_
    have e2 := s1.ex.trans s2.ex
    have hl := vis_len bo (decide (u.fresh = ("again" : Str))) rd
    refine sq_asg (ev_allv (va_cons (vv_var rfl) (va_cons (vv_var rfl) (va_cons (vv_var rfl) va_nil))) (Mono.up e2 hb) (Mono.up e2 hu) (Mono.up e2 hrd) ho) w2 fun vl S3 H3 w3 s3 hvl => ?_
    have e3 := e2.trans s3.ex
    have hb3 := Mono.up e3 hb
    have hrd3 := Mono.up e3 hrd
    have s03 := s1.trans (s2.trans s3)
    refine sq_if (b := decide (u.sees = ("home" : Str))) (tb_test (vv_op (rule_prop (ev_v (R := RuleR K T.C_Rule) rfl (Mono.up e3 hu))) vv_c rs_eqS)) w3 (fun hh S4 H4 w4 s4 => ?_) (fun hh S4 H4 w4 s4 => ?_)
    · have hh := of_decide_eq_true hh
      refine st_ret (ev_tupS (K := K) (R := IntR) ((ev_lc2f (R := IntR) (R' := IntR) (Y := IntR) (fun y : Int × Int => decide (y.2 = spotM a row (rd.1 - 1))) (fun y => y.1) (ei_list (X := Pr K) (ev_v (R := LstR (Pr K)) rfl (Mono.up s4.ex hvl))) (by omega) (by intro _ _; rfl) (fun y v v' S5 e5 m g1 g2 => ?_) fun y v v' S5 e5 m _ g1 g2 => ?_).imp fun v S5 _ h => .inl h)) w4 fun v S5 H5 w5 s5 p => q v S5 H5 w5 (s03.trans (s4.trans s5)) ?_
      · rw [show v' = _ from g2]
        exact tb_test (vv_op (vv_var rfl) (vv_homeof (va_cons (vv_var rfl) (va_cons (vv_var rfl) (va_cons (vv_var rfl) va_nil))) (Mono.up (s4.ex.trans e5) hb3) (Mono.up (s4.ex.trans e5) hrd3) h0 h1) rs_eqI)
      · rw [show v = _ from g1]
        exact vv_var rfl
      · unfold seenM
        simp only [hh, if_true]
        exact p
    · have hh := of_decide_eq_false hh
      refine st_ret (ev_tupS (K := K) (R := IntR) ((ev_lc2f (R := IntR) (R' := IntR) (Y := IntR) (fun y : Int × Int => decide (y.2 = spotM a row y.1)) (fun y => y.1) (ei_list (X := Pr K) (ev_v (R := LstR (Pr K)) rfl (Mono.up s4.ex hvl))) (by omega) (by intro _ _; rfl) (fun y v v' S5 e5 m g1 g2 => ?_) fun y v v' S5 e5 m _ g1 g2 => ?_).imp fun v S5 _ h => .inl h)) w4 fun v S5 H5 w5 s5 p => q v S5 H5 w5 (s03.trans (s4.trans s5)) ?_
      · rw [show v = _ from g1, show v' = _ from g2]
        exact tb_test (vv_op (vv_var rfl) (vv_bspot rfl (va_cons (vv_var rfl) (va_cons (vv_var rfl) va_nil)) (Mono.up (s4.ex.trans e5) hb3) h0 h1) rs_eqI)
      · rw [show v = _ from g1]
        exact vv_var rfl
      · unfold seenM
        simp only [if_neg hh]
        exact p
theorem ev_seen {r : Rs} {s : L2.St} {S : Hp} {ts : TA} {a : (BookD × RuleD × Int × Int × Int) × Int} {vs : List V} {CB CU CR : Addr} (h : EvAV r ts s S vs) (hp : SeenPre K CB CU CR a vs S) : EvS r (tCall (sp_seen K CB CU CR) [] E0 ts) s S fun v S1 => TupR K IntR (seenM a.1.1 a.1.2.1 a.1.2.2 a.2) v S1 :=
  vv_call a h (fun S e => by rw [List.append_nil]; exact hp.up e) fun v _ _ p => p
def sp_is_missed (K : PySem.W.Frag) (CB CU CR : Addr) : Sp := SpP (SeenPre K CB CU CR) (fun a v S => v = .bl (decide (seenM a.1.1 a.1.2.1 a.1.2.2 a.2 = [])))
theorem ev_nilT {α : Type} {R : Rl α} {r : Rs} {s : L2.St} {S : Hp} : EvS r (tTup tNil) s S fun v S1 => TupR K R [] v S1 := fun S1 H e w Q q => ⟨by decide, fun p hp => q (.ref p) (upd S1 p (.tup [])) _ (w.newS hp) (Stp.newS w hp) ⟨p, [], rfl, SqT.of upd_same, .nil⟩⟩
def sp_is_doubled (K : PySem.W.Frag) (CB CU CR : Addr) : Sp := SpP (SeenPre K CB CU CR) (fun a v S => v = .bl (decide (1 < ((seenM a.1.1 a.1.2.1 a.1.2.2 a.2).length : Int))))
end
end K29

namespace K29
open PySem PySem.Spec PyProof.Rows L2 Evl J RZ
section
variable {P : Program} {w : World} {K : PySem.W.Frag} {mg : Str → Option Value} {base : Heap}
theorem pagesAt_mono (pages : Int) (news : List Int) {s t : Int} (h : s ≤ t) : pagesAt pages news s ≤ pagesAt pages news t := by
  unfold pagesAt
  have : (news.filter fun x => decide (x ≤ s)).length ≤ (news.filter fun x => decide (x ≤ t)).length := by
    rw [← List.countP_eq_length_filter, ← List.countP_eq_length_filter]
    exact List.countP_mono_left fun x _ hx => by
      have := of_decide_eq_true hx
      exact decide_eq_true (by omega)
  omega
theorem spot_bd {pages time row : Int} {news : List Int} : ∀ (ms : List (Int × Int × Int)) (sp : List Int) (bf f : Int), movesB pages news sp bf ms = true → (0 ≤ f ∧ f < pagesAt pages news time) →
    0 ≤ ms.foldl (fun f m => if m.2.1 = row ∧ m.1 ≤ time then m.2.2 else f) f ∧ ms.foldl (fun f m => if m.2.1 = row ∧ m.1 ≤ time then m.2.2 else f) f < pagesAt pages news time
  | [], sp, bf, f, _, h => h
  | m :: ms, sp, bf, f, h, hf => by
    have h2 := Bool.and_eq_true_iff.mp (show (canB pages news sp bf m && movesB pages news (sp.set m.2.1.toNat m.2.2) m.1 ms) = true from h)
    have hc := h2.1
    unfold canB at hc
    simp only [Bool.and_eq_true, decide_eq_true_eq] at hc
    rw [List.foldl_cons]
    refine spot_bd ms _ _ _ h2.2 ?_
    split
    · rename_i hh
      have := pagesAt_mono pages news hh.2
      omega
    · exact hf
theorem spotM_bd {a : BookD} (ho : BookOk a) {row : Int} (h0 : 0 ≤ row) (h1 : row < (a.rows.length : Int)) (t : Int) : 0 ≤ spotM a row t ∧ spotM a row t < pagesAt a.pages a.news t := by
  have hj : row.toNat < a.rows.length := by omega
  have hr := ho.r
  unfold rowsB at hr
  rw [List.all_eq_true] at hr
  have hm : a.rows.getD row.toNat 0 ∈ a.rows := by
    rw [List.getD_eq_getElem?_getD, List.getElem?_eq_getElem hj]
    exact List.getElem_mem hj
  have := hr _ hm
  simp only [Bool.and_eq_true, decide_eq_true_eq] at this
  have hp := pagesAt_ge a.pages a.news t
  exact spot_bd a.moves a.rows 0 _ ho.m ⟨this.1, by omega⟩
/-- one visit to a page that was there before -/
theorem one_visit {a : BookD} (ho : BookOk a) (ag : Bool) (rd : Int × Int × Int) {h : Int} (h0 : 0 ≤ h) (h1 : h < oldOf a rd.1) : ((visitsM a ag rd).filter fun y => decide (y.2 = h)).length = 1 := by
  have bd := oldOf_bd ho rd.1
  have hn : (oldOf a rd.1).toNat ≤ visN a ag rd := by
    unfold visN
    split
    · exact visLen_ge a rd 3 _
    · exact Nat.le_refl _
  generalize hm : oldOf a rd.1 = m at *
  have k0 := Int.emod_nonneg (h - rd.2.1) (show m ≠ 0 by omega)
  have k1 := Int.emod_lt_of_pos (h - rd.2.1) (show 0 < m by omega)
  unfold visitsM
  rw [hm, ← List.countP_eq_length_filter, List.countP_map]
  have e : ((fun y : Int × Int => decide (y.2 = h)) ∘ visitM m rd) = fun k => k == ((h - rd.2.1) % m).toNat := by
    funext k
    show decide ((visitM m rd k).2 = h) = (k == ((h - rd.2.1) % m).toNat)
    rw [PySem.W.beq_decide]
    refine decide_eq_decide.mpr ?_
    unfold visitM
    dsimp only
    split
    · rename_i hk
      constructor
      · intro e
        have : (h - rd.2.1) % m = (k : Int) := by
          rw [← e, Int.emod_sub_emod, show rd.2.1 + (k : Int) - rd.2.1 = (k : Int) by omega]
          exact Int.emod_eq_of_lt (by omega) hk
        omega
      · intro e
        have : (k : Int) = (h - rd.2.1) % m := by omega
        rw [this, Int.add_emod_emod, show rd.2.1 + (h - rd.2.1) = h by omega]
        exact Int.emod_eq_of_lt h0 h1
    · omega
  rw [e]
  show List.count ((h - rd.2.1) % m).toNat (List.range (visN a ag rd)) = 1
  rw [List.nodup_range.count, if_pos (List.mem_range.mpr (by omega))]
theorem seen_home {a : BookD} (ho : BookOk a) {u : RuleD} (hu : u.sees = ("home" : Str)) (rd : Int × Int × Int) {row : Int} (h0 : 0 ≤ row) (h1 : row < (a.rows.length : Int)) : (seenM a u rd row).length = 1 := by
  unfold seenM
  rw [List.length_map]
  simp only [hu, if_true]
  have := spotM_bd ho h0 h1 (rd.1 - 1)
  rw [old_pages_at] at this
  exact one_visit ho _ rd this.1 this.2
end
end K29

namespace K29
open PySem PySem.Spec PyProof.Rows L2 Evl J RZ
section
variable {P : Program} {w : World} {K : PySem.W.Frag} {mg : Str → Option Value} {base : Heap}
/-! ### balances -/
theorem sq_par3V {s : L2.St} {H S : Hp} {r : Rs} {ta : TA} {tz : TS} {D : Ends} {a b c : V} {i j l : Nat} (h : EvAV r ta s S [a, b, c]) (w0 : Wd r S H) (k : ∀ S1 H1, Wd r S1 H1 → Stp r S H S1 H1 → tz D (((s.set i (some a)).set j (some b)).set l (some c)) H1) : tSeq (tPar3 i j l ta) tz D s H :=
  h S H (Ex.refl _) w0 _ fun vs S1 H1 w1 s1 e => ⟨a, b, c, e, k S1 H1 w1 s1⟩
def wasB (vis : List (Int × Int)) (page time : Int) : Bool := vis.any fun y => decide (y.1 < time) && decide (y.2 = page)
def sp_visited_before (K : PySem.W.Frag) : Sp := SpP (A := List (Int × Int) × Int × Int) (fun a vs S => ∃ v, vs = [v, .int a.2.1, .int a.2.2] ∧ LstR (Pr K) a.1 v S ∧ a.1.length ≤ 1000) (fun a v _ => v = .bl (wasB a.1 a.2.1 a.2.2))
theorem G_visited_before (T : TX P w K mg) : FnOk P w K mg base CX0 1 T.f_visited_before T.fd_visited_before ["rows", "page", "time"] (sp_visited_before K) := by
  refine T.F_visited_before.ok sc_visited_before (fun vs H Q E h => ?_) (fun cdv A outer s H vs Q E hr h => ?_)
  · obtain ⟨a, S, ⟨v, rfl, _⟩, _⟩ := h
    rfl
  · obtain ⟨⟨vis, page, time⟩, S, ⟨v, rfl, hv, hl⟩, w0, q⟩ := h.body
    refine ⟨_, (pss_one (ps_ret (pe_callB (call_anyK (K := K)) (by rfl) T.z_any (by decide +kernel) (pa_cons (pe_lc (own := [("moment", 3), ("other", 4)]) (by rfl) sc_visited_before.nd (pi_K (K := K) (pv 0)) (blkOk_by (own := [("moment", 3), ("other", 4)]) (N := N_visited_before) (sc := (defScope s_visited_before)) (by decide +kernel)) (fun _ _ _ _ _ => (pg_tupK (K := K) (n := 2) (by rfl) (pgs_cons (pg_name (i := 3) sc_visited_before.nd rfl (Or.inl rfl)) (pgs_cons (pg_name (i := 4) sc_visited_before.nd rfl (Or.inl rfl)) pgs_nil)))) (fun _ _ _ _ _ => pts_nil) (fun _ _ _ _ _ => (pe_and (pe_cmpR op_lt (pv 3) (pv 2) (nomark _)) (pe_one (pe_cmpR (op_eqK (K := K) hr.units) (pv 4) (pv 1) (nomark _)))))) pa_nil)))), ?_⟩
    dsimp only at hv hl
    exact st_ret (vv_anyF2 (R := IntR) (R' := IntR) (ys := vis) (fun y : Int × Int => decide (y.1 < time) && decide (y.2 = page)) (ei_list (X := Pr K) (ev_v (R := LstR (Pr K)) rfl hv)) (by omega) (by intro _ _; rfl) fun y v v' S2 e m h1 h2 => by
      rw [show v = _ from h1, show v' = _ from h2]
      exact vv_and (vv_op (vv_var rfl) (vv_var rfl) rs_I0) fun _ => vv_op (vv_var rfl) (vv_var rfl) rs_eqI) w0 fun v S2 H2 w2 s2 e => q v S2 H2 w2 s2 e
theorem vv_vb {r : Rs} {s : L2.St} {S : Hp} {ts : TA} {vis : List (Int × Int)} {page time : Int} {v : V} (h : EvAV r ts s S [v, .int page, .int time]) (hv : LstR (Pr K) vis v S) (hl : vis.length ≤ 1000) : EvV r (tCall (sp_visited_before K) [] E0 ts) s S (.bl (wasB vis page time)) :=
  vv_call (vis, page, time) h (fun S e => ⟨v, rfl, Mono.up e hv, hl⟩) fun v _ _ p => p
def oneB (b : Bool) : Int := if b then 1 else 0
def balStep (vis : List (Int × Int)) (row lo hi : Int) (st : Int × Int × Int) (m : Int × Int × Int) : Int × Int × Int :=
  if m.2.1 = row ∧ lo ≤ m.1 ∧ m.1 ≤ hi then (m.2.2, st.2.1 + oneB (wasB vis st.1 m.1 && !wasB vis m.2.2 m.1), st.2.2 + oneB (wasB vis m.2.2 m.1 && !wasB vis st.1 m.1)) else st
def balM (a : BookD) (ag : Bool) (rd : Int × Int × Int) (row : Int) : Int × Int × Int :=
  let st := a.moves.foldl (balStep (visitsM a ag rd) row rd.1 (endM a ag rd)) (spotM a row (rd.1 - 1), 0, 0)
  (st.2.1, st.2.2, oneB (wasB (visitsM a ag rd) st.1 (endM a ag rd + 1)))
theorem vv_int1 {r : Rs} {s : L2.St} {S : Hp} {ta : TE} {b : Bool} (h : EvV r ta s S (.bl b)) : EvV r (tCB (fun xs H Q => (∃ i, xs = [V.int i] ∧ Q (.int i) H) ∨ ∃ k, xs = [V.bl k] ∧ Q (.int (if k then 1 else 0)) H) (tCons ta tNil)) s S (.int (oneB b)) := vv_cb (va_cons h va_nil) rc_intB
def sp_balance (K : PySem.W.Frag) (CB CU CR : Addr) : Sp := SpP (SeenPre K CB CU CR) (fun a v S => TripR K IntR IntR IntR (balM a.1.1 (decide (a.1.2.1.fresh = ("again" : Str))) a.1.2.2 a.2) v S)
theorem G_balance (T : TX P w K mg) : FnOk P w K mg base CX0 5 T.f_balance T.fd_balance ["book", "rule", "reader", "row"] (sp_balance K T.C_Book T.C_Rule T.C_Reader) := by
  refine T.F_balance.ok sc_balance (fun vs H Q E h => ?_) (fun cdv A outer s H vs Q E hr h => ?_)
  · obtain ⟨a, S, ⟨vb, vu, vr, rfl, _⟩, _⟩ := h
    rfl
  · obtain ⟨⟨⟨a, u, rd⟩, row⟩, S, ⟨vb, vu, vr, rfl, hb, hu, hrd, ho, hlt, h0, h1⟩, w0, q⟩ := h.body
    refine ⟨_, (pss_cons (ps_expr (pe_call (G_check_reader T) (hr.mono (by decide)) (by rfl) T.g_check_reader T.F_check_reader.kp T.b_check_reader .nil pass0 (pa_cons (pv 0) (pa_cons (pv 2) pa_nil))))
      (pss_cons (ps_expr (pe_meth (pv 0) T.cl_Book T.m_Book_check (G_Book_check T) (hr.mono (by decide)) T.b_Book_check .nil pass0 (pa_cons (pv 3) pa_nil)))
      (pss_cons (ps_set (i := 4) sc_balance.nd rfl (Or.inl rfl) (pe_call (G_all_visits T) (hr.mono (by decide)) (by rfl) T.g_all_visits T.F_all_visits.kp T.b_all_visits .nil pass0 (pa_cons (pv 0) (pa_cons (pv 1) (pa_cons (pv 2) pa_nil)))))
      (pss_cons (ps_set (i := 5) sc_balance.nd rfl (Or.inl rfl) (pe_ix (ix_K (K := K)) (pe_ix (ix_K (K := K)) (pv 4) (pe_un un_neg pe_int) (fun _ _ => rfl)) pe_int (fun _ _ => rfl)))
      (pss_cons (ps_par3 (i := 6) (j := 7) (l := 8) (by rfl) sc_balance.nd rfl rfl rfl (by decide) (by decide) (by decide) rfl rfl rfl (pa_cons (pe_call (G_home_of T) (hr.mono (by decide)) (by rfl) T.g_home_of T.F_home_of.kp T.b_home_of .nil pass0 (pa_cons (pv 0) (pa_cons (pv 2) (pa_cons (pv 3) pa_nil)))) (pa_cons pe_int (pa_cons pe_int pa_nil))) (by rfl))
      (pss_cons (ps_for PassesOwn.never (by rfl) (pi_K (K := K) (pe_prop (pv 0) T.cl_Book T.p_Book_moves (G_Book_moves T) (hr.mono (by decide)) T.b_Book_moves .nil pass0 rfl)) (pg_tupK (K := K) (n := 3) (by rfl) (pgs_cons (pg_name (i := 9) sc_balance.nd rfl (Or.inl rfl)) (pgs_cons (pg_name (i := 10) sc_balance.nd rfl (Or.inl rfl)) (pgs_cons (pg_name (i := 11) sc_balance.nd rfl (Or.inl rfl)) pgs_nil)))) (pss_one (ps_if (PW.pt (pw_and (pt_cmpR (op_eqK (K := K) hr.units) (pv 10) (pv 3) (nomark _)) (pw_and1 (pt_chain op_le op_le (pe_prop (pv 2) T.cl_Reader T.p_Reader_begin (G_Reader_begin T) (hr.mono (by decide)) T.b_Reader_begin .nil pass0 rfl) (pv 9) (pv 5))))) (pss_cons (ps_par (i := 12) (j := 13) (by rfl) sc_balance.nd rfl rfl (by decide) rfl rfl (pa_cons (pe_call (G_visited_before T) (hr.mono (by decide)) (by rfl) T.g_visited_before T.F_visited_before.kp T.b_visited_before .nil pass0 (pa_cons (pv 4) (pa_cons (pv 6) (pa_cons (pv 9) pa_nil)))) (pa_cons (pe_call (G_visited_before T) (hr.mono (by decide)) (by rfl) T.g_visited_before T.F_visited_before.kp T.b_visited_before .nil pass0 (pa_cons (pv 4) (pa_cons (pv 11) (pa_cons (pv 9) pa_nil)))) pa_nil)) (by rfl))
          (pss_cons (ps_par (i := 7) (j := 8) (by rfl) sc_balance.nd rfl rfl (by decide) rfl rfl (pa_cons (pe_op (op_addK (K := K)) (pv 7) (pe_callTy call_int1 (by rfl) T.z_int (by decide +kernel) (pa_cons (pe_and (pv 12) (pe_one (pe_not (pv 13)))) pa_nil))) (pa_cons (pe_op (op_addK (K := K)) (pv 8) (pe_callTy call_int1 (by rfl) T.z_int (by decide +kernel) (pa_cons (pe_and (pv 13) (pe_one (pe_not (pv 12)))) pa_nil))) pa_nil)) (by rfl))
          (pss_one (ps_set (i := 6) sc_balance.nd rfl (Or.inl rfl) (pv 11))))) pss_nil)))
      (pss_one (ps_ret (pe_tup (pa_cons (pv 7) (pa_cons (pv 8) (pa_cons (pe_callTy call_int1 (by rfl) T.z_int (by decide +kernel) (pa_cons (pe_call (G_visited_before T) (hr.mono (by decide)) (by rfl) T.g_visited_before T.F_visited_before.kp T.b_visited_before .nil pass0 (pa_cons (pv 4) (pa_cons (pv 6) (pa_cons (pe_op (op_addK (K := K)) (pv 5) pe_int) pa_nil)))) pa_nil)) pa_nil)))))))))))), ?_⟩
    dsimp only at hb hu hrd h0 h1 hlt ho q
    have bo := book_ok hb
    refine sq_drop (vv_chk (va_cons (vv_var rfl) (va_cons (vv_var rfl) va_nil)) hb hrd hlt) w0 fun _ S1 H1 w1 s1 _ => ?_
    refine sq_drop (vv_bcheck rfl (va_cons (vv_var rfl) va_nil) (Mono.up s1.ex hb) h0 h1) w1 fun _ S2 H2 w2 s2 _ => ?_
    have e2 := s1.ex.trans s2.ex
    have hl := vis_len bo (decide (u.fresh = ("again" : Str))) rd
    refine sq_asg (ev_allv (va_cons (vv_var rfl) (va_cons (vv_var rfl) (va_cons (vv_var rfl) va_nil))) (Mono.up e2 hb) (Mono.up e2 hu) (Mono.up e2 hrd) ho) w2 fun vl S3 H3 w3 s3 hvl => ?_
    refine sq_asg (last_time bo (ev_v (R := LstR (Pr K)) rfl hvl)) w3 fun v4 S4 H4 w4 s4 e4 => ?_
    subst e4
    have e4 := e2.trans (s3.ex.trans s4.ex)
    have hb4 := Mono.up e4 hb
    have hrd4 := Mono.up e4 hrd
    refine sq_par3V (va_cons (vv_homeof (va_cons (vv_var rfl) (va_cons (vv_var rfl) (va_cons (vv_var rfl) va_nil))) hb4 hrd4 h0 h1) (va_cons vv_c (va_cons vv_c va_nil))) w4 fun S5 H5 w5 s5 => ?_
    have e35 := s4.ex.trans s5.ex
    generalize hag : decide (u.fresh = ("again" : Str)) = ag at *
    refine sq_for (ei_tup (X := Tr K) (ev_bk rfl (Mono.up s5.ex hb4)).2.2.2) w5 fun S6 H6 w6 s6 => ?_
    have s06 := (s1.trans s2).trans ((s3.trans s4).trans (s5.trans s6))
    refine ⟨fun i s' S' H' => Wd Rs.nil S' H' ∧ Ex S6 S' ∧ Stp Rs.nil S H S' H' ∧ ∃ st y9 y10 y11 y12 y13, (a.moves.take i).foldl (balStep (visitsM a ag rd) row rd.1 (endM a ag rd)) (spotM a row (rd.1 - 1), 0, 0) = st ∧ s' = [some vb, some vu, some vr, some (.int row), some vl, some (.int (endM a ag rd)), some (.int st.1), some (.int st.2.1), some (.int st.2.2), y9, y10, y11, y12, y13], ⟨w6, Ex.refl _, s06, _, none, none, none, none, none, rfl, rfl⟩, fun i s' S' H' p => ⟨p.1, p.2.1⟩, ?_, ?_⟩
    · rintro i m v s' S7 H7 S8 H8 hi ⟨w7, e7, s7, st, y9, y10, y11, y12, y13, hst, rfl⟩ w8 s8 hv
      refine g_three (K := K) (R := IntR) (R' := IntR) (R'' := IntR) (p := m) rfl hv w8 fun x y z hx hy hz => ?_
      obtain rfl : x = _ := hx
      obtain rfl : y = _ := hy
      obtain rfl : z = _ := hz
      have e48 := (s5.ex.trans s6.ex).trans (e7.trans s8.ex)
      have hrd8 := Mono.up e48 hrd4
      have hvl8 := Mono.up (s4.ex.trans e48) hvl
      refine st_if (b := decide (m.2.1 = row) && (decide (rd.1 ≤ m.1) && decide (m.1 ≤ endM a ag rd))) (tb_and (tb_test (vv_op (vv_var rfl) (vv_var rfl) rs_eqI)) fun _ => tb_test (vv_chain (ev_rd rfl hrd8).1 (vv_var rfl) rs_I0 (fun _ => vv_var rfl) fun _ => rs_I0)) w8 (fun hh S9 H9 w9 s9 => ?_) (fun hh S9 H9 w9 s9 => ?_)
      · simp only [Bool.and_eq_true, decide_eq_true_eq] at hh
        have hvl9 := Mono.up s9.ex hvl8
        refine sq_parR (A := fun v _ => v = .bl (wasB (visitsM a ag rd) st.1 m.1)) (B := fun v _ => v = .bl (wasB (visitsM a ag rd) m.2.2 m.1)) (vv_vb (va_cons (vv_var rfl) (va_cons (vv_var rfl) (va_cons (vv_var rfl) va_nil))) hvl9 (by omega)) (fun S e => vv_vb (va_cons (vv_var rfl) (va_cons (vv_var rfl) (va_cons (vv_var rfl) va_nil))) (Mono.up e hvl9) (by omega)) (fun v S S' _ h => h) w9 fun v10 v11 S10 H10 w10 s10 e10 e11 => ?_
        subst e10
        subst e11
        refine sq_parR (A := fun v _ => v = .int (st.2.1 + oneB (wasB (visitsM a ag rd) st.1 m.1 && !wasB (visitsM a ag rd) m.2.2 m.1))) (B := fun v _ => v = .int (st.2.2 + oneB (wasB (visitsM a ag rd) m.2.2 m.1 && !wasB (visitsM a ag rd) st.1 m.1))) (vv_op (vv_var rfl) (vv_int1 (vv_and (vv_var rfl) fun _ => vv_not (vv_var rfl))) rs_add) (fun S e => vv_op (vv_var rfl) (vv_int1 (vv_and (vv_var rfl) fun _ => vv_not (vv_var rfl))) rs_add) (fun v S S' _ h => h) w10 fun v12 v13 S11 H11 w11 s11 e12 e13 => ?_
        subst e12
        subst e13
        refine st_asg (vv_var rfl) w11 fun v14 S12 H12 w12 s12 e14 => ?_
        subst e14
        refine ⟨S12, w12, e7.trans (s8.ex.trans (s9.ex.trans (s10.ex.trans (s11.ex.trans s12.ex)))), s7.trans (s8.trans (s9.trans (s10.trans (s11.trans s12)))), (balStep (visitsM a ag rd) row rd.1 (endM a ag rd) st m), some (.int m.1), some (.int m.2.1), some (.int m.2.2), some (.bl (wasB (visitsM a ag rd) st.1 m.1)), some (.bl (wasB (visitsM a ag rd) m.2.2 m.1)), by rw [fold_snoc hi, hst], ?_⟩
        unfold balStep
        rw [if_pos ⟨hh.1, hh.2.1, hh.2.2⟩]
        rfl
      · refine ⟨S9, w9, e7.trans (s8.ex.trans s9.ex), s7.trans (s8.trans s9), st, some (.int m.1), some (.int m.2.1), some (.int m.2.2), y12, y13, ?_, rfl⟩
        rw [fold_snoc hi, hst]
        unfold balStep
        rw [if_neg (fun z => by simp [z.1, z.2.1, z.2.2] at hh)]
    · rintro s' S7 H7 ⟨w7, e7, s7, st, y9, y10, y11, y12, y13, hst, rfl⟩
      rw [List.take_length] at hst
      have hvl7 := Mono.up (e35.trans (s6.ex.trans e7)) hvl
      refine st_ret (ev_trip (K := K) (R := IntR) (R' := IntR) (R'' := IntR) (a := st.2.1) (b := st.2.2) (c := oneB (wasB (visitsM a ag rd) st.1 (endM a ag rd + 1))) (vv_var rfl) (fun S e => vv_var rfl) (fun S e => vv_int1 (vv_vb (va_cons (vv_var rfl) (va_cons (vv_var rfl) (va_cons (vv_op (vv_var rfl) vv_c rs_add) va_nil))) (Mono.up e hvl7) (by omega)))) w7 fun v8 S8 H8 w8 s8 p => q v8 S8 H8 w8 (s7.trans s8) ?_
      rw [← hst] at p
      exact p
theorem ev_bal {r : Rs} {s : L2.St} {S : Hp} {ts : TA} {a : (BookD × RuleD × Int × Int × Int) × Int} {vs : List V} {CB CU CR : Addr} (h : EvAV r ts s S vs) (hp : SeenPre K CB CU CR a vs S) : EvS r (tCall (sp_balance K CB CU CR) [] E0 ts) s S fun v S1 => TripR K IntR IntR IntR (balM a.1.1 (decide (a.1.2.1.fresh = ("again" : Str))) a.1.2.2 a.2) v S1 :=
  vv_call a h (fun S e => by rw [List.append_nil]; exact hp.up e) fun v _ _ p => p
end
end K29

namespace K29
open PySem PySem.Spec PyProof.Rows L2 Evl J RZ
section
variable {P : Program} {w : World} {K : PySem.W.Frag} {mg : Str → Option Value} {base : Heap}
/-! ### the sum of a balance -/
theorem count_one (h T : Int) : ∀ vis : List (Int × Int), (vis.map fun y => y.2).Nodup → ((vis.filter fun y => decide (y.1 < T) && decide (y.2 = h)).length : Int) = oneB (wasB vis h T)
  | [], _ => rfl
  | y :: r, hn => by
    have hn := List.nodup_cons.mp hn
    have ih := count_one h T r hn.2
    unfold wasB at ih ⊢
    rw [List.any_cons, List.filter_cons]
    by_cases e : (decide (y.1 < T) && decide (y.2 = h)) = true
    · rw [if_pos e, e, Bool.true_or]
      have h0 : (r.filter fun y => decide (y.1 < T) && decide (y.2 = h)) = [] := by
        rw [List.filter_eq_nil_iff]
        intro z hz hh
        simp only [Bool.and_eq_true, decide_eq_true_eq] at hh e
        exact hn.1 (List.mem_map.mpr ⟨z, hz, hh.2.trans e.2.symm⟩)
      rw [h0]
      rfl
    · rw [if_neg e, Bool.eq_false_iff.mpr e, Bool.false_or]
      exact ih
theorem filter_split {α : Type} (f g : α → Bool) : ∀ l : List α, (l.filter f).length = (l.filter fun x => g x && f x).length + (l.filter fun x => !g x && f x).length
  | [] => rfl
  | x :: l => by
    have ih := filter_split f g l
    simp only [List.filter_cons]
    cases hf : f x <;> cases hg : g x <;> simp <;> omega
def cntV (vis : List (Int × Int)) (g : Int → Int) : Int := ((vis.filter fun y => decide (y.2 = g y.1)).length : Int)
theorem cnt_congr {vis : List (Int × Int)} {g1 g2 : Int → Int} (h : ∀ y, y ∈ vis → g1 y.1 = g2 y.1) : cntV vis g1 = cntV vis g2 := by
  unfold cntV
  congr 2
  exact List.filter_congr fun y hy => by rw [h y hy]
theorem cnt_half {vis : List (Int × Int)} (hn : (vis.map fun y => y.2).Nodup) {g : Int → Int} {T f : Int} (h : ∀ t, t < T → g t = f) : cntV vis g = oneB (wasB vis f T) + ((vis.filter fun y => !decide (y.1 < T) && decide (y.2 = g y.1)).length : Int) := by
  unfold cntV
  rw [filter_split (fun y : Int × Int => decide (y.2 = g y.1)) (fun y => decide (y.1 < T)) vis, Int.natCast_add, ← count_one f T vis hn]
  congr 3
  refine List.filter_congr fun y hy => ?_
  by_cases e : y.1 < T
  · rw [h _ e]
  · rw [decide_eq_false e, Bool.false_and, Bool.false_and]
theorem cnt_split {vis : List (Int × Int)} (hn : (vis.map fun y => y.2).Nodup) {g1 g2 : Int → Int} {T f h : Int} (h1 : ∀ t, t < T → g1 t = f) (h2 : ∀ t, t < T → g2 t = h) (h3 : ∀ t, T ≤ t → g1 t = g2 t) : cntV vis g1 - oneB (wasB vis f T) = cntV vis g2 - oneB (wasB vis h T) := by
  rw [cnt_half hn h1, cnt_half hn h2]
  have e : (vis.filter fun y => !decide (y.1 < T) && decide (y.2 = g1 y.1)) = (vis.filter fun y => !decide (y.1 < T) && decide (y.2 = g2 y.1)) := by
    refine List.filter_congr fun y hy => ?_
    by_cases e : y.1 < T
    · rw [decide_eq_true e]
      rfl
    · rw [h3 _ (by omega)]
  rw [e]
  omega
theorem cnt_all {vis : List (Int × Int)} (hn : (vis.map fun y => y.2).Nodup) {T f : Int} (hT : ∀ y, y ∈ vis → y.1 < T) : cntV vis (fun _ => f) = oneB (wasB vis f T) := by
  rw [← count_one f T vis hn]
  unfold cntV
  congr 2
  exact List.filter_congr fun y hy => by rw [decide_eq_true (hT y hy), Bool.true_and]
def spF (row : Int) (f : Int) (ms : List (Int × Int × Int)) (t : Int) : Int := ms.foldl (fun f m => if m.2.1 = row ∧ m.1 ≤ t then m.2.2 else f) f
theorem spF_none {row t : Int} : ∀ (ms : List (Int × Int × Int)) (f : Int), (∀ m, m ∈ ms → t < m.1) → spF row f ms t = f
  | [], f, _ => rfl
  | m :: r, f, h => by
    unfold spF
    rw [List.foldl_cons, if_neg (fun z => by have := h m List.mem_cons_self; omega)]
    exact spF_none r f fun x hx => h x (List.mem_cons_of_mem _ hx)
theorem spF_cons {row t f : Int} {m : Int × Int × Int} {r : List (Int × Int × Int)} : spF row f (m :: r) t = spF row (if m.2.1 = row ∧ m.1 ≤ t then m.2.2 else f) r t := rfl
theorem one_sub (a b : Bool) : oneB a - oneB b = oneB (a && !b) - oneB (b && !a) := by
  cases a <;> cases b <;> rfl
theorem balA {vis : List (Int × Int)} (hn : (vis.map fun y => y.2).Nodup) {row lo hi : Int} (hv : ∀ y, y ∈ vis → y.1 ≤ hi) : ∀ (ms : List (Int × Int × Int)) (f o i : Int), ms.Pairwise (fun a b => a.1 ≤ b.1) → (∀ m, m ∈ ms → lo ≤ m.1) →
    cntV vis (spF row f ms) = ((ms.foldl (balStep vis row lo hi) (f, o, i)).2.1 - o) - ((ms.foldl (balStep vis row lo hi) (f, o, i)).2.2 - i) + oneB (wasB vis (ms.foldl (balStep vis row lo hi) (f, o, i)).1 (hi + 1))
  | [], f, o, i, _, _ => by
    have := cnt_all hn (T := hi + 1) (f := f) fun y hy => by have := hv y hy; omega
    show cntV vis (fun _ => f) = (o - o) - (i - i) + oneB (wasB vis f (hi + 1))
    omega
  | m :: r, f, o, i, hs, hl => by
    have hs := List.pairwise_cons.mp hs
    have hm := hl m List.mem_cons_self
    have ih := fun f o i => balA (row := row) hn hv r f o i hs.2 fun x hx => hl x (List.mem_cons_of_mem _ hx)
    rw [List.foldl_cons]
    by_cases e : m.2.1 = row
    · by_cases e2 : m.1 ≤ hi
      · have eb : balStep vis row lo hi (f, o, i) m = (m.2.2, o + oneB (wasB vis f m.1 && !wasB vis m.2.2 m.1), i + oneB (wasB vis m.2.2 m.1 && !wasB vis f m.1)) := if_pos ⟨e, hm, e2⟩
        rw [eb]
        have ih := ih m.2.2 (o + oneB (wasB vis f m.1 && !wasB vis m.2.2 m.1)) (i + oneB (wasB vis m.2.2 m.1 && !wasB vis f m.1))
        have sp := cnt_split hn (g1 := spF row f (m :: r)) (g2 := spF row m.2.2 r) (T := m.1) (f := f) (h := m.2.2) (fun t ht => spF_none _ _ fun x hx => by
          rcases List.mem_cons.mp hx with rfl | hx
          · exact ht
          · have := hs.1 x hx
            omega) (fun t ht => spF_none _ _ fun x hx => by
            have := hs.1 x hx
            omega) (fun t ht => by rw [spF_cons, if_pos ⟨e, ht⟩])
        have := one_sub (wasB vis f m.1) (wasB vis m.2.2 m.1)
        omega
      · have eb : balStep vis row lo hi (f, o, i) m = (f, o, i) := if_neg fun z => e2 z.2.2
        rw [eb, ← ih f o i]
        refine cnt_congr fun y hy => ?_
        have := hv y hy
        rw [spF_cons, if_neg (fun z => by omega)]
    · have eb : balStep vis row lo hi (f, o, i) m = (f, o, i) := if_neg fun z => e z.1
      rw [eb, ← ih f o i]
      refine cnt_congr fun y hy => ?_
      rw [spF_cons, if_neg (fun z => e z.1)]
theorem balB {vis : List (Int × Int)} (hn : (vis.map fun y => y.2).Nodup) {row lo hi : Int} (hv : ∀ y, y ∈ vis → lo ≤ y.1 ∧ y.1 ≤ hi) : ∀ (ms : List (Int × Int × Int)) (f o i : Int), ms.Pairwise (fun a b => a.1 ≤ b.1) →
    cntV vis (spF row f ms) = ((ms.foldl (balStep vis row lo hi) (spF row f ms (lo - 1), o, i)).2.1 - o) - ((ms.foldl (balStep vis row lo hi) (spF row f ms (lo - 1), o, i)).2.2 - i) + oneB (wasB vis (ms.foldl (balStep vis row lo hi) (spF row f ms (lo - 1), o, i)).1 (hi + 1))
  | [], f, o, i, h => balA hn (fun y hy => (hv y hy).2) [] f o i h fun m hm => by cases hm
  | m :: r, f, o, i, hs => by
    have hs0 := hs
    have hs := List.pairwise_cons.mp hs
    by_cases e : lo ≤ m.1
    · have e0 : spF row f (m :: r) (lo - 1) = f := spF_none _ _ fun x hx => by
        rcases List.mem_cons.mp hx with rfl | hx
        · omega
        · have := hs.1 x hx
          omega
      rw [e0]
      exact balA hn (fun y hy => (hv y hy).2) (m :: r) f o i hs0 fun x hx => by
        rcases List.mem_cons.mp hx with rfl | hx
        · exact e
        · have := hs.1 x hx
          omega
    · have ec : ∀ t, lo - 1 ≤ t → spF row f (m :: r) t = spF row (if m.2.1 = row then m.2.2 else f) r t := fun t ht => by
        rw [spF_cons]
        by_cases e2 : m.2.1 = row
        · rw [if_pos ⟨e2, by omega⟩, if_pos e2]
        · rw [if_neg (fun z => e2 z.1), if_neg e2]
      rw [ec (lo - 1) (Int.le_refl _), List.foldl_cons]
      have eb : balStep vis row lo hi (spF row (if m.2.1 = row then m.2.2 else f) r (lo - 1), o, i) m = (spF row (if m.2.1 = row then m.2.2 else f) r (lo - 1), o, i) := if_neg fun z => e z.2.1
      rw [eb, ← balB hn hv r _ o i hs.2]
      exact cnt_congr fun y hy => ec _ (by have := hv y hy; omega)
theorem moves_up {pages : Int} {news : List Int} : ∀ (ms : List (Int × Int × Int)) (sp : List Int) (bf : Int), movesB pages news sp bf ms = true → (∀ m, m ∈ ms → bf ≤ m.1) ∧ ms.Pairwise (fun a b => a.1 ≤ b.1)
  | [], _, _, _ => ⟨(fun m hm => by cases hm), List.Pairwise.nil⟩
  | x :: ms, sp, bf, h => by
    have h2 := Bool.and_eq_true_iff.mp (show (canB pages news sp bf x && movesB pages news (sp.set x.2.1.toNat x.2.2) x.1 ms) = true from h)
    have hc := h2.1
    unfold canB at hc
    simp only [Bool.and_eq_true, decide_eq_true_eq] at hc
    have ih := moves_up ms _ _ h2.2
    refine ⟨fun m hm => ?_, List.pairwise_cons.mpr ⟨ih.1, ih.2⟩⟩
    rcases List.mem_cons.mp hm with rfl | hm
    · omega
    · have := ih.1 m hm
      omega
theorem visit_inj {many : Int} {rd : Int × Int × Int} {j k : Nat} (e : (visitM many rd j).2 = (visitM many rd k).2) : j = k := by
  unfold visitM at e
  dsimp only at e
  by_cases hj : (j : Int) < many
  · by_cases hk : (k : Int) < many
    · rw [if_pos hj, if_pos hk] at e
      have g : ∀ {i : Nat}, (i : Int) < many → ((rd.2.1 + (i : Int)) % many - rd.2.1) % many = (i : Int) := fun hi => by
        rw [Int.emod_sub_emod, show ∀ x : Int, rd.2.1 + x - rd.2.1 = x by intro x; omega]
        exact Int.emod_eq_of_lt (by omega) hi
      have h1 := g hj
      have h2 := g hk
      rw [e] at h1
      omega
    · rw [if_pos hj, if_neg hk] at e
      have := Int.emod_lt_of_pos (rd.2.1 + (j : Int)) (show 0 < many by omega)
      omega
  · by_cases hk : (k : Int) < many
    · rw [if_neg hj, if_pos hk] at e
      have := Int.emod_lt_of_pos (rd.2.1 + (k : Int)) (show 0 < many by omega)
      omega
    · rw [if_neg hj, if_neg hk] at e
      omega
theorem vis_nodup (a : BookD) (ag : Bool) (rd : Int × Int × Int) : ((visitsM a ag rd).map fun y => y.2).Nodup := by
  unfold visitsM
  rw [List.map_map]
  exact List.pairwise_map.mpr (List.nodup_range.imp fun h e => h (visit_inj e))
theorem vis_times {a : BookD} {ag : Bool} {rd : Int × Int × Int} (hc : 1 ≤ rd.2.2) : ∀ y, y ∈ visitsM a ag rd → rd.1 ≤ y.1 ∧ y.1 ≤ endM a ag rd := by
  intro y hy
  unfold visitsM at hy
  obtain ⟨k, hk, rfl⟩ := List.mem_map.mp hy
  have hk := List.mem_range.mp hk
  unfold visitM endM
  dsimp only
  have h1 : 0 ≤ rd.2.2 * (k : Int) := Int.mul_nonneg (by omega) (by omega)
  have h2 : rd.2.2 * (k : Int) ≤ rd.2.2 * ((visN a ag rd : Int) - 1) := Int.mul_le_mul_of_nonneg_left (by omega) (by omega)
  omega
/-- outs less ins and rests is how often the row is seen -/
theorem bal_sum {a : BookD} (ho : BookOk a) {u : RuleD} (hu : u.sees ≠ ("home" : Str)) {rd : Int × Int × Int} (hc : 1 ≤ rd.2.2) (row : Int) :
    (balM a (decide (u.fresh = ("again" : Str))) rd row).1 - (balM a (decide (u.fresh = ("again" : Str))) rd row).2.1 + (balM a (decide (u.fresh = ("again" : Str))) rd row).2.2 = ((seenM a u rd row).length : Int) := by
  have h := balB (vis_nodup a (decide (u.fresh = ("again" : Str))) rd) (row := row) (lo := rd.1) (hi := endM a (decide (u.fresh = ("again" : Str))) rd) (vis_times hc) a.moves (a.rows.getD row.toNat 0) 0 0 (moves_up a.moves _ _ ho.m).2
  have e : ((seenM a u rd row).length : Int) = cntV (visitsM a (decide (u.fresh = ("again" : Str))) rd) (spF row (a.rows.getD row.toNat 0) a.moves) := by
    unfold seenM cntV
    rw [List.length_map]
    simp only [if_neg hu]
    rfl
  rw [e, h]
  show ((a.moves.foldl (balStep (visitsM a (decide (u.fresh = ("again" : Str))) rd) row rd.1 (endM a (decide (u.fresh = ("again" : Str))) rd)) (spF row (a.rows.getD row.toNat 0) a.moves (rd.1 - 1), 0, 0)).2.1 - (a.moves.foldl (balStep (visitsM a (decide (u.fresh = ("again" : Str))) rd) row rd.1 (endM a (decide (u.fresh = ("again" : Str))) rd)) (spF row (a.rows.getD row.toNat 0) a.moves (rd.1 - 1), 0, 0)).2.2 + oneB (wasB (visitsM a (decide (u.fresh = ("again" : Str))) rd) (a.moves.foldl (balStep (visitsM a (decide (u.fresh = ("again" : Str))) rd) row rd.1 (endM a (decide (u.fresh = ("again" : Str))) rd)) (spF row (a.rows.getD row.toNat 0) a.moves (rd.1 - 1), 0, 0)).1 (endM a (decide (u.fresh = ("again" : Str))) rd + 1))) = _
  omega
end
end K29

namespace K29
open PySem PySem.Spec PyProof.Rows L2 Evl J RZ
section
variable {P : Program} {w : World} {K : PySem.W.Frag} {mg : Str → Option Value} {base : Heap}
/-! ### what the laws make -/
theorem sq_ifR {r : Rs} {s : L2.St} {S H : Hp} {t : TT} {tu tw tz : TS} {D : Ends} {R : Bool → Hp → Prop} (h : EvTS r t s S R) (w : Wd r S H) (h1 : ∀ S1 H1, R true S1 → Wd r S1 H1 → Stp r S H S1 H1 → tu { D with nx := tz D } s H1) (h2 : ∀ S1 H1, R false S1 → Wd r S1 H1 → Stp r S H S1 H1 → tw { D with nx := tz D } s H1) : tSeq (tIfS t tu tw) tz D s H := st_ifR (D := { D with nx := tz D }) h w h1 h2
theorem tr_test {r : Rs} {s : L2.St} {S : Hp} {te : TE} (h : EvS r te s S fun v _ => ∃ b, v = .bl b) : EvTS r (tTest te) s S fun _ _ => True := fun S1 H a w Q q => h S1 H a w _ fun v S2 H2 w2 s2 ⟨b, e⟩ => ⟨b, e, q b S2 H2 w2 s2 True.intro⟩
/-- a comparison of a number that is only bounded -/
theorem tr_cmp {r : Rs} {s : L2.St} {S : Hp} {ta tb : TE} {g : Int → Int → Bool} {P : Int → Prop} {k : Int} (h : EvS r ta s S fun v _ => ∃ i, v = .int i ∧ P i) (h2 : ∀ S1, Ex S S1 → EvV r tb s S1 (.int k)) : EvTS r (tTest (tOp (rI0 fun i j => .bl (g i j)) ta tb)) s S fun _ _ => True :=
  tr_test (ev_op2 h (fun _ S1 e _ => h2 S1 e) fun x y S1 S2 _ ⟨i, hx, _⟩ _ hy => by
    subst hx
    subst hy
    exact ⟨_, rs_I0, _, rfl⟩)
theorem sq_cut {tt tz : TS} {D : Ends} {s : L2.St} {H : Hp} (P : L2.St → Hp → Prop) (k : ∀ s' H', P s' H' → tz D s' H') (h : (∀ s' H', P s' H' → tz D s' H') → tSeq tt tz D s H) : tSeq tt tz D s H := h k
theorem st_parR {r : Rs} {s : L2.St} {S H : Hp} {ta tb : TE} {D : Ends} {A B : V → Hp → Prop} {i j : Nat} (h : EvS r ta s S A) (h2 : ∀ S1, Ex S S1 → EvS r tb s S1 B) (m : ∀ v S1 S2, Ex S1 S2 → A v S1 → A v S2) (w0 : Wd r S H) (k : ∀ v v' S1 H1, Wd r S1 H1 → Stp r S H S1 H1 → A v S1 → B v' S1 → D.nx ((s.set i (some v)).set j (some v')) H1) : tPar i j (tCons ta (tCons tb tNil)) D s H :=
  h S H (Ex.refl _) w0 _ fun v S2 H2 w2 s2 hv => h2 S2 s2.ex S2 H2 (Ex.refl _) w2 _ fun v' S3 H3 w3 s3 hv' => ⟨v, v', rfl, k v v' S3 H3 w3 (s2.trans s3) (m _ _ _ s3.ex hv) hv'⟩
theorem ev_filt {α : Type} {R : Rl α} [Mono R] {r : Rs} {s : L2.St} {S : Hp} {wi : TI} {tt : TT} {j : Nat} {vs : List Nat} {ys : List α} (f : α → Bool) (hi : EvI r wi s S ys R) (hz : ys.length ≤ 100000) (hw : ∀ v, wipe ((wipe s vs).set j (some v)) vs = wipe s vs) (hj : ∀ v, ((wipe s vs).set j (some v))[j]? = some (some v))
    (ht : ∀ y v S1, Ex S S1 → y ∈ ys → R y v S1 → EvB r tt ((wipe s vs).set j (some v)) S1 (f y)) : EvS r (tLc wi (gName j) tt (tVar j) vs) s S fun v S1 => LstR R (ys.filter f) v S1 := by
  have h := EvN.lst (X := R) (en_lct f (fun y => y) hi hz hw ht fun y v S1 e m _ hy => ev_v (R := R) (hj v) hy)
  rw [List.map_id'] at h
  exact h
instance : Dt K (Pr K) := inferInstanceAs (Dt K (PairR K IntR IntR))
structure Hnd (K : PySem.W.Frag) (CB CU CR : Addr) (a : BookD) (u : RuleD) (rd : Int × Int × Int) (vb vu vr : V) (S : Hp) : Prop where
  b : BookR K CB a vb S
  u : RuleR K CU u vu S
  r : RdR CR rd vr S
  ro : RdOk rd
  lt : rd.2.1 < oldOf a rd.1
section
variable {CB CU CR : Addr} {a : BookD} {u : RuleD} {rd : Int × Int × Int} {vb vu vr : V} {S S' : Hp} {r : Rs} {s : L2.St} {ts : TA} {row : Int}
theorem Hnd.up (e : Ex S S') (h : Hnd K CB CU CR a u rd vb vu vr S) : Hnd K CB CU CR a u rd vb vu vr S' := ⟨Mono.up e h.b, Mono.up e h.u, Mono.up e h.r, h.ro, h.lt⟩
theorem Hnd.seen (h : Hnd K CB CU CR a u rd vb vu vr S) (h0 : 0 ≤ row) (h1 : row < (a.rows.length : Int)) : SeenPre K CB CU CR ((a, u, rd), row) [vb, vu, vr, .int row] S := ⟨vb, vu, vr, rfl, h.b, h.u, h.r, h.ro, h.lt, h0, h1⟩
theorem ev_vis (h : EvAV r ts s S [vb, vu, vr]) (hh : Hnd K CB CU CR a u rd vb vu vr S) : EvS r (tCall (sp_visits K CB CU CR) [] E0 ts) s S fun v S1 => TupR K (Pr K) (visitsM a (decide (u.fresh = ("again" : Str))) rd) v S1 :=
  vv_call (a, u, rd) h (fun S e => ⟨vb, vu, vr, rfl, Mono.up e hh.b, Mono.up e hh.u, Mono.up e hh.r, hh.ro, hh.lt⟩) fun v _ _ h => h
theorem vv_end (h : EvAV r ts s S [vb, vu, vr]) (hh : Hnd K CB CU CR a u rd vb vu vr S) : EvV r (tCall (sp_end K CB CU CR) [] E0 ts) s S (.int (endM a (decide (u.fresh = ("again" : Str))) rd)) :=
  vv_call (a, u, rd) h (fun S e => ⟨vb, vu, vr, rfl, Mono.up e hh.b, Mono.up e hh.u, Mono.up e hh.r, hh.ro, hh.lt⟩) fun v _ _ h => h
theorem ev_reader {C : Addr} {E : XK} {dvs : List V} {ta : TA} (h : EvAV r ta s S [.int rd.1, .int rd.2.1, .int rd.2.2]) (ro : RdOk rd) (hd : dvs = [] := by rfl) : EvS r (tMake C (sp_Reader_init C) dvs E ta) s S fun v S1 => RdR C rd v S1 :=
  EvN.stable (en_make (P := fun us _ => us = [.int rd.1, .int rd.2.1, .int rd.2.2]) (R := fun o _ => ∃ dx, o = .ins C dx (rdF rd.1 rd.2.1 rd.2.2)) h fun us S1 e1 eu => ⟨rd, ⟨by rw [eu, hd]; rfl, ro.b, ro.p, ro.c⟩, fun dx fs S2 _ ef => ⟨dx, by rw [show fs = _ from ef]⟩⟩) fun p o S1 _ n0 ⟨dx, eo⟩ => ⟨p, dx, rfl, by rw [eo]; exact upd_same⟩
theorem ev_lbook {C : Addr} {v : V} (h : EvAV r ts s S [v]) (hv : ToldR K a v S) (bo : BookOk a) : EvS r (tCall (sp_lbook K C) [] E0 ts) s S fun v S1 => BookR K C a v S1 :=
  vv_call a h (fun S e => ⟨v, rfl, Mono.up e hv, bo⟩) fun v _ _ h => h
theorem ev_lbookX {C : Addr} {te : TE} (h : EvS r te s S fun v S1 => ToldR K a v S1) (bo : BookOk a) : EvS r (tCall (sp_lbook K C) [] E0 (tCons te tNil)) s S fun v S1 => BookR K C a v S1 :=
  ev_call (ea_one h) fun us S1 e ⟨v, eu, hv⟩ => ⟨a, ⟨v, by rw [eu]; rfl, hv, bo⟩, fun v S2 e2 h => h⟩
theorem ev_lruleX {C : Addr} {te : TE} (h : EvS r te s S fun v S1 => CaseR K u v S1) : EvS r (tCall (sp_lrule K C) [] E0 (tCons te tNil)) s S fun v S1 => RuleR K C u v S1 :=
  ev_call (ea_one h) fun us S1 e ⟨v, eu, hv⟩ => ⟨u, ⟨v, by rw [eu]; rfl, hv⟩, fun v S2 e2 h => h⟩
theorem ev_case {tm t2 t3 t4 : TE} (ho : RuleOk u) (hm : EvS r tm s S fun v S1 => LstR StrR u.moves v S1) (h2 : ∀ S1, Ex S S1 → EvV r t2 s S1 (.str u.start)) (h3 : ∀ S1, Ex S S1 → EvV r t3 s S1 (.str u.fresh)) (h4 : ∀ S1, Ex S S1 → EvV r t4 s S1 (.str u.sees)) :
    EvS r (tLst (tCons tm (tCons t2 (tCons t3 (tCons t4 tNil))))) s S fun v S1 => CaseR K u v S1 :=
  EvN.stable (en_lst (P := fun us S3 => ∃ m, us = [.ref m, .str u.start, .str u.fresh, .str u.sees] ∧ LstR StrR u.moves (.ref m) S3) (J.ea_cons hm fun x1 S1 e1 hx => J.ea_cons (h2 S1 e1) fun x2 S2 e2 hx2 => J.ea_cons (h3 S2 (e1.trans e2)) fun x3 S3 e3 hx3 => J.ea_cons (h4 S3 (e1.trans (e2.trans e3))) fun x4 S4 e4 hx4 => J.ea_nil.imp' fun us S5 e5 eu => by
    obtain ⟨m, em, hm⟩ := lstref hx
    exact ⟨m, by rw [em, hx2, hx3, hx4, eu], Mono.up (e2.trans (e3.trans (e4.trans e5))) hm⟩) fun us S3 ⟨m, e, _⟩ => by rw [e]; simp) fun p o S3 e3 n3 ⟨us, eo, m, eu, hm⟩ => ⟨p, m, rfl, by rw [eo, eu]; exact upd_same, Mono.up (Ex.new n3) hm, ho⟩
theorem ev_told4 {β : Type} {Q : β → Prop} {mv : β → List (Int × Int × Int)} {n : Int} {rows news : List Int} {ta tb tc td : TE} (h1 : EvV r ta s S (.int n)) (h2 : ∀ S1, Ex S S1 → EvS r tb s S1 fun v S2 => LstR IntR rows v S2) (h3 : ∀ S1, Ex S S1 → EvS r tc s S1 fun v S2 => LstR IntR news v S2) (h4 : ∀ S1, Ex S S1 → EvS r td s S1 fun v S2 => ∃ x, Q x ∧ LstR (Tr K) (mv x) v S2) :
    EvS r (tLst (tCons ta (tCons tb (tCons tc (tCons td tNil))))) s S fun v S1 => ∃ x, Q x ∧ ToldR K ⟨n, rows, news, mv x⟩ v S1 :=
  EvN.stable (en_lst (P := fun us S3 => ∃ x r w m, Q x ∧ us = [.int n, .ref r, .ref w, .ref m] ∧ LstR IntR rows (.ref r) S3 ∧ LstR IntR news (.ref w) S3 ∧ LstR (Tr K) (mv x) (.ref m) S3) (J.ea_cons h1 fun x1 S1 e1 hx1 => J.ea_cons (h2 S1 e1) fun x2 S2 e2 hx2 => J.ea_cons (h3 S2 (e1.trans e2)) fun x3 S3 e3 hx3 => J.ea_cons (h4 S3 (e1.trans (e2.trans e3))) fun x4 S4 e4 ⟨x, hq, hx4⟩ => J.ea_nil.imp' fun us S5 e5 eu => by
    obtain ⟨r2, er, hr2⟩ := lstref hx2
    obtain ⟨r3, ew, hr3⟩ := lstref hx3
    obtain ⟨r4, em, hr4⟩ := lstref hx4
    exact ⟨x, r2, r3, r4, hq, by rw [hx1, er, ew, em, eu], Mono.up (e3.trans (e4.trans e5)) hr2, Mono.up (e4.trans e5) hr3, Mono.up e5 hr4⟩) fun us S3 ⟨_, _, _, _, _, e, _⟩ => by rw [e]; simp) fun p o S3 e3 n3 ⟨us, eo, x, r2, r3, r4, hq, eu, g2, g3, g4⟩ => ⟨x, hq, p, r2, r3, r4, rfl, by rw [eo, eu]; exact upd_same, Mono.up (Ex.new n3) g2, Mono.up (Ex.new n3) g3, Mono.up (Ex.new n3) g4⟩
theorem ev_walk {ta tb tc : TE} (h1 : EvV r ta s S (.int rd.1)) (h2 : EvV r tb s S (.int rd.2.1)) (h3 : EvV r tc s S (.int rd.2.2)) : EvS r (tLst (tCons ta (tCons tb (tCons tc tNil)))) s S fun v S1 => WalkR rd v S1 :=
  EvN.stable (en_lst (va_cons h1 (va_cons h2 (va_cons h3 va_nil))) fun us S3 e => by rw [e]; simp) fun p o S3 e3 n3 ⟨us, eo, eu⟩ => ⟨p, rfl, by rw [eo, eu]; exact upd_same⟩
end
end
end K29

namespace K29
open PySem PySem.Spec PyProof.Rows L2 Evl J RZ
section
variable {P : Program} {w : World} {K : PySem.W.Frag} {mg : Str → Option Value} {base : Heap}
theorem ev_lc2n {α β γ : Type} {R : Rl α} {R' : Rl β} {Y : Rl γ} [Mono R] [Mono R'] [Mono Y] {r : Rs} {s : L2.St} {S : Hp} {wi : TI} {te : TE} {j1 j2 : Nat} {vs : List Nat} {ys : List (α × β)} (gf : α × β → γ) (hi : EvI r wi s S ys (PairR K R R')) (hz : ys.length ≤ 100000) (hw : ∀ v v', wipe (((wipe s vs).set j1 (some v)).set j2 (some v')) vs = wipe s vs)
    (ht : ∀ y v v' S1, Ex S S1 → y ∈ ys → R y.1 v S1 → R' y.2 v' S1 → EvS r te (((wipe s vs).set j1 (some v)).set j2 (some v')) S1 fun u S2 => Y (gf y) u S2) : EvS r (tLc wi (gTup K 2 (gCons (gName j1) (gCons (gName j2) gNil))) tYes te vs) s S fun v S1 => LstR Y (ys.map gf) v S1 := by
  have h := EvN.lst (X := Y) (en_lc2 (tt := tYes) (fun _ => true) gf hi hz hw (fun y v v' S1 _ _ _ _ S2 H _ w2 Q q => q true S2 H w2 Stp.refl rfl) fun y v v' S1 e m _ h1 h2 => ht y v v' S1 e m h1 h2)
  rw [List.filter_eq_self.mpr (fun _ _ => rfl)] at h
  exact h
theorem late_cnt {ns : List Int} {pages b t : Int} (h : b ≤ t) : pagesAt pages ns t = pages + ((ns.filter fun x => decide (x < b)).length : Int) + (((ns.filter fun x => decide (b ≤ x)).filter fun x => decide (x ≤ t)).length : Int) := by
  unfold pagesAt
  rw [filter_split (fun x : Int => decide (x ≤ t)) (fun x => decide (x < b)) ns, List.filter_filter]
  have e1 : (ns.filter fun x => decide (x < b) && decide (x ≤ t)) = ns.filter fun x => decide (x < b) := List.filter_congr fun x _ => by
    by_cases e : x < b
    · rw [decide_eq_true e, decide_eq_true (show x ≤ t by omega)]
      rfl
    · rw [decide_eq_false e]
      rfl
  have e2 : (ns.filter fun x => !decide (x < b) && decide (x ≤ t)) = ns.filter fun x => decide (x ≤ t) && decide (b ≤ x) := List.filter_congr fun x _ => by
    rw [Bool.and_comm]
    congr 1
    by_cases e : x < b
    · rw [decide_eq_true e, decide_eq_false (show ¬ b ≤ x by omega)]
      rfl
    · rw [decide_eq_false e, decide_eq_true (show b ≤ x by omega)]
      rfl
  rw [e1, e2]
  omega
/-- x, y, z = (e, e', e'') -/
theorem sq_tup3 {r : Rs} {s : L2.St} {S H : Hp} {ta tb tc : TE} {tz : TS} {D : Ends} {A B C : V → Hp → Prop} {i j l n : Nat} (hn : n = 3) (h : EvS r ta s S A) (h2 : ∀ S1, Ex S S1 → EvS r tb s S1 B) (h3 : ∀ S1, Ex S S1 → EvS r tc s S1 C) (m : ∀ v S1 S2, Ex S1 S2 → A v S1 → A v S2) (m2 : ∀ v S1 S2, Ex S1 S2 → B v S1 → B v S2) (w : Wd r S H) (k : ∀ v v' v'' S1 H1, Wd r S1 H1 → Stp r S H S1 H1 → A v S1 → B v' S1 → C v'' S1 → tz D (((s.set i (some v)).set j (some v')).set l (some v'')) H1) : tSeq (tAsg (tTup (tCons ta (tCons tb (tCons tc tNil)))) (gTup K n (gCons (gName i) (gCons (gName j) (gCons (gName l) gNil))))) tz D s H :=
  h S H (Ex.refl _) w _ fun v S2 H2 w2 s2 hv => h2 S2 s2.ex S2 H2 (Ex.refl _) w2 _ fun v' S3 H3 w3 s3 hv' => h3 S3 (s2.ex.trans s3.ex) S3 H3 (Ex.refl _) w3 _ fun v'' S4 H4 w4 s4 hv'' => ⟨sz_of (show [v, v', v''].length ≤ 100000 by simp), fun p hp => ⟨p, [v, v', v''], rfl, SqT.of upd_same, hn.symm, v, _, rfl, v', _, rfl, v'', _, rfl, rfl, k v v' v'' S4 _ (w4.new hp) (((s2.trans s3).trans s4).trans (Stp.new hp)) (m _ _ _ (s3.ex.trans s4.ex) hv) (m2 _ _ _ s4.ex hv') hv''⟩⟩
theorem ev_intP {r : Rs} {s : L2.St} {S : Hp} {te : TE} {P : Int → Prop} (h : EvS r te s S fun v _ => ∃ i, v = .int i ∧ P i) : EvS r (tCB (fun xs H Q => (∃ i, xs = [V.int i] ∧ Q (.int i) H) ∨ ∃ k, xs = [V.bl k] ∧ Q (.int (if k then 1 else 0)) H) (tCons te tNil)) s S fun v _ => ∃ i, v = .int i ∧ P i := fun S1 H e w0 Q q =>
  h S1 H e w0 _ fun v S2 H2 w2 s2 ⟨i, ev, h1⟩ => .inl ⟨i, by rw [ev], q _ S2 H2 w2 s2 ⟨i, rfl, h1⟩⟩
/-- [n, rows, news, []], the last one not stable -/
theorem sq_toldM {r : Rs} {s : L2.St} {S H : Hp} {ta tb tc : TE} {tz : TS} {D : Ends} {i : Nat} {n : Int} {rows news : List Int} (h1 : EvV r ta s S (.int n)) (h2 : EvS r tb s S fun v S1 => LstR IntR rows v S1) (h3 : ∀ S1, Ex S S1 → EvS r tc s S1 fun v S2 => LstR IntR news v S2) (w : Wd r S H)
    (k : ∀ t rr ww m S1 H1, Wd r S1 H1 → Stp r S H S1 H1 → S1 t = some (.lst [.int n, .ref rr, .ref ww, .ref m]) → LstR IntR rows (.ref rr) S1 → LstR IntR news (.ref ww) S1 → H m = none → S1 m = none → H1 m = some (.lst []) → m ∉ r.M → tz D (s.set i (some (.ref t))) H1) : tSeq (tAsg (tLst (tCons ta (tCons tb (tCons tc (tCons (tLst tNil) tNil))))) (gName i)) tz D s H :=
  h1 S H (Ex.refl _) w _ fun v1 S1 H1 w1 s1 e1 => EvS.mono s1.ex h2 S1 H1 (Ex.refl _) w1 _ fun v2 S2 H2 w2 s2 g2 => h3 S2 (s1.ex.trans s2.ex) S2 H2 (Ex.refl _) w2 _ fun v3 S3 H3 w3 s3 g3 => ⟨by decide, fun m hm => ⟨sz_of (by simp), fun t ht => by
    subst e1
    obtain ⟨rr, er, g2⟩ := lstref g2
    obtain ⟨ww, ew, g3⟩ := lstref g3
    subst er
    subst ew
    have nm : m ∉ r.M := w3.notM hm
    have nmt : m ≠ t := fun e => by
      rw [e] at ht
      rw [upd_same] at ht
      cases ht
    have ex4 : Ex S3 (upd S3 t (.lst [.int n, .ref rr, .ref ww, .ref m])) := Ex.new ((w3.new hm).fresh ht)
    refine k t rr ww m (upd S3 t (.lst [.int n, .ref rr, .ref ww, .ref m])) _ ((w3.new hm).newS ht) ((s1.trans (s2.trans s3)).trans ((Stp.new hm).trans (Stp.newS (w3.new hm) ht))) upd_same (Mono.up (s3.ex.trans ex4) g2) (Mono.up ex4 g3) (pre_none (s1.trans (s2.trans s3)) hm) ?_ ?_ nm
    · rw [upd_ne nmt]
      exact w3.fresh hm
    · rw [upd_ne nmt]
      exact upd_same⟩⟩
/-- x, y, z = (e, e', e'') where the names are no cells -/
theorem sq_par3R {r : Rs} {s : L2.St} {S H : Hp} {ta tb tc : TE} {tz : TS} {D : Ends} {A B C : V → Hp → Prop} {i j l : Nat} (h : EvS r ta s S A) (h2 : ∀ S1, Ex S S1 → EvS r tb s S1 B) (h3 : ∀ S1, Ex S S1 → EvS r tc s S1 C) (m : ∀ v S1 S2, Ex S1 S2 → A v S1 → A v S2) (m2 : ∀ v S1 S2, Ex S1 S2 → B v S1 → B v S2) (w0 : Wd r S H) (k : ∀ v v' v'' S1 H1, Wd r S1 H1 → Stp r S H S1 H1 → A v S1 → B v' S1 → C v'' S1 → tz D (((s.set i (some v)).set j (some v')).set l (some v'')) H1) : tSeq (tPar3 i j l (tCons ta (tCons tb (tCons tc tNil)))) tz D s H :=
  h S H (Ex.refl _) w0 _ fun v S2 H2 w2 s2 hv => h2 S2 s2.ex S2 H2 (Ex.refl _) w2 _ fun v' S3 H3 w3 s3 hv' => h3 S3 (s2.ex.trans s3.ex) S3 H3 (Ex.refl _) w3 _ fun v'' S4 H4 w4 s4 hv'' => ⟨v, v', v'', rfl, k v v' v'' S4 H4 w4 ((s2.trans s3).trans s4) (m _ _ _ (s3.ex.trans s4.ex) hv) (m2 _ _ _ s4.ex hv') hv''⟩
def sp_Book_len (K : PySem.W.Frag) (C : Addr) : Sp := SpP (A := BookD) (fun a vs S => ∃ v, vs = [v] ∧ BookR K C a v S) (fun a v _ => v = .int (a.rows.length : Int))
theorem G_Book_len (T : TX P w K mg) : FnOk P w K mg base CX0 1 T.f_Book_len T.fd_Book_len ["self"] (sp_Book_len K T.C_Book) := by
  refine T.F_Book_len.ok sc_Book_len (fun vs H Q E h => ?_) (fun cdv A outer s H vs Q E hr h => ?_)
  · obtain ⟨a, S, ⟨v, rfl, _⟩, _⟩ := h
    rfl
  · obtain ⟨a, S, ⟨v, rfl, hb⟩, w0, q⟩ := h.body
    refine ⟨_, (pss_one (ps_ret (pe_callB (call_lenK (K := K)) (by rfl) T.z_len (by decide +kernel) (pa_cons (pe_fldK (K := K) (pv 0)) pa_nil)))), ?_⟩
    exact st_ret (vv_len (X := IntR) ((ev_bkf rfl hb T.cl_Book T.na_Book_kept_rows T.na_Book_kept_moves).1.imp fun v S1 _ h => .inr h)) w0 fun v S1 H1 w1 s1 e => q v S1 H1 w1 s1 e
theorem vv_blen {r : Rs} {s : L2.St} {S : Hp} {a : BookD} {v : V} {te : TE} {C : Addr} {E : XK} (h : EvV r te s S v) (hb : BookR K C a v S) : EvV r (tCB (rLenO C (sp_Book_len K C) E) (tCons te tNil)) s S (.int (a.rows.length : Int)) :=
  vv_lenO a h (by
    obtain ⟨x, dx, _, _, _, rfl, h2, _⟩ := hb
    exact ⟨x, dx, _, rfl, h2⟩) ⟨by omega, by
    have := (book_ok hb).rl
    omega⟩ (fun S e => ⟨v, rfl, Mono.up e hb⟩) fun u S h => h
/-- the last visit's time, of a tuple -/
theorem last_timeT {r : Rs} {s : L2.St} {S : Hp} {ta : TE} {a : BookD} {ag : Bool} {rd : Int × Int × Int} (ho : BookOk a) (h : EvS r ta s S fun v S1 => TupR K (Pr K) (visitsM a ag rd) v S1) : EvV r (tOp (rIx K) (tOp (rIx K) ta (tUn (rU fun i => .int (-i)) (tC (.int 1)))) (tC (.int 0))) s S (.int (endM a ag rd)) := by
  have hp := visN_pos ho ag rd
  refine ev_op2 (A := fun v S1 => Pr K (visitM (oldOf a rd.1) rd (visN a ag rd - 1)) v S1) (B := fun v _ => v = .int 0) (ev_op2 h (fun _ S1 e _ => vv_un vv_c ru_neg') fun x y S1 S2 _ ⟨b, vs, h1, h2, h3⟩ e2 hy => ?_) (fun _ S1 e _ => vv_c) fun x y S1 S2 _ hx e2 hy => ?_
  · subst h1
    subst hy
    have hlen : vs.length = visN a ag rd := by
      rw [h3.len]
      unfold visitsM
      rw [List.length_map, List.length_range]
    obtain ⟨v, g1, g2⟩ := h3.at (i := visN a ag rd - 1) (x := visitM (oldOf a rd.1) rd (visN a ag rd - 1)) (by unfold visitsM; rw [List.getElem?_map, List.getElem?_range (by omega)]; rfl)
    exact ⟨v, rs_ixT' (ex_t e2 h2) (atI_neg1 hlen hp g1), Mono.up e2 g2⟩
  · obtain ⟨b, x1, x2, e, h1, h2, h3⟩ := hx
    subst e
    subst hy
    obtain rfl : x1 = _ := h2
    refine ⟨_, rs_ixT' (ex_t e2 h1) (atI_nat (j := 0) rfl), ?_⟩
    unfold visitM endM
    dsimp only
    rw [show ((visN a ag rd - 1 : Nat) : Int) = (visN a ag rd : Int) - 1 by omega]
/-- a triple against a tuple of its three parts: the same -/
theorem vv_neX {r : Rs} {s : L2.St} {S : Hp} {ta tb : TE} {p : Int × Int × Int} (h1 : EvS r ta s S fun v S1 => TripR K IntR IntR IntR p v S1) (h2 : ∀ S1, Ex S S1 → EvS r tb s S1 fun v S2 => TupR K IntR [p.1, p.2.1, p.2.2] v S2) : EvV r (tOp (rNeU K) ta tb) s S (.bl false) :=
  (vv_neD (K := K) (R := TupR K IntR) (a := [p.1, p.2.1, p.2.2]) (b := [p.1, p.2.1, p.2.2]) (h1.imp fun v S1 _ ⟨a, x, y, z, e, g, gx, gy, gz⟩ => ⟨a, _, e, g, .cons gx (.cons gy (.cons gz .nil))⟩) h2).is (by rw [decide_eq_true rfl]; rfl)
/-- [e for x, y, z in ..] -/
theorem ev_lc3n {α β γ δ : Type} {R : Rl α} {R' : Rl β} {R'' : Rl γ} {Y : Rl δ} [Mono R] [Mono R'] [Mono R''] [Mono Y] {r : Rs} {s : L2.St} {S : Hp} {wi : TI} {te : TE} {j1 j2 j3 : Nat} {vs : List Nat} {ys : List (α × β × γ)} (gf : α × β × γ → δ) (hi : EvI r wi s S ys (TripR K R R' R'')) (hz : ys.length ≤ 100000) (hw : ∀ v v' v'', wipe ((((wipe s vs).set j1 (some v)).set j2 (some v')).set j3 (some v'')) vs = wipe s vs)
    (hb : ∀ y v v' v'' S1, Ex S S1 → y ∈ ys → R y.1 v S1 → R' y.2.1 v' S1 → R'' y.2.2 v'' S1 → EvS r te ((((wipe s vs).set j1 (some v)).set j2 (some v')).set j3 (some v'')) S1 fun u S2 => Y (gf y) u S2) : EvS r (tLc wi (gTup K 3 (gCons (gName j1) (gCons (gName j2) (gCons (gName j3) gNil)))) tYes te vs) s S fun v S1 => LstR Y (ys.map gf) v S1 := by
  have h := EvN.lst (X := Y) (en_lc (tt := tYes) (g := gTup K 3 (gCons (gName j1) (gCons (gName j2) (gCons (gName j3) gNil)))) (vs := vs) (te := te) (fun _ => true) gf (Yr := Y) hi hz fun y v S1 e m ⟨b, v1, v2, v3, e1, e2, e3, e4, e5⟩ => ⟨(((wipe s vs).set j1 (some v1)).set j2 (some v2)).set j3 (some v3), hw v1 v2 v3, fun H k ex h => ⟨b, _, e1, ex_t ex e2, rfl, v1, _, rfl, v2, _, rfl, v3, _, rfl, rfl, h⟩, fun S2 H2 _ w2 Q q => q true S2 H2 w2 Stp.refl rfl, fun _ => hb y v1 v2 v3 S1 e m e3 e4 e5⟩)
  rw [List.filter_eq_self.mpr (fun _ _ => rfl)] at h
  exact h
/-- [e for x, y, z in .. if t] -/
theorem ev_lc3f {α β γ δ : Type} {R : Rl α} {R' : Rl β} {R'' : Rl γ} {Y : Rl δ} [Mono R] [Mono R'] [Mono R''] [Mono Y] {r : Rs} {s : L2.St} {S : Hp} {wi : TI} {tt : TT} {te : TE} {j1 j2 j3 : Nat} {vs : List Nat} {ys : List (α × β × γ)} (f : α × β × γ → Bool) (gf : α × β × γ → δ) (hi : EvI r wi s S ys (TripR K R R' R'')) (hz : ys.length ≤ 100000) (hw : ∀ v v' v'', wipe ((((wipe s vs).set j1 (some v)).set j2 (some v')).set j3 (some v'')) vs = wipe s vs)
    (ht : ∀ y v v' v'' S1, Ex S S1 → y ∈ ys → R y.1 v S1 → R' y.2.1 v' S1 → R'' y.2.2 v'' S1 → EvB r tt ((((wipe s vs).set j1 (some v)).set j2 (some v')).set j3 (some v'')) S1 (f y)) (hb : ∀ y v v' v'' S1, Ex S S1 → y ∈ ys → f y = true → R y.1 v S1 → R' y.2.1 v' S1 → R'' y.2.2 v'' S1 → EvS r te ((((wipe s vs).set j1 (some v)).set j2 (some v')).set j3 (some v'')) S1 fun u S2 => Y (gf y) u S2) : EvS r (tLc wi (gTup K 3 (gCons (gName j1) (gCons (gName j2) (gCons (gName j3) gNil)))) tt te vs) s S fun v S1 => LstR Y ((ys.filter f).map gf) v S1 :=
  EvN.lst (X := Y) (en_lc (tt := tt) (g := gTup K 3 (gCons (gName j1) (gCons (gName j2) (gCons (gName j3) gNil)))) (vs := vs) (te := te) f gf (Yr := Y) hi hz fun y v S1 e m ⟨b, v1, v2, v3, e1, e2, e3, e4, e5⟩ => ⟨(((wipe s vs).set j1 (some v1)).set j2 (some v2)).set j3 (some v3), hw v1 v2 v3, fun H k ex h => ⟨b, _, e1, ex_t ex e2, rfl, v1, _, rfl, v2, _, rfl, v3, _, rfl, rfl, h⟩, ht y v1 v2 v3 S1 e m e3 e4 e5, fun hf => hb y v1 v2 v3 S1 e m hf e3 e4 e5⟩)
theorem if_iff {α : Type} {p q : Prop} [Decidable p] [Decidable q] {a b : α} (h : p ↔ q) : (if p then a else b) = if q then a else b := by
  by_cases e : p
  · rw [if_pos e, if_pos (h.mp e)]
  · rw [if_neg e, if_neg (fun z => e (h.mpr z))]
end
end K29

namespace K29
open PySem PySem.Spec PyProof.Rows L2 Evl J RZ
section
variable {P : Program} {w : World} {K : PySem.W.Frag} {mg : Str → Option Value} {base : Heap}
/-! ### a table's place, and tables compared -/
theorem ev_bkg {r : Rs} {s : L2.St} {S : Hp} {i : Nat} {a : BookD} {v : V} {C : Addr} (h : s[i]? = some (some v)) (hb : BookR K C a v S) (c : Cls K C) (n1 : NoAttr K C "kept_pages") (n2 : NoAttr K C "kept_news") :
    EvV r (tFld K (tVar i) "kept_pages") s S (.int a.pages) ∧ (EvS r (tFld K (tVar i) "kept_news") s S fun v S1 => TupR K IntR a.news v S1) := by
  obtain ⟨x, dx, r, w, m, rfl, h2, h3, h4⟩ := hb
  exact ⟨vv_fld (vv_var h) h2 c n1 (bk_p _ _ _ _), (vv_fld (vv_var h) h2 c n2 (bk_w _ _ _ _)).imp fun v S1 e ev => by rw [ev]; exact Mono.up e h3.2.1⟩
abbrev Parts (K : PySem.W.Frag) := QuadR K IntR (TupR K IntR) (TupR K IntR) (TupR K (Tr K))
def partsM (a : BookD) : Int × List Int × List Int × List (Int × Int × Int) := (a.pages, a.rows, a.news, a.moves)
instance : DecidableEq (List Int × List (Int × Int × Int)) := instDecidableEqProd
instance : DecidableEq (List Int × List Int × List (Int × Int × Int)) := instDecidableEqProd
instance : DecidableEq (Int × List Int × List Int × List (Int × Int × Int)) := instDecidableEqProd
instance : Dt K (Tr K) := inferInstanceAs (Dt K (TripR K IntR IntR IntR))
def sp_Book_all_parts (K : PySem.W.Frag) (C : Addr) : Sp := SpP (A := BookD) (fun a vs S => ∃ v, vs = [v] ∧ BookR K C a v S) (fun a v S => Parts K (partsM a) v S)
theorem ev_parts {r : Rs} {s : L2.St} {S : Hp} {i : Nat} {a : BookD} {v : V} {C : Addr} {E : XK} (h : s[i]? = some (some v)) (hb : BookR K C a v S) : EvS r (tMeth C ("all_parts" : Str) (sp_Book_all_parts K C) [] E (tVar i) tNil) s S fun v S1 => Parts K (partsM a) v S1 :=
  ev_methP (Q1 := fun x _ => x = v) (vv_var h) va_nil fun x S1 S2 e1 ex e2 => by
    subst ex
    obtain ⟨y, dx, r', w', m', rfl, g2, g3, g4⟩ := id hb
    exact ⟨y, dx, _, rfl, e1 _ _ g2, bk_nomethod _ _ _ _ _ (.inr (.inr (.inr (.inr rfl)))), a, ⟨.ref y, rfl, Mono.up (e1.trans e2) hb⟩, fun v S3 _ p => p⟩
def sp_Book_eq (K : PySem.W.Frag) (C : Addr) : Sp := SpP (A := BookD × BookD) (fun a vs S => ∃ v v', vs = [v, v'] ∧ BookR K C a.1 v S ∧ BookR K C a.2 v' S) (fun a v _ => v = .bl (decide (partsM a.1 = partsM a.2)))
theorem vv_beq {r : Rs} {s : L2.St} {S : Hp} {a b : BookD} {v v' : V} {ta tb : TE} {C : Addr} {E : XK} (h : EvV r ta s S v) (h' : EvV r tb s S v') (ha : BookR K C a v S) (hb : BookR K C b v' S) : EvV r (tOp (rEqO C (sp_Book_eq K C) E) ta tb) s S (.bl (decide (partsM a = partsM b))) :=
  vv_eqO (a, b) h h' (by
    obtain ⟨x, dx, _, _, _, rfl, h2, _⟩ := ha
    exact ⟨x, dx, _, rfl, h2⟩) (by
    obtain ⟨x, dx, _, _, _, rfl, h2, _⟩ := hb
    exact ⟨x, dx, _, rfl, h2⟩) (fun S e => ⟨v, v', rfl, Mono.up e ha, Mono.up e hb⟩) fun u S h => h
def sp_Book_place (K : PySem.W.Frag) (C : Addr) : Sp := SpP (A := BookD × Int × Int) (fun a vs S => ∃ v, vs = [v, .int a.2.1, .int a.2.2] ∧ BookR K C a.1 v S ∧ (0 ≤ a.2.1 ∧ a.2.1 < (a.1.rows.length : Int)) ∧ 0 ≤ a.2.2 ∧ a.2.2 ≤ 2000) (fun a v _ => v = .int (spotM a.1 a.2.1 a.2.2))
theorem G_Book_place (T : TX P w K mg) : FnOk P w K mg base CX0 4 T.f_Book_place T.fd_Book_place ["self", "row", "time"] (sp_Book_place K T.C_Book) := by
  refine T.F_Book_place.ok sc_Book_place (fun vs H Q E h => ?_) (fun cdv A outer s H vs Q E hr h => ?_)
  · obtain ⟨a, S, ⟨v, rfl, _⟩, _⟩ := h
    rfl
  · obtain ⟨⟨a, row, time⟩, S, ⟨v, rfl, hb, h0, h1⟩, w0, q⟩ := h.body
    refine ⟨_, (pss_cons (ps_expr (pe_meth (pv 0) T.cl_Book T.m_Book_check (G_Book_check T) (hr.mono (by decide)) T.b_Book_check .nil pass0 (pa_cons (pv 1) pa_nil)))
      (pss_cons (ps_if (pt_not (pt_val (pe_call (G_is_between T) (hr.mono (by decide)) (by rfl) T.g_is_between T.F_is_between.kp T.b_is_between .nil pass0 (pa_cons (pv 2) (pa_cons pe_int (pa_cons (pe_const (by rfl) T.c_MOST_TIME) pa_nil)))))) (pss_one ps_never) pss_nil)
      (pss_one (ps_ret (pe_meth (pv 0) T.cl_Book T.m_Book_spot (G_Book_spot T) (hr.mono (by decide)) T.b_Book_spot .nil pass0 (pa_cons (pv 1) (pa_cons (pv 2) pa_nil))))))), ?_⟩
    dsimp only at hb h0 h1 q
    refine sq_drop (vv_bcheck rfl (va_cons (vv_var rfl) va_nil) hb h0.1 h0.2) w0 fun _ S1 H1 w1 s1 _ => ?_
    refine sq_ifNo (tb_not (a := true) (tb_B (vv_between (va_cons (vv_var rfl) (va_cons vv_c (va_cons vv_c va_nil))) (btw h1.1 h1.2)))) w1 fun S2 H2 w2 s2 => ?_
    exact st_ret (vv_bspot rfl (va_cons (vv_var rfl) (va_cons (vv_var rfl) va_nil)) (Mono.up (s1.ex.trans s2.ex) hb) h0.1 h0.2) w2 fun v S3 H3 w3 s3 h => q v S3 H3 w3 (s1.trans (s2.trans s3)) h
theorem vv_bplace {r : Rs} {s : L2.St} {S : Hp} {i : Nat} {ts : TA} {a : BookD} {row time : Int} {v : V} {C : Addr} {E : XK} (h : s[i]? = some (some v)) (h2 : EvAV r ts s S [.int row, .int time]) (hb : BookR K C a v S) (h0 : 0 ≤ row ∧ row < (a.rows.length : Int)) (h1 : 0 ≤ time ∧ time ≤ 2000) : EvV r (tMeth C ("place" : Str) (sp_Book_place K C) [] E (tVar i) ts) s S (.int (spotM a row time)) :=
  ev_methP (Q1 := fun x _ => x = v) (vv_var h) h2 fun x S1 S2 e1 ex e2 => by
    subst ex
    obtain ⟨y, dx, r', w', m', rfl, g2, g3, g4⟩ := id hb
    exact ⟨y, dx, _, rfl, e1 _ _ g2, bk_nomethod _ _ _ _ _ (.inr (.inr (.inr (.inl rfl)))), (a, row, time), ⟨.ref y, rfl, Mono.up (e1.trans e2) hb, h0, h1⟩, fun v S3 _ p => p⟩
end
end K29

namespace K29
open PySem PySem.Spec PyProof.Rows L2 Evl J RZ
section
variable {P : Program} {w : World} {K : PySem.W.Frag} {mg : Str → Option Value} {base : Heap}
/-! ### which tables a rule lets -/
theorem pe_revK {X : Cx} {e : Expr} {te : TE} {k : Nat} {p1 p2 p3 pos : Pos} (he : PE X e te) (hK : X.K = K := by rfl) : PE X (.Subscript e (.Slice none none (some (.UnaryOp .USub (.Constant (.int 1) k p1) p2)) p3) pos) (tRevL K te) := by
  subst hK
  exact pe_revL he
theorem all2_rev {α : Type} {R : Rl α} {S : Hp} : ∀ {xs : List α} {vs : List V}, All2 R S xs vs → All2 R S xs.reverse vs.reverse
  | _, _, .nil => .nil
  | _, _, .cons h t => by
    rw [List.reverse_cons, List.reverse_cons]
    exact (all2_rev t).snoc h
theorem ev_rev {α : Type} {R : Rl α} [Mono R] {r : Rs} {s : L2.St} {S : Hp} {te : TE} {xs : List α} (h : EvS r te s S fun v S1 => LstR R xs v S1) : EvS r (tRevL K te) s S fun v S1 => LstR R xs.reverse v S1 := fun S1 H e w0 Q q =>
  h S1 H e w0 _ fun v S2 H2 w2 s2 ⟨a, vs, e1, e2, e3⟩ => ⟨a, vs, e1, SqL.of (w2.ex _ _ e2), fun p hp => q (.ref p) (upd S2 p (.lst vs.reverse)) _ (w2.newS hp) (s2.trans (Stp.newS w2 hp)) ⟨p, _, rfl, upd_same, all2_rev (e3.up (Ex.new (w2.fresh hp)))⟩⟩
theorem inV_strs {z : Str} {l : List Str} : inV (.str z) (l.map V.str) = decide (z ∈ l) := by
  unfold inV
  rw [List.any_map]
  induction l with
  | nil => simp
  | cons x l ih =>
    rw [List.any_cons, ih]
    show ((x == z) || decide (z ∈ l)) = decide (z ∈ x :: l)
    rw [PySem.W.beq_decide, ← Bool.decide_or]
    exact decide_eq_decide.mpr (by rw [List.mem_cons]; exact ⟨fun h => h.elim (fun h => .inl h.symm) .inr, fun h => h.elim (fun h => .inl h.symm) .inr⟩)
theorem inV_bools {z : Bool} {l : List Bool} : inV (.bl z) (l.map V.bl) = decide (z ∈ l) := by
  unfold inV
  rw [List.any_map]
  induction l with
  | nil => simp
  | cons x l ih =>
    rw [List.any_cons, ih]
    show ((x == z) || decide (z ∈ l)) = decide (z ∈ x :: l)
    rw [PySem.W.beq_decide, ← Bool.decide_or]
    exact decide_eq_decide.mpr (by rw [List.mem_cons]; exact ⟨fun h => h.elim (fun h => .inl h.symm) .inr, fun h => h.elim (fun h => .inl h.symm) .inr⟩)
def dirsM : List Int → List (Int × Int × Int) → List Str
  | _, [] => []
  | sp, m :: r => (if m.2.2 > sp.getD m.2.1.toNat 0 then ("ahead" : Str) else ("back" : Str)) :: dirsM (sp.set m.2.1.toNat m.2.2) r
theorem dirs_snoc {m : Int × Int × Int} : ∀ (ms : List (Int × Int × Int)) (sp : List Int), dirsM sp (ms ++ [m]) = dirsM sp ms ++ [if m.2.2 > (spotsAfter sp ms).getD m.2.1.toNat 0 then ("ahead" : Str) else ("back" : Str)]
  | [], sp => rfl
  | x :: ms, sp => by
    show _ :: dirsM (sp.set x.2.1.toNat x.2.2) (ms ++ [m]) = _
    rw [dirs_snoc ms]
    rfl
theorem dirs_len : ∀ (ms : List (Int × Int × Int)) (sp : List Int), (dirsM sp ms).length = ms.length
  | [], _ => rfl
  | x :: ms, sp => by
    show (dirsM (sp.set x.2.1.toNat x.2.2) ms).length + 1 = ms.length + 1
    rw [dirs_len ms]
theorem rows_in {pages : Int} {news : List Int} : ∀ (ms : List (Int × Int × Int)) (sp : List Int) (bf : Int), movesB pages news sp bf ms = true → ∀ m, m ∈ ms → 0 ≤ m.2.1 ∧ m.2.1 < (sp.length : Int)
  | [], _, _, _, m, hm => by cases hm
  | x :: ms, sp, bf, h, m, hm => by
    have h2 := Bool.and_eq_true_iff.mp (show (canB pages news sp bf x && movesB pages news (sp.set x.2.1.toNat x.2.2) x.1 ms) = true from h)
    have hc := h2.1
    unfold canB at hc
    simp only [Bool.and_eq_true, decide_eq_true_eq] at hc
    rcases List.mem_cons.mp hm with rfl | hm
    · omega
    · have := rows_in ms _ _ h2.2 m hm
      rw [List.length_set] at this
      exact this
/-- found.append(e), e reckoned with the items of l -/
theorem sq_appendB {r : Rs} {s : L2.St} {S H : Hp} {f l : Addr} {xs : List V} {o : HO} {te ta : TE} {v : V} {tz : TS} {D : Ends} (n : f ∉ r.M) (nl : l ∉ r.M) (ne : l ≠ f) (ho : EvV r ta s S (.ref f)) (hv : EvV r te s (upd S l o) v) (w0 : Wd r S H) (hf : H f = some (.lst xs)) (hl : H l = some o) (sf : S f = none) (sl : S l = none) (hz : xs.length < 100000)
    (k : ∀ S1 H1, Wd r S1 H1 → Stp (r.more [f]) S H S1 H1 → S1 f = none → S1 l = none → H1 f = some (.lst (xs ++ [v])) → H1 l = some o → tz D s H1) : tSeq (tDrop (tBM K "list" rAppend ta (tCons te tNil))) tz D s H :=
  ho S H (Ex.refl _) w0 _ fun u S1 H1 w1 s1 eu => by
    subst eu
    have h1 : H1 f = some (.lst xs) := s1.kp f _ n hf
    have l1 : H1 l = some o := s1.kp l _ nl hl
    refine ⟨.inl ⟨rfl, _, .inl (.inl h1)⟩, borrow (EvS.mono (ex_both s1.ex) hv) w1 l1 nl (s1.fr l (ne_none hl) sl) fun S2 H2 w2 s2 n2 => ?_⟩
    have s12 := s1.trans s2
    have f2 := s12.fr f (ne_none hf) sf
    refine ⟨f, xs, v, rfl, rfl, s12.kp f _ n hf, sz_lt hz, ?_⟩
    refine k S2 _ (w2.mut f2 n (nco_lst (s12.kp f _ n hf))) ((s12.more).trans (Stp.upd1 (s12.dm f (ne_none hf)))) f2 n2 upd_same ?_
    rw [upd_ne ne]
    exact s12.kp l _ nl hl
def sp_directions (K : PySem.W.Frag) (C : Addr) : Sp := SpP (A := BookD) (fun a vs S => ∃ v, vs = [v] ∧ BookR K C a v S) (fun a v S => LstR StrR (dirsM a.rows a.moves) v S)
def holdM (u : RuleD) (a : BookD) : Bool := !(decide (u.fresh = ("none" : Str)) && !decide (a.news = [])) && (dirsM a.rows a.moves).all fun z => decide (z ∈ u.moves)
def sp_can_hold (K : PySem.W.Frag) (CB CU : Addr) : Sp := SpP (A := RuleD × BookD) (fun a vs S => ∃ vu vb, vs = [vu, vb] ∧ RuleR K CU a.1 vu S ∧ BookR K CB a.2 vb S) (fun a v _ => v = .bl (holdM a.1 a.2))
theorem flat_strs (l : List Str) : (l.map V.str).all flatV = true := by
  rw [List.all_map, List.all_eq_true]
  exact fun x _ => rfl
theorem vv_hold {r : Rs} {s : L2.St} {S : Hp} {ts : TA} {a : BookD} {u : RuleD} {vu vb : V} {CB CU : Addr} (h : EvAV r ts s S [vu, vb]) (hu : RuleR K CU u vu S) (hb : BookR K CB a vb S) : EvV r (tCall (sp_can_hold K CB CU) [] E0 ts) s S (.bl (holdM u a)) :=
  vv_call (u, a) h (fun S e => ⟨vu, vb, rfl, Mono.up e hu, Mono.up e hb⟩) fun v _ _ p => p
end
end K29

namespace K29
open PySem PySem.Spec PyProof.Rows L2 Evl J RZ
section
variable {P : Program} {w : World} {K : PySem.W.Frag} {mg : Str → Option Value} {base : Heap}
/-! ### a move put in -/
theorem all2_inl {S : Hp} : ∀ {ms : List (Int × Int × Int)} {vs : List V}, All2 (Tr K) S ms vs → All2 (UR K) S (ms.map Sum.inl) vs
  | _, _, .nil => .nil
  | _, _, .cons h t => .cons h (all2_inl t)
theorem all2_uninl {S : Hp} : ∀ {ms : List (Int × Int × Int)} {vs : List V}, All2 (UR K) S (ms.map Sum.inl) vs → All2 (Tr K) S ms vs
  | [], _, .nil => .nil
  | _ :: _, _, .cons h t => .cons h (all2_uninl t)
def insM (ms : List (Int × Int × Int)) (m : Int × Int × Int) : List (Int × Int × Int) := ms.filter (fun x => decide (x.1 ≤ m.1)) ++ [m] ++ ms.drop (ms.filter (fun x => decide (x.1 ≤ m.1))).length
def insU (ms : List (Int × Int × Int)) (t : Int) (x : (Int × Int × Int) ⊕ V) : List ((Int × Int × Int) ⊕ V) := (ms.filter (fun x => decide (x.1 ≤ t))).map Sum.inl ++ [x] ++ (ms.drop (ms.filter (fun x => decide (x.1 ≤ t))).length).map Sum.inl
theorem insU_inl (ms : List (Int × Int × Int)) (m : Int × Int × Int) : insU ms m.1 (.inl m) = (insM ms m).map Sum.inl := by
  unfold insU insM
  simp only [List.map_append, List.map_cons, List.map_nil]
theorem insM_len (ms : List (Int × Int × Int)) (m : Int × Int × Int) : (insM ms m).length = ms.length + 1 := by
  unfold insM
  have := List.length_filter_le (fun x : Int × Int × Int => decide (x.1 ≤ m.1)) ms
  simp only [List.length_append, List.length_cons, List.length_nil, List.length_drop]
  omega
section
variable {r : Rs} {s : L2.St} {S : Hp}
theorem ev_dropT {α : Type} {R : Rl α} [Mono R] {xs : List α} {te ti : TE} {k : Nat} (h : EvS r te s S fun v S1 => TupR K R xs v S1) (hi : ∀ S1, Ex S S1 → EvV r ti s S1 (.int (k : Int))) : EvS r (tSl (rSlU K) te (tPart ti) tNoPart) s S fun v S1 => TupR K R (xs.drop k) v S1 := fun S1 H e w Q q =>
  h S1 H e w _ fun x S2 H2 w2 s2 hx => hi S2 (e.trans s2.ex) S2 H2 (Ex.refl _) w2 _ fun v S3 H3 w3 s3 ev => by
    subst ev
    refine ⟨k, rfl, ?_⟩
    have hc : EvS r (tC x) s S3 fun v S1 => TupR K R xs v S1 := (vv_c : EvV r (tC x) s S3 x).imp fun v S4 e4 ev => by rw [ev]; exact Mono.up (s3.ex.trans e4) hx
    have := ev_sliceT (lo := some (k : Int)) (hi := none) (tl := fun _ H Q => Q (some (k : Int)) H) (th := tNoPart) hc (fun H Q q => q) (fun H Q q => q)
    rw [cut_drop] at this
    exact this S3 H3 (Ex.refl _) w3 _ fun v S4 H4 w4 s4 p => q v S4 H4 w4 (s2.trans (s3.trans s4)) p
theorem ev_rows {tp : TE} {ms : List (Int × Int × Int)} {t : Int} {x : (Int × Int × Int) ⊕ V} {ve u : V} {i j : Nat} (h2 : s[i]? = some (some ve)) (he : LstR (UR K) ((ms.filter fun x => decide (x.1 ≤ t)).map Sum.inl) ve S) (h1 : s[j]? = some (some u)) (hx : UR K x u S) (hz : ms.length ≤ 1000) (hm : EvS r tp s S fun v S1 => TupR K (Tr K) ms v S1) :
    EvS r (tOp (rAddU K) (tOp (rAddU K) (tVar i) (tLst (tCons (tVar j) tNil))) (tCB (rListU K) (tCons (tSl (rSlU K) tp (tPart (tCB (rLenU K) (tCons (tVar i) tNil))) tNoPart) tNil))) s S fun v S1 => LstR (UR K) (insU ms t x) v S1 := by
  have hlf := List.length_filter_le (fun x : Int × Int × Int => decide (x.1 ≤ t)) ms
  refine ev_cat (R := UR K) (ev_cat (R := UR K) (ev_v (R := LstR (UR K)) h2 he) (fun S1 e => ev_lst1 (R := UR K) (ev_v (R := UR K) h1 (Mono.up e hx))) (by rw [List.length_map]; simp; omega)) (fun S1 e => EvN.lst (X := UR K) (en_list (K := K) (X := UR K) (ea_one ((ev_dropT (R := Tr K) (k := (ms.filter fun x => decide (x.1 ≤ t)).length) (EvS.mono e hm) fun S2 e2 => ?_).imp fun v S2 _ ⟨a, vs, e1, g1, g2⟩ => .inr ⟨a, vs, e1, g1, all2_inl g2⟩)))) (by simp only [List.length_append, List.length_map, List.length_cons, List.length_nil, List.length_drop]; omega)
  have := len_v (K := K) (r := r) (s := s) (R := UR K) h2 (.inl (Mono.up (e.trans e2) he))
  rw [List.length_map] at this
  exact this
theorem ev_mkBookP {a : BookD} {C : Addr} {E : XK} {dvs : List V} {ta : TA} (bo : BookOk a) (h : EvAS r ta s S fun us S1 => ∃ vr vn vm, us = [.int a.pages, vr, vn, vm] ∧ SeqR K IntR a.rows vr S1 ∧ SeqR K IntR a.news vn S1 ∧ SeqR K (Tr K) a.moves vm S1) (hd : dvs = [] := by rfl) : EvS r (tMake C (sp_Book_init K C) dvs E ta) s S fun v S1 => BookR K C a v S1 := by
  subst hd
  refine EvN.stable (en_make (R := fun o S1 => ∃ dx r w m, o = .ins C dx (bookF a.pages r w m) ∧ BookAt K a r w m S1) h fun us S1 e ⟨vr, vn, vm, eu, g1, g2, g3⟩ => ⟨a, ⟨vr, vn, vm, by rw [List.append_nil]; exact eu, g1, g2, g3, bo⟩, fun dx fs S2 e2 ⟨r, w, m, ef, hat⟩ => ⟨dx, r, w, m, by rw [ef], hat⟩⟩) fun p o S1 _ n ⟨dx, r, w, m, eo, hat⟩ => ⟨p, dx, r, w, m, rfl, by rw [eo]; exact upd_same, hat.up (Ex.new n), bo⟩
/-- the four parts of a table, with moves -/
theorem ea_bk {i j : Nat} {a : BookD} {v vm : V} {C : Addr} {E : XK} {ms : List (Int × Int × Int)} (h : s[i]? = some (some v)) (h2 : s[j]? = some (some vm)) (hb : BookR K C a v S) (hm : SeqR K (Tr K) ms vm S) : EvAS r (tCons (tProp C (getSp C "kept_pages") [] E (tVar i)) (tCons (tProp C (getSp C "kept_rows") [] E (tVar i)) (tCons (tProp C (getSp C "kept_news") [] E (tVar i)) (tCons (tVar j) tNil)))) s S fun us S1 => ∃ vr vn vm, us = [.int a.pages, vr, vn, vm] ∧ SeqR K IntR a.rows vr S1 ∧ SeqR K IntR a.news vn S1 ∧ SeqR K (Tr K) ms vm S1 := by
  obtain ⟨x, dx, r', w', m', rfl, g2, g3, g4⟩ := hb
  exact EvAS.imp' (va_cons (vv_prop (vv_var h) g2 (bk_p _ _ _ _)) (va_cons (vv_prop (vv_var h) g2 (bk_r _ _ _ _)) (va_cons (vv_prop (vv_var h) g2 (bk_w _ _ _ _)) (va_cons (vv_var h2) va_nil)))) fun us S1 e eu => ⟨_, _, _, eu, .inr (Mono.up e g3.1), .inr (Mono.up e g3.2.1), Mono.up e hm⟩
end
def sp_with_move (K : PySem.W.Frag) (C : Addr) : Sp := SpP (A := BookD × (Int × Int × Int)) (fun a vs S => ∃ v u, vs = [v, u] ∧ BookR K C a.1 v S ∧ Tr K a.2 u S ∧ a.1.moves.length < 40 ∧ (0 ≤ a.2.1 ∧ a.2.1 ≤ 2000) ∧ movesB a.1.pages a.1.news a.1.rows 0 (insM a.1.moves a.2) = true) (fun a v S => BookR K C { a.1 with moves := insM a.1.moves a.2 } v S)
theorem G_with_move (T : TX P w K mg) : FnOk P w K mg base CX0 7 T.f_with_move T.fd_with_move ["book", "move"] (sp_with_move K T.C_Book) := by
  refine T.F_with_move.ok sc_with_move (fun vs H Q E h => ?_) (fun cdv A outer s H vs Q E hr h => ?_)
  · obtain ⟨a, S, ⟨v, u, rfl, _⟩, _⟩ := h
    rfl
  · obtain ⟨⟨a, m⟩, S, ⟨v, u, rfl, hb, hu, hlt, hm01, hok⟩, w0, q⟩ := h.body
    refine ⟨_, (pss_cons (ps_if (pt_cmpR (op_eqK (K := K) hr.units) (pe_callB (call_lenK (K := K)) (by rfl) T.z_len (by decide +kernel) (pa_cons (pe_prop (pv 0) T.cl_Book T.p_Book_moves (G_Book_moves T) (hr.mono (by decide)) T.b_Book_moves .nil pass0 rfl) pa_nil)) (pe_const (by rfl) T.c_MOST_MOVES) (nomark _)) (pss_one ps_never) pss_nil)
      (pss_cons (ps_if (PW.pt (pw_or (pt_not (pt_val (pe_callB (call_isiK2 (K := K)) (by rfl) T.z_isinstance (by decide +kernel) (pa_cons (pv 1) (pa_cons (pe_bltn (v := .ty "tuple") (by rfl) T.z_tuple (by decide +kernel) rfl) pa_nil))))) (pw_or (pt_cmpR (op_neK (K := K) hr.units) (pe_callB (call_lenK (K := K)) (by rfl) T.z_len (by decide +kernel) (pa_cons (pv 1) pa_nil)) pe_int (nomark _)) (pw_or1 (pt_not (pt_val (pe_call (G_is_between T) (hr.mono (by decide)) (by rfl) T.g_is_between T.F_is_between.kp T.b_is_between .nil pass0 (pa_cons (pe_ix (ix_K (K := K)) (pv 1) pe_int (fun _ _ => rfl)) (pa_cons pe_int (pa_cons (pe_const (by rfl) T.c_MOST_TIME) pa_nil)))))))))) (pss_one ps_never) pss_nil)
      (pss_cons (ps_setLc (i := 2) (own := [("one", 4)]) (by rfl) sc_with_move.nd rfl rfl (sw_true rfl rfl rfl (by decide +kernel)) (pi_K (K := K) (pe_prop (pv 0) T.cl_Book T.p_Book_moves (G_Book_moves T) (hr.mono (by decide)) T.b_Book_moves .nil pass0 rfl)) (blkOk_by (own := [("one", 4)]) (N := N_with_move) (sc := (defScope s_with_move)) (by decide +kernel)) (fun _ _ _ _ _ => (pg_name (i := 4) sc_with_move.nd rfl (Or.inl rfl))) (fun _ _ _ _ _ => (pts_one (pt_cmpR op_le (pe_ix (ix_K (K := K)) (pv 4) pe_int (fun _ _ => rfl)) (pe_ix (ix_K (K := K)) (pv 1) pe_int (fun _ _ => rfl)) (nomark _)))) (fun _ _ _ _ _ => (pv 4)))
      (pss_cons (ps_set (i := 3) sc_with_move.nd rfl (Or.inl rfl) (pe_op (op_addK (K := K)) (pe_op (op_addK (K := K)) (pv 2) (pe_lst (pa_cons (pv 1) pa_nil))) (pe_callTy (call_listK (K := K)) (by rfl) T.z_list (by decide +kernel) (pa_cons (pe_slice (sl_K (K := K)) (pe_prop (pv 0) T.cl_Book T.p_Book_moves (G_Book_moves T) (hr.mono (by decide)) T.b_Book_moves .nil pass0 rfl) (po_some (pe_callB (call_lenK (K := K)) (by rfl) T.z_len (by decide +kernel) (pa_cons (pv 2) pa_nil))) po_none) pa_nil))))
      (pss_cons (ps_if (pt_cmpR (op_neK (K := K) hr.units) (pe_call (G_first_wrong T) (hr.mono (by decide)) (by rfl) T.g_first_wrong T.F_first_wrong.kp T.b_first_wrong .nil pass0 (pa_cons (pe_prop (pv 0) T.cl_Book T.p_Book_pages (G_Book_pages T) (hr.mono (by decide)) T.b_Book_pages .nil pass0 rfl) (pa_cons (pe_prop (pv 0) T.cl_Book T.p_Book_rows (G_Book_rows T) (hr.mono (by decide)) T.b_Book_rows .nil pass0 rfl) (pa_cons (pe_prop (pv 0) T.cl_Book T.p_Book_news (G_Book_news T) (hr.mono (by decide)) T.b_Book_news .nil pass0 rfl) (pa_cons (pv 3) pa_nil))))) (pe_lst pa_nil) (nomark _)) (pss_one ps_never) pss_nil)
      (pss_one (ps_ret (pe_make T.mk_Book (G_Book_init T) (hr.mono (by decide)) (by rfl) T.g_Book T.b4_Book_init.choose_spec.2 T.b4_Book_init.choose_spec.1 pass0 (pa_cons (pe_prop (pv 0) T.cl_Book T.p_Book_pages (G_Book_pages T) (hr.mono (by decide)) T.b_Book_pages .nil pass0 rfl) (pa_cons (pe_prop (pv 0) T.cl_Book T.p_Book_rows (G_Book_rows T) (hr.mono (by decide)) T.b_Book_rows .nil pass0 rfl) (pa_cons (pe_prop (pv 0) T.cl_Book T.p_Book_news (G_Book_news T) (hr.mono (by decide)) T.b_Book_news .nil pass0 rfl) (pa_cons (pv 3) pa_nil)))))))))))), ?_⟩
    dsimp only at hb hu hlt hm01 hok q
    refine sq_ifNo (tb_test (EvV.is (vv_op (vv_len (X := Tr K) ((ev_bk rfl hb).2.2.2.imp fun v S1 _ h => .inr h)) vv_c rs_eqI) (by simp; omega))) w0 fun S1 H1 w1 s1 => ?_
    have hu1 := Mono.up s1.ex hu
    refine sq_ifNo (EvB.is (tb_or (a := false) (tb_not (a := true) (tb_B (vv_isT (vv_var rfl) vv_c (tr_tyx hu1) (by decide +kernel)))) fun _ => tb_or (a := false) (tb_test ((vv_op (tr_len rfl hu1) vv_c rs_neI).is rfl)) fun _ => tb_not (a := true) (tb_B (vv_between (va_cons (tr_ix rfl hu1).1 (va_cons vv_c (va_cons vv_c va_nil))) (btw hm01.1 hm01.2)))) rfl) w1 fun S2 H2 w2 s2 => ?_
    have s02 := s1.trans s2
    have hb2 := Mono.up s02.ex hb
    have hu2 := Mono.up s02.ex hu
    refine sq_asg (R := fun v S => LstR (UR K) ((a.moves.filter fun x => decide (x.1 ≤ m.1)).map Sum.inl) v S) (EvN.lst (X := UR K) (en_lct (X := Tr K) (Yr := UR K) (fun x => decide (x.1 ≤ m.1)) Sum.inl (ei_tup (X := Tr K) (ev_bk rfl hb2).2.2.2) (by omega) (by intro _; rfl) (fun y v S3 e _ hy => tb_test (vv_op (tr_ix rfl hy).1 (tr_ix rfl (Mono.up e hu2)).1 rs_I0)) fun y v S3 e _ _ hy => ev_v (R := Tr K) rfl hy)) w2 fun v2 S3 H3 w3 s3 he => ?_
    have hb3 := Mono.up s3.ex hb2
    refine sq_asg (R := fun v S => LstR (UR K) (insU a.moves m.1 (.inl m)) v S) (ev_rows rfl he rfl (x := .inl m) (Mono.up s3.ex hu2) (by omega) (ev_bk rfl hb3).2.2.2) w3 fun v3 S4 H4 w4 s4 hv3 => ?_
    rw [insU_inl] at hv3
    have hv4 : LstR (Tr K) (insM a.moves m) v3 S4 := by
      obtain ⟨l, vs, e1, g1, g2⟩ := hv3
      exact ⟨l, vs, e1, g1, all2_uninl g2⟩
    have hb4 := Mono.up s4.ex hb3
    have bo := book_ok hb
    have hil := insM_len a.moves m
    have hrl := bo.rl
    have hnl := bo.nl
    refine sq_ifNo (tb_test (EvV.is (vv_neD (K := K) (R := LstR (Tr K)) (a := []) (b := []) ?_ fun S e => ev_nilL) (by simp))) w4 fun S5 H5 w5 s5 => ?_
    · refine ev_call (P := fun us S1 => ∃ vr vn vm, us = [.int a.pages, vr, vn, vm] ∧ SeqR K IntR a.rows vr S1 ∧ SeqR K IntR a.news vn S1 ∧ SeqR K (Tr K) (insM a.moves m) vm S1) ?_ fun us S1 e ⟨vr, vn, vm, eu, g1, g2, g3⟩ => ⟨{ a with moves := insM a.moves m }, ⟨vr, vn, vm, by rw [List.append_nil]; exact eu, g1, g2, g3, ⟨by dsimp only; omega, by dsimp only; omega, by dsimp only; omega⟩, hok⟩, fun v S2 _ p => p⟩
      exact ea_bk rfl rfl hb4 (.inl hv4)
    have hb5 := Mono.up s5.ex hb4
    exact st_ret (ev_mkBookP (a := { a with moves := insM a.moves m }) ⟨bo.p, bo.rl, bo.r, bo.nl, bo.n, by dsimp only; omega, hok⟩ (ea_bk (a := a) rfl rfl hb5 (.inl (Mono.up s5.ex hv4)))) w5 fun v S6 H6 w6 s6 p => q v S6 H6 w6 (s02.trans (s3.trans (s4.trans (s5.trans s6)))) p
/-! ### a move refused -/
/-- what is seen to be no move at once -/
def EBad (K : PySem.W.Frag) (u : V) (S : Hp) : Prop := (∃ t, TyX K S u (.type t) ∧ kitB t "tuple" = some false) ∨ (∃ p xs, u = .ref p ∧ SqT K S p xs ∧ xs.length ≠ 3) ∨ (∃ p x y z, u = .ref p ∧ SqT K S p [x, y, z] ∧ BadV K 0 2000 x S)
theorem ebad_up {u : V} {S S' : Hp} (e : Ex S S') (h : EBad K u S) : EBad K u S' := by
  rcases h with ⟨t, h1, h2⟩ | ⟨p, xs, h1, h2, h3⟩ | ⟨p, x, y, z, h1, h2, h3⟩
  · exact .inl ⟨t, tyx_up e h1, h2⟩
  · exact .inr (.inl ⟨p, xs, h1, ex_t e h2, h3⟩)
  · exact .inr (.inr ⟨p, x, y, z, h1, ex_t e h2, bad_up e h3⟩)
def LBad (K : PySem.W.Frag) (a : BookD) (u : V) (S : Hp) : Prop := ∃ x p t y z, UR K x u S ∧ u = .ref p ∧ SqT K S p [.int t, y, z] ∧ (0 ≤ t ∧ t ≤ 2000) ∧ FW K a.pages a.news a.rows 0 (insU a.moves t x) S
theorem lbad_up {a : BookD} {u : V} {S S' : Hp} (e : Ex S S') (h : LBad K a u S) : LBad K a u S' := by
  obtain ⟨x, p, t, y, z, h1, h2, h3, h4, h5⟩ := h
  exact ⟨x, p, t, y, z, Mono.up e h1, h2, ex_t e h3, h4, fw_up e _ _ _ h5⟩
def MvBad (K : PySem.W.Frag) (a : BookD) (u : V) (S : Hp) : Prop := a.moves.length < 40 ∧ (EBad K u S ∨ LBad K a u S)
def spx_full (K : PySem.W.Frag) (C CE : Addr) : Sp := SpX (B := BookD) CE "value" (fun a vs S => ∃ v u, vs = [v, u] ∧ BookR K C a v S ∧ a.moves.length = 40) (fun a v S => TupR K (Tr K) a.moves v S)
def spx_mv (K : PySem.W.Frag) (C CE : Addr) : Sp := SpX (B := BookD × V) CE "value" (fun a vs S => ∃ v, vs = [v, a.2] ∧ BookR K C a.1 v S ∧ MvBad K a.1 a.2 S) (fun a v _ => v = a.2)
def spx_with_move (K : PySem.W.Frag) (C CB CM : Addr) : Sp := fun vs H Q E => spx_full K C CB vs H Q E ∨ spx_mv K C CM vs H Q E
theorem vv_neL1 {r : Rs} {s : L2.St} {S : Hp} {ta tb : TE} (h : EvS r ta s S fun v S1 => ∃ l u d, v = .ref l ∧ S1 l = some (.lst [u]) ∧ Dp K S1 u d ∧ d.canLay0 = true ∧ d.depth ≤ 10) (h2 : ∀ S1, Ex S S1 → EvS r tb s S1 fun v S2 => LstR IntR [] v S2) : EvV r (tOp (rNeU K) ta tb) s S (.bl true) :=
  ev_op2 h (fun _ S1 e _ => h2 S1 e) fun x y S1 S2 _ ⟨l, u, d, e1, e2, e3, e4, e5⟩ e ⟨l', vs, g1, g2, g3⟩ => by
    subst e1
    subst g1
    cases g3
    refine ⟨_, rs_ned (d := .list [d]) (e := .list []) (Dp.lst (SqL.of (e _ _ e2)) (.cons (dp_up e _ _ e3) .nil)) (Dp.lst (SqL.of g2) .nil) ?_ (by decide +kernel), rfl⟩
    refine Bool.and_eq_true_iff.mpr ⟨?_, decide_eq_true ?_⟩
    · simp only [PyData.canLay0, PyData.canLayAll0, e4, Bool.and_self]
    · simp only [PyData.depth, PyData.depthAll]
      omega
theorem GX_with_move (T : TX P w K mg) : FnOk P w K mg base (L2N.CX P w) 7 T.f_with_move T.fd_with_move ["book", "move"] (spx_with_move K T.C_Book T.C_InvalidBook T.C_InvalidMove) := by
  refine ok_N T.F_with_move sc_with_move (fun vs H Q E h => ?_) (fun cdv A outer s H vs Q E hr h => ?_)
  · rcases h with ⟨a, S, ⟨v, u, rfl, _⟩, _⟩ | ⟨a, S, ⟨v, rfl, _⟩, _⟩ <;> rfl
  · rcases h with ⟨a, S, ⟨v, u, rfl, hb, hl⟩, w0, q⟩ | ⟨⟨a, u⟩, S, ⟨v, rfl, hb, hlt, hbad⟩, w0, q⟩
    · refine ⟨_, (pss_cons (ps_if (pt_cmpR (op_eqK (K := K) hr.units) (pe_callB (call_lenK (K := K)) (by rfl) T.z_len (by decide +kernel) (pa_cons (pe_prop (pv 0) T.cl_Book T.p_Book_moves (G_Book_moves T) (hr.mono (by decide)) T.b_Book_moves .nil pass0 rfl) pa_nil)) (pe_const (by rfl) T.c_MOST_MOVES) (nomark _)) (pss_one (ps_rs T.xc_InvalidBook (hr.mono (by decide)) T.bx_InvalidBook (by rfl) T.g_InvalidBook (pa_cons (pe_prop (pv 0) T.cl_Book T.p_Book_moves (G_Book_moves T) (hr.mono (by decide)) T.b_Book_moves .nil pass0 rfl) pa_nil))) pss_nil)
      (pss_cons (ps_if (PW.pt (pw_or (pt_not (pt_val (pe_callB (call_isiK2 (K := K)) (by rfl) T.z_isinstance (by decide +kernel) (pa_cons (pv 1) (pa_cons (pe_bltn (v := .ty "tuple") (by rfl) T.z_tuple (by decide +kernel) rfl) pa_nil))))) (pw_or (pt_cmpR (op_neK (K := K) hr.units) (pe_callB (call_lenK (K := K)) (by rfl) T.z_len (by decide +kernel) (pa_cons (pv 1) pa_nil)) pe_int (nomark _)) (pw_or1 (pt_not (pt_val (pe_alt (pe_call (G_is_between T) (hr.mono (by decide)) (by rfl) T.g_is_between T.F_is_between.kp T.b_is_between .nil pass0 (pa_cons (pe_ix (ix_K (K := K)) (pv 1) pe_int (fun _ _ => rfl)) (pa_cons pe_int (pa_cons (pe_const (by rfl) T.c_MOST_TIME) pa_nil)))) (pe_call (GX_is_between T) (hr.mono (by decide)) (by rfl) T.g_is_between T.F_is_between.kp T.b_is_between .nil passN (pa_cons (pe_ix (ix_K (K := K)) (pv 1) pe_int (fun _ _ => rfl)) (pa_cons pe_int (pa_cons (pe_const (by rfl) T.c_MOST_TIME) pa_nil))))))))))) (pss_one (ps_rs T.xc_InvalidMove (hr.mono (by decide)) T.bx_InvalidMove (by rfl) T.g_InvalidMove (pa_cons (pv 1) pa_nil))) pss_nil)
      (pss_cons (ps_setLc (i := 2) (own := [("one", 4)]) (by rfl) sc_with_move.nd rfl rfl (sw_true rfl rfl rfl (by decide +kernel)) (pi_K (K := K) (pe_prop (pv 0) T.cl_Book T.p_Book_moves (G_Book_moves T) (hr.mono (by decide)) T.b_Book_moves .nil pass0 rfl)) (blkOk_by (own := [("one", 4)]) (N := N_with_move) (sc := (defScope s_with_move)) (by decide +kernel)) (fun _ _ _ _ _ => (pg_name (i := 4) sc_with_move.nd rfl (Or.inl rfl))) (fun _ _ _ _ _ => (pts_one (pt_cmpR op_le (pe_ix (ix_K (K := K)) (pv 4) pe_int (fun _ _ => rfl)) (pe_ix (ix_K (K := K)) (pv 1) pe_int (fun _ _ => rfl)) (nomark _)))) (fun _ _ _ _ _ => (pv 4)))
      (pss_cons (ps_set (i := 3) sc_with_move.nd rfl (Or.inl rfl) (pe_op (op_addK (K := K)) (pe_op (op_addK (K := K)) (pv 2) (pe_lst (pa_cons (pv 1) pa_nil))) (pe_callTy (call_listK (K := K)) (by rfl) T.z_list (by decide +kernel) (pa_cons (pe_slice (sl_K (K := K)) (pe_prop (pv 0) T.cl_Book T.p_Book_moves (G_Book_moves T) (hr.mono (by decide)) T.b_Book_moves .nil pass0 rfl) (po_some (pe_callB (call_lenK (K := K)) (by rfl) T.z_len (by decide +kernel) (pa_cons (pv 2) pa_nil))) po_none) pa_nil))))
      (pss_cons (ps_if (pt_cmpR (op_neK (K := K) hr.units) (pe_alt (pe_call (G_first_wrong T) (hr.mono (by decide)) (by rfl) T.g_first_wrong T.F_first_wrong.kp T.b_first_wrong .nil pass0 (pa_cons (pe_prop (pv 0) T.cl_Book T.p_Book_pages (G_Book_pages T) (hr.mono (by decide)) T.b_Book_pages .nil pass0 rfl) (pa_cons (pe_prop (pv 0) T.cl_Book T.p_Book_rows (G_Book_rows T) (hr.mono (by decide)) T.b_Book_rows .nil pass0 rfl) (pa_cons (pe_prop (pv 0) T.cl_Book T.p_Book_news (G_Book_news T) (hr.mono (by decide)) T.b_Book_news .nil pass0 rfl) (pa_cons (pv 3) pa_nil))))) (pe_call (GX_first_wrong T) (hr.mono (by decide)) (by rfl) T.g_first_wrong T.F_first_wrong.kp T.b_first_wrong .nil passN (pa_cons (pe_prop (pv 0) T.cl_Book T.p_Book_pages (G_Book_pages T) (hr.mono (by decide)) T.b_Book_pages .nil pass0 rfl) (pa_cons (pe_prop (pv 0) T.cl_Book T.p_Book_rows (G_Book_rows T) (hr.mono (by decide)) T.b_Book_rows .nil pass0 rfl) (pa_cons (pe_prop (pv 0) T.cl_Book T.p_Book_news (G_Book_news T) (hr.mono (by decide)) T.b_Book_news .nil pass0 rfl) (pa_cons (pv 3) pa_nil)))))) (pe_lst pa_nil) (nomark _)) (pss_one (ps_rs T.xc_InvalidMove (hr.mono (by decide)) T.bx_InvalidMove (by rfl) T.g_InvalidMove (pa_cons (pv 1) pa_nil))) pss_nil)
      (pss_one (ps_ret (pe_make T.mk_Book (G_Book_init T) (hr.mono (by decide)) (by rfl) T.g_Book T.b4_Book_init.choose_spec.2 T.b4_Book_init.choose_spec.1 pass0 (pa_cons (pe_prop (pv 0) T.cl_Book T.p_Book_pages (G_Book_pages T) (hr.mono (by decide)) T.b_Book_pages .nil pass0 rfl) (pa_cons (pe_prop (pv 0) T.cl_Book T.p_Book_rows (G_Book_rows T) (hr.mono (by decide)) T.b_Book_rows .nil pass0 rfl) (pa_cons (pe_prop (pv 0) T.cl_Book T.p_Book_news (G_Book_news T) (hr.mono (by decide)) T.b_Book_news .nil pass0 rfl) (pa_cons (pv 3) pa_nil)))))))))))), ?_⟩
      exact sq_if (b := true) (tb_test (EvV.is (vv_op (vv_len (X := Tr K) ((ev_bk rfl hb).2.2.2.imp fun v S1 _ h => .inr h)) vv_c rs_eqI) (by simp; omega))) w0 (fun _ S1 H1 w1 s1 => st_rs (R := fun v S => TupR K (Tr K) a.moves v S) (ea_one (ev_bk rfl (Mono.up s1.ex hb)).2.2.2) w1 (fun _ _ _ e h => Mono.up e h) fun d v S2 H2 w2 s2 hv hd => q d v S2 H2 w2 (s1.trans s2) hv hd) (fun z => nomatch z)
    · refine ⟨_, (pss_cons (ps_if (pt_cmpR (op_eqK (K := K) hr.units) (pe_callB (call_lenK (K := K)) (by rfl) T.z_len (by decide +kernel) (pa_cons (pe_prop (pv 0) T.cl_Book T.p_Book_moves (G_Book_moves T) (hr.mono (by decide)) T.b_Book_moves .nil pass0 rfl) pa_nil)) (pe_const (by rfl) T.c_MOST_MOVES) (nomark _)) (pss_one (ps_rs T.xc_InvalidBook (hr.mono (by decide)) T.bx_InvalidBook (by rfl) T.g_InvalidBook (pa_cons (pe_prop (pv 0) T.cl_Book T.p_Book_moves (G_Book_moves T) (hr.mono (by decide)) T.b_Book_moves .nil pass0 rfl) pa_nil))) pss_nil)
      (pss_cons (ps_if (PW.pt (pw_or (pt_not (pt_val (pe_callB (call_isiK2 (K := K)) (by rfl) T.z_isinstance (by decide +kernel) (pa_cons (pv 1) (pa_cons (pe_bltn (v := .ty "tuple") (by rfl) T.z_tuple (by decide +kernel) rfl) pa_nil))))) (pw_or (pt_cmpR (op_neK (K := K) hr.units) (pe_callB (call_lenK (K := K)) (by rfl) T.z_len (by decide +kernel) (pa_cons (pv 1) pa_nil)) pe_int (nomark _)) (pw_or1 (pt_not (pt_val (pe_alt (pe_call (G_is_between T) (hr.mono (by decide)) (by rfl) T.g_is_between T.F_is_between.kp T.b_is_between .nil pass0 (pa_cons (pe_ix (ix_K (K := K)) (pv 1) pe_int (fun _ _ => rfl)) (pa_cons pe_int (pa_cons (pe_const (by rfl) T.c_MOST_TIME) pa_nil)))) (pe_call (GX_is_between T) (hr.mono (by decide)) (by rfl) T.g_is_between T.F_is_between.kp T.b_is_between .nil passN (pa_cons (pe_ix (ix_K (K := K)) (pv 1) pe_int (fun _ _ => rfl)) (pa_cons pe_int (pa_cons (pe_const (by rfl) T.c_MOST_TIME) pa_nil))))))))))) (pss_one (ps_rs T.xc_InvalidMove (hr.mono (by decide)) T.bx_InvalidMove (by rfl) T.g_InvalidMove (pa_cons (pv 1) pa_nil))) pss_nil)
      (pss_cons (ps_setLc (i := 2) (own := [("one", 4)]) (by rfl) sc_with_move.nd rfl rfl (sw_true rfl rfl rfl (by decide +kernel)) (pi_K (K := K) (pe_prop (pv 0) T.cl_Book T.p_Book_moves (G_Book_moves T) (hr.mono (by decide)) T.b_Book_moves .nil pass0 rfl)) (blkOk_by (own := [("one", 4)]) (N := N_with_move) (sc := (defScope s_with_move)) (by decide +kernel)) (fun _ _ _ _ _ => (pg_name (i := 4) sc_with_move.nd rfl (Or.inl rfl))) (fun _ _ _ _ _ => (pts_one (pt_cmpR op_le (pe_ix (ix_K (K := K)) (pv 4) pe_int (fun _ _ => rfl)) (pe_ix (ix_K (K := K)) (pv 1) pe_int (fun _ _ => rfl)) (nomark _)))) (fun _ _ _ _ _ => (pv 4)))
      (pss_cons (ps_set (i := 3) sc_with_move.nd rfl (Or.inl rfl) (pe_op (op_addK (K := K)) (pe_op (op_addK (K := K)) (pv 2) (pe_lst (pa_cons (pv 1) pa_nil))) (pe_callTy (call_listK (K := K)) (by rfl) T.z_list (by decide +kernel) (pa_cons (pe_slice (sl_K (K := K)) (pe_prop (pv 0) T.cl_Book T.p_Book_moves (G_Book_moves T) (hr.mono (by decide)) T.b_Book_moves .nil pass0 rfl) (po_some (pe_callB (call_lenK (K := K)) (by rfl) T.z_len (by decide +kernel) (pa_cons (pv 2) pa_nil))) po_none) pa_nil))))
      (pss_cons (ps_if (pt_cmpR (op_neK (K := K) hr.units) (pe_alt (pe_call (G_first_wrong T) (hr.mono (by decide)) (by rfl) T.g_first_wrong T.F_first_wrong.kp T.b_first_wrong .nil pass0 (pa_cons (pe_prop (pv 0) T.cl_Book T.p_Book_pages (G_Book_pages T) (hr.mono (by decide)) T.b_Book_pages .nil pass0 rfl) (pa_cons (pe_prop (pv 0) T.cl_Book T.p_Book_rows (G_Book_rows T) (hr.mono (by decide)) T.b_Book_rows .nil pass0 rfl) (pa_cons (pe_prop (pv 0) T.cl_Book T.p_Book_news (G_Book_news T) (hr.mono (by decide)) T.b_Book_news .nil pass0 rfl) (pa_cons (pv 3) pa_nil))))) (pe_call (GX_first_wrong T) (hr.mono (by decide)) (by rfl) T.g_first_wrong T.F_first_wrong.kp T.b_first_wrong .nil passN (pa_cons (pe_prop (pv 0) T.cl_Book T.p_Book_pages (G_Book_pages T) (hr.mono (by decide)) T.b_Book_pages .nil pass0 rfl) (pa_cons (pe_prop (pv 0) T.cl_Book T.p_Book_rows (G_Book_rows T) (hr.mono (by decide)) T.b_Book_rows .nil pass0 rfl) (pa_cons (pe_prop (pv 0) T.cl_Book T.p_Book_news (G_Book_news T) (hr.mono (by decide)) T.b_Book_news .nil pass0 rfl) (pa_cons (pv 3) pa_nil)))))) (pe_lst pa_nil) (nomark _)) (pss_one (ps_rs T.xc_InvalidMove (hr.mono (by decide)) T.bx_InvalidMove (by rfl) T.g_InvalidMove (pa_cons (pv 1) pa_nil))) pss_nil)
      (pss_one (ps_ret (pe_make T.mk_Book (G_Book_init T) (hr.mono (by decide)) (by rfl) T.g_Book T.b4_Book_init.choose_spec.2 T.b4_Book_init.choose_spec.1 pass0 (pa_cons (pe_prop (pv 0) T.cl_Book T.p_Book_pages (G_Book_pages T) (hr.mono (by decide)) T.b_Book_pages .nil pass0 rfl) (pa_cons (pe_prop (pv 0) T.cl_Book T.p_Book_rows (G_Book_rows T) (hr.mono (by decide)) T.b_Book_rows .nil pass0 rfl) (pa_cons (pe_prop (pv 0) T.cl_Book T.p_Book_news (G_Book_news T) (hr.mono (by decide)) T.b_Book_news .nil pass0 rfl) (pa_cons (pv 3) pa_nil)))))))))))), ?_⟩
      dsimp only at hb hlt hbad q
      refine sq_ifNo (tb_test (EvV.is (vv_op (vv_len (X := Tr K) ((ev_bk rfl hb).2.2.2.imp fun v S1 _ h => .inr h)) vv_c rs_eqI) (by simp; omega))) w0 fun S1 H1 w1 s1 => ?_
      have hb1 := Mono.up s1.ex hb
      have stop : ∀ {S5 H5 : Hp} {y2 y3 y4 : Option V} {D : Ends}, Wd Rs.nil S5 H5 → Stp Rs.nil S H S5 H5 → tRs T.C_InvalidMove "value" E (tCons (tVar 1) tNil) D [some v, some u, y2, y3, y4] H5 := by
        intro S5 H5 y2 y3 y4 D w5 s5
        exact st_rsV (va_cons (vv_var rfl) va_nil) w5 fun d v S6 H6 w6 s6 ev hd => q d v S6 H6 w6 (s5.trans s6) ev hd
      rcases hbad with hbad | hbad
      · have hbad1 := ebad_up s1.ex hbad
        refine sq_if (b := true) ?_ w1 (fun _ S2 H2 w2 s2 => stop w2 (s1.trans s2)) (fun z => nomatch z)
        rcases hbad1 with ⟨t, h1, h2⟩ | ⟨p, xs, rfl, h2, h3⟩ | ⟨p, x, y, z, rfl, h2, h3⟩
        · exact EvB.is (tb_or (a := true) (b := true) (tb_not (a := false) (tb_B (vv_isT (vv_var rfl) vv_c h1 h2))) fun z => nomatch z) rfl
        · exact EvB.is (tb_or (a := false) (b := true) (tb_not (a := true) (tb_B (vv_isT (vv_var rfl) vv_c (tyx_tup h2) (by decide +kernel)))) fun _ => tb_or (a := true) (b := true) (tb_test ((vv_op (vv_cb (va_cons (vv_var rfl) va_nil) (rc_lenT h2)) vv_c rs_neI).is (by simp; omega))) fun z => nomatch z) rfl
        · exact EvB.is (tb_or (a := false) (b := true) (tb_not (a := true) (tb_B (vv_isT (vv_var rfl) vv_c (tyx_tup h2) (by decide +kernel)))) fun _ => tb_or (a := false) (b := true) (tb_test ((vv_op (sq_ix3 rfl h2).2.2.2 vv_c rs_neI).is rfl)) fun _ => tb_not (a := false) (tb_B (tb_altB (va_cons (sq_ix3 rfl h2).1 (va_cons vv_c (va_cons vv_c va_nil))) h3))) rfl
      · obtain ⟨x, p, t, y, z, hx, rfl, ht, htt, hfw⟩ := lbad_up s1.ex hbad
        refine sq_ifNo (EvB.is (tb_or (a := false) (tb_not (a := true) (tb_B (vv_isT (vv_var rfl) vv_c (tyx_tup ht) (by decide +kernel)))) fun _ => tb_or (a := false) (tb_test ((vv_op (sq_ix3 rfl ht).2.2.2 vv_c rs_neI).is rfl)) fun _ => tb_not (a := true) (tb_B (tb_altF (va_cons (sq_ix3 rfl ht).1 (va_cons vv_c (va_cons vv_c va_nil))) ⟨t, rfl, htt.1, htt.2⟩))) rfl) w1 fun S2 H2 w2 s2 => ?_
        have s02 := s1.trans s2
        have hb2 := Mono.up s2.ex hb1
        have ht2 := ex_t s2.ex ht
        refine sq_asg (R := fun v S => LstR (UR K) ((a.moves.filter fun x => decide (x.1 ≤ t)).map Sum.inl) v S) (EvN.lst (X := UR K) (en_lct (X := Tr K) (Yr := UR K) (fun x => decide (x.1 ≤ t)) Sum.inl (ei_tup (X := Tr K) (ev_bk rfl hb2).2.2.2) (by omega) (by intro _; rfl) (fun y v S3 e _ hy => tb_test (vv_op (tr_ix rfl hy).1 (sq_ix3 rfl (ex_t e ht2)).1 rs_I0)) fun y v S3 e _ _ hy => ev_v (R := Tr K) rfl hy)) w2 fun v2 S3 H3 w3 s3 he => ?_
        have hb3 := Mono.up s3.ex hb2
        refine sq_asg (R := fun v S => LstR (UR K) (insU a.moves t x) v S) (ev_rows rfl he rfl (x := x) (Mono.up (s2.ex.trans s3.ex) hx) (by omega) (ev_bk rfl hb3).2.2.2) w3 fun v3 S4 H4 w4 s4 hv3 => ?_
        have hb4 := Mono.up s4.ex hb3
        have bo := book_ok hb
        have hrl := bo.rl
        have hnl := bo.nl
        refine sq_if (b := true) (tb_test (vv_neL1 (ev_altR (ev_call (P := fun us S1 => ∃ vr vn vm, us = [.int a.pages, vr, vn, vm] ∧ SeqR K IntR a.rows vr S1 ∧ SeqR K IntR a.news vn S1 ∧ SeqR K (UR K) (insU a.moves t x) vm S1 ∧ FW K a.pages a.news a.rows 0 (insU a.moves t x) S1) ?_ fun us S1 e ⟨vr, vn, vm, eu, g1, g2, g3, g4⟩ => ⟨(a.pages, a.rows, a.news, insU a.moves t x), ⟨vr, vn, vm, by rw [List.append_nil]; exact eu, g1, g2, g3, ⟨by dsimp only; omega, by dsimp only; omega⟩, g4⟩, fun v S2 _ p => p⟩)) fun S e => ev_nilL)) w4 (fun _ S5 H5 w5 s5 => stop w5 (s02.trans (s3.trans (s4.trans s5)))) (fun z => nomatch z)
        obtain ⟨bx, dx, r', w', m', rfl, g2, g3, g4⟩ := hb4
        exact EvAS.imp' (va_cons (vv_prop (vv_var rfl) g2 (bk_p _ _ _ _)) (va_cons (vv_prop (vv_var rfl) g2 (bk_r _ _ _ _)) (va_cons (vv_prop (vv_var rfl) g2 (bk_w _ _ _ _)) (va_cons (vv_var rfl) va_nil)))) fun us S1 e eu => ⟨_, _, _, eu, .inr (Mono.up e g3.1), .inr (Mono.up e g3.2.1), .inl (Mono.up e hv3), fw_up ((s2.ex.trans (s3.ex.trans s4.ex)).trans e) _ _ _ hfw⟩
theorem ex_callU {r : Rs} {s : L2.St} {S : Hp} {ts : TA} {a : BookD} {v u : V} {C CB CM : Addr} {E : XK} (h : EvAV r ts s S [v, u]) (hb : BookR K C a v S) (bad : MvBad K a u S) : EvX E CM "value" r (tCall (spx_with_move K C CB CM) [] E ts) s S fun v' _ => v' = u := fun S1 H e w k Q =>
  h S1 H e w _ fun us S2 H2 w2 s2 eu => by
    subst eu
    exact .inr ⟨(a, u), S2, ⟨v, rfl, Mono.up (e.trans s2.ex) hb, bad.1, bad.2.imp (ebad_up (e.trans s2.ex)) (lbad_up (e.trans s2.ex))⟩, w2.bare, fun d v' S3 H3 w3 s3 hv hd => k d v' S3 H3 (w2.lift w3 s3) (s2.trans s3.lift) hv hd⟩
theorem ex_callF {r : Rs} {s : L2.St} {S : Hp} {ts : TA} {a : BookD} {v u : V} {C CB CM : Addr} {E : XK} (h : EvAV r ts s S [v, u]) (hb : BookR K C a v S) (hl : a.moves.length = 40) : EvX E CB "value" r (tCall (spx_with_move K C CB CM) [] E ts) s S fun v' S1 => TupR K (Tr K) a.moves v' S1 := fun S1 H e w k Q =>
  h S1 H e w _ fun us S2 H2 w2 s2 eu => by
    subst eu
    exact .inl ⟨a, S2, ⟨v, u, rfl, Mono.up (e.trans s2.ex) hb, hl⟩, w2.bare, fun d v' S3 H3 w3 s3 hv hd => k d v' S3 H3 (w2.lift w3 s3) (s2.trans s3.lift) hv hd⟩
end
end K29

namespace K29
open PySem PySem.Spec PyProof.Rows L2 Evl J RZ
section
variable {P : Program} {w : World} {K : PySem.W.Frag} {mg : Str → Option Value} {base : Heap}
/-! ### the plain law of a move put in -/
def GoodL (n : Nat) : Int → List (Int × Int × Int) → Prop
  | _, [] => True
  | bf, m :: r => (bf ≤ m.1 ∧ m.1 ≤ 2000 ∧ (0 ≤ m.2.1 ∧ m.2.1 < (n : Int)) ∧ 0 ≤ m.2.2) ∧ GoodL n m.1 r
theorem good_of {pages : Int} {news : List Int} : ∀ (l : List (Int × Int × Int)) (sp : List Int) (bf : Int), movesB pages news sp bf l = true → GoodL sp.length bf l
  | [], _, _, _ => True.intro
  | m :: r, sp, bf, h => by
    have h2 := Bool.and_eq_true_iff.mp (show (canB pages news sp bf m && movesB pages news (sp.set m.2.1.toNat m.2.2) m.1 r) = true from h)
    have hc := h2.1
    unfold canB at hc
    simp only [Bool.and_eq_true, decide_eq_true_eq] at hc
    have := good_of r _ _ h2.2
    rw [List.length_set] at this
    exact ⟨⟨hc.1.1.1, hc.1.1.2, ⟨hc.1.2.1, by omega⟩, hc.2.1.1⟩, this⟩
theorem good_late {n : Nat} {t : Int} : ∀ (l : List (Int × Int × Int)) (bf : Int), GoodL n bf l → t < bf → l.filter (fun x => decide (x.1 ≤ t)) = []
  | [], _, _, _ => rfl
  | m :: r, bf, h, ht => by
    have h1 := h.1.1
    rw [List.filter_cons_of_neg (by simp; omega)]
    exact good_late r m.1 h.2 (by omega)
theorem insM_cons (x m : Int × Int × Int) (l : List (Int × Int × Int)) (h : x.1 ≤ m.1) : insM (x :: l) m = x :: insM l m := by
  unfold insM
  rw [List.filter_cons_of_pos (by simpa using h)]
  rfl
theorem good_ins {n : Nat} {m : Int × Int × Int} (h2 : m.1 ≤ 2000 ∧ (0 ≤ m.2.1 ∧ m.2.1 < (n : Int)) ∧ 0 ≤ m.2.2) : ∀ (l : List (Int × Int × Int)) (bf : Int), GoodL n bf l → bf ≤ m.1 → GoodL n bf (insM l m)
  | [], bf, _, hb => ⟨⟨hb, h2⟩, True.intro⟩
  | x :: l, bf, h, hb => by
    by_cases e : x.1 ≤ m.1
    · rw [insM_cons x m l e]
      exact ⟨h.1, good_ins h2 l x.1 h.2 e⟩
    · have hf : (x :: l).filter (fun x => decide (x.1 ≤ m.1)) = [] := by
        rw [List.filter_cons_of_neg (by simpa using e)]
        exact good_late l x.1 h.2 (by omega)
      unfold insM
      rw [hf]
      exact ⟨⟨hb, h2⟩, ⟨by omega, h.1.2⟩, h.2⟩
def putB (pages : Int) (news : List Int) : List Int → List (Int × Int × Int) → Bool
  | _, [] => true
  | sp, m :: r => !(decide (m.2.2 = sp.getD m.2.1.toNat 0) || decide (pagesAt pages news m.1 ≤ m.2.2)) && putB pages news (sp.set m.2.1.toNat m.2.2) r
theorem put_moves {pages : Int} {news : List Int} : ∀ (l : List (Int × Int × Int)) (sp : List Int) (bf : Int), GoodL sp.length bf l → movesB pages news sp bf l = putB pages news sp l
  | [], _, _, _ => rfl
  | m :: r, sp, bf, h => by
    obtain ⟨⟨h1, h2, h3, h4⟩, h5⟩ := h
    show (canB pages news sp bf m && movesB pages news (sp.set m.2.1.toNat m.2.2) m.1 r) = _
    rw [put_moves r _ m.1 (by rw [List.length_set]; exact h5)]
    show _ = (_ && _)
    congr 1
    unfold canB
    rw [show (decide (bf ≤ m.1) && decide (m.1 ≤ 2000)) = true by simp [h1, h2], show (decide (0 ≤ m.2.1) && decide (m.2.1 ≤ (sp.length : Int) - 1)) = true by simp [h3.1]; omega, show decide (0 ≤ m.2.2) = true by simp [h4]]
    by_cases e1 : m.2.2 = sp.getD m.2.1.toNat 0
    · rw [decide_eq_true e1]
      simp
    · rw [decide_eq_false e1]
      by_cases e2 : pagesAt pages news m.1 ≤ m.2.2
      · simp only [decide_eq_true e2, Bool.or_true, Bool.not_true, Bool.true_and, Bool.not_false, Bool.and_true]
        exact decide_eq_false (by omega)
      · simp only [decide_eq_false e2, Bool.or_self, Bool.not_false, Bool.true_and, Bool.and_true]
        exact decide_eq_true (by omega)
theorem fw_of {pages : Int} {news : List Int} {S : Hp} : ∀ (l : List (Int × Int × Int)) (sp : List Int) (bf : Int), movesB pages news sp bf l = false → FW K pages news sp bf (l.map Sum.inl) S
  | [], _, _, h => by cases h
  | m :: r, sp, bf, h => fun hc => fw_of r _ _ (by
    have h : (canB pages news sp bf m && movesB pages news (sp.set m.2.1.toNat m.2.2) m.1 r) = false := h
    rw [hc, Bool.true_and] at h
    exact h)
theorem fw_odd {pages : Int} {news : List Int} {S : Hp} {p : Addr} {t row : Int} {z : V} {d : PyData} {rest : List ((Int × Int × Int) ⊕ V)} (h2 : SqT K S p [.int t, .int row, z]) (ht : t ≤ 2000) (hz : NonInt K z S) (hd : Dp K S (.ref p) d) (c1 : d.canLay0 = true) (c2 : d.depth ≤ 10) :
    ∀ (l : List (Int × Int × Int)) (sp : List Int) (bf : Int), (∀ x ∈ l, x.1 ≤ t) → bf ≤ t → (0 ≤ row ∧ row ≤ (sp.length : Int) - 1) → FW K pages news sp bf (l.map Sum.inl ++ [.inr (.ref p)] ++ rest) S
  | [], sp, bf, _, hb, hr => ⟨p, t, row, z, d, rfl, h2, ⟨hb, ht⟩, hr, hz, hd, c1, c2⟩
  | m :: r, sp, bf, hl, hb, hr => fun _ => fw_odd h2 ht hz hd c1 c2 r _ _ (fun x hx => hl x (List.mem_cons_of_mem _ hx)) (hl m List.mem_cons_self) (by rw [List.length_set]; exact hr)
/-- what is refused, drawn in the place of a move -/
def MvOdd (K : PySem.W.Frag) (a : BookD) : Rl PyData := fun d v S => Dp K S v d ∧ MvBad K a v S ∧ Shw d
instance {a : BookD} : Mono (MvOdd K a) := ⟨fun e h => ⟨dp_up e _ _ h.1, ⟨h.2.1.1, h.2.1.2.imp (ebad_up e) (lbad_up e)⟩, h.2.2⟩⟩
/-- of the moves of a table -/
theorem book_putB {a : BookD} (ho : BookOk a) {m : Int × Int × Int} (h0 : 0 ≤ m.1) (h2 : m.1 ≤ 2000 ∧ (0 ≤ m.2.1 ∧ m.2.1 < (a.rows.length : Int)) ∧ 0 ≤ m.2.2) : movesB a.pages a.news a.rows 0 (insM a.moves m) = putB a.pages a.news a.rows (insM a.moves m) :=
  put_moves _ _ _ (good_ins h2 _ _ (good_of _ _ _ ho.m) h0)
end
end K29

namespace K29
open PySem PySem.Spec PyProof.Rows L2 Evl J RZ
section
variable {P : Program} {w : World} {K : PySem.W.Frag} {mg : Str → Option Value} {base : Heap}
/-! ### a move put in: what it leaves as it was -/
theorem ins_split {n : Nat} {m : Int × Int × Int} : ∀ (l : List (Int × Int × Int)) (bf : Int), GoodL n bf l → ∃ l1 l2, l = l1 ++ l2 ∧ insM l m = l1 ++ m :: l2 ∧ (∀ x ∈ l1, x.1 ≤ m.1) ∧ (∀ x ∈ l2, m.1 < x.1)
  | [], bf, _ => ⟨[], [], rfl, rfl, (fun x hx => by cases hx), (fun x hx => by cases hx)⟩
  | x :: l, bf, h => by
    by_cases e : x.1 ≤ m.1
    · obtain ⟨l1, l2, h1, h2, h3, h4⟩ := ins_split (m := m) l x.1 h.2
      refine ⟨x :: l1, l2, by rw [h1]; rfl, by rw [insM_cons x m l e, h2]; rfl, fun y hy => ?_, h4⟩
      rcases List.mem_cons.mp hy with rfl | hy
      · exact e
      · exact h3 y hy
    · have hf : (x :: l).filter (fun x => decide (x.1 ≤ m.1)) = [] := by
        rw [List.filter_cons_of_neg (by simpa using e)]
        exact good_late l x.1 h.2 (by omega)
      refine ⟨[], x :: l, rfl, by unfold insM; rw [hf]; rfl, (fun y hy => by cases hy), fun y hy => ?_⟩
      have hn : y ∉ (x :: l).filter (fun x => decide (x.1 ≤ m.1)) := by
        rw [hf]
        exact List.not_mem_nil
      by_cases hy2 : y.1 ≤ m.1
      · exact absurd (List.mem_filter.mpr ⟨hy, by simpa using hy2⟩) hn
      · omega
/-- a place ahead of the move is as it was -/
theorem spot_ins {a : BookD} (ho : BookOk a) {m : Int × Int × Int} {row time : Int} (h : time < m.1 ∨ m.2.1 ≠ row) : spotM { a with moves := insM a.moves m } row time = spotM a row time := by
  obtain ⟨l1, l2, h1, h2, h3, h4⟩ := ins_split (m := m) a.moves 0 (good_of _ _ _ ho.m)
  unfold spotM
  dsimp only
  rw [h2, h1, List.foldl_append, List.foldl_append, List.foldl_cons]
  congr 1
  rw [if_neg]
  intro hc
  rcases h with h | h
  · omega
  · exact h hc.1
/-- away and back: behind the time of the two moves, all is as it was -/
theorem spot_back {a : BookD} {l1 l2 l3 : List (Int × Int × Int)} {t row g p time : Int} (hp : p = spotM { a with moves := l1 } row time) (h1 : ∀ x ∈ l1, x.1 ≤ time) (ht : t ≤ time) (h3 : ∀ x ∈ l2, x.2.1 ≠ row ∨ time < x.1) : spotM { a with moves := l1 ++ (t, row, g) :: (t, row, p) :: l2 } row time = spotM { a with moves := l1 ++ l2 } row time := by
  unfold spotM at hp ⊢
  dsimp only at hp ⊢
  rw [List.foldl_append, List.foldl_append, List.foldl_cons, List.foldl_cons, ← hp]
  congr 1
  rw [if_pos ⟨rfl, ht⟩]
theorem vis_mv (a : BookD) (ms : List (Int × Int × Int)) (ag : Bool) (rd : Int × Int × Int) : visitsM { a with moves := ms } ag rd = visitsM a ag rd := rfl
theorem end_mv (a : BookD) (ms : List (Int × Int × Int)) (ag : Bool) (rd : Int × Int × Int) : endM { a with moves := ms } ag rd = endM a ag rd := rfl
/-- a move behind the end leaves the balance -/
theorem bal_late {a : BookD} (ho : BookOk a) {m : Int × Int × Int} {ag : Bool} {rd : Int × Int × Int} {row : Int} (h : endM a ag rd < m.1) (hb : rd.1 ≤ endM a ag rd) : balM { a with moves := insM a.moves m } ag rd row = balM a ag rd row := by
  obtain ⟨l1, l2, h1, h2, h3, h4⟩ := ins_split (m := m) a.moves 0 (good_of _ _ _ ho.m)
  have hs : spotM { a with moves := insM a.moves m } row (rd.1 - 1) = spotM a row (rd.1 - 1) := spot_ins ho (.inl (by omega))
  unfold balM
  rw [vis_mv, end_mv, hs]
  dsimp only
  rw [h2, h1, List.foldl_append, List.foldl_append, List.foldl_cons]
  have hm : ∀ st, balStep (visitsM a ag rd) row rd.1 (endM a ag rd) st m = st := fun st => by
    unfold balStep
    rw [if_neg]
    rintro ⟨_, _, hc⟩
    omega
  rw [hm]
theorem seen_late {a : BookD} (ho : BookOk a) {m : Int × Int × Int} {u : RuleD} {rd : Int × Int × Int} {row : Int} (h : endM a (decide (u.fresh = ("again" : Str))) rd < m.1) (hc : 1 ≤ rd.2.2) (hb : rd.1 ≤ endM a (decide (u.fresh = ("again" : Str))) rd) : seenM { a with moves := insM a.moves m } u rd row = seenM a u rd row := by
  unfold seenM
  rw [vis_mv, spot_ins ho (.inl (by omega))]
  congr 1
  refine List.filter_congr fun y hy => ?_
  have := (vis_times hc y hy).2
  rw [spot_ins ho (.inl (by omega))]
/-- two moves of one time, put in one behind the other -/
theorem ins_two {a : BookD} (ho : BookOk a) {t row g p : Int} : ∃ l1 l2, a.moves = l1 ++ l2 ∧ insM (insM a.moves (t, row, g)) (t, row, p) = l1 ++ (t, row, g) :: (t, row, p) :: l2 ∧ (∀ x ∈ l1, x.1 ≤ t) ∧ (∀ x ∈ l2, t < x.1) := by
  obtain ⟨l1, l2, h1, h2, h3, h4⟩ := ins_split (m := (t, row, g)) a.moves 0 (good_of _ _ _ ho.m)
  refine ⟨l1, l2, h1, ?_, h3, h4⟩
  rw [h2]
  have hf : (l1 ++ (t, row, g) :: l2).filter (fun x => decide (x.1 ≤ t)) = l1 ++ [(t, row, g)] := by
    rw [List.filter_append, List.filter_cons_of_pos (by simp), List.filter_eq_self.mpr fun x hx => by simpa using h3 x hx, List.filter_eq_nil_iff.mpr fun x hx => by simpa using h4 x hx]
  unfold insM
  dsimp only
  rw [hf]
  have hd : (l1 ++ (t, row, g) :: l2).drop (l1 ++ [(t, row, g)]).length = l2 := by
    rw [show l1 ++ (t, row, g) :: l2 = (l1 ++ [(t, row, g)]) ++ l2 by simp, List.drop_left]
  rw [hd]
  simp
/-- away and back: each place is as it was -/
theorem spot_two {a : BookD} (ho : BookOk a) {t row g p : Int} (hp : p = spotM a row t) (time : Int) : spotM { a with moves := insM (insM a.moves (t, row, g)) (t, row, p) } row time = spotM a row time := by
  obtain ⟨l1, l2, h1, h2, h3, h4⟩ := ins_two ho (t := t) (row := row) (g := g) (p := p)
  have e1 : ∀ T, t ≤ T → T ≤ t → spotM a row T = spF row (a.rows.getD row.toNat 0) l1 T := fun T hT hT2 => by
    unfold spotM
    rw [h1, List.foldl_append]
    exact spF_none l2 _ fun x hx => by have := h4 x hx; omega
  unfold spotM
  dsimp only
  rw [h2, h1, List.foldl_append, List.foldl_append, List.foldl_cons, List.foldl_cons]
  congr 1
  by_cases e : t ≤ time
  · rw [if_pos ⟨rfl, e⟩]
    show p = _
    rw [hp, e1 t (Int.le_refl _) (Int.le_refl _)]
    unfold spF
    have hall : ∀ (l : List (Int × Int × Int)) (f : Int), (∀ x ∈ l, x.1 ≤ t) → l.foldl (fun f m => if m.2.1 = row ∧ m.1 ≤ t then m.2.2 else f) f = l.foldl (fun f m => if m.2.1 = row ∧ m.1 ≤ time then m.2.2 else f) f := by
      intro l
      induction l with
      | nil => intro f _; rfl
      | cons x l ih =>
        intro f hx
        have hx0 := hx x List.mem_cons_self
        rw [List.foldl_cons, List.foldl_cons, ih _ fun y hy => hx y (List.mem_cons_of_mem _ hy)]
        congr 1
        by_cases hr : x.2.1 = row
        · rw [if_pos ⟨hr, hx0⟩, if_pos ⟨hr, by omega⟩]
        · rw [if_neg fun z => hr z.1, if_neg fun z => hr z.1]
    exact hall l1 _ h3
  · rw [if_neg fun z => e z.2, if_neg fun z => e z.2]
theorem seen_two {a : BookD} (ho : BookOk a) {t row g p : Int} (hp : p = spotM a row t) (u : RuleD) (rd : Int × Int × Int) : seenM { a with moves := insM (insM a.moves (t, row, g)) (t, row, p) } u rd row = seenM a u rd row := by
  unfold seenM
  rw [vis_mv, spot_two ho hp]
  congr 1
  refine List.filter_congr fun y hy => ?_
  rw [spot_two ho hp]
/-- the page that the balance has reached -/
theorem fst_hi {vis : List (Int × Int)} {row lo hi t : Int} (ht : t ≤ hi) : ∀ (l : List (Int × Int × Int)) (f o i : Int), (∀ m ∈ l, lo ≤ m.1 ∧ m.1 ≤ t) → (l.foldl (balStep vis row lo hi) (f, o, i)).1 = spF row f l t
  | [], _, _, _, _ => rfl
  | m :: l, f, o, i, h => by
    have hm := h m List.mem_cons_self
    rw [List.foldl_cons, spF_cons]
    by_cases e : m.2.1 = row
    · rw [show balStep vis row lo hi (f, o, i) m = (m.2.2, o + oneB (wasB vis f m.1 && !wasB vis m.2.2 m.1), i + oneB (wasB vis m.2.2 m.1 && !wasB vis f m.1)) from if_pos ⟨e, hm.1, by omega⟩, if_pos ⟨e, hm.2⟩]
      exact fst_hi ht l _ _ _ fun x hx => h x (List.mem_cons_of_mem _ hx)
    · rw [show balStep vis row lo hi (f, o, i) m = (f, o, i) from if_neg fun z => e z.1, if_neg fun z => e z.1]
      exact fst_hi ht l _ _ _ fun x hx => h x (List.mem_cons_of_mem _ hx)
theorem fst_all {vis : List (Int × Int)} {row lo hi t : Int} (hlo : lo ≤ t) (ht : t ≤ hi) : ∀ (l : List (Int × Int × Int)) (f o i : Int), l.Pairwise (fun a b => a.1 ≤ b.1) → (∀ m ∈ l, m.1 ≤ t) → (l.foldl (balStep vis row lo hi) (spF row f l (lo - 1), o, i)).1 = spF row f l t
  | [], _, _, _, _, _ => rfl
  | m :: l, f, o, i, hs, h => by
    have hs0 := hs
    have hs := List.pairwise_cons.mp hs
    have hm := h m List.mem_cons_self
    by_cases e : lo ≤ m.1
    · rw [spF_none (m :: l) f fun x hx => by
        rcases List.mem_cons.mp hx with rfl | hx
        · omega
        · have := hs.1 x hx
          omega]
      refine fst_hi ht (m :: l) f o i fun x hx => ⟨?_, h x hx⟩
      rcases List.mem_cons.mp hx with rfl | hx
      · exact e
      · have := hs.1 x hx
        omega
    · have ec : ∀ T, lo - 1 ≤ T → spF row f (m :: l) T = spF row (if m.2.1 = row then m.2.2 else f) l T := fun T hT => by
        rw [spF_cons]
        by_cases e2 : m.2.1 = row
        · rw [if_pos ⟨e2, by omega⟩, if_pos e2]
        · rw [if_neg (fun z => e2 z.1), if_neg e2]
      rw [ec (lo - 1) (Int.le_refl _), ec t (by omega), List.foldl_cons, show balStep vis row lo hi (spF row (if m.2.1 = row then m.2.2 else f) l (lo - 1), o, i) m = (spF row (if m.2.1 = row then m.2.2 else f) l (lo - 1), o, i) from if_neg fun z => e z.2.1]
      exact fst_all hlo ht l _ o i hs.2 fun x hx => h x (List.mem_cons_of_mem _ hx)
theorem bal_shift {vis : List (Int × Int)} {row lo hi d : Int} : ∀ (l : List (Int × Int × Int)) (f o i : Int), l.foldl (balStep vis row lo hi) (f, o + d, i + d) = ((l.foldl (balStep vis row lo hi) (f, o, i)).1, (l.foldl (balStep vis row lo hi) (f, o, i)).2.1 + d, (l.foldl (balStep vis row lo hi) (f, o, i)).2.2 + d)
  | [], _, _, _ => rfl
  | m :: l, f, o, i => by
    rw [List.foldl_cons, List.foldl_cons]
    unfold balStep
    dsimp only
    split
    · have := bal_shift (vis := vis) (row := row) (lo := lo) (hi := hi) (d := d) l m.2.2 (o + oneB (wasB vis f m.1 && !wasB vis m.2.2 m.1)) (i + oneB (wasB vis m.2.2 m.1 && !wasB vis f m.1))
      rw [show o + d + oneB (wasB vis f m.1 && !wasB vis m.2.2 m.1) = o + oneB (wasB vis f m.1 && !wasB vis m.2.2 m.1) + d by omega, show i + d + oneB (wasB vis m.2.2 m.1 && !wasB vis f m.1) = i + oneB (wasB vis m.2.2 m.1 && !wasB vis f m.1) + d by omega]
      exact this
    · exact bal_shift l f o i
/-- away and back: what the balance tells is as it was -/
theorem bal_two {a : BookD} (ho : BookOk a) {t row g p : Int} (hp : p = spotM a row t) {ag : Bool} {rd : Int × Int × Int} (ht : t ≤ endM a ag rd) :
    (balM { a with moves := insM (insM a.moves (t, row, g)) (t, row, p) } ag rd row).1 - (balM { a with moves := insM (insM a.moves (t, row, g)) (t, row, p) } ag rd row).2.1 = (balM a ag rd row).1 - (balM a ag rd row).2.1 ∧ (balM { a with moves := insM (insM a.moves (t, row, g)) (t, row, p) } ag rd row).2.2 = (balM a ag rd row).2.2 := by
  obtain ⟨l1, l2, h1, h2, h3, h4⟩ := ins_two ho (t := t) (row := row) (g := g) (p := p)
  have hs := (moves_up a.moves _ _ ho.m).2
  rw [h1] at hs
  have hs1 := (List.pairwise_append.mp hs).1
  unfold balM
  rw [vis_mv, end_mv, spot_two ho hp]
  dsimp only
  rw [h2, h1, List.foldl_append, List.foldl_append, List.foldl_cons, List.foldl_cons]
  by_cases e : rd.1 ≤ t
  · have e0 : spotM a row (rd.1 - 1) = spF row (a.rows.getD row.toNat 0) l1 (rd.1 - 1) := by
      unfold spotM
      rw [h1, List.foldl_append]
      exact spF_none l2 _ fun x hx => by have := h4 x hx; omega
    have e1 : p = spF row (a.rows.getD row.toNat 0) l1 t := by
      rw [hp]
      unfold spotM
      rw [h1, List.foldl_append]
      exact spF_none l2 _ fun x hx => h4 x hx
    have hf := fst_all (vis := visitsM a ag rd) (row := row) e ht l1 (a.rows.getD row.toNat 0) 0 0 hs1 h3
    rw [e0]
    generalize l1.foldl (balStep (visitsM a ag rd) row rd.1 (endM a ag rd)) (spF row (a.rows.getD row.toNat 0) l1 (rd.1 - 1), 0, 0) = st at hf ⊢
    obtain ⟨f, o, i⟩ := st
    obtain rfl : f = p := by rw [e1]; exact hf
    have es : balStep (visitsM a ag rd) row rd.1 (endM a ag rd) (balStep (visitsM a ag rd) row rd.1 (endM a ag rd) (f, o, i) (t, row, g)) (t, row, f) = (f, o + (oneB (wasB (visitsM a ag rd) f t && !wasB (visitsM a ag rd) g t) + oneB (wasB (visitsM a ag rd) g t && !wasB (visitsM a ag rd) f t)), i + (oneB (wasB (visitsM a ag rd) f t && !wasB (visitsM a ag rd) g t) + oneB (wasB (visitsM a ag rd) g t && !wasB (visitsM a ag rd) f t))) := by
      unfold balStep
      dsimp only
      rw [if_pos ⟨rfl, e, ht⟩, if_pos ⟨rfl, e, ht⟩]
      refine Prod.ext rfl (Prod.ext ?_ ?_) <;> dsimp only <;> omega
    rw [es, bal_shift]
    dsimp only
    exact ⟨by omega, rfl⟩
  · have es : ∀ st z, balStep (visitsM a ag rd) row rd.1 (endM a ag rd) st (t, row, z) = st := fun st z => by
      unfold balStep
      exact if_neg fun q => e q.2.1
    rw [es, es]
    exact ⟨rfl, rfl⟩
end
end K29

namespace K29
open PySem PySem.Spec PyProof.Rows L2 Evl J RZ
section
variable {P : Program} {w : World} {K : PySem.W.Frag} {mg : Str → Option Value} {base : Heap}
/-! ### a move put in, or None -/
def sp_tried (K : PySem.W.Frag) (C : Addr) : Sp := SpP (A := BookD × (Int × Int × Int)) (fun a vs S => ∃ v u, vs = [v, u] ∧ BookR K C a.1 v S ∧ Tr K a.2 u S ∧ a.1.moves.length < 40 ∧ (0 ≤ a.2.1 ∧ a.2.1 ≤ 2000)) (fun a v S => (v = .non ∧ movesB a.1.pages a.1.news a.1.rows 0 (insM a.1.moves a.2) = false) ∨ (movesB a.1.pages a.1.news a.1.rows 0 (insM a.1.moves a.2) = true ∧ BookR K C { a.1 with moves := insM a.1.moves a.2 } v S))
theorem G_L_tried (T : TX P w K mg) : FnOk P w K mg base CX0 8 T.f_L_tried T.fd_L_tried ["_law_book_here", "_law_move"] (sp_tried K T.C_Book) := by
  refine T.F_L_tried.ok sc_L_tried (fun vs H Q E h => ?_) (fun cdv A outer s H vs Q E hr h => ?_)
  · obtain ⟨a, S, ⟨v, u, rfl, _⟩, _⟩ := h
    rfl
  · obtain ⟨⟨a, m⟩, S, ⟨v, u, rfl, hb, hu, hlt, hm01⟩, w0, q⟩ := h.body
    dsimp only at hb hu hlt hm01 q
    refine ⟨_, pss_one (L2N.ps_try_many (Wout := fun _ _ _ _ => False) (tb := fun W => tRet (tAlt (tCall (sp_with_move K T.C_Book) [] E0 (tCons (tVar 0) (tCons (tVar 1) tNil))) (tCall (spx_with_move K T.C_Book T.C_InvalidBook T.C_InvalidMove) [] (fun cls d H => ∀ σ, W cls d σ H) (tCons (tVar 0) (tCons (tVar 1) tNil))))) rfl rfl (fun _ _ ⟨_, _, _, _, _, _, _, _, _, _, _, _, _, _, _, _, z⟩ => z.elim)
      (fun W pn xe tk own => pss_one (ps_ret (pe_alt (pe_call (G_with_move T) (hr.mono (by decide)) (by rfl) T.g_with_move T.F_with_move.kp T.b_with_move .nil pass0 (pa_cons (pv 0) (pa_cons (pv 1) pa_nil))) (pe_call (GX_with_move T) (hr.mono (by decide)) (by rfl) T.g_with_move T.F_with_move.kp T.b_with_move .nil (L2N.passes_call tk fun cls d σ H h => h σ) (pa_cons (pv 0) (pa_cons (pv 1) pa_nil))))))
      (L2N.HdsOk.cons (c := .ref T.C_InvalidMove) (ts := fun _ _ _ => tRet (tC .non)) ⟨rfl, by decide, .inl T.g_InvalidMove⟩ (fun a oe cls d pn zn hf => pss_one (ps_ret pe_non)) .nil)), ?_⟩
    have em := T.em_InvalidMove_InvalidMove
    cases hm : movesB a.pages a.news a.rows 0 (insM a.moves m) with
    | true => exact st_ret (ev_altL (vv_call (R := fun v S => BookR K T.C_Book { a with moves := insM a.moves m } v S) (a, m) (va_cons (vv_var rfl) (va_cons (vv_var rfl) va_nil)) (fun S e => ⟨_, _, rfl, Mono.up e hb, Mono.up e hu, hlt, hm01, hm⟩) fun v _ _ h => h)) w0 fun v S1 H1 w1 s1 p => q v S1 H1 w1 s1 (.inr ⟨hm, p⟩)
    | false =>
      have bad : MvBad K a u S := by
        refine ⟨hlt, .inr ?_⟩
        obtain ⟨p8, z1, z2, z3, rfl, g1, g2, g3, g4⟩ := id hu
        obtain rfl : z1 = _ := g2
        refine ⟨.inl m, p8, m.1, z2, z3, hu, rfl, g1, hm01, ?_⟩
        rw [insU_inl]
        exact fw_of _ _ _ hm
      refine st_retX (R := fun v' _ => v' = u) (ex_altR (ex_callU (va_cons (vv_var rfl) (va_cons (vv_var rfl) va_nil)) hb bad)) w0 fun d v' S1 H1 w1 s1 ev hd => ?_
      exact fun σ => ⟨true, em, fun _ a' na => q .non S1 H1 w1 s1 (.inl ⟨rfl, hm⟩), fun z => nomatch z⟩
end
end K29

namespace K29
open PySem PySem.Spec PyProof.Rows L2 Evl J RZ
section
variable {P : Program} {w : World} {K : PySem.W.Frag} {mg : Str → Option Value} {base : Heap}
theorem end_bd {a : BookD} (ho : BookOk a) (ag : Bool) {rd : Int × Int × Int} (hc : 1 ≤ rd.2.2 ∧ rd.2.2 ≤ 4) : rd.1 ≤ endM a ag rd ∧ endM a ag rd ≤ rd.1 + 264 := by
  have h1 := visN_pos ho ag rd
  have h2 := vis_len ho ag rd
  unfold visitsM at h2
  rw [List.length_map, List.length_range] at h2
  unfold endM
  have g1 : 0 ≤ rd.2.2 * ((visN a ag rd : Int) - 1) := Int.mul_nonneg (by omega) (by omega)
  have g2 : rd.2.2 * ((visN a ag rd : Int) - 1) ≤ 4 * ((visN a ag rd : Int) - 1) := Int.mul_le_mul_of_nonneg_right (by omega) (by omega)
  omega
theorem trip_ix {r : Rs} {s : L2.St} {S : Hp} {i : Nat} {p : Int × Int × Int} {v : V} (h : s[i]? = some (some v)) (hv : TripR K IntR IntR IntR p v S) :
    EvV r (tOp (rIx K) (tVar i) (tC (.int 0))) s S (.int p.1) ∧ EvV r (tOp (rIx K) (tVar i) (tC (.int 1))) s S (.int p.2.1) ∧ EvV r (tOp (rIx K) (tVar i) (tC (.int 2))) s S (.int p.2.2) := tr_ix h hv
/-- a move put in, or None -/
theorem ev_tried {r : Rs} {s : L2.St} {S : Hp} {ta tb : TE} {a : BookD} {v : V} {C : Addr} {P : Int × Int × Int → Prop} (h : EvV r ta s S v) (hb : BookR K C a v S) (hl : a.moves.length < 40) (h2 : ∀ S1, Ex S S1 → EvS r tb s S1 fun v S2 => ∃ m, P m ∧ Tr K m v S2) (hP : ∀ m, P m → 0 ≤ m.1 ∧ m.1 ≤ 2000) :
    EvS r (tCall (sp_tried K C) [] E0 (tCons ta (tCons tb tNil))) s S fun v S1 => ∃ m, P m ∧ ((v = .non ∧ movesB a.pages a.news a.rows 0 (insM a.moves m) = false) ∨ (movesB a.pages a.news a.rows 0 (insM a.moves m) = true ∧ BookR K C { a with moves := insM a.moves m } v S1)) := fun S1 H e w Q q =>
  h S1 H e w _ fun v1 S2 H2 w2 s2 ev => h2 S2 (e.trans s2.ex) S2 H2 (Ex.refl _) w2 _ fun v2 S3 H3 w3 s3 ⟨m, hm, ht⟩ => by
    subst ev
    exact ⟨(a, m), S3, ⟨_, _, rfl, Mono.up (e.trans (s2.ex.trans s3.ex)) hb, ht, hl, hP m hm⟩, w3.ex, fun v S4 H4 w4 s4 p => q v S4 H4 (w3.lift w4 s4) ((s2.trans s3).trans s4.lift) ⟨m, hm, p⟩⟩
theorem vv_bmoves {r : Rs} {s : L2.St} {S : Hp} {i : Nat} {a : BookD} {v : V} {C : Addr} {E : XK} (h : s[i]? = some (some v)) (hb : BookR K C a v S) : EvV r (tCB (rLenU K) (tCons (tProp C (getSp C "kept_moves") [] E (tVar i)) tNil)) s S (.int (a.moves.length : Int)) :=
  vv_len (X := Tr K) ((ev_bk h hb).2.2.2.imp fun v S1 _ h => .inr h)
theorem isnt_ref {r : Rs} {s : L2.St} {S : Hp} {i : Nat} {x : Addr} (h : s[i]? = some (some (.ref x))) : EvB r (tTest (tOp rNotU (tVar i) (tC .non))) s S true := tb_test ((vv_op (vv_var h) vv_c rs_notN').is (by simp))
theorem isnt_non {r : Rs} {s : L2.St} {S : Hp} {i : Nat} (h : s[i]? = some (some .non)) : EvB r (tTest (tOp rNotU (tVar i) (tC .non))) s S false := tb_test ((vv_op (vv_var h) vv_c rs_notN').is (by simp))
theorem bk_ref {a : BookD} {C : Addr} {v : V} {S : Hp} (h : BookR K C a v S) : ∃ x, v = .ref x := by
  obtain ⟨x, _, _, _, _, e, _⟩ := h
  exact ⟨x, e⟩
theorem G_law (T : TX P w K mg) : FnG P w K mg base 9 T.f_law T.fd_law ["_law_script"] (sp_law K) := by
  refine ok_G T.F_law sc_law (fun vs H Q E h => ?_) (fun cdv A outer s H vs Q E g hr h => ?_)
  · obtain ⟨a, ns, rfl, _⟩ := h
    rfl
  · obtain ⟨a0, ns, rfl, hS, hl, q⟩ := h
    refine ⟨_, (pss_cons (ps_set (i := 1) sc_law.nd rfl (Or.inl rfl) (pe_call (G_L_begin T) (hr.mono (by decide)) (by rfl) T.g_L_begin T.F_L_begin.kp T.b_L_begin .nil pass0 (pa_cons (pv 0) pa_nil)))
      (pss_cons (ps_for PassesOwn.never (by rfl) (pi_range1 (by rfl) T.z_range (pa_cons pe_int pa_nil)) (pg_name (i := 2) sc_law.nd rfl (Or.inl rfl)) (pss_cons (ps_par (i := 3) (j := 4) (by rfl) sc_law.nd rfl rfl (by decide) rfl rfl (pa_cons (pe_call (G_L_told T) (hr.mono (by decide)) (by rfl) T.g_L_told T.F_L_told.kp T.b_L_told .nil pass0 (pa_cons (pv 1) (pa_cons pe_int (pa_cons pe_int pa_nil)))) (pa_cons (pe_call (G_L_case T) (hr.mono (by decide)) (by rfl) T.g_L_case T.F_L_case.kp T.b_L_case .nil pass0 (pa_cons (pv 1) pa_nil)) pa_nil)) (by rfl))
        (pss_cons (ps_set (i := 5) sc_law.nd rfl (Or.inl rfl) (pe_call (G_L_walker T) (hr.mono (by decide)) (by rfl) T.g_L_walker T.F_L_walker.kp T.b_L_walker .nil pass0 (pa_cons (pv 1) (pa_cons (pv 3) (pa_cons pe_int pa_nil)))))
        (pss_cons (ps_par (i := 6) (j := 7) (by rfl) sc_law.nd rfl rfl (by decide) rfl rfl (pa_cons (pe_call (G_L_book T) (hr.mono (by decide)) (by rfl) T.g_L_book T.F_L_book.kp T.b_L_book .nil pass0 (pa_cons (pv 3) pa_nil)) (pa_cons (pe_call (G_L_rule T) (hr.mono (by decide)) (by rfl) T.g_L_rule T.F_L_rule.kp T.b_L_rule .nil pass0 (pa_cons (pv 4) pa_nil)) pa_nil)) (by rfl))
        (pss_cons (ps_set (i := 8) sc_law.nd rfl (Or.inl rfl) (pe_make T.mk_Reader (G_Reader_init T) (hr.mono (by decide)) (by rfl) T.g_Reader T.b3_Reader_init.choose_spec.2 T.b3_Reader_init.choose_spec.1 pass0 (pa_cons (pe_ix (ix_K (K := K)) (pv 5) pe_int (fun _ _ => rfl)) (pa_cons (pe_ix (ix_K (K := K)) (pv 5) pe_int (fun _ _ => rfl)) (pa_cons (pe_ix (ix_K (K := K)) (pv 5) pe_int (fun _ _ => rfl)) pa_nil)))))
        (pss_cons (ps_par (i := 9) (j := 10) (by rfl) sc_law.nd rfl rfl (by decide) rfl rfl (pa_cons (pe_call (G_L_draw T) (hr.mono (by decide)) (by rfl) T.g_L_draw T.F_L_draw.kp T.b_L_draw .nil pass0 (pa_cons (pv 1) (pa_cons (pe_callB (call_lenO (G_Book_len T) T.m_Book_len (hr.mono (by decide)) T.b_Book_len pass0) (by rfl) T.z_len (by decide +kernel) (pa_cons (pv 6) pa_nil)) pa_nil))) (pa_cons (pe_call (G_end T) (hr.mono (by decide)) (by rfl) T.g_end T.F_end.kp T.b_end .nil pass0 (pa_cons (pv 6) (pa_cons (pv 7) (pa_cons (pv 8) pa_nil)))) pa_nil)) (by rfl))
        (pss_cons (ps_set (i := 11) sc_law.nd rfl (Or.inl rfl) (pe_op (op_addK (K := K)) (pe_op (op_addK (K := K)) (pv 10) pe_int) (pe_call (G_L_draw T) (hr.mono (by decide)) (by rfl) T.g_L_draw T.F_L_draw.kp T.b_L_draw .nil pass0 (pa_cons (pv 1) (pa_cons pe_int pa_nil)))))
        (pss_cons (ps_set (i := 12) sc_law.nd rfl (Or.inl rfl) (pe_call (G_L_tried T) (hr.mono (by decide)) (by rfl) T.g_L_tried T.F_L_tried.kp T.b_L_tried .nil pass0 (pa_cons (pv 6) (pa_cons (pe_tup (pa_cons (pv 11) (pa_cons (pv 9) (pa_cons (pe_call (G_L_draw T) (hr.mono (by decide)) (by rfl) T.g_L_draw T.F_L_draw.kp T.b_L_draw .nil pass0 (pa_cons (pv 1) (pa_cons (pe_ix (ix_K (K := K)) (pv 3) pe_int (fun _ _ => rfl)) pa_nil))) pa_nil)))) pa_nil))))
        (pss_cons (ps_if (pt_cmpR op_notU (pv 12) pe_non (nomark _)) (pss_cons (ps_if (pt_cmpR (op_neK (K := K) hr.units) (pe_callB (call_lenK (K := K)) (by rfl) T.z_len (by decide +kernel) (pa_cons (pe_prop (pv 12) T.cl_Book T.p_Book_moves (G_Book_moves T) (hr.mono (by decide)) T.b_Book_moves .nil pass0 rfl) pa_nil)) (pe_op (op_addK (K := K)) (pe_callB (call_lenK (K := K)) (by rfl) T.z_len (by decide +kernel) (pa_cons (pe_prop (pv 6) T.cl_Book T.p_Book_moves (G_Book_moves T) (hr.mono (by decide)) T.b_Book_moves .nil pass0 rfl) pa_nil)) pe_int) (nomark _)) (pss_one (ps_ret pe_bl)) pss_nil)
          (pss_cons (ps_if (pt_cmpR (op_neK (K := K) hr.units) (pe_call (G_visits T) (hr.mono (by decide)) (by rfl) T.g_visits T.F_visits.kp T.b_visits .nil pass0 (pa_cons (pv 12) (pa_cons (pv 7) (pa_cons (pv 8) pa_nil)))) (pe_call (G_visits T) (hr.mono (by decide)) (by rfl) T.g_visits T.F_visits.kp T.b_visits .nil pass0 (pa_cons (pv 6) (pa_cons (pv 7) (pa_cons (pv 8) pa_nil)))) (nomark _)) (pss_one (ps_ret pe_bl)) pss_nil)
          (pss_one (ps_for PassesOwn.never (by rfl) (pi_range1 (by rfl) T.z_range (pa_cons (pe_callB (call_lenO (G_Book_len T) T.m_Book_len (hr.mono (by decide)) T.b_Book_len pass0) (by rfl) T.z_len (by decide +kernel) (pa_cons (pv 6) pa_nil)) pa_nil)) (pg_name (i := 13) sc_law.nd rfl (Or.inl rfl)) (pss_cons (ps_if (pt_cmpR (op_neK (K := K) hr.units) (pe_call (G_seen T) (hr.mono (by decide)) (by rfl) T.g_seen T.F_seen.kp T.b_seen .nil pass0 (pa_cons (pv 12) (pa_cons (pv 7) (pa_cons (pv 8) (pa_cons (pv 13) pa_nil))))) (pe_call (G_seen T) (hr.mono (by decide)) (by rfl) T.g_seen T.F_seen.kp T.b_seen .nil pass0 (pa_cons (pv 6) (pa_cons (pv 7) (pa_cons (pv 8) (pa_cons (pv 13) pa_nil))))) (nomark _)) (pss_one (ps_ret pe_bl)) pss_nil)
            (pss_one (ps_if (pt_cmpR (op_neK (K := K) hr.units) (pe_call (G_balance T) (hr.mono (by decide)) (by rfl) T.g_balance T.F_balance.kp T.b_balance .nil pass0 (pa_cons (pv 12) (pa_cons (pv 7) (pa_cons (pv 8) (pa_cons (pv 13) pa_nil))))) (pe_call (G_balance T) (hr.mono (by decide)) (by rfl) T.g_balance T.F_balance.kp T.b_balance .nil pass0 (pa_cons (pv 6) (pa_cons (pv 7) (pa_cons (pv 8) (pa_cons (pv 13) pa_nil))))) (nomark _)) (pss_one (ps_ret pe_bl)) pss_nil))))))) pss_nil)
        (pss_cons (ps_par (i := 14) (j := 15) (by rfl) sc_law.nd rfl rfl (by decide) rfl rfl (pa_cons (pe_call (G_L_draw T) (hr.mono (by decide)) (by rfl) T.g_L_draw T.F_L_draw.kp T.b_L_draw .nil pass0 (pa_cons (pv 1) (pa_cons (pe_op (op_addK (K := K)) (pv 10) pe_int) pa_nil))) (pa_cons (pe_call (G_L_draw T) (hr.mono (by decide)) (by rfl) T.g_L_draw T.F_L_draw.kp T.b_L_draw .nil pass0 (pa_cons (pv 1) (pa_cons (pe_ix (ix_K (K := K)) (pv 3) pe_int (fun _ _ => rfl)) pa_nil))) pa_nil)) (by rfl))
        (pss_cons (ps_set (i := 16) sc_law.nd rfl (Or.inl rfl) (pe_meth (pv 6) T.cl_Book T.m_Book_place (G_Book_place T) (hr.mono (by decide)) T.b_Book_place .nil pass0 (pa_cons (pv 9) (pa_cons (pv 14) pa_nil))))
        (pss_cons (ps_set (i := 17) sc_law.nd rfl (Or.inl rfl) (pe_call (G_L_tried T) (hr.mono (by decide)) (by rfl) T.g_L_tried T.F_L_tried.kp T.b_L_tried .nil pass0 (pa_cons (pv 6) (pa_cons (pe_tup (pa_cons (pv 14) (pa_cons (pv 9) (pa_cons (pv 15) pa_nil)))) pa_nil))))
        (pss_cons (ps_set (i := 18) sc_law.nd rfl (Or.inl rfl) (pe_ifExp (pt_cmpR op_isU (pv 17) pe_non (nomark _)) pe_non (pe_call (G_L_tried T) (hr.mono (by decide)) (by rfl) T.g_L_tried T.F_L_tried.kp T.b_L_tried .nil pass0 (pa_cons (pv 17) (pa_cons (pe_tup (pa_cons (pv 14) (pa_cons (pv 9) (pa_cons (pv 16) pa_nil)))) pa_nil)))))
        (pss_one (ps_if (pt_cmpR op_notU (pv 18) pe_non (nomark _)) (pss_cons (ps_if (pt_cmpR (op_neK (K := K) hr.units) (pe_call (G_seen T) (hr.mono (by decide)) (by rfl) T.g_seen T.F_seen.kp T.b_seen .nil pass0 (pa_cons (pv 18) (pa_cons (pv 7) (pa_cons (pv 8) (pa_cons (pv 9) pa_nil))))) (pe_call (G_seen T) (hr.mono (by decide)) (by rfl) T.g_seen T.F_seen.kp T.b_seen .nil pass0 (pa_cons (pv 6) (pa_cons (pv 7) (pa_cons (pv 8) (pa_cons (pv 9) pa_nil))))) (nomark _)) (pss_one (ps_ret pe_bl)) pss_nil)
          (pss_cons (ps_par (i := 19) (j := 20) (by rfl) sc_law.nd rfl rfl (by decide) rfl rfl (pa_cons (pe_call (G_balance T) (hr.mono (by decide)) (by rfl) T.g_balance T.F_balance.kp T.b_balance .nil pass0 (pa_cons (pv 18) (pa_cons (pv 7) (pa_cons (pv 8) (pa_cons (pv 9) pa_nil))))) (pa_cons (pe_call (G_balance T) (hr.mono (by decide)) (by rfl) T.g_balance T.F_balance.kp T.b_balance .nil pass0 (pa_cons (pv 6) (pa_cons (pv 7) (pa_cons (pv 8) (pa_cons (pv 9) pa_nil))))) pa_nil)) (by rfl))
          (pss_one (ps_if (PW.pt (pw_or (pt_cmpR (op_neK (K := K) hr.units) (pe_op op_sub (pe_ix (ix_K (K := K)) (pv 19) pe_int (fun _ _ => rfl)) (pe_ix (ix_K (K := K)) (pv 19) pe_int (fun _ _ => rfl))) (pe_op op_sub (pe_ix (ix_K (K := K)) (pv 20) pe_int (fun _ _ => rfl)) (pe_ix (ix_K (K := K)) (pv 20) pe_int (fun _ _ => rfl))) (nomark _)) (pw_or (pt_cmpR (op_neK (K := K) hr.units) (pe_ix (ix_K (K := K)) (pv 19) pe_int (fun _ _ => rfl)) (pe_ix (ix_K (K := K)) (pv 20) pe_int (fun _ _ => rfl)) (nomark _)) (pw_or1 (pt_cmpR (op_neK (K := K) hr.units) (pe_meth (pv 18) T.cl_Book T.m_Book_place (G_Book_place T) (hr.mono (by decide)) T.b_Book_place .nil pass0 (pa_cons (pv 9) (pa_cons (pv 14) pa_nil))) (pv 16) (nomark _)))))) (pss_one (ps_ret pe_bl)) pss_nil)))) pss_nil)))))))))))))))
      (pss_one (ps_ret pe_bl)))), ?_⟩
    refine sq_begin rfl hS hl fun p c S2 H2 w2 => ?_
    refine sq_for (ei_range1 (va_cons vv_c va_nil) (by decide)) w2 fun S3 H3 w3 s3 => ?_
    refine ⟨fun i s' S' H' => Wd (srcR p c) S' H' ∧ Ex S3 S' ∧ ∃ x2 x3 x4 x5 x6 x7 x8 x9 x10 x11 x12 x13 x14 x15 x16 x17 x18 x19 x20, s' = [some (.ref a0), some (.ref p), x2, x3, x4, x5, x6, x7, x8, x9, x10, x11, x12, x13, x14, x15, x16, x17, x18, x19, x20], ⟨w3, Ex.refl _, none, none, none, none, none, none, none, none, none, none, none, none, none, none, none, none, none, none, none, rfl⟩, fun i s' S' H' p => ⟨p.1, p.2.1⟩, ?_, ?_⟩
    · rintro i0 i v2 s' S4 H4 S5 H5 hi ⟨w4, e4, x2, x3, x4, x5, x6, x7, x8, x9, x10, x11, x12, x13, x14, x15, x16, x17, x18, x19, x20, rfl⟩ w5 s5 hv
      have e5 := e4.trans s5.ex
      clear hi hv
      refine sq_parR (A := fun v S => ∃ b, ToldR K b v S ∧ ToldOk 5 12 b) (B := fun v S => ∃ u, CaseR K u v S) (ev_callR ((p, c), 5, 12) rfl (va_cons (vv_var rfl) (va_cons vv_c (va_cons vv_c va_nil))) (fun _ _ _ _ => ⟨rfl, by dsimp only; omega, by dsimp only; omega⟩) fun v _ _ _ _ h => h) (fun S e => ev_callR (p, c) rfl (va_cons (vv_var rfl) va_nil) (fun _ _ _ _ => rfl) fun v _ _ _ _ h => h) (fun v S S' e ⟨b, h1, h2⟩ => ⟨b, Mono.up e h1, h2⟩) w5 fun vt vc S6 H6 w6 s6 ⟨a, ht, hto⟩ ⟨u, hc⟩ => ?_
      have e6 := e5.trans s6.ex
      have bo := hto.book (by decide) (by decide)
      have hrl := hto.rl
      have hml := hto.ml
      have hpp := hto.p
      obtain ⟨t, rr, ww, mm, rfl, ht1, ht2, ht3, ht4⟩ := id ht
      refine sq_asg (R := fun v S => ∃ rd, WalkR rd v S ∧ WalkOk 8 a rd) (ev_callR ((p, c), a, 8) rfl (va_cons (vv_var rfl) (va_cons (vv_var rfl) (va_cons vv_c va_nil))) (fun S H e _ => ⟨.ref t, rfl, Mono.up e ht, bo, by dsimp only; omega, by dsimp only; omega⟩) fun v _ _ _ _ h => h) w6 fun vw S7 H7 w7 s7 ⟨rd, hwk, hwo⟩ => ?_
      obtain ⟨wp, rfl, hwp⟩ := id hwk
      have bd := oldOf_bd bo rd.1
      have hwb := hwo.b
      have hwpp := hwo.p
      have hwc := hwo.c
      have ro : RdOk rd := ⟨by omega, by omega, by omega⟩
      have hlt : rd.2.1 < oldOf a rd.1 := hwpp.2
      have ht7 := Mono.up s7.ex ht
      have hc7 := Mono.up s7.ex hc
      refine sq_parR (A := fun v S => BookR K T.C_Book a v S) (B := fun v S => RuleR K T.C_Rule u v S) (ev_lbook (va_cons (vv_var rfl) va_nil) ht7 bo) (fun S e => ev_lruleX (u := u) (ev_v (R := CaseR K) rfl (Mono.up e hc7))) (fun v S S' e h => Mono.up e h) w7 fun vb vu S8 H8 w8 s8 hbk hu => ?_
      have hwp8 := s8.ex _ _ hwp
      refine sq_asg (ev_reader (rd := rd) (va_cons (vv_ix0 rfl hwp8 rfl) (va_cons (vv_ix1 rfl hwp8 rfl) (va_cons (vv_ix2 rfl hwp8 rfl) va_nil))) ro) w8 fun vr S9 H9 w9 s9 hrd => ?_
      have hh9 : Hnd K T.C_Book T.C_Rule T.C_Reader a u rd vb vu vr S9 := ⟨Mono.up s9.ex hbk, Mono.up s9.ex hu, hrd, ro, hlt⟩
      have ht9 := (s7.ex.trans (s8.ex.trans s9.ex)) _ _ ht1
      have e9 := e6.trans (s7.ex.trans (s8.ex.trans s9.ex))
      have big : (300 : Int) < 10 ^ 40 := by decide +kernel
      have hen := end_bd bo (decide (u.fresh = ("again" : Str))) (rd := rd) (by omega)
      generalize hag : decide (u.fresh = ("again" : Str)) = ag at *
      refine sq_parR (A := fun v _ => ∃ i, v = .int i ∧ 0 ≤ i ∧ i < (a.rows.length : Int)) (B := fun v _ => v = .int (endM a ag rd)) (ev_draw (va_cons (vv_var rfl) (va_cons (vv_blen (vv_var rfl) hh9.b) va_nil)) (by omega) (by omega)) (fun S e => by rw [← hag]; exact vv_end (va_cons (vv_var rfl) (va_cons (vv_var rfl) (va_cons (vv_var rfl) va_nil))) (hh9.up e)) (fun _ _ _ _ h => h) w9 fun v9 v10 S10 H10 w10 s10 ⟨row, e10, hr0, hr1⟩ e10' => ?_
      subst e10
      subst e10'
      refine sq_asg (R := fun v _ => ∃ i, v = .int i ∧ endM a ag rd + 1 ≤ i ∧ i < endM a ag rd + 1 + 9) (ev_addDraw (vv_op (vv_var rfl) vv_c rs_add) (va_cons (vv_var rfl) (va_cons vv_c va_nil)) (by decide) (by decide)) w10 fun v11 S11 H11 w11 s11 ⟨far, e11, hf0, hf1⟩ => ?_
      subst e11
      have e911 := s10.ex.trans s11.ex
      have hh11 := hh9.up e911
      have ht11 := e911 _ _ ht9
      refine sq_asg (ev_tried (P := fun m => m.1 = far) (vv_var rfl) hh11.b (by omega) (fun S e => EvN.stable (R' := fun v S => ∃ m : Int × Int × Int, m.1 = far ∧ Tr K m v S) (en_tup (P := fun us _ => ∃ g, us = [.int far, .int row, .int g]) (J.ea_cons (vv_var rfl) fun y1 S1 e1 g1 => J.ea_cons (vv_var rfl) fun y2 S2 e2 g2 => J.ea_cons (ev_draw (n := a.pages) (va_cons (vv_var rfl) (va_cons (vv_ix0 rfl ((e.trans (e1.trans e2)) _ _ ht11) rfl) va_nil)) (by omega) (by omega)) fun y3 S3 e3 ⟨g, g3, _⟩ => J.ea_nil.imp' fun us S4 e4 eu => ⟨g, by rw [show y1 = _ from g1, show y2 = _ from g2, g3, eu]⟩) fun us S1 ⟨g, e⟩ => by rw [e]; simp) fun po o S1 _ n ⟨us, eo, g, eu⟩ => ⟨(far, row, g), rfl, po, _, _, _, rfl, SqT.of (by rw [eo, eu]; exact upd_same), rfl, rfl, rfl⟩) fun m hm => by omega) w11 fun v12 S12 H12 w12 s12 ⟨m, hmf, hlat⟩ => ?_
      have e12 := e9.trans (e911.trans s12.ex)
      have hh12 := hh11.up s12.ex
      have ht12 := s12.ex _ _ ht11
      refine sq_join (fun s' H' => ∃ S' y13, Wd (srcR p c) S' H' ∧ Ex S12 S' ∧ s' = [some (.ref a0), some (.ref p), some v2, some (.ref t), some vc, some (.ref wp), some vb, some vu, some vr, some (.int row), some (.int (endM a ag rd)), some (.int far), some v12, y13, x14, x15, x16, x17, x18, x19, x20]) ?_ fun fin => ?_
      · rintro s' H13 ⟨S13, y13, w13, e13, rfl⟩
        have hh13 := hh12.up e13
        have ht13 := e13 _ _ ht12
        have e13' := e12.trans e13
        refine sq_parR (A := fun v _ => ∃ i, v = .int i ∧ 0 ≤ i ∧ i < endM a ag rd + 1) (B := fun v _ => ∃ i, v = .int i ∧ 0 ≤ i ∧ i < a.pages) (ev_draw (va_cons (vv_var rfl) (va_cons (vv_op (vv_var rfl) vv_c rs_add) va_nil)) (by omega) (by omega)) (fun S e => ev_draw (va_cons (vv_var rfl) (va_cons (vv_ix0 rfl (e _ _ ht13) rfl) va_nil)) (by omega) (by omega)) (fun _ _ _ _ h => h) w13 fun v14 v15 S14 H14 w14 s14 ⟨time, g14, ht0, ht1'⟩ ⟨goal, g15, _, _⟩ => ?_
        subst g14
        subst g15
        have hh14 := hh13.up s14.ex
        refine sq_asg (vv_bplace rfl (va_cons (vv_var rfl) (va_cons (vv_var rfl) va_nil)) hh14.b ⟨hr0, hr1⟩ ⟨ht0, by omega⟩) w14 fun v16 S15 H15 w15 s15 g16 => ?_
        subst g16
        have hh15 := hh14.up s15.ex
        refine sq_asg (ev_tried (P := fun m => m = (time, row, goal)) (vv_var rfl) hh15.b (by omega) (fun S e => (ev_trip (K := K) (R := IntR) (R' := IntR) (R'' := IntR) (a := time) (b := row) (c := goal) (vv_var rfl) (fun _ _ => vv_var rfl) fun _ _ => vv_var rfl).imp fun v S1 _ h => ⟨_, rfl, h⟩) fun m hm => by rw [hm]; dsimp only; omega) w15 fun v17 S16 H16 w16 s16 ⟨m', hm', hth⟩ => ?_
        subst hm'
        have hh16 := hh15.up s16.ex
        refine sq_asg (R := fun v S => v = .non ∨ BookR K T.C_Book { a with moves := insM (insM a.moves (time, row, goal)) (time, row, spotM a row time) } v S) ?_ w16 fun v18 S17 H17 w17 s17 hag18 => ?_
        · rcases hth with ⟨rfl, _⟩ | ⟨_, hb17⟩
          · exact ev_if (b := true) (tb_test ((vv_op (vv_var rfl) vv_c rs_isN').is (by simp))) (fun _ => (vv_c : EvV (srcR p c) _ _ _ _).imp fun v S1 _ e => .inl e) (fun z => nomatch z)
          · obtain ⟨x17, rfl⟩ := bk_ref hb17
            have hil := insM_len a.moves (time, row, goal)
            exact ev_if (b := false) (tb_test ((vv_op (vv_var rfl) vv_c rs_isN').is (by simp))) (fun z => nomatch z) fun _ => (ev_tried (a := { a with moves := insM a.moves (time, row, goal) }) (P := fun m => m = (time, row, spotM a row time)) (vv_var rfl) hb17 (by dsimp only; omega) (fun S e => (ev_trip (K := K) (R := IntR) (R' := IntR) (R'' := IntR) (a := time) (b := row) (c := spotM a row time) (vv_var rfl) (fun _ _ => vv_var rfl) fun _ _ => vv_var rfl).imp fun v S1 _ h => ⟨_, rfl, h⟩) fun m hm => by rw [hm]; dsimp only; omega).imp fun v S1 _ ⟨m, hm, h⟩ => by
              subst hm
              exact h.imp (fun h => h.1) fun h => h.2
        have hh17 := hh16.up s17.ex
        have e17 := e13'.trans (s14.ex.trans (s15.ex.trans (s16.ex.trans s17.ex)))
        have hag18 := hag18
        rcases hag18 with rfl | hb18
        · exact st_if (b := false) (isnt_non rfl) w17 (fun z => nomatch z) fun _ S18 H18 w18 s18 => ⟨S18, w18, e17.trans s18.ex, _, _, _, _, _, _, _, _, _, _, _, _, _, _, _, _, _, _, _, rfl⟩
        obtain ⟨x18, rfl⟩ := bk_ref hb18
        refine st_if (b := true) (isnt_ref rfl) w17 (fun _ S18 H18 w18 s18 => ?_) (fun z => nomatch z)
        have hh18 := hh17.up s18.ex
        have ha18 : Hnd K T.C_Book T.C_Rule T.C_Reader { a with moves := insM (insM a.moves (time, row, goal)) (time, row, spotM a row time) } u rd (.ref x18) vu vr S18 := ⟨Mono.up s18.ex hb18, hh18.u, hh18.r, ro, hlt⟩
        refine sq_ifNo (tb_test ((vv_neD (K := K) (R := TupR K IntR) (a := seenM { a with moves := insM (insM a.moves (time, row, goal)) (time, row, spotM a row time) } u rd row) (b := seenM a u rd row) (ev_seen (a := (({ a with moves := insM (insM a.moves (time, row, goal)) (time, row, spotM a row time) }, u, rd), row)) (va_cons (vv_var rfl) (va_cons (vv_var rfl) (va_cons (vv_var rfl) (va_cons (vv_var rfl) va_nil)))) (ha18.seen hr0 hr1)) fun S e => ev_seen (a := ((a, u, rd), row)) (va_cons (vv_var rfl) (va_cons (vv_var rfl) (va_cons (vv_var rfl) (va_cons (vv_var rfl) va_nil)))) ((hh18.up e).seen hr0 hr1)).is (by rw [seen_two bo rfl, decide_eq_true rfl]; rfl))) w18 fun S19 H19 w19 s19 => ?_
        have hh19 := hh18.up s19.ex
        have ha19 := ha18.up s19.ex
        have hb2 := bal_two bo (t := time) (row := row) (g := goal) rfl (ag := ag) (rd := rd) (by omega)
        refine sq_parR (A := fun v S => TripR K IntR IntR IntR (balM { a with moves := insM (insM a.moves (time, row, goal)) (time, row, spotM a row time) } ag rd row) v S) (B := fun v S => TripR K IntR IntR IntR (balM a ag rd row) v S) (by rw [← hag]; exact ev_bal (a := (({ a with moves := insM (insM a.moves (time, row, goal)) (time, row, spotM a row time) }, u, rd), row)) (va_cons (vv_var rfl) (va_cons (vv_var rfl) (va_cons (vv_var rfl) (va_cons (vv_var rfl) va_nil)))) (ha19.seen hr0 hr1)) (fun S e => by rw [← hag]; exact ev_bal (a := ((a, u, rd), row)) (va_cons (vv_var rfl) (va_cons (vv_var rfl) (va_cons (vv_var rfl) (va_cons (vv_var rfl) va_nil)))) ((hh19.up e).seen hr0 hr1)) (fun v S S' e h => Mono.up e h) w19 fun v19 v20 S20 H20 w20 s20 h19 h20 => ?_
        have ha20 := ha19.up s20.ex
        refine st_ifNo (EvB.is (tb_or (a := false) (tb_test ((vv_op (vv_op (trip_ix rfl h19).1 (trip_ix rfl h19).2.1 rs_sub) (vv_op (trip_ix rfl h20).1 (trip_ix rfl h20).2.1 rs_sub) rs_neI).is (by rw [hb2.1, decide_eq_true rfl]; rfl))) fun _ => tb_or (a := false) (b := false) (tb_test ((vv_op (trip_ix rfl h19).2.2 (trip_ix rfl h20).2.2 rs_neI).is (by rw [hb2.2, decide_eq_true rfl]; rfl))) fun _ => tb_test ((vv_op (vv_bplace rfl (va_cons (vv_var rfl) (va_cons (vv_var rfl) va_nil)) ha20.b ⟨hr0, hr1⟩ ⟨ht0, by omega⟩) (vv_var rfl) rs_neI).is (by rw [spot_two bo rfl, decide_eq_true rfl]; rfl))) rfl) w20 fun S21 H21 w21 s21 => ?_
        exact ⟨S21, w21, e17.trans (s18.ex.trans (s19.ex.trans (s20.ex.trans s21.ex))), _, _, _, _, _, _, _, _, _, _, _, _, _, _, _, _, _, _, _, rfl⟩
      · rcases hlat with ⟨rfl, _⟩ | ⟨_, hb12⟩
        · exact sq_if (b := false) (isnt_non rfl) w12 (fun z => nomatch z) fun _ S13 H13 w13 s13 => fin _ _ ⟨S13, _, w13, s13.ex, rfl⟩
        obtain ⟨x12, rfl⟩ := bk_ref hb12
        refine sq_if (b := true) (isnt_ref rfl) w12 (fun _ S13 H13 w13 s13 => ?_) (fun z => nomatch z)
        have hh13 := hh12.up s13.ex
        have hl13 : Hnd K T.C_Book T.C_Rule T.C_Reader { a with moves := insM a.moves m } u rd (.ref x12) vu vr S13 := ⟨Mono.up s13.ex hb12, hh13.u, hh13.r, ro, hlt⟩
        have hil := insM_len a.moves m
        have hlate : endM a ag rd < m.1 := by omega
        refine sq_ifNo (tb_test ((vv_op (vv_bmoves rfl hl13.b) (vv_op (vv_bmoves rfl hh13.b) vv_c rs_add) rs_neI).is (by dsimp only; rw [decide_eq_true (by omega)]; rfl))) w13 fun S14 H14 w14 s14 => ?_
        have hh14 := hh13.up s14.ex
        have hl14 := hl13.up s14.ex
        refine sq_ifNo (tb_test ((vv_neD (K := K) (R := TupR K (Pr K)) (a := visitsM { a with moves := insM a.moves m } (decide (u.fresh = ("again" : Str))) rd) (b := visitsM a (decide (u.fresh = ("again" : Str))) rd) (ev_vis (va_cons (vv_var rfl) (va_cons (vv_var rfl) (va_cons (vv_var rfl) va_nil))) hl14) fun S e => ev_vis (va_cons (vv_var rfl) (va_cons (vv_var rfl) (va_cons (vv_var rfl) va_nil))) (hh14.up e)).is (by rw [vis_mv, decide_eq_true rfl]; rfl))) w14 fun S15 H15 w15 s15 => ?_
        have e1215 := s13.ex.trans (s14.ex.trans s15.ex)
        have hh15 := hh14.up s15.ex
        refine st_for (ei_range1 (n := (a.rows.length : Int)) (va_cons (vv_blen (vv_var rfl) hh15.b) va_nil) (by omega)) w15 fun S16 H16 w16 s16 => ?_
        refine ⟨fun i s' S' H' => Wd (srcR p c) S' H' ∧ Ex S16 S' ∧ ∃ y13, s' = [some (.ref a0), some (.ref p), some v2, some (.ref t), some vc, some (.ref wp), some vb, some vu, some vr, some (.int row), some (.int (endM a ag rd)), some (.int far), some (.ref x12), y13, x14, x15, x16, x17, x18, x19, x20], ⟨w16, Ex.refl _, _, rfl⟩, fun i s' S' H' p => ⟨p.1, p.2.1⟩, ?_, ?_⟩
        · rintro i1 j v13 s' S17 H17 S18 H18 hi1 ⟨w17, e17, y13, rfl⟩ w18 s18 hv13
          have hj : j < a.rows.length := by
            have := List.mem_range.mp (List.mem_of_getElem? hi1)
            omega
          obtain rfl : v13 = .int (0 + (j : Int)) := hv13
          generalize hk : (0 : Int) + (j : Int) = k at *
          have hk0 : 0 ≤ k ∧ k < (a.rows.length : Int) := by omega
          have e1518 := s16.ex.trans (e17.trans s18.ex)
          have hh18 := hh15.up e1518
          have hl18 := hl14.up (s15.ex.trans e1518)
          refine sq_ifNo (tb_test ((vv_neD (K := K) (R := TupR K IntR) (a := seenM { a with moves := insM a.moves m } u rd k) (b := seenM a u rd k) (ev_seen (a := (({ a with moves := insM a.moves m }, u, rd), k)) (va_cons (vv_var rfl) (va_cons (vv_var rfl) (va_cons (vv_var rfl) (va_cons (vv_var rfl) va_nil)))) (hl18.seen hk0.1 hk0.2)) fun S e => ev_seen (a := ((a, u, rd), k)) (va_cons (vv_var rfl) (va_cons (vv_var rfl) (va_cons (vv_var rfl) (va_cons (vv_var rfl) va_nil)))) ((hh18.up e).seen hk0.1 hk0.2)).is (by rw [seen_late bo (by rw [hag]; exact hlate) (by omega) (by rw [hag]; exact hen.1), decide_eq_true rfl]; rfl))) w18 fun S19 H19 w19 s19 => ?_
          have hh19 := hh18.up s19.ex
          have hl19 := hl18.up s19.ex
          refine st_ifNo (tb_test ((vv_neD (K := K) (R := TripR K IntR IntR IntR) (a := balM { a with moves := insM a.moves m } (decide (u.fresh = ("again" : Str))) rd k) (b := balM a (decide (u.fresh = ("again" : Str))) rd k) (ev_bal (a := (({ a with moves := insM a.moves m }, u, rd), k)) (va_cons (vv_var rfl) (va_cons (vv_var rfl) (va_cons (vv_var rfl) (va_cons (vv_var rfl) va_nil)))) (hl19.seen hk0.1 hk0.2)) fun S e => ev_bal (a := ((a, u, rd), k)) (va_cons (vv_var rfl) (va_cons (vv_var rfl) (va_cons (vv_var rfl) (va_cons (vv_var rfl) va_nil)))) ((hh19.up e).seen hk0.1 hk0.2)).is (by rw [hag, bal_late bo hlate hen.1, decide_eq_true rfl]; rfl))) w19 fun S20 H20 w20 s20 => ?_
          exact ⟨S20, w20, e17.trans (s18.ex.trans (s19.ex.trans s20.ex)), _, rfl⟩
        · rintro s' S17 H17 ⟨w17, e17, y13, rfl⟩
          exact fin _ _ ⟨S17, _, w17, e1215.trans (s16.ex.trans e17), rfl⟩
    · rintro s' S4 H4 ⟨w4, e4, x2, x3, x4, x5, x6, x7, x8, x9, x10, x11, x12, x13, x14, x15, x16, x17, x18, x19, x20, rfl⟩
      exact st_ret vv_c w4 fun v S5 H5 w5 s5 ev => by
        subst ev
        exact q H5
end
end K29

set_option pp.maxSteps 400
namespace K29
open PySem PySem.Spec PyProof.Rows L2 Evl J RZ
theorem lawG_mk {l : PySem.W.OpenLaw} {w : World} {K : PySem.W.Frag} {h : Heap} {mg : Str → Option Value} {fa : Addr} {fd : FuncData} (hb : ∀ (s : Shared) (v : Value), BindsTo s fd ⟨[v], []⟩ [("_law_script", v)]) (hf : ∀ base : Heap, K.In base → base.Ns mainGlobals mg → FnG l.prog w K mg base 9 fa fd ["_law_script"] (sp_law K)) : LawG l w K 9 63 "_law_script" mg fa h :=
  ⟨fd, [], sp_law K, ⟨fun q hq => (by cases hq), fun q hq => (by cases hq), fun q hq => (by cases hq)⟩, hb, fun H a ns hl _ _ hS => ⟨a, ns, rfl, hS, hl, fun _ => rfl⟩, fun base b1 b2 _ => hf base b1 b2⟩
theorem all_mk {l : PySem.W.OpenLaw} {w : World} {K : PySem.W.Frag} {h : Heap} {mg : Str → Option Value} {fa : Addr} (X : K.In h) (G : h.Ns mainGlobals mg) (hfa : mg "law" = some (.ref fa))
    {t_LAST_BEGIN : Tok} {t_LAST_PAGE : Tok} {t_MOST_MOVES : Tok} {t_MOST_NEWS : Tok} {t_MOST_PACE : Tok} {t_MOST_PAGES : Tok} {t_MOST_ROWS : Tok} {t_MOST_TIME : Tok} {a_MOVES : Addr} {a_PARTS : Addr} {a_WORDS : Addr} {o_MOVES : Option Addr} {n_MOVES : Nat} {sl_MOVES : Array (Option Value)} {a_MOVES_3 : Addr} {t_MOVES_3_0 : Tok} {t_MOVES_3_1 : Tok} {o_MOVES_3 : Option Addr} {n_MOVES_3 : Nat} {sl_MOVES_3 : Array (Option Value)} {a_MOVES_2 : Addr} {t_MOVES_2_0 : Tok} {o_MOVES_2 : Option Addr} {n_MOVES_2 : Nat} {sl_MOVES_2 : Array (Option Value)} {a_MOVES_1 : Addr} {t_MOVES_1_0 : Tok} {o_MOVES_1 : Option Addr} {n_MOVES_1 : Nat} {sl_MOVES_1 : Array (Option Value)} {a_MOVES_0 : Addr} {o_MOVES_0 : Option Addr} {n_MOVES_0 : Nat} {sl_MOVES_0 : Array (Option Value)} {t_PARTS_0 : Tok} {t_PARTS_1 : Tok} {t_PARTS_2 : Tok} {t_PARTS_3 : Tok} {o_PARTS : Option Addr} {n_PARTS : Nat} {sl_PARTS : Array (Option Value)} {es_WORDS : Array DictEntry} {n_WORDS : Nat} {a_WORDS_2 : Addr} {t_WORDS_2_0 : Tok} {t_WORDS_2_1 : Tok} {o_WORDS_2 : Option Addr} {n_WORDS_2 : Nat} {sl_WORDS_2 : Array (Option Value)} {a_WORDS_1 : Addr} {t_WORDS_1_0 : Tok} {t_WORDS_1_1 : Tok} {t_WORDS_1_2 : Tok} {o_WORDS_1 : Option Addr} {n_WORDS_1 : Nat} {sl_WORDS_1 : Array (Option Value)} {a_WORDS_0 : Addr} {t_WORDS_0_0 : Tok} {t_WORDS_0_1 : Tok} {o_WORDS_0 : Option Addr} {n_WORDS_0 : Nat} {sl_WORDS_0 : Array (Option Value)} {C_Rule : Addr} {C_Book : Addr} {C_Reader : Addr} {C_InvalidBook : Addr} {C_InvalidMove : Addr} {C_InvalidNumber : Addr} {C_RoundError : Addr} {fi_InvalidBook ca_InvalidBook cx_InvalidBook : Addr} {ox_InvalidBook ax_InvalidBook ex_InvalidBook yx_InvalidBook : Option Addr} {sx_InvalidBook sy_InvalidBook sz_InvalidBook : Array (Option Value)} {oo_InvalidBook kx_InvalidBook dx_InvalidBook px_InvalidBook tt_InvalidBook cl_InvalidBook cm_InvalidBook : Value} {vs_InvalidBook : Array Value} {tf_InvalidBook : Tok} {file_InvalidBook : Str} {fi_InvalidMove ca_InvalidMove cx_InvalidMove : Addr} {ox_InvalidMove ax_InvalidMove ex_InvalidMove yx_InvalidMove : Option Addr} {sx_InvalidMove sy_InvalidMove sz_InvalidMove : Array (Option Value)} {oo_InvalidMove kx_InvalidMove dx_InvalidMove px_InvalidMove tt_InvalidMove cl_InvalidMove cm_InvalidMove : Value} {vs_InvalidMove : Array Value} {tf_InvalidMove : Tok} {file_InvalidMove : Str} {fi_InvalidNumber ca_InvalidNumber cx_InvalidNumber : Addr} {ox_InvalidNumber ax_InvalidNumber ex_InvalidNumber yx_InvalidNumber : Option Addr} {sx_InvalidNumber sy_InvalidNumber sz_InvalidNumber : Array (Option Value)} {oo_InvalidNumber kx_InvalidNumber dx_InvalidNumber px_InvalidNumber tt_InvalidNumber cl_InvalidNumber cm_InvalidNumber : Value} {vs_InvalidNumber : Array Value} {tf_InvalidNumber : Tok} {file_InvalidNumber : Str} {f_is_integer : Addr} {od_is_integer an_is_integer : Option Addr} {sl_is_integer : Array (Option Value)} {oc_is_integer dc_is_integer pm_is_integer cd_is_integer ct_is_integer : Value} {kV_is_integer : Value} {f_is_between : Addr} {od_is_between an_is_between : Option Addr} {sl_is_between : Array (Option Value)} {oc_is_between dc_is_between pm_is_between cd_is_between ct_is_between : Value} {kV_is_between : Value} {f_is_part_value : Addr} {od_is_part_value an_is_part_value : Option Addr} {sl_is_part_value : Array (Option Value)} {oc_is_part_value dc_is_part_value pm_is_part_value cd_is_part_value ct_is_part_value : Value} {kV_is_part_value : Value} {f_Rule_init : Addr} {od_Rule_init an_Rule_init : Option Addr} {sl_Rule_init : Array (Option Value)} {oc_Rule_init dc_Rule_init pm_Rule_init cd_Rule_init ct_Rule_init : Value} {kD_Rule_init : Addr} {kt_Rule_init_1 : Tok} {kt_Rule_init_2 : Tok} {kt_Rule_init_3 : Tok} {a_Rule_init_moves : Addr} {o_Rule_init_moves : Option Addr} {n_Rule_init_moves : Nat} {sl_Rule_init_moves : Array (Option Value)} {f_Rule_fresh : Addr} {od_Rule_fresh an_Rule_fresh : Option Addr} {sl_Rule_fresh : Array (Option Value)} {oc_Rule_fresh dc_Rule_fresh pm_Rule_fresh cd_Rule_fresh ct_Rule_fresh : Value} {kV_Rule_fresh : Value} {pa_Rule_fresh : Addr} {rest_Rule_fresh : List Value} {f_Rule_sees : Addr} {od_Rule_sees an_Rule_sees : Option Addr} {sl_Rule_sees : Array (Option Value)} {oc_Rule_sees dc_Rule_sees pm_Rule_sees cd_Rule_sees ct_Rule_sees : Value} {kV_Rule_sees : Value} {pa_Rule_sees : Addr} {rest_Rule_sees : List Value} {f_are_rows : Addr} {od_are_rows an_are_rows : Option Addr} {sl_are_rows : Array (Option Value)} {oc_are_rows dc_are_rows pm_are_rows cd_are_rows ct_are_rows : Value} {kV_are_rows : Value} {f_are_news : Addr} {od_are_news an_are_news : Option Addr} {sl_are_news : Array (Option Value)} {oc_are_news dc_are_news pm_are_news cd_are_news ct_are_news : Value} {kV_are_news : Value} {f_pages_at : Addr} {od_pages_at an_pages_at : Option Addr} {sl_pages_at : Array (Option Value)} {oc_pages_at dc_pages_at pm_pages_at cd_pages_at ct_pages_at : Value} {kV_pages_at : Value} {f_can_be_made : Addr} {od_can_be_made an_can_be_made : Option Addr} {sl_can_be_made : Array (Option Value)} {oc_can_be_made dc_can_be_made pm_can_be_made cd_can_be_made ct_can_be_made : Value} {kV_can_be_made : Value} {f_first_wrong : Addr} {od_first_wrong an_first_wrong : Option Addr} {sl_first_wrong : Array (Option Value)} {oc_first_wrong dc_first_wrong pm_first_wrong cd_first_wrong ct_first_wrong : Value} {kV_first_wrong : Value} {f_Book_init : Addr} {od_Book_init an_Book_init : Option Addr} {sl_Book_init : Array (Option Value)} {oc_Book_init dc_Book_init pm_Book_init cd_Book_init ct_Book_init : Value} {kV_Book_init : Value} {dT_Book_init : Addr} {do_Book_init : Option Addr} {dn_Book_init : Nat} {ds_Book_init : Array (Option Value)}  {a_Book_init_news : Addr} {o_Book_init_news : Option Addr} {n_Book_init_news : Nat} {sl_Book_init_news : Array (Option Value)} {a_Book_init_moves : Addr} {o_Book_init_moves : Option Addr} {n_Book_init_moves : Nat} {sl_Book_init_moves : Array (Option Value)} {f_Book_pages : Addr} {od_Book_pages an_Book_pages : Option Addr} {sl_Book_pages : Array (Option Value)} {oc_Book_pages dc_Book_pages pm_Book_pages cd_Book_pages ct_Book_pages : Value} {kV_Book_pages : Value} {pa_Book_pages : Addr} {rest_Book_pages : List Value} {f_Book_rows : Addr} {od_Book_rows an_Book_rows : Option Addr} {sl_Book_rows : Array (Option Value)} {oc_Book_rows dc_Book_rows pm_Book_rows cd_Book_rows ct_Book_rows : Value} {kV_Book_rows : Value} {pa_Book_rows : Addr} {rest_Book_rows : List Value} {f_Book_news : Addr} {od_Book_news an_Book_news : Option Addr} {sl_Book_news : Array (Option Value)} {oc_Book_news dc_Book_news pm_Book_news cd_Book_news ct_Book_news : Value} {kV_Book_news : Value} {pa_Book_news : Addr} {rest_Book_news : List Value} {f_Book_moves : Addr} {od_Book_moves an_Book_moves : Option Addr} {sl_Book_moves : Array (Option Value)} {oc_Book_moves dc_Book_moves pm_Book_moves cd_Book_moves ct_Book_moves : Value} {kV_Book_moves : Value} {pa_Book_moves : Addr} {rest_Book_moves : List Value} {f_Book_len : Addr} {od_Book_len an_Book_len : Option Addr} {sl_Book_len : Array (Option Value)} {oc_Book_len dc_Book_len pm_Book_len cd_Book_len ct_Book_len : Value} {kV_Book_len : Value} {f_Book_check : Addr} {od_Book_check an_Book_check : Option Addr} {sl_Book_check : Array (Option Value)} {oc_Book_check dc_Book_check pm_Book_check cd_Book_check ct_Book_check : Value} {kV_Book_check : Value} {f_Book_spot : Addr} {od_Book_spot an_Book_spot : Option Addr} {sl_Book_spot : Array (Option Value)} {oc_Book_spot dc_Book_spot pm_Book_spot cd_Book_spot ct_Book_spot : Value} {kV_Book_spot : Value} {f_Book_place : Addr} {od_Book_place an_Book_place : Option Addr} {sl_Book_place : Array (Option Value)} {oc_Book_place dc_Book_place pm_Book_place cd_Book_place ct_Book_place : Value} {kV_Book_place : Value} {f_with_move : Addr} {od_with_move an_with_move : Option Addr} {sl_with_move : Array (Option Value)} {oc_with_move dc_with_move pm_with_move cd_with_move ct_with_move : Value} {kV_with_move : Value} {f_Reader_init : Addr} {od_Reader_init an_Reader_init : Option Addr} {sl_Reader_init : Array (Option Value)} {oc_Reader_init dc_Reader_init pm_Reader_init cd_Reader_init ct_Reader_init : Value} {kV_Reader_init : Value} {dT_Reader_init : Addr} {do_Reader_init : Option Addr} {dn_Reader_init : Nat} {ds_Reader_init : Array (Option Value)} {dt_Reader_init_0 : Tok} {dt_Reader_init_1 : Tok} {f_Reader_begin : Addr} {od_Reader_begin an_Reader_begin : Option Addr} {sl_Reader_begin : Array (Option Value)} {oc_Reader_begin dc_Reader_begin pm_Reader_begin cd_Reader_begin ct_Reader_begin : Value} {kV_Reader_begin : Value} {pa_Reader_begin : Addr} {rest_Reader_begin : List Value} {f_Reader_page : Addr} {od_Reader_page an_Reader_page : Option Addr} {sl_Reader_page : Array (Option Value)} {oc_Reader_page dc_Reader_page pm_Reader_page cd_Reader_page ct_Reader_page : Value} {kV_Reader_page : Value} {pa_Reader_page : Addr} {rest_Reader_page : List Value} {f_Reader_pace : Addr} {od_Reader_pace an_Reader_pace : Option Addr} {sl_Reader_pace : Array (Option Value)} {oc_Reader_pace dc_Reader_pace pm_Reader_pace cd_Reader_pace ct_Reader_pace : Value} {kV_Reader_pace : Value} {pa_Reader_pace : Addr} {rest_Reader_pace : List Value} {f_old_of : Addr} {od_old_of an_old_of : Option Addr} {sl_old_of : Array (Option Value)} {oc_old_of dc_old_of pm_old_of cd_old_of ct_old_of : Value} {kV_old_of : Value} {f_check_reader : Addr} {od_check_reader an_check_reader : Option Addr} {sl_check_reader : Array (Option Value)} {oc_check_reader dc_check_reader pm_check_reader cd_check_reader ct_check_reader : Value} {kV_check_reader : Value} {f_all_visits : Addr} {od_all_visits an_all_visits : Option Addr} {sl_all_visits : Array (Option Value)} {oc_all_visits dc_all_visits pm_all_visits cd_all_visits ct_all_visits : Value} {kV_all_visits : Value} {f_visits : Addr} {od_visits an_visits : Option Addr} {sl_visits : Array (Option Value)} {oc_visits dc_visits pm_visits cd_visits ct_visits : Value} {kV_visits : Value} {f_end : Addr} {od_end an_end : Option Addr} {sl_end : Array (Option Value)} {oc_end dc_end pm_end cd_end ct_end : Value} {kV_end : Value} {f_home_of : Addr} {od_home_of an_home_of : Option Addr} {sl_home_of : Array (Option Value)} {oc_home_of dc_home_of pm_home_of cd_home_of ct_home_of : Value} {kV_home_of : Value} {f_seen : Addr} {od_seen an_seen : Option Addr} {sl_seen : Array (Option Value)} {oc_seen dc_seen pm_seen cd_seen ct_seen : Value} {kV_seen : Value} {f_visited_before : Addr} {od_visited_before an_visited_before : Option Addr} {sl_visited_before : Array (Option Value)} {oc_visited_before dc_visited_before pm_visited_before cd_visited_before ct_visited_before : Value} {kV_visited_before : Value} {f_balance : Addr} {od_balance an_balance : Option Addr} {sl_balance : Array (Option Value)} {oc_balance dc_balance pm_balance cd_balance ct_balance : Value} {kV_balance : Value} {f_L_begin : Addr} {od_L_begin an_L_begin : Option Addr} {sl_L_begin : Array (Option Value)} {oc_L_begin dc_L_begin pm_L_begin cd_L_begin ct_L_begin : Value} {kV_L_begin : Value} {f_L_draw : Addr} {od_L_draw an_L_draw : Option Addr} {sl_L_draw : Array (Option Value)} {oc_L_draw dc_L_draw pm_L_draw cd_L_draw ct_L_draw : Value} {kV_L_draw : Value} {f_L_case : Addr} {od_L_case an_L_case : Option Addr} {sl_L_case : Array (Option Value)} {oc_L_case dc_L_case pm_L_case cd_L_case ct_L_case : Value} {kV_L_case : Value} {f_L_rule : Addr} {od_L_rule an_L_rule : Option Addr} {sl_L_rule : Array (Option Value)} {oc_L_rule dc_L_rule pm_L_rule cd_L_rule ct_L_rule : Value} {kV_L_rule : Value} {f_L_there : Addr} {od_L_there an_L_there : Option Addr} {sl_L_there : Array (Option Value)} {oc_L_there dc_L_there pm_L_there cd_L_there ct_L_there : Value} {kV_L_there : Value} {f_L_place : Addr} {od_L_place an_L_place : Option Addr} {sl_L_place : Array (Option Value)} {oc_L_place dc_L_place pm_L_place cd_L_place ct_L_place : Value} {kV_L_place : Value} {f_L_told : Addr} {od_L_told an_L_told : Option Addr} {sl_L_told : Array (Option Value)} {oc_L_told dc_L_told pm_L_told cd_L_told ct_L_told : Value} {kV_L_told : Value} {f_L_book : Addr} {od_L_book an_L_book : Option Addr} {sl_L_book : Array (Option Value)} {oc_L_book dc_L_book pm_L_book cd_L_book ct_L_book : Value} {kV_L_book : Value} {f_L_walker : Addr} {od_L_walker an_L_walker : Option Addr} {sl_L_walker : Array (Option Value)} {oc_L_walker dc_L_walker pm_L_walker cd_L_walker ct_L_walker : Value} {kV_L_walker : Value} {f_L_tried : Addr} {od_L_tried an_L_tried : Option Addr} {sl_L_tried : Array (Option Value)} {oc_L_tried dc_L_tried pm_L_tried cd_L_tried ct_L_tried : Value} {kV_L_tried : Value} {f_law : Addr} {od_law an_law : Option Addr} {sl_law : Array (Option Value)} {oc_law dc_law pm_law cd_law ct_law : Value} {kV_law : Value}
    (z_all : PySem.W.nsIn K mainGlobals "all" = some none)
    (z_any : PySem.W.nsIn K mainGlobals "any" = some none)
    (z_bool : PySem.W.nsIn K mainGlobals "bool" = some none)
    (z_int : PySem.W.nsIn K mainGlobals "int" = some none)
    (z_isinstance : PySem.W.nsIn K mainGlobals "isinstance" = some none)
    (z_len : PySem.W.nsIn K mainGlobals "len" = some none)
    (z_list : PySem.W.nsIn K mainGlobals "list" = some none)
    (z_range : PySem.W.nsIn K mainGlobals "range" = some none)
    (z_sorted : PySem.W.nsIn K mainGlobals "sorted" = some none)
    (z_str : PySem.W.nsIn K mainGlobals "str" = some none)
    (z_tuple : PySem.W.nsIn K mainGlobals "tuple" = some none)
    (z_zip : PySem.W.nsIn K mainGlobals "zip" = some none)
    (c_LAST_BEGIN : PySem.W.nsIn K mainGlobals "LAST_BEGIN" = some (some (Value.int 1000 t_LAST_BEGIN)))
    (c_LAST_PAGE : PySem.W.nsIn K mainGlobals "LAST_PAGE" = some (some (Value.int 62 t_LAST_PAGE)))
    (c_MOST_MOVES : PySem.W.nsIn K mainGlobals "MOST_MOVES" = some (some (Value.int 40 t_MOST_MOVES)))
    (c_MOST_NEWS : PySem.W.nsIn K mainGlobals "MOST_NEWS" = some (some (Value.int 3 t_MOST_NEWS)))
    (c_MOST_PACE : PySem.W.nsIn K mainGlobals "MOST_PACE" = some (some (Value.int 4 t_MOST_PACE)))
    (c_MOST_PAGES : PySem.W.nsIn K mainGlobals "MOST_PAGES" = some (some (Value.int 60 t_MOST_PAGES)))
    (c_MOST_ROWS : PySem.W.nsIn K mainGlobals "MOST_ROWS" = some (some (Value.int 20 t_MOST_ROWS)))
    (c_MOST_TIME : PySem.W.nsIn K mainGlobals "MOST_TIME" = some (some (Value.int 2000 t_MOST_TIME)))
    (c_MOVES : PySem.W.nsIn K mainGlobals "MOVES" = some (some (Value.ref a_MOVES)))
    (c_PARTS : PySem.W.nsIn K mainGlobals "PARTS" = some (some (Value.ref a_PARTS)))
    (c_WORDS : PySem.W.nsIn K mainGlobals "WORDS" = some (some (Value.ref a_WORDS)))
    (l_MOVES : K.lookup a_MOVES = some ⟨.type "tuple", o_MOVES, .seq #[Value.ref a_MOVES_0, Value.ref a_MOVES_1, Value.ref a_MOVES_2, Value.ref a_MOVES_3] n_MOVES, sl_MOVES⟩)
    (l_MOVES_3 : K.lookup a_MOVES_3 = some ⟨.type "tuple", o_MOVES_3, .seq #[Value.str "ahead" t_MOVES_3_0, Value.str "back" t_MOVES_3_1] n_MOVES_3, sl_MOVES_3⟩)
    (l_MOVES_2 : K.lookup a_MOVES_2 = some ⟨.type "tuple", o_MOVES_2, .seq #[Value.str "back" t_MOVES_2_0] n_MOVES_2, sl_MOVES_2⟩)
    (l_MOVES_1 : K.lookup a_MOVES_1 = some ⟨.type "tuple", o_MOVES_1, .seq #[Value.str "ahead" t_MOVES_1_0] n_MOVES_1, sl_MOVES_1⟩)
    (l_MOVES_0 : K.lookup a_MOVES_0 = some ⟨.type "tuple", o_MOVES_0, .seq #[] n_MOVES_0, sl_MOVES_0⟩)
    (l_PARTS : K.lookup a_PARTS = some ⟨.type "tuple", o_PARTS, .seq #[Value.str "moves" t_PARTS_0, Value.str "start" t_PARTS_1, Value.str "fresh" t_PARTS_2, Value.str "sees" t_PARTS_3] n_PARTS, sl_PARTS⟩)
    (l_WORDS : K.lookup a_WORDS = some ⟨.type "dict", Option.none, .dict es_WORDS n_WORDS, #[]⟩)
    (kl_WORDS : PySem.W.KeysLit w.params es_WORDS.toList)
    (nd_WORDS_start : PySem.W.nsIn K a_WORDS "start" = some (some (Value.ref a_WORDS_0)))
    (nd_WORDS_fresh : PySem.W.nsIn K a_WORDS "fresh" = some (some (Value.ref a_WORDS_1)))
    (nd_WORDS_sees : PySem.W.nsIn K a_WORDS "sees" = some (some (Value.ref a_WORDS_2)))
    (l_WORDS_2 : K.lookup a_WORDS_2 = some ⟨.type "tuple", o_WORDS_2, .seq #[Value.str "now" t_WORDS_2_0, Value.str "home" t_WORDS_2_1] n_WORDS_2, sl_WORDS_2⟩)
    (l_WORDS_1 : K.lookup a_WORDS_1 = some ⟨.type "tuple", o_WORDS_1, .seq #[Value.str "none" t_WORDS_1_0, Value.str "unseen" t_WORDS_1_1, Value.str "again" t_WORDS_1_2] n_WORDS_1, sl_WORDS_1⟩)
    (l_WORDS_0 : K.lookup a_WORDS_0 = some ⟨.type "tuple", o_WORDS_0, .seq #[Value.str "front" t_WORDS_0_0, Value.str "any" t_WORDS_0_1] n_WORDS_0, sl_WORDS_0⟩)
    (g_Rule : PySem.W.nsIn K mainGlobals "Rule" = some (some (.ref C_Rule)))
    (pg_Rule : PySem.W.plainGet K C_Rule Str.empty = true)
    (hd_Rule : PySem.W.hasDictIn K C_Rule = true)
    (po_Rule : PySem.W.plainOver K C_Rule = true)
    (sa_Rule : PySem.W.findIn K (.ref C_Rule) "__setattr__" = some (some (.builtin "object.__setattr__")))
    (na_Rule_kept_parts : PySem.W.findIn K (.ref C_Rule) "kept_parts" = some none)
    (g_Book : PySem.W.nsIn K mainGlobals "Book" = some (some (.ref C_Book)))
    (pg_Book : PySem.W.plainGet K C_Book Str.empty = true)
    (hd_Book : PySem.W.hasDictIn K C_Book = true)
    (po_Book : PySem.W.plainOver K C_Book = true)
    (sa_Book : PySem.W.findIn K (.ref C_Book) "__setattr__" = some (some (.builtin "object.__setattr__")))
    (na_Book_kept_pages : PySem.W.findIn K (.ref C_Book) "kept_pages" = some none)
    (na_Book_kept_rows : PySem.W.findIn K (.ref C_Book) "kept_rows" = some none)
    (na_Book_kept_news : PySem.W.findIn K (.ref C_Book) "kept_news" = some none)
    (na_Book_kept_moves : PySem.W.findIn K (.ref C_Book) "kept_moves" = some none)
    (g_Reader : PySem.W.nsIn K mainGlobals "Reader" = some (some (.ref C_Reader)))
    (pg_Reader : PySem.W.plainGet K C_Reader Str.empty = true)
    (hd_Reader : PySem.W.hasDictIn K C_Reader = true)
    (po_Reader : PySem.W.plainOver K C_Reader = true)
    (sa_Reader : PySem.W.findIn K (.ref C_Reader) "__setattr__" = some (some (.builtin "object.__setattr__")))
    (na_Reader_kept_begin : PySem.W.findIn K (.ref C_Reader) "kept_begin" = some none)
    (na_Reader_kept_page : PySem.W.findIn K (.ref C_Reader) "kept_page" = some none)
    (na_Reader_kept_pace : PySem.W.findIn K (.ref C_Reader) "kept_pace" = some none)
    (ha_Reader : PySem.W.findIn K (.ref C_Reader) "__class__" = some (some (.builtin "object.__class__")))
    (hn_Reader : PySem.W.specialIn K (.builtin "object.__class__") "__get__" = some (some (.builtin "getset_descriptor.__get__")))
    (ht_Reader : PySem.W.takesIn K (.builtin "object.__class__") = some true)
    (hm_Reader : PySem.W.mroIn K C_Reader (.type "object") = some true)
    (g_InvalidBook : PySem.W.nsIn K mainGlobals "InvalidBook" = some (some (.ref C_InvalidBook)))
    (g_InvalidMove : PySem.W.nsIn K mainGlobals "InvalidMove" = some (some (.ref C_InvalidMove)))
    (g_InvalidNumber : PySem.W.nsIn K mainGlobals "InvalidNumber" = some (some (.ref C_InvalidNumber)))
    (g_RoundError : PySem.W.nsIn K mainGlobals "RoundError" = some (some (.ref C_RoundError)))
    (z_super : PySem.W.nsIn K mainGlobals "super" = some none)
    (t_super : (l.prog.main.scope.names.lookup ("super" : Str)).isSome = false)
    (ii_InvalidBook : PySem.W.findIn K (.ref C_InvalidBook) "__init__" = some (some (.ref fi_InvalidBook)))
    (lx_InvalidBook : K.lookup fi_InvalidBook = some ⟨oo_InvalidBook, ox_InvalidBook, .func (PySem.W.ksFn "__init__" "InvalidBook.__init__" (defArgs s_InvalidBook_init) (defBody s_InvalidBook_init) (defScope s_InvalidBook_init) .none kx_InvalidBook dx_InvalidBook px_InvalidBook ax_InvalidBook (.ref ca_InvalidBook) tt_InvalidBook cx_InvalidBook), sx_InvalidBook⟩)
    (lc_InvalidBook : K.lookup ca_InvalidBook = some ⟨cl_InvalidBook, ex_InvalidBook, .fields vs_InvalidBook, sy_InvalidBook⟩)
    (lk_InvalidBook : K.lookup cx_InvalidBook = some ⟨cm_InvalidBook, yx_InvalidBook, .cell (some (.ref C_InvalidBook)), sz_InvalidBook⟩)
    (hv_InvalidBook : vs_InvalidBook[2]? = some (.str file_InvalidBook tf_InvalidBook))
    (hf_InvalidBook : ((l.prog.main.file : Str) == file_InvalidBook) = true)
    (xa_InvalidBook : xcAll K C_InvalidBook fi_InvalidBook ca_InvalidBook "InvalidBook.__init__" "value" = true)
    (xi_InvalidBook : xiAll K C_InvalidBook = true)
    (em_InvalidBook : PySem.W.exmOne K (.ref C_InvalidBook) (.ref C_RoundError) = some true)
    (em_InvalidBook_InvalidMove : PySem.W.exmOne K (.ref C_InvalidBook) (.ref C_InvalidMove) = some false)
    (ii_InvalidMove : PySem.W.findIn K (.ref C_InvalidMove) "__init__" = some (some (.ref fi_InvalidMove)))
    (lx_InvalidMove : K.lookup fi_InvalidMove = some ⟨oo_InvalidMove, ox_InvalidMove, .func (PySem.W.ksFn "__init__" "InvalidMove.__init__" (defArgs s_InvalidMove_init) (defBody s_InvalidMove_init) (defScope s_InvalidMove_init) .none kx_InvalidMove dx_InvalidMove px_InvalidMove ax_InvalidMove (.ref ca_InvalidMove) tt_InvalidMove cx_InvalidMove), sx_InvalidMove⟩)
    (lc_InvalidMove : K.lookup ca_InvalidMove = some ⟨cl_InvalidMove, ex_InvalidMove, .fields vs_InvalidMove, sy_InvalidMove⟩)
    (lk_InvalidMove : K.lookup cx_InvalidMove = some ⟨cm_InvalidMove, yx_InvalidMove, .cell (some (.ref C_InvalidMove)), sz_InvalidMove⟩)
    (hv_InvalidMove : vs_InvalidMove[2]? = some (.str file_InvalidMove tf_InvalidMove))
    (hf_InvalidMove : ((l.prog.main.file : Str) == file_InvalidMove) = true)
    (xa_InvalidMove : xcAll K C_InvalidMove fi_InvalidMove ca_InvalidMove "InvalidMove.__init__" "value" = true)
    (xi_InvalidMove : xiAll K C_InvalidMove = true)
    (em_InvalidMove : PySem.W.exmOne K (.ref C_InvalidMove) (.ref C_RoundError) = some true)
    (em_InvalidMove_InvalidMove : PySem.W.exmOne K (.ref C_InvalidMove) (.ref C_InvalidMove) = some true)
    (ii_InvalidNumber : PySem.W.findIn K (.ref C_InvalidNumber) "__init__" = some (some (.ref fi_InvalidNumber)))
    (lx_InvalidNumber : K.lookup fi_InvalidNumber = some ⟨oo_InvalidNumber, ox_InvalidNumber, .func (PySem.W.ksFn "__init__" "InvalidNumber.__init__" (defArgs s_InvalidNumber_init) (defBody s_InvalidNumber_init) (defScope s_InvalidNumber_init) .none kx_InvalidNumber dx_InvalidNumber px_InvalidNumber ax_InvalidNumber (.ref ca_InvalidNumber) tt_InvalidNumber cx_InvalidNumber), sx_InvalidNumber⟩)
    (lc_InvalidNumber : K.lookup ca_InvalidNumber = some ⟨cl_InvalidNumber, ex_InvalidNumber, .fields vs_InvalidNumber, sy_InvalidNumber⟩)
    (lk_InvalidNumber : K.lookup cx_InvalidNumber = some ⟨cm_InvalidNumber, yx_InvalidNumber, .cell (some (.ref C_InvalidNumber)), sz_InvalidNumber⟩)
    (hv_InvalidNumber : vs_InvalidNumber[2]? = some (.str file_InvalidNumber tf_InvalidNumber))
    (hf_InvalidNumber : ((l.prog.main.file : Str) == file_InvalidNumber) = true)
    (xa_InvalidNumber : xcAll K C_InvalidNumber fi_InvalidNumber ca_InvalidNumber "InvalidNumber.__init__" "value" = true)
    (xi_InvalidNumber : xiAll K C_InvalidNumber = true)
    (em_InvalidNumber : PySem.W.exmOne K (.ref C_InvalidNumber) (.ref C_RoundError) = some true)
    (em_InvalidNumber_InvalidMove : PySem.W.exmOne K (.ref C_InvalidNumber) (.ref C_InvalidMove) = some false)
    (g_is_integer : PySem.W.nsIn K mainGlobals "is_integer" = some (some (.ref f_is_integer)))
    (l_is_integer : K.lookup f_is_integer = some ⟨oc_is_integer, od_is_integer, .func (PySem.W.fnOf "is_integer" "is_integer" (defArgs s_is_integer) (defBody s_is_integer) (defScope s_is_integer) .none kV_is_integer dc_is_integer pm_is_integer an_is_integer cd_is_integer ct_is_integer), sl_is_integer⟩)
    (k_is_integer : PySem.W.codeIn K cd_is_integer "is_integer" = true)
    (e_is_integer : PySem.W.keepIn K (.ref f_is_integer) = true)
    (g_is_between : PySem.W.nsIn K mainGlobals "is_between" = some (some (.ref f_is_between)))
    (l_is_between : K.lookup f_is_between = some ⟨oc_is_between, od_is_between, .func (PySem.W.fnOf "is_between" "is_between" (defArgs s_is_between) (defBody s_is_between) (defScope s_is_between) .none kV_is_between dc_is_between pm_is_between an_is_between cd_is_between ct_is_between), sl_is_between⟩)
    (k_is_between : PySem.W.codeIn K cd_is_between "is_between" = true)
    (e_is_between : PySem.W.keepIn K (.ref f_is_between) = true)
    (g_is_part_value : PySem.W.nsIn K mainGlobals "is_part_value" = some (some (.ref f_is_part_value)))
    (l_is_part_value : K.lookup f_is_part_value = some ⟨oc_is_part_value, od_is_part_value, .func (PySem.W.fnOf "is_part_value" "is_part_value" (defArgs s_is_part_value) (defBody s_is_part_value) (defScope s_is_part_value) .none kV_is_part_value dc_is_part_value pm_is_part_value an_is_part_value cd_is_part_value ct_is_part_value), sl_is_part_value⟩)
    (k_is_part_value : PySem.W.codeIn K cd_is_part_value "is_part_value" = true)
    (e_is_part_value : PySem.W.keepIn K (.ref f_is_part_value) = true)
    (m_Rule_init : PySem.W.findIn K (.ref C_Rule) "__init__" = some (some (.ref f_Rule_init)))
    (i_Rule_init : PySem.W.isFn K (.ref f_Rule_init) = true)
    (l_Rule_init : K.lookup f_Rule_init = some ⟨oc_Rule_init, od_Rule_init, .func (PySem.W.fnOf "__init__" "Rule.__init__" (defArgs s_Rule_init) (defBody s_Rule_init) (defScope s_Rule_init) .none (.ref kD_Rule_init) dc_Rule_init pm_Rule_init an_Rule_init cd_Rule_init ct_Rule_init), sl_Rule_init⟩)
    (k_Rule_init : PySem.W.codeIn K cd_Rule_init "Rule.__init__" = true)
    (e_Rule_init : PySem.W.keepIn K (.ref f_Rule_init) = true)
    (kw_Rule_init_moves : PySem.W.nsIn K kD_Rule_init "moves" = some (some (Value.ref a_Rule_init_moves)))
    (l_Rule_init_moves : K.lookup a_Rule_init_moves = some ⟨.type "tuple", o_Rule_init_moves, .seq #[] n_Rule_init_moves, sl_Rule_init_moves⟩)
    (kw_Rule_init_start : PySem.W.nsIn K kD_Rule_init "start" = some (some (Value.str "front" kt_Rule_init_1)))
    (kw_Rule_init_fresh : PySem.W.nsIn K kD_Rule_init "fresh" = some (some (Value.str "none" kt_Rule_init_2)))
    (kw_Rule_init_sees : PySem.W.nsIn K kD_Rule_init "sees" = some (some (Value.str "now" kt_Rule_init_3)))
    (mk_Rule : PySem.W.makesIn K C_Rule = true)
    (kc_Rule : PySem.W.keepIn K (.ref C_Rule) = true)
    (pt_Rule_fresh : PySem.W.findIn K (.ref C_Rule) "fresh" = some (some (.ref pa_Rule_fresh)))
    (pg_Rule_fresh : PySem.W.specialIn K (.ref pa_Rule_fresh) "__get__" = some (some (.builtin "property.__get__")))
    (pk_Rule_fresh : PySem.W.takesIn K (.ref pa_Rule_fresh) = some true)
    (pr_Rule_fresh : PySem.W.recIn K pa_Rule_fresh "property" = some (.ref f_Rule_fresh :: rest_Rule_fresh))
    (l_Rule_fresh : K.lookup f_Rule_fresh = some ⟨oc_Rule_fresh, od_Rule_fresh, .func (PySem.W.fnOf "fresh" "Rule.fresh" (defArgs s_Rule_fresh) (defBody s_Rule_fresh) (defScope s_Rule_fresh) .none kV_Rule_fresh dc_Rule_fresh pm_Rule_fresh an_Rule_fresh cd_Rule_fresh ct_Rule_fresh), sl_Rule_fresh⟩)
    (k_Rule_fresh : PySem.W.codeIn K cd_Rule_fresh "Rule.fresh" = true)
    (e_Rule_fresh : PySem.W.keepIn K (.ref f_Rule_fresh) = true)
    (pt_Rule_sees : PySem.W.findIn K (.ref C_Rule) "sees" = some (some (.ref pa_Rule_sees)))
    (pg_Rule_sees : PySem.W.specialIn K (.ref pa_Rule_sees) "__get__" = some (some (.builtin "property.__get__")))
    (pk_Rule_sees : PySem.W.takesIn K (.ref pa_Rule_sees) = some true)
    (pr_Rule_sees : PySem.W.recIn K pa_Rule_sees "property" = some (.ref f_Rule_sees :: rest_Rule_sees))
    (l_Rule_sees : K.lookup f_Rule_sees = some ⟨oc_Rule_sees, od_Rule_sees, .func (PySem.W.fnOf "sees" "Rule.sees" (defArgs s_Rule_sees) (defBody s_Rule_sees) (defScope s_Rule_sees) .none kV_Rule_sees dc_Rule_sees pm_Rule_sees an_Rule_sees cd_Rule_sees ct_Rule_sees), sl_Rule_sees⟩)
    (k_Rule_sees : PySem.W.codeIn K cd_Rule_sees "Rule.sees" = true)
    (e_Rule_sees : PySem.W.keepIn K (.ref f_Rule_sees) = true)
    (g_are_rows : PySem.W.nsIn K mainGlobals "are_rows" = some (some (.ref f_are_rows)))
    (l_are_rows : K.lookup f_are_rows = some ⟨oc_are_rows, od_are_rows, .func (PySem.W.fnOf "are_rows" "are_rows" (defArgs s_are_rows) (defBody s_are_rows) (defScope s_are_rows) .none kV_are_rows dc_are_rows pm_are_rows an_are_rows cd_are_rows ct_are_rows), sl_are_rows⟩)
    (k_are_rows : PySem.W.codeIn K cd_are_rows "are_rows" = true)
    (e_are_rows : PySem.W.keepIn K (.ref f_are_rows) = true)
    (g_are_news : PySem.W.nsIn K mainGlobals "are_news" = some (some (.ref f_are_news)))
    (l_are_news : K.lookup f_are_news = some ⟨oc_are_news, od_are_news, .func (PySem.W.fnOf "are_news" "are_news" (defArgs s_are_news) (defBody s_are_news) (defScope s_are_news) .none kV_are_news dc_are_news pm_are_news an_are_news cd_are_news ct_are_news), sl_are_news⟩)
    (k_are_news : PySem.W.codeIn K cd_are_news "are_news" = true)
    (e_are_news : PySem.W.keepIn K (.ref f_are_news) = true)
    (g_pages_at : PySem.W.nsIn K mainGlobals "pages_at" = some (some (.ref f_pages_at)))
    (l_pages_at : K.lookup f_pages_at = some ⟨oc_pages_at, od_pages_at, .func (PySem.W.fnOf "pages_at" "pages_at" (defArgs s_pages_at) (defBody s_pages_at) (defScope s_pages_at) .none kV_pages_at dc_pages_at pm_pages_at an_pages_at cd_pages_at ct_pages_at), sl_pages_at⟩)
    (k_pages_at : PySem.W.codeIn K cd_pages_at "pages_at" = true)
    (e_pages_at : PySem.W.keepIn K (.ref f_pages_at) = true)
    (g_can_be_made : PySem.W.nsIn K mainGlobals "can_be_made" = some (some (.ref f_can_be_made)))
    (l_can_be_made : K.lookup f_can_be_made = some ⟨oc_can_be_made, od_can_be_made, .func (PySem.W.fnOf "can_be_made" "can_be_made" (defArgs s_can_be_made) (defBody s_can_be_made) (defScope s_can_be_made) .none kV_can_be_made dc_can_be_made pm_can_be_made an_can_be_made cd_can_be_made ct_can_be_made), sl_can_be_made⟩)
    (k_can_be_made : PySem.W.codeIn K cd_can_be_made "can_be_made" = true)
    (e_can_be_made : PySem.W.keepIn K (.ref f_can_be_made) = true)
    (g_first_wrong : PySem.W.nsIn K mainGlobals "first_wrong" = some (some (.ref f_first_wrong)))
    (l_first_wrong : K.lookup f_first_wrong = some ⟨oc_first_wrong, od_first_wrong, .func (PySem.W.fnOf "first_wrong" "first_wrong" (defArgs s_first_wrong) (defBody s_first_wrong) (defScope s_first_wrong) .none kV_first_wrong dc_first_wrong pm_first_wrong an_first_wrong cd_first_wrong ct_first_wrong), sl_first_wrong⟩)
    (k_first_wrong : PySem.W.codeIn K cd_first_wrong "first_wrong" = true)
    (e_first_wrong : PySem.W.keepIn K (.ref f_first_wrong) = true)
    (m_Book_init : PySem.W.findIn K (.ref C_Book) "__init__" = some (some (.ref f_Book_init)))
    (i_Book_init : PySem.W.isFn K (.ref f_Book_init) = true)
    (l_Book_init : K.lookup f_Book_init = some ⟨oc_Book_init, od_Book_init, .func (PySem.W.fnOf "__init__" "Book.__init__" (defArgs s_Book_init) (defBody s_Book_init) (defScope s_Book_init) (.ref dT_Book_init) kV_Book_init dc_Book_init pm_Book_init an_Book_init cd_Book_init ct_Book_init), sl_Book_init⟩)
    (k_Book_init : PySem.W.codeIn K cd_Book_init "Book.__init__" = true)
    (e_Book_init : PySem.W.keepIn K (.ref f_Book_init) = true)
    (d_Book_init : K.lookup dT_Book_init = some ⟨.type "tuple", do_Book_init, .seq #[Value.ref a_Book_init_news, Value.ref a_Book_init_moves] dn_Book_init, ds_Book_init⟩)
    (l_Book_init_news : K.lookup a_Book_init_news = some ⟨.type "tuple", o_Book_init_news, .seq #[] n_Book_init_news, sl_Book_init_news⟩)
    (l_Book_init_moves : K.lookup a_Book_init_moves = some ⟨.type "tuple", o_Book_init_moves, .seq #[] n_Book_init_moves, sl_Book_init_moves⟩)
    (mk_Book : PySem.W.makesIn K C_Book = true)
    (kc_Book : PySem.W.keepIn K (.ref C_Book) = true)
    (pt_Book_pages : PySem.W.findIn K (.ref C_Book) "pages" = some (some (.ref pa_Book_pages)))
    (pg_Book_pages : PySem.W.specialIn K (.ref pa_Book_pages) "__get__" = some (some (.builtin "property.__get__")))
    (pk_Book_pages : PySem.W.takesIn K (.ref pa_Book_pages) = some true)
    (pr_Book_pages : PySem.W.recIn K pa_Book_pages "property" = some (.ref f_Book_pages :: rest_Book_pages))
    (l_Book_pages : K.lookup f_Book_pages = some ⟨oc_Book_pages, od_Book_pages, .func (PySem.W.fnOf "pages" "Book.pages" (defArgs s_Book_pages) (defBody s_Book_pages) (defScope s_Book_pages) .none kV_Book_pages dc_Book_pages pm_Book_pages an_Book_pages cd_Book_pages ct_Book_pages), sl_Book_pages⟩)
    (k_Book_pages : PySem.W.codeIn K cd_Book_pages "Book.pages" = true)
    (e_Book_pages : PySem.W.keepIn K (.ref f_Book_pages) = true)
    (pt_Book_rows : PySem.W.findIn K (.ref C_Book) "rows" = some (some (.ref pa_Book_rows)))
    (pg_Book_rows : PySem.W.specialIn K (.ref pa_Book_rows) "__get__" = some (some (.builtin "property.__get__")))
    (pk_Book_rows : PySem.W.takesIn K (.ref pa_Book_rows) = some true)
    (pr_Book_rows : PySem.W.recIn K pa_Book_rows "property" = some (.ref f_Book_rows :: rest_Book_rows))
    (l_Book_rows : K.lookup f_Book_rows = some ⟨oc_Book_rows, od_Book_rows, .func (PySem.W.fnOf "rows" "Book.rows" (defArgs s_Book_rows) (defBody s_Book_rows) (defScope s_Book_rows) .none kV_Book_rows dc_Book_rows pm_Book_rows an_Book_rows cd_Book_rows ct_Book_rows), sl_Book_rows⟩)
    (k_Book_rows : PySem.W.codeIn K cd_Book_rows "Book.rows" = true)
    (e_Book_rows : PySem.W.keepIn K (.ref f_Book_rows) = true)
    (pt_Book_news : PySem.W.findIn K (.ref C_Book) "news" = some (some (.ref pa_Book_news)))
    (pg_Book_news : PySem.W.specialIn K (.ref pa_Book_news) "__get__" = some (some (.builtin "property.__get__")))
    (pk_Book_news : PySem.W.takesIn K (.ref pa_Book_news) = some true)
    (pr_Book_news : PySem.W.recIn K pa_Book_news "property" = some (.ref f_Book_news :: rest_Book_news))
    (l_Book_news : K.lookup f_Book_news = some ⟨oc_Book_news, od_Book_news, .func (PySem.W.fnOf "news" "Book.news" (defArgs s_Book_news) (defBody s_Book_news) (defScope s_Book_news) .none kV_Book_news dc_Book_news pm_Book_news an_Book_news cd_Book_news ct_Book_news), sl_Book_news⟩)
    (k_Book_news : PySem.W.codeIn K cd_Book_news "Book.news" = true)
    (e_Book_news : PySem.W.keepIn K (.ref f_Book_news) = true)
    (pt_Book_moves : PySem.W.findIn K (.ref C_Book) "moves" = some (some (.ref pa_Book_moves)))
    (pg_Book_moves : PySem.W.specialIn K (.ref pa_Book_moves) "__get__" = some (some (.builtin "property.__get__")))
    (pk_Book_moves : PySem.W.takesIn K (.ref pa_Book_moves) = some true)
    (pr_Book_moves : PySem.W.recIn K pa_Book_moves "property" = some (.ref f_Book_moves :: rest_Book_moves))
    (l_Book_moves : K.lookup f_Book_moves = some ⟨oc_Book_moves, od_Book_moves, .func (PySem.W.fnOf "moves" "Book.moves" (defArgs s_Book_moves) (defBody s_Book_moves) (defScope s_Book_moves) .none kV_Book_moves dc_Book_moves pm_Book_moves an_Book_moves cd_Book_moves ct_Book_moves), sl_Book_moves⟩)
    (k_Book_moves : PySem.W.codeIn K cd_Book_moves "Book.moves" = true)
    (e_Book_moves : PySem.W.keepIn K (.ref f_Book_moves) = true)
    (m_Book_len : PySem.W.findIn K (.ref C_Book) "__len__" = some (some (.ref f_Book_len)))
    (i_Book_len : PySem.W.isFn K (.ref f_Book_len) = true)
    (l_Book_len : K.lookup f_Book_len = some ⟨oc_Book_len, od_Book_len, .func (PySem.W.fnOf "__len__" "Book.__len__" (defArgs s_Book_len) (defBody s_Book_len) (defScope s_Book_len) .none kV_Book_len dc_Book_len pm_Book_len an_Book_len cd_Book_len ct_Book_len), sl_Book_len⟩)
    (k_Book_len : PySem.W.codeIn K cd_Book_len "Book.__len__" = true)
    (e_Book_len : PySem.W.keepIn K (.ref f_Book_len) = true)
    (m_Book_check : PySem.W.findIn K (.ref C_Book) "check" = some (some (.ref f_Book_check)))
    (i_Book_check : PySem.W.isFn K (.ref f_Book_check) = true)
    (l_Book_check : K.lookup f_Book_check = some ⟨oc_Book_check, od_Book_check, .func (PySem.W.fnOf "check" "Book.check" (defArgs s_Book_check) (defBody s_Book_check) (defScope s_Book_check) .none kV_Book_check dc_Book_check pm_Book_check an_Book_check cd_Book_check ct_Book_check), sl_Book_check⟩)
    (k_Book_check : PySem.W.codeIn K cd_Book_check "Book.check" = true)
    (e_Book_check : PySem.W.keepIn K (.ref f_Book_check) = true)
    (m_Book_spot : PySem.W.findIn K (.ref C_Book) "spot" = some (some (.ref f_Book_spot)))
    (i_Book_spot : PySem.W.isFn K (.ref f_Book_spot) = true)
    (l_Book_spot : K.lookup f_Book_spot = some ⟨oc_Book_spot, od_Book_spot, .func (PySem.W.fnOf "spot" "Book.spot" (defArgs s_Book_spot) (defBody s_Book_spot) (defScope s_Book_spot) .none kV_Book_spot dc_Book_spot pm_Book_spot an_Book_spot cd_Book_spot ct_Book_spot), sl_Book_spot⟩)
    (k_Book_spot : PySem.W.codeIn K cd_Book_spot "Book.spot" = true)
    (e_Book_spot : PySem.W.keepIn K (.ref f_Book_spot) = true)
    (m_Book_place : PySem.W.findIn K (.ref C_Book) "place" = some (some (.ref f_Book_place)))
    (i_Book_place : PySem.W.isFn K (.ref f_Book_place) = true)
    (l_Book_place : K.lookup f_Book_place = some ⟨oc_Book_place, od_Book_place, .func (PySem.W.fnOf "place" "Book.place" (defArgs s_Book_place) (defBody s_Book_place) (defScope s_Book_place) .none kV_Book_place dc_Book_place pm_Book_place an_Book_place cd_Book_place ct_Book_place), sl_Book_place⟩)
    (k_Book_place : PySem.W.codeIn K cd_Book_place "Book.place" = true)
    (e_Book_place : PySem.W.keepIn K (.ref f_Book_place) = true)
    (g_with_move : PySem.W.nsIn K mainGlobals "with_move" = some (some (.ref f_with_move)))
    (l_with_move : K.lookup f_with_move = some ⟨oc_with_move, od_with_move, .func (PySem.W.fnOf "with_move" "with_move" (defArgs s_with_move) (defBody s_with_move) (defScope s_with_move) .none kV_with_move dc_with_move pm_with_move an_with_move cd_with_move ct_with_move), sl_with_move⟩)
    (k_with_move : PySem.W.codeIn K cd_with_move "with_move" = true)
    (e_with_move : PySem.W.keepIn K (.ref f_with_move) = true)
    (m_Reader_init : PySem.W.findIn K (.ref C_Reader) "__init__" = some (some (.ref f_Reader_init)))
    (i_Reader_init : PySem.W.isFn K (.ref f_Reader_init) = true)
    (l_Reader_init : K.lookup f_Reader_init = some ⟨oc_Reader_init, od_Reader_init, .func (PySem.W.fnOf "__init__" "Reader.__init__" (defArgs s_Reader_init) (defBody s_Reader_init) (defScope s_Reader_init) (.ref dT_Reader_init) kV_Reader_init dc_Reader_init pm_Reader_init an_Reader_init cd_Reader_init ct_Reader_init), sl_Reader_init⟩)
    (k_Reader_init : PySem.W.codeIn K cd_Reader_init "Reader.__init__" = true)
    (e_Reader_init : PySem.W.keepIn K (.ref f_Reader_init) = true)
    (d_Reader_init : K.lookup dT_Reader_init = some ⟨.type "tuple", do_Reader_init, .seq #[Value.int 0 dt_Reader_init_0, Value.int 1 dt_Reader_init_1] dn_Reader_init, ds_Reader_init⟩)
    (mk_Reader : PySem.W.makesIn K C_Reader = true)
    (kc_Reader : PySem.W.keepIn K (.ref C_Reader) = true)
    (pt_Reader_begin : PySem.W.findIn K (.ref C_Reader) "begin" = some (some (.ref pa_Reader_begin)))
    (pg_Reader_begin : PySem.W.specialIn K (.ref pa_Reader_begin) "__get__" = some (some (.builtin "property.__get__")))
    (pk_Reader_begin : PySem.W.takesIn K (.ref pa_Reader_begin) = some true)
    (pr_Reader_begin : PySem.W.recIn K pa_Reader_begin "property" = some (.ref f_Reader_begin :: rest_Reader_begin))
    (l_Reader_begin : K.lookup f_Reader_begin = some ⟨oc_Reader_begin, od_Reader_begin, .func (PySem.W.fnOf "begin" "Reader.begin" (defArgs s_Reader_begin) (defBody s_Reader_begin) (defScope s_Reader_begin) .none kV_Reader_begin dc_Reader_begin pm_Reader_begin an_Reader_begin cd_Reader_begin ct_Reader_begin), sl_Reader_begin⟩)
    (k_Reader_begin : PySem.W.codeIn K cd_Reader_begin "Reader.begin" = true)
    (e_Reader_begin : PySem.W.keepIn K (.ref f_Reader_begin) = true)
    (pt_Reader_page : PySem.W.findIn K (.ref C_Reader) "page" = some (some (.ref pa_Reader_page)))
    (pg_Reader_page : PySem.W.specialIn K (.ref pa_Reader_page) "__get__" = some (some (.builtin "property.__get__")))
    (pk_Reader_page : PySem.W.takesIn K (.ref pa_Reader_page) = some true)
    (pr_Reader_page : PySem.W.recIn K pa_Reader_page "property" = some (.ref f_Reader_page :: rest_Reader_page))
    (l_Reader_page : K.lookup f_Reader_page = some ⟨oc_Reader_page, od_Reader_page, .func (PySem.W.fnOf "page" "Reader.page" (defArgs s_Reader_page) (defBody s_Reader_page) (defScope s_Reader_page) .none kV_Reader_page dc_Reader_page pm_Reader_page an_Reader_page cd_Reader_page ct_Reader_page), sl_Reader_page⟩)
    (k_Reader_page : PySem.W.codeIn K cd_Reader_page "Reader.page" = true)
    (e_Reader_page : PySem.W.keepIn K (.ref f_Reader_page) = true)
    (pt_Reader_pace : PySem.W.findIn K (.ref C_Reader) "pace" = some (some (.ref pa_Reader_pace)))
    (pg_Reader_pace : PySem.W.specialIn K (.ref pa_Reader_pace) "__get__" = some (some (.builtin "property.__get__")))
    (pk_Reader_pace : PySem.W.takesIn K (.ref pa_Reader_pace) = some true)
    (pr_Reader_pace : PySem.W.recIn K pa_Reader_pace "property" = some (.ref f_Reader_pace :: rest_Reader_pace))
    (l_Reader_pace : K.lookup f_Reader_pace = some ⟨oc_Reader_pace, od_Reader_pace, .func (PySem.W.fnOf "pace" "Reader.pace" (defArgs s_Reader_pace) (defBody s_Reader_pace) (defScope s_Reader_pace) .none kV_Reader_pace dc_Reader_pace pm_Reader_pace an_Reader_pace cd_Reader_pace ct_Reader_pace), sl_Reader_pace⟩)
    (k_Reader_pace : PySem.W.codeIn K cd_Reader_pace "Reader.pace" = true)
    (e_Reader_pace : PySem.W.keepIn K (.ref f_Reader_pace) = true)
    (g_old_of : PySem.W.nsIn K mainGlobals "old_of" = some (some (.ref f_old_of)))
    (l_old_of : K.lookup f_old_of = some ⟨oc_old_of, od_old_of, .func (PySem.W.fnOf "old_of" "old_of" (defArgs s_old_of) (defBody s_old_of) (defScope s_old_of) .none kV_old_of dc_old_of pm_old_of an_old_of cd_old_of ct_old_of), sl_old_of⟩)
    (k_old_of : PySem.W.codeIn K cd_old_of "old_of" = true)
    (e_old_of : PySem.W.keepIn K (.ref f_old_of) = true)
    (g_check_reader : PySem.W.nsIn K mainGlobals "check_reader" = some (some (.ref f_check_reader)))
    (l_check_reader : K.lookup f_check_reader = some ⟨oc_check_reader, od_check_reader, .func (PySem.W.fnOf "check_reader" "check_reader" (defArgs s_check_reader) (defBody s_check_reader) (defScope s_check_reader) .none kV_check_reader dc_check_reader pm_check_reader an_check_reader cd_check_reader ct_check_reader), sl_check_reader⟩)
    (k_check_reader : PySem.W.codeIn K cd_check_reader "check_reader" = true)
    (e_check_reader : PySem.W.keepIn K (.ref f_check_reader) = true)
    (g_all_visits : PySem.W.nsIn K mainGlobals "all_visits" = some (some (.ref f_all_visits)))
    (l_all_visits : K.lookup f_all_visits = some ⟨oc_all_visits, od_all_visits, .func (PySem.W.fnOf "all_visits" "all_visits" (defArgs s_all_visits) (defBody s_all_visits) (defScope s_all_visits) .none kV_all_visits dc_all_visits pm_all_visits an_all_visits cd_all_visits ct_all_visits), sl_all_visits⟩)
    (k_all_visits : PySem.W.codeIn K cd_all_visits "all_visits" = true)
    (e_all_visits : PySem.W.keepIn K (.ref f_all_visits) = true)
    (g_visits : PySem.W.nsIn K mainGlobals "visits" = some (some (.ref f_visits)))
    (l_visits : K.lookup f_visits = some ⟨oc_visits, od_visits, .func (PySem.W.fnOf "visits" "visits" (defArgs s_visits) (defBody s_visits) (defScope s_visits) .none kV_visits dc_visits pm_visits an_visits cd_visits ct_visits), sl_visits⟩)
    (k_visits : PySem.W.codeIn K cd_visits "visits" = true)
    (e_visits : PySem.W.keepIn K (.ref f_visits) = true)
    (g_end : PySem.W.nsIn K mainGlobals "end" = some (some (.ref f_end)))
    (l_end : K.lookup f_end = some ⟨oc_end, od_end, .func (PySem.W.fnOf "end" "end" (defArgs s_end) (defBody s_end) (defScope s_end) .none kV_end dc_end pm_end an_end cd_end ct_end), sl_end⟩)
    (k_end : PySem.W.codeIn K cd_end "end" = true)
    (e_end : PySem.W.keepIn K (.ref f_end) = true)
    (g_home_of : PySem.W.nsIn K mainGlobals "home_of" = some (some (.ref f_home_of)))
    (l_home_of : K.lookup f_home_of = some ⟨oc_home_of, od_home_of, .func (PySem.W.fnOf "home_of" "home_of" (defArgs s_home_of) (defBody s_home_of) (defScope s_home_of) .none kV_home_of dc_home_of pm_home_of an_home_of cd_home_of ct_home_of), sl_home_of⟩)
    (k_home_of : PySem.W.codeIn K cd_home_of "home_of" = true)
    (e_home_of : PySem.W.keepIn K (.ref f_home_of) = true)
    (g_seen : PySem.W.nsIn K mainGlobals "seen" = some (some (.ref f_seen)))
    (l_seen : K.lookup f_seen = some ⟨oc_seen, od_seen, .func (PySem.W.fnOf "seen" "seen" (defArgs s_seen) (defBody s_seen) (defScope s_seen) .none kV_seen dc_seen pm_seen an_seen cd_seen ct_seen), sl_seen⟩)
    (k_seen : PySem.W.codeIn K cd_seen "seen" = true)
    (e_seen : PySem.W.keepIn K (.ref f_seen) = true)
    (g_visited_before : PySem.W.nsIn K mainGlobals "visited_before" = some (some (.ref f_visited_before)))
    (l_visited_before : K.lookup f_visited_before = some ⟨oc_visited_before, od_visited_before, .func (PySem.W.fnOf "visited_before" "visited_before" (defArgs s_visited_before) (defBody s_visited_before) (defScope s_visited_before) .none kV_visited_before dc_visited_before pm_visited_before an_visited_before cd_visited_before ct_visited_before), sl_visited_before⟩)
    (k_visited_before : PySem.W.codeIn K cd_visited_before "visited_before" = true)
    (e_visited_before : PySem.W.keepIn K (.ref f_visited_before) = true)
    (g_balance : PySem.W.nsIn K mainGlobals "balance" = some (some (.ref f_balance)))
    (l_balance : K.lookup f_balance = some ⟨oc_balance, od_balance, .func (PySem.W.fnOf "balance" "balance" (defArgs s_balance) (defBody s_balance) (defScope s_balance) .none kV_balance dc_balance pm_balance an_balance cd_balance ct_balance), sl_balance⟩)
    (k_balance : PySem.W.codeIn K cd_balance "balance" = true)
    (e_balance : PySem.W.keepIn K (.ref f_balance) = true)
    (g_L_begin : PySem.W.nsIn K mainGlobals "_law_begin" = some (some (.ref f_L_begin)))
    (l_L_begin : K.lookup f_L_begin = some ⟨oc_L_begin, od_L_begin, .func (PySem.W.fnOf "_law_begin" "_law_begin" (defArgs s_L_begin) (defBody s_L_begin) (defScope s_L_begin) .none kV_L_begin dc_L_begin pm_L_begin an_L_begin cd_L_begin ct_L_begin), sl_L_begin⟩)
    (k_L_begin : PySem.W.codeIn K cd_L_begin "_law_begin" = true)
    (e_L_begin : PySem.W.keepIn K (.ref f_L_begin) = true)
    (g_L_draw : PySem.W.nsIn K mainGlobals "_law_draw" = some (some (.ref f_L_draw)))
    (l_L_draw : K.lookup f_L_draw = some ⟨oc_L_draw, od_L_draw, .func (PySem.W.fnOf "_law_draw" "_law_draw" (defArgs s_L_draw) (defBody s_L_draw) (defScope s_L_draw) .none kV_L_draw dc_L_draw pm_L_draw an_L_draw cd_L_draw ct_L_draw), sl_L_draw⟩)
    (k_L_draw : PySem.W.codeIn K cd_L_draw "_law_draw" = true)
    (e_L_draw : PySem.W.keepIn K (.ref f_L_draw) = true)
    (g_L_case : PySem.W.nsIn K mainGlobals "_law_case" = some (some (.ref f_L_case)))
    (l_L_case : K.lookup f_L_case = some ⟨oc_L_case, od_L_case, .func (PySem.W.fnOf "_law_case" "_law_case" (defArgs s_L_case) (defBody s_L_case) (defScope s_L_case) .none kV_L_case dc_L_case pm_L_case an_L_case cd_L_case ct_L_case), sl_L_case⟩)
    (k_L_case : PySem.W.codeIn K cd_L_case "_law_case" = true)
    (e_L_case : PySem.W.keepIn K (.ref f_L_case) = true)
    (g_L_rule : PySem.W.nsIn K mainGlobals "_law_rule" = some (some (.ref f_L_rule)))
    (l_L_rule : K.lookup f_L_rule = some ⟨oc_L_rule, od_L_rule, .func (PySem.W.fnOf "_law_rule" "_law_rule" (defArgs s_L_rule) (defBody s_L_rule) (defScope s_L_rule) .none kV_L_rule dc_L_rule pm_L_rule an_L_rule cd_L_rule ct_L_rule), sl_L_rule⟩)
    (k_L_rule : PySem.W.codeIn K cd_L_rule "_law_rule" = true)
    (e_L_rule : PySem.W.keepIn K (.ref f_L_rule) = true)
    (g_L_there : PySem.W.nsIn K mainGlobals "_law_there" = some (some (.ref f_L_there)))
    (l_L_there : K.lookup f_L_there = some ⟨oc_L_there, od_L_there, .func (PySem.W.fnOf "_law_there" "_law_there" (defArgs s_L_there) (defBody s_L_there) (defScope s_L_there) .none kV_L_there dc_L_there pm_L_there an_L_there cd_L_there ct_L_there), sl_L_there⟩)
    (k_L_there : PySem.W.codeIn K cd_L_there "_law_there" = true)
    (e_L_there : PySem.W.keepIn K (.ref f_L_there) = true)
    (g_L_place : PySem.W.nsIn K mainGlobals "_law_place" = some (some (.ref f_L_place)))
    (l_L_place : K.lookup f_L_place = some ⟨oc_L_place, od_L_place, .func (PySem.W.fnOf "_law_place" "_law_place" (defArgs s_L_place) (defBody s_L_place) (defScope s_L_place) .none kV_L_place dc_L_place pm_L_place an_L_place cd_L_place ct_L_place), sl_L_place⟩)
    (k_L_place : PySem.W.codeIn K cd_L_place "_law_place" = true)
    (e_L_place : PySem.W.keepIn K (.ref f_L_place) = true)
    (g_L_told : PySem.W.nsIn K mainGlobals "_law_told" = some (some (.ref f_L_told)))
    (l_L_told : K.lookup f_L_told = some ⟨oc_L_told, od_L_told, .func (PySem.W.fnOf "_law_told" "_law_told" (defArgs s_L_told) (defBody s_L_told) (defScope s_L_told) .none kV_L_told dc_L_told pm_L_told an_L_told cd_L_told ct_L_told), sl_L_told⟩)
    (k_L_told : PySem.W.codeIn K cd_L_told "_law_told" = true)
    (e_L_told : PySem.W.keepIn K (.ref f_L_told) = true)
    (g_L_book : PySem.W.nsIn K mainGlobals "_law_book" = some (some (.ref f_L_book)))
    (l_L_book : K.lookup f_L_book = some ⟨oc_L_book, od_L_book, .func (PySem.W.fnOf "_law_book" "_law_book" (defArgs s_L_book) (defBody s_L_book) (defScope s_L_book) .none kV_L_book dc_L_book pm_L_book an_L_book cd_L_book ct_L_book), sl_L_book⟩)
    (k_L_book : PySem.W.codeIn K cd_L_book "_law_book" = true)
    (e_L_book : PySem.W.keepIn K (.ref f_L_book) = true)
    (g_L_walker : PySem.W.nsIn K mainGlobals "_law_walker" = some (some (.ref f_L_walker)))
    (l_L_walker : K.lookup f_L_walker = some ⟨oc_L_walker, od_L_walker, .func (PySem.W.fnOf "_law_walker" "_law_walker" (defArgs s_L_walker) (defBody s_L_walker) (defScope s_L_walker) .none kV_L_walker dc_L_walker pm_L_walker an_L_walker cd_L_walker ct_L_walker), sl_L_walker⟩)
    (k_L_walker : PySem.W.codeIn K cd_L_walker "_law_walker" = true)
    (e_L_walker : PySem.W.keepIn K (.ref f_L_walker) = true)
    (g_L_tried : PySem.W.nsIn K mainGlobals "_law_tried" = some (some (.ref f_L_tried)))
    (l_L_tried : K.lookup f_L_tried = some ⟨oc_L_tried, od_L_tried, .func (PySem.W.fnOf "_law_tried" "_law_tried" (defArgs s_L_tried) (defBody s_L_tried) (defScope s_L_tried) .none kV_L_tried dc_L_tried pm_L_tried an_L_tried cd_L_tried ct_L_tried), sl_L_tried⟩)
    (k_L_tried : PySem.W.codeIn K cd_L_tried "_law_tried" = true)
    (e_L_tried : PySem.W.keepIn K (.ref f_L_tried) = true)
    (g_law : PySem.W.nsIn K mainGlobals "law" = some (some (.ref f_law)))
    (l_law : K.lookup f_law = some ⟨oc_law, od_law, .func (PySem.W.fnOf "law" "law" (defArgs s_law) (defBody s_law) (defScope s_law) .none kV_law dc_law pm_law an_law cd_law ct_law), sl_law⟩)
    (k_law : PySem.W.codeIn K cd_law "law" = true)
    (e_law : PySem.W.keepIn K (.ref f_law) = true)
    : LawG l w K 9 63 "_law_script" mg fa h := by
  have e := hfa.symm.trans (PySem.W.mg_of X G g_law)
  cases e
  have F_is_integer := fun_mk (st := s_is_integer) l_is_integer k_is_integer e_is_integer
  have F_is_between := fun_mk (st := s_is_between) l_is_between k_is_between e_is_between
  have F_is_part_value := fun_mk (st := s_is_part_value) l_is_part_value k_is_part_value e_is_part_value
  have F_Rule_init : FunD K "__init__" "Rule.__init__" (defArgs s_Rule_init) (defBody s_Rule_init) (defScope s_Rule_init) [] [("moves", .ref a_Rule_init_moves), ("start", .str "front"), ("fresh", .str "none"), ("sees", .str "now")] f_Rule_init _ := ⟨⟨oc_Rule_init, od_Rule_init, _, _, dc_Rule_init, pm_Rule_init, an_Rule_init, cd_Rule_init, ct_Rule_init, sl_Rule_init, rfl, l_Rule_init, k_Rule_init, .inl ⟨rfl, rfl⟩, .inr ⟨kD_Rule_init, rfl, (List.forall_mem_cons.mpr ⟨⟨_, kw_Rule_init_moves, rfl⟩, (List.forall_mem_cons.mpr ⟨⟨_, kw_Rule_init_start, ⟨_, rfl⟩⟩, (List.forall_mem_cons.mpr ⟨⟨_, kw_Rule_init_fresh, ⟨_, rfl⟩⟩, (List.forall_mem_cons.mpr ⟨⟨_, kw_Rule_init_sees, ⟨_, rfl⟩⟩, (fun q hq => by cases hq)⟩)⟩)⟩)⟩)⟩⟩, e_Rule_init⟩
  have F_Rule_fresh := fun_mk (st := s_Rule_fresh) l_Rule_fresh k_Rule_fresh e_Rule_fresh
  have F_Rule_sees := fun_mk (st := s_Rule_sees) l_Rule_sees k_Rule_sees e_Rule_sees
  have F_are_rows := fun_mk (st := s_are_rows) l_are_rows k_are_rows e_are_rows
  have F_are_news := fun_mk (st := s_are_news) l_are_news k_are_news e_are_news
  have F_pages_at := fun_mk (st := s_pages_at) l_pages_at k_pages_at e_pages_at
  have F_can_be_made := fun_mk (st := s_can_be_made) l_can_be_made k_can_be_made e_can_be_made
  have F_first_wrong := fun_mk (st := s_first_wrong) l_first_wrong k_first_wrong e_first_wrong
  have F_Book_init : FunD K "__init__" "Book.__init__" (defArgs s_Book_init) (defBody s_Book_init) (defScope s_Book_init) [.ref a_Book_init_news, .ref a_Book_init_moves] [] f_Book_init _ := ⟨⟨oc_Book_init, od_Book_init, _, kV_Book_init, dc_Book_init, pm_Book_init, an_Book_init, cd_Book_init, ct_Book_init, sl_Book_init, rfl, l_Book_init, k_Book_init, .inr ⟨(fun z => nomatch z), dT_Book_init, _, [Value.ref a_Book_init_news, Value.ref a_Book_init_moves], dn_Book_init, rfl, d_Book_init, rfl, (.cons rfl (.cons rfl .nil))⟩, .inl rfl⟩, e_Book_init⟩
  have F_Book_pages := fun_mk (st := s_Book_pages) l_Book_pages k_Book_pages e_Book_pages
  have F_Book_rows := fun_mk (st := s_Book_rows) l_Book_rows k_Book_rows e_Book_rows
  have F_Book_news := fun_mk (st := s_Book_news) l_Book_news k_Book_news e_Book_news
  have F_Book_moves := fun_mk (st := s_Book_moves) l_Book_moves k_Book_moves e_Book_moves
  have F_Book_len := fun_mk (st := s_Book_len) l_Book_len k_Book_len e_Book_len
  have F_Book_check := fun_mk (st := s_Book_check) l_Book_check k_Book_check e_Book_check
  have F_Book_spot := fun_mk (st := s_Book_spot) l_Book_spot k_Book_spot e_Book_spot
  have F_Book_place := fun_mk (st := s_Book_place) l_Book_place k_Book_place e_Book_place
  have F_with_move := fun_mk (st := s_with_move) l_with_move k_with_move e_with_move
  have F_Reader_init : FunD K "__init__" "Reader.__init__" (defArgs s_Reader_init) (defBody s_Reader_init) (defScope s_Reader_init) [.int 0, .int 1] [] f_Reader_init _ := ⟨⟨oc_Reader_init, od_Reader_init, _, kV_Reader_init, dc_Reader_init, pm_Reader_init, an_Reader_init, cd_Reader_init, ct_Reader_init, sl_Reader_init, rfl, l_Reader_init, k_Reader_init, .inr ⟨(fun z => nomatch z), dT_Reader_init, _, [Value.int 0 dt_Reader_init_0, Value.int 1 dt_Reader_init_1], dn_Reader_init, rfl, d_Reader_init, rfl, (.cons ⟨_, rfl⟩ (.cons ⟨_, rfl⟩ .nil))⟩, .inl rfl⟩, e_Reader_init⟩
  have F_Reader_begin := fun_mk (st := s_Reader_begin) l_Reader_begin k_Reader_begin e_Reader_begin
  have F_Reader_page := fun_mk (st := s_Reader_page) l_Reader_page k_Reader_page e_Reader_page
  have F_Reader_pace := fun_mk (st := s_Reader_pace) l_Reader_pace k_Reader_pace e_Reader_pace
  have F_old_of := fun_mk (st := s_old_of) l_old_of k_old_of e_old_of
  have F_check_reader := fun_mk (st := s_check_reader) l_check_reader k_check_reader e_check_reader
  have F_all_visits := fun_mk (st := s_all_visits) l_all_visits k_all_visits e_all_visits
  have F_visits := fun_mk (st := s_visits) l_visits k_visits e_visits
  have F_end := fun_mk (st := s_end) l_end k_end e_end
  have F_home_of := fun_mk (st := s_home_of) l_home_of k_home_of e_home_of
  have F_seen := fun_mk (st := s_seen) l_seen k_seen e_seen
  have F_visited_before := fun_mk (st := s_visited_before) l_visited_before k_visited_before e_visited_before
  have F_balance := fun_mk (st := s_balance) l_balance k_balance e_balance
  have F_L_begin := fun_mk (st := s_L_begin) l_L_begin k_L_begin e_L_begin
  have F_L_draw := fun_mk (st := s_L_draw) l_L_draw k_L_draw e_L_draw
  have F_L_case := fun_mk (st := s_L_case) l_L_case k_L_case e_L_case
  have F_L_rule := fun_mk (st := s_L_rule) l_L_rule k_L_rule e_L_rule
  have F_L_there := fun_mk (st := s_L_there) l_L_there k_L_there e_L_there
  have F_L_place := fun_mk (st := s_L_place) l_L_place k_L_place e_L_place
  have F_L_told := fun_mk (st := s_L_told) l_L_told k_L_told e_L_told
  have F_L_book := fun_mk (st := s_L_book) l_L_book k_L_book e_L_book
  have F_L_walker := fun_mk (st := s_L_walker) l_L_walker k_L_walker e_L_walker
  have F_L_tried := fun_mk (st := s_L_tried) l_L_tried k_L_tried e_L_tried
  have F_law := fun_mk (st := s_law) l_law k_law e_law
  let T : TX l.prog w K mg := { z_all := PySem.W.mg_none_of X G z_all, z_any := PySem.W.mg_none_of X G z_any, z_bool := PySem.W.mg_none_of X G z_bool, z_int := PySem.W.mg_none_of X G z_int, z_isinstance := PySem.W.mg_none_of X G z_isinstance, z_len := PySem.W.mg_none_of X G z_len, z_list := PySem.W.mg_none_of X G z_list, z_range := PySem.W.mg_none_of X G z_range, z_sorted := PySem.W.mg_none_of X G z_sorted, z_str := PySem.W.mg_none_of X G z_str, z_tuple := PySem.W.mg_none_of X G z_tuple, z_zip := PySem.W.mg_none_of X G z_zip, c_LAST_BEGIN := ⟨_, PySem.W.mg_of X G c_LAST_BEGIN, ⟨_, rfl⟩⟩, c_LAST_PAGE := ⟨_, PySem.W.mg_of X G c_LAST_PAGE, ⟨_, rfl⟩⟩, c_MOST_MOVES := ⟨_, PySem.W.mg_of X G c_MOST_MOVES, ⟨_, rfl⟩⟩, c_MOST_NEWS := ⟨_, PySem.W.mg_of X G c_MOST_NEWS, ⟨_, rfl⟩⟩, c_MOST_PACE := ⟨_, PySem.W.mg_of X G c_MOST_PACE, ⟨_, rfl⟩⟩, c_MOST_PAGES := ⟨_, PySem.W.mg_of X G c_MOST_PAGES, ⟨_, rfl⟩⟩, c_MOST_ROWS := ⟨_, PySem.W.mg_of X G c_MOST_ROWS, ⟨_, rfl⟩⟩, c_MOST_TIME := ⟨_, PySem.W.mg_of X G c_MOST_TIME, ⟨_, rfl⟩⟩, A_MOVES := a_MOVES, c_MOVES := ⟨_, PySem.W.mg_of X G c_MOVES, rfl⟩, A_PARTS := a_PARTS, c_PARTS := ⟨_, PySem.W.mg_of X G c_PARTS, rfl⟩, A_WORDS := a_WORDS, c_WORDS := ⟨_, PySem.W.mg_of X G c_WORDS, rfl⟩, tu_MOVES := fun _ => .inr ⟨_, _, _, l_MOVES, rfl, rfl, by show _ ≤ sizeLine; rw [sizeLine_eq]; exact Nat.le_of_ble_eq_true rfl, (.cons rfl (.cons rfl (.cons rfl (.cons rfl .nil))))⟩, A_MOVES_3 := a_MOVES_3, tu_MOVES_3 := fun _ => .inr ⟨_, _, _, l_MOVES_3, rfl, rfl, by show _ ≤ sizeLine; rw [sizeLine_eq]; exact Nat.le_of_ble_eq_true rfl, (.cons ⟨_, rfl⟩ (.cons ⟨_, rfl⟩ .nil))⟩, A_MOVES_2 := a_MOVES_2, tu_MOVES_2 := fun _ => .inr ⟨_, _, _, l_MOVES_2, rfl, rfl, by show _ ≤ sizeLine; rw [sizeLine_eq]; exact Nat.le_of_ble_eq_true rfl, (.cons ⟨_, rfl⟩ .nil)⟩, A_MOVES_1 := a_MOVES_1, tu_MOVES_1 := fun _ => .inr ⟨_, _, _, l_MOVES_1, rfl, rfl, by show _ ≤ sizeLine; rw [sizeLine_eq]; exact Nat.le_of_ble_eq_true rfl, (.cons ⟨_, rfl⟩ .nil)⟩, A_MOVES_0 := a_MOVES_0, tu_MOVES_0 := fun _ => .inr ⟨_, _, _, l_MOVES_0, rfl, rfl, by show _ ≤ sizeLine; rw [sizeLine_eq]; exact Nat.le_of_ble_eq_true rfl, .nil⟩, tu_PARTS := fun _ => .inr ⟨_, _, _, l_PARTS, rfl, rfl, by show _ ≤ sizeLine; rw [sizeLine_eq]; exact Nat.le_of_ble_eq_true rfl, (.cons ⟨_, rfl⟩ (.cons ⟨_, rfl⟩ (.cons ⟨_, rfl⟩ (.cons ⟨_, rfl⟩ .nil))))⟩, kd_WORDS_start := ⟨_, _, _, l_WORDS, kl_WORDS, nd_WORDS_start, rfl⟩, kd_WORDS_fresh := ⟨_, _, _, l_WORDS, kl_WORDS, nd_WORDS_fresh, rfl⟩, kd_WORDS_sees := ⟨_, _, _, l_WORDS, kl_WORDS, nd_WORDS_sees, rfl⟩, A_WORDS_2 := a_WORDS_2, tu_WORDS_2 := fun _ => .inr ⟨_, _, _, l_WORDS_2, rfl, rfl, by show _ ≤ sizeLine; rw [sizeLine_eq]; exact Nat.le_of_ble_eq_true rfl, (.cons ⟨_, rfl⟩ (.cons ⟨_, rfl⟩ .nil))⟩, A_WORDS_1 := a_WORDS_1, tu_WORDS_1 := fun _ => .inr ⟨_, _, _, l_WORDS_1, rfl, rfl, by show _ ≤ sizeLine; rw [sizeLine_eq]; exact Nat.le_of_ble_eq_true rfl, (.cons ⟨_, rfl⟩ (.cons ⟨_, rfl⟩ (.cons ⟨_, rfl⟩ .nil)))⟩, A_WORDS_0 := a_WORDS_0, tu_WORDS_0 := fun _ => .inr ⟨_, _, _, l_WORDS_0, rfl, rfl, by show _ ≤ sizeLine; rw [sizeLine_eq]; exact Nat.le_of_ble_eq_true rfl, (.cons ⟨_, rfl⟩ (.cons ⟨_, rfl⟩ .nil))⟩, C_Rule := C_Rule, g_Rule := PySem.W.mg_of X G g_Rule, cl_Rule := ⟨pg_Rule, hd_Rule, po_Rule, sa_Rule⟩, na_Rule_kept_parts := na_Rule_kept_parts, C_Book := C_Book, g_Book := PySem.W.mg_of X G g_Book, cl_Book := ⟨pg_Book, hd_Book, po_Book, sa_Book⟩, na_Book_kept_pages := na_Book_kept_pages, na_Book_kept_rows := na_Book_kept_rows, na_Book_kept_news := na_Book_kept_news, na_Book_kept_moves := na_Book_kept_moves, C_Reader := C_Reader, g_Reader := PySem.W.mg_of X G g_Reader, cl_Reader := ⟨pg_Reader, hd_Reader, po_Reader, sa_Reader⟩, na_Reader_kept_begin := na_Reader_kept_begin, na_Reader_kept_page := na_Reader_kept_page, na_Reader_kept_pace := na_Reader_kept_pace, ty_Reader := ⟨ha_Reader, hn_Reader, ht_Reader, hm_Reader, kit_self⟩, C_InvalidBook := C_InvalidBook, g_InvalidBook := PySem.W.mg_of X G g_InvalidBook, C_InvalidMove := C_InvalidMove, g_InvalidMove := PySem.W.mg_of X G g_InvalidMove, C_InvalidNumber := C_InvalidNumber, g_InvalidNumber := PySem.W.mg_of X G g_InvalidNumber, C_RoundError := C_RoundError, g_RoundError := PySem.W.mg_of X G g_RoundError, fi_InvalidBook := fi_InvalidBook, fdi_InvalidBook := _, xc_InvalidBook := XcT.of ii_InvalidBook lx_InvalidBook lc_InvalidBook lk_InvalidBook hv_InvalidBook hf_InvalidBook xa_InvalidBook (PySem.W.mg_none_of X G z_super) t_super ⟨_, _, _, _, _, _, _, _, _, _, _, _, rfl, fun _ => ⟨_, rfl⟩⟩ rfl rfl rfl rfl (by decide +kernel) rfl rfl rfl rfl (by decide) (by decide), bx_InvalidBook := .all fun us hl => match us, hl with | [_, _], _ => rfl, xi_InvalidBook := xi_InvalidBook, em_InvalidBook := em_InvalidBook, em_InvalidBook_InvalidMove := em_InvalidBook_InvalidMove, fi_InvalidMove := fi_InvalidMove, fdi_InvalidMove := _, xc_InvalidMove := XcT.of ii_InvalidMove lx_InvalidMove lc_InvalidMove lk_InvalidMove hv_InvalidMove hf_InvalidMove xa_InvalidMove (PySem.W.mg_none_of X G z_super) t_super ⟨_, _, _, _, _, _, _, _, _, _, _, _, rfl, fun _ => ⟨_, rfl⟩⟩ rfl rfl rfl rfl (by decide +kernel) rfl rfl rfl rfl (by decide) (by decide), bx_InvalidMove := .all fun us hl => match us, hl with | [_, _], _ => rfl, xi_InvalidMove := xi_InvalidMove, em_InvalidMove := em_InvalidMove, em_InvalidMove_InvalidMove := em_InvalidMove_InvalidMove, fi_InvalidNumber := fi_InvalidNumber, fdi_InvalidNumber := _, xc_InvalidNumber := XcT.of ii_InvalidNumber lx_InvalidNumber lc_InvalidNumber lk_InvalidNumber hv_InvalidNumber hf_InvalidNumber xa_InvalidNumber (PySem.W.mg_none_of X G z_super) t_super ⟨_, _, _, _, _, _, _, _, _, _, _, _, rfl, fun _ => ⟨_, rfl⟩⟩ rfl rfl rfl rfl (by decide +kernel) rfl rfl rfl rfl (by decide) (by decide), bx_InvalidNumber := .all fun us hl => match us, hl with | [_, _], _ => rfl, xi_InvalidNumber := xi_InvalidNumber, em_InvalidNumber := em_InvalidNumber, em_InvalidNumber_InvalidMove := em_InvalidNumber_InvalidMove, f_is_integer := f_is_integer, fd_is_integer := _, F_is_integer := F_is_integer, b_is_integer := F_is_integer.binds (ps := ["value"]) fun _ _ _ _ _ _ us hl => match us, hl with | [_], _ => rfl, g_is_integer := PySem.W.mg_of X G g_is_integer, f_is_between := f_is_between, fd_is_between := _, F_is_between := F_is_between, b_is_between := F_is_between.binds (ps := ["value", "low", "high"]) fun _ _ _ _ _ _ us hl => match us, hl with | [_, _, _], _ => rfl, g_is_between := PySem.W.mg_of X G g_is_between, f_is_part_value := f_is_part_value, fd_is_part_value := _, F_is_part_value := F_is_part_value, b_is_part_value := F_is_part_value.binds (ps := ["part", "value"]) fun _ _ _ _ _ _ us hl => match us, hl with | [_, _], _ => rfl, g_is_part_value := PySem.W.mg_of X G g_is_part_value, f_Rule_init := f_Rule_init, A_Rule_init_moves := a_Rule_init_moves, tu_Rule_init_moves := fun _ => .inr ⟨_, _, _, l_Rule_init_moves, rfl, rfl, by show _ ≤ sizeLine; rw [sizeLine_eq]; exact Nat.le_of_ble_eq_true rfl, .nil⟩, fd_Rule_init := _, F_Rule_init := F_Rule_init, kb4_Rule_init := F_Rule_init.kbinds0 1 ["moves", "start", "fresh", "sees"] [] (fun us _ ws => us ++ ws) (fun z => nomatch z) (fun q hq => by cases hq) (fun r1 _ r3 => r1.append r3) fun _ _ _ _ _ _ us mv ws h1 h2 h3 => match us, mv, ws, h1, h2, h3 with | [_], [], [_, _, _, _], _, _, _ => rfl, mk_Rule := ⟨mk_Rule, m_Rule_init, i_Rule_init, kc_Rule⟩, f_Rule_fresh := f_Rule_fresh, fd_Rule_fresh := _, F_Rule_fresh := F_Rule_fresh, b_Rule_fresh := F_Rule_fresh.binds (ps := ["self"]) fun _ _ _ _ _ _ us hl => match us, hl with | [_], _ => rfl, pa_Rule_fresh := pa_Rule_fresh, p_Rule_fresh := ⟨pt_Rule_fresh, pg_Rule_fresh, pk_Rule_fresh, ⟨_, pr_Rule_fresh⟩⟩, f_Rule_sees := f_Rule_sees, fd_Rule_sees := _, F_Rule_sees := F_Rule_sees, b_Rule_sees := F_Rule_sees.binds (ps := ["self"]) fun _ _ _ _ _ _ us hl => match us, hl with | [_], _ => rfl, pa_Rule_sees := pa_Rule_sees, p_Rule_sees := ⟨pt_Rule_sees, pg_Rule_sees, pk_Rule_sees, ⟨_, pr_Rule_sees⟩⟩, f_are_rows := f_are_rows, fd_are_rows := _, F_are_rows := F_are_rows, b_are_rows := F_are_rows.binds (ps := ["pages", "value"]) fun _ _ _ _ _ _ us hl => match us, hl with | [_, _], _ => rfl, g_are_rows := PySem.W.mg_of X G g_are_rows, f_are_news := f_are_news, fd_are_news := _, F_are_news := F_are_news, b_are_news := F_are_news.binds (ps := ["value"]) fun _ _ _ _ _ _ us hl => match us, hl with | [_], _ => rfl, g_are_news := PySem.W.mg_of X G g_are_news, f_pages_at := f_pages_at, fd_pages_at := _, F_pages_at := F_pages_at, b_pages_at := F_pages_at.binds (ps := ["pages", "news", "time"]) fun _ _ _ _ _ _ us hl => match us, hl with | [_, _, _], _ => rfl, g_pages_at := PySem.W.mg_of X G g_pages_at, f_can_be_made := f_can_be_made, fd_can_be_made := _, F_can_be_made := F_can_be_made, b_can_be_made := F_can_be_made.binds (ps := ["pages", "news", "spots", "before", "move"]) fun _ _ _ _ _ _ us hl => match us, hl with | [_, _, _, _, _], _ => rfl, g_can_be_made := PySem.W.mg_of X G g_can_be_made, f_first_wrong := f_first_wrong, fd_first_wrong := _, F_first_wrong := F_first_wrong, b_first_wrong := F_first_wrong.binds (ps := ["pages", "rows", "news", "moves"]) fun _ _ _ _ _ _ us hl => match us, hl with | [_, _, _, _], _ => rfl, g_first_wrong := PySem.W.mg_of X G g_first_wrong, f_Book_init := f_Book_init, fd_Book_init := _, F_Book_init := F_Book_init, A_Book_init_news := a_Book_init_news, tu_Book_init_news := fun _ => .inr ⟨_, _, _, l_Book_init_news, rfl, rfl, by show _ ≤ sizeLine; rw [sizeLine_eq]; exact Nat.le_of_ble_eq_true rfl, .nil⟩, A_Book_init_moves := a_Book_init_moves, tu_Book_init_moves := fun _ => .inr ⟨_, _, _, l_Book_init_moves, rfl, rfl, by show _ ≤ sizeLine; rw [sizeLine_eq]; exact Nat.le_of_ble_eq_true rfl, .nil⟩, b4_Book_init := F_Book_init.binds1 5 2 (fun z => (nomatch z)) rfl fun _ _ _ _ _ _ _ us its hl hi => match us, its, hl, hi with | [_, _, _, _, _], [_, _], _, _ => ⟨_, rfl, rfl⟩, mk_Book := ⟨mk_Book, m_Book_init, i_Book_init, kc_Book⟩, f_Book_pages := f_Book_pages, fd_Book_pages := _, F_Book_pages := F_Book_pages, b_Book_pages := F_Book_pages.binds (ps := ["self"]) fun _ _ _ _ _ _ us hl => match us, hl with | [_], _ => rfl, pa_Book_pages := pa_Book_pages, p_Book_pages := ⟨pt_Book_pages, pg_Book_pages, pk_Book_pages, ⟨_, pr_Book_pages⟩⟩, f_Book_rows := f_Book_rows, fd_Book_rows := _, F_Book_rows := F_Book_rows, b_Book_rows := F_Book_rows.binds (ps := ["self"]) fun _ _ _ _ _ _ us hl => match us, hl with | [_], _ => rfl, pa_Book_rows := pa_Book_rows, p_Book_rows := ⟨pt_Book_rows, pg_Book_rows, pk_Book_rows, ⟨_, pr_Book_rows⟩⟩, f_Book_news := f_Book_news, fd_Book_news := _, F_Book_news := F_Book_news, b_Book_news := F_Book_news.binds (ps := ["self"]) fun _ _ _ _ _ _ us hl => match us, hl with | [_], _ => rfl, pa_Book_news := pa_Book_news, p_Book_news := ⟨pt_Book_news, pg_Book_news, pk_Book_news, ⟨_, pr_Book_news⟩⟩, f_Book_moves := f_Book_moves, fd_Book_moves := _, F_Book_moves := F_Book_moves, b_Book_moves := F_Book_moves.binds (ps := ["self"]) fun _ _ _ _ _ _ us hl => match us, hl with | [_], _ => rfl, pa_Book_moves := pa_Book_moves, p_Book_moves := ⟨pt_Book_moves, pg_Book_moves, pk_Book_moves, ⟨_, pr_Book_moves⟩⟩, f_Book_len := f_Book_len, fd_Book_len := _, F_Book_len := F_Book_len, b_Book_len := F_Book_len.binds (ps := ["self"]) fun _ _ _ _ _ _ us hl => match us, hl with | [_], _ => rfl, m_Book_len := ⟨m_Book_len, i_Book_len, e_Book_len⟩, f_Book_check := f_Book_check, fd_Book_check := _, F_Book_check := F_Book_check, b_Book_check := F_Book_check.binds (ps := ["self", "row"]) fun _ _ _ _ _ _ us hl => match us, hl with | [_, _], _ => rfl, m_Book_check := ⟨m_Book_check, i_Book_check, e_Book_check⟩, f_Book_spot := f_Book_spot, fd_Book_spot := _, F_Book_spot := F_Book_spot, b_Book_spot := F_Book_spot.binds (ps := ["self", "row", "time"]) fun _ _ _ _ _ _ us hl => match us, hl with | [_, _, _], _ => rfl, m_Book_spot := ⟨m_Book_spot, i_Book_spot, e_Book_spot⟩, f_Book_place := f_Book_place, fd_Book_place := _, F_Book_place := F_Book_place, b_Book_place := F_Book_place.binds (ps := ["self", "row", "time"]) fun _ _ _ _ _ _ us hl => match us, hl with | [_, _, _], _ => rfl, m_Book_place := ⟨m_Book_place, i_Book_place, e_Book_place⟩, f_with_move := f_with_move, fd_with_move := _, F_with_move := F_with_move, b_with_move := F_with_move.binds (ps := ["book", "move"]) fun _ _ _ _ _ _ us hl => match us, hl with | [_, _], _ => rfl, g_with_move := PySem.W.mg_of X G g_with_move, f_Reader_init := f_Reader_init, fd_Reader_init := _, F_Reader_init := F_Reader_init, b3_Reader_init := F_Reader_init.binds1 4 2 (fun z => (nomatch z)) rfl fun _ _ _ _ _ _ _ us its hl hi => match us, its, hl, hi with | [_, _, _, _], [_, _], _, _ => ⟨_, rfl, rfl⟩, mk_Reader := ⟨mk_Reader, m_Reader_init, i_Reader_init, kc_Reader⟩, f_Reader_begin := f_Reader_begin, fd_Reader_begin := _, F_Reader_begin := F_Reader_begin, b_Reader_begin := F_Reader_begin.binds (ps := ["self"]) fun _ _ _ _ _ _ us hl => match us, hl with | [_], _ => rfl, pa_Reader_begin := pa_Reader_begin, p_Reader_begin := ⟨pt_Reader_begin, pg_Reader_begin, pk_Reader_begin, ⟨_, pr_Reader_begin⟩⟩, f_Reader_page := f_Reader_page, fd_Reader_page := _, F_Reader_page := F_Reader_page, b_Reader_page := F_Reader_page.binds (ps := ["self"]) fun _ _ _ _ _ _ us hl => match us, hl with | [_], _ => rfl, pa_Reader_page := pa_Reader_page, p_Reader_page := ⟨pt_Reader_page, pg_Reader_page, pk_Reader_page, ⟨_, pr_Reader_page⟩⟩, f_Reader_pace := f_Reader_pace, fd_Reader_pace := _, F_Reader_pace := F_Reader_pace, b_Reader_pace := F_Reader_pace.binds (ps := ["self"]) fun _ _ _ _ _ _ us hl => match us, hl with | [_], _ => rfl, pa_Reader_pace := pa_Reader_pace, p_Reader_pace := ⟨pt_Reader_pace, pg_Reader_pace, pk_Reader_pace, ⟨_, pr_Reader_pace⟩⟩, f_old_of := f_old_of, fd_old_of := _, F_old_of := F_old_of, b_old_of := F_old_of.binds (ps := ["book", "reader"]) fun _ _ _ _ _ _ us hl => match us, hl with | [_, _], _ => rfl, g_old_of := PySem.W.mg_of X G g_old_of, f_check_reader := f_check_reader, fd_check_reader := _, F_check_reader := F_check_reader, b_check_reader := F_check_reader.binds (ps := ["book", "reader"]) fun _ _ _ _ _ _ us hl => match us, hl with | [_, _], _ => rfl, g_check_reader := PySem.W.mg_of X G g_check_reader, f_all_visits := f_all_visits, fd_all_visits := _, F_all_visits := F_all_visits, b_all_visits := F_all_visits.binds (ps := ["book", "rule", "reader"]) fun _ _ _ _ _ _ us hl => match us, hl with | [_, _, _], _ => rfl, g_all_visits := PySem.W.mg_of X G g_all_visits, f_visits := f_visits, fd_visits := _, F_visits := F_visits, b_visits := F_visits.binds (ps := ["book", "rule", "reader"]) fun _ _ _ _ _ _ us hl => match us, hl with | [_, _, _], _ => rfl, g_visits := PySem.W.mg_of X G g_visits, f_end := f_end, fd_end := _, F_end := F_end, b_end := F_end.binds (ps := ["book", "rule", "reader"]) fun _ _ _ _ _ _ us hl => match us, hl with | [_, _, _], _ => rfl, g_end := PySem.W.mg_of X G g_end, f_home_of := f_home_of, fd_home_of := _, F_home_of := F_home_of, b_home_of := F_home_of.binds (ps := ["book", "reader", "row"]) fun _ _ _ _ _ _ us hl => match us, hl with | [_, _, _], _ => rfl, g_home_of := PySem.W.mg_of X G g_home_of, f_seen := f_seen, fd_seen := _, F_seen := F_seen, b_seen := F_seen.binds (ps := ["book", "rule", "reader", "row"]) fun _ _ _ _ _ _ us hl => match us, hl with | [_, _, _, _], _ => rfl, g_seen := PySem.W.mg_of X G g_seen, f_visited_before := f_visited_before, fd_visited_before := _, F_visited_before := F_visited_before, b_visited_before := F_visited_before.binds (ps := ["rows", "page", "time"]) fun _ _ _ _ _ _ us hl => match us, hl with | [_, _, _], _ => rfl, g_visited_before := PySem.W.mg_of X G g_visited_before, f_balance := f_balance, fd_balance := _, F_balance := F_balance, b_balance := F_balance.binds (ps := ["book", "rule", "reader", "row"]) fun _ _ _ _ _ _ us hl => match us, hl with | [_, _, _, _], _ => rfl, g_balance := PySem.W.mg_of X G g_balance, f_L_begin := f_L_begin, fd_L_begin := _, F_L_begin := F_L_begin, b_L_begin := F_L_begin.binds (ps := ["_law_script"]) fun _ _ _ _ _ _ us hl => match us, hl with | [_], _ => rfl, g_L_begin := PySem.W.mg_of X G g_L_begin, f_L_draw := f_L_draw, fd_L_draw := _, F_L_draw := F_L_draw, b_L_draw := F_L_draw.binds (ps := ["_law_source", "_law_limit"]) fun _ _ _ _ _ _ us hl => match us, hl with | [_, _], _ => rfl, g_L_draw := PySem.W.mg_of X G g_L_draw, f_L_case := f_L_case, fd_L_case := _, F_L_case := F_L_case, b_L_case := F_L_case.binds (ps := ["_law_source"]) fun _ _ _ _ _ _ us hl => match us, hl with | [_], _ => rfl, g_L_case := PySem.W.mg_of X G g_L_case, f_L_rule := f_L_rule, fd_L_rule := _, F_L_rule := F_L_rule, b_L_rule := F_L_rule.binds (ps := ["_law_case_here"]) fun _ _ _ _ _ _ us hl => match us, hl with | [_], _ => rfl, g_L_rule := PySem.W.mg_of X G g_L_rule, f_L_there := f_L_there, fd_L_there := _, F_L_there := F_L_there, b_L_there := F_L_there.binds (ps := ["_law_told_here", "_law_time"]) fun _ _ _ _ _ _ us hl => match us, hl with | [_, _], _ => rfl, g_L_there := PySem.W.mg_of X G g_L_there, f_L_place := f_L_place, fd_L_place := _, F_L_place := F_L_place, b_L_place := F_L_place.binds (ps := ["_law_told_here", "_law_row", "_law_time"]) fun _ _ _ _ _ _ us hl => match us, hl with | [_, _, _], _ => rfl, g_L_place := PySem.W.mg_of X G g_L_place, f_L_told := f_L_told, fd_L_told := _, F_L_told := F_L_told, b_L_told := F_L_told.binds (ps := ["_law_source", "_law_most", "_law_span"]) fun _ _ _ _ _ _ us hl => match us, hl with | [_, _, _], _ => rfl, g_L_told := PySem.W.mg_of X G g_L_told, f_L_book := f_L_book, fd_L_book := _, F_L_book := F_L_book, b_L_book := F_L_book.binds (ps := ["_law_told_here"]) fun _ _ _ _ _ _ us hl => match us, hl with | [_], _ => rfl, g_L_book := PySem.W.mg_of X G g_L_book, f_L_walker := f_L_walker, fd_L_walker := _, F_L_walker := F_L_walker, b_L_walker := F_L_walker.binds (ps := ["_law_source", "_law_told_here", "_law_span"]) fun _ _ _ _ _ _ us hl => match us, hl with | [_, _, _], _ => rfl, g_L_walker := PySem.W.mg_of X G g_L_walker, f_L_tried := f_L_tried, fd_L_tried := _, F_L_tried := F_L_tried, b_L_tried := F_L_tried.binds (ps := ["_law_book_here", "_law_move"]) fun _ _ _ _ _ _ us hl => match us, hl with | [_, _], _ => rfl, g_L_tried := PySem.W.mg_of X G g_L_tried, f_law := fa, fd_law := _, F_law := F_law, b_law := F_law.binds (ps := ["_law_script"]) fun _ _ _ _ _ _ us hl => match us, hl with | [_], _ => rfl, g_law := PySem.W.mg_of X G g_law }
  exact lawG_mk (fd := PySem.W.fnOf "law" "law" (defArgs s_law) (defBody s_law) (defScope s_law) .none kV_law dc_law pm_law an_law cd_law ct_law) (fun s v => .of_eq rfl) fun base _ _ => G_law T
end K29

set_option pp.maxSteps 400
open PySem PySem.W PyProof.Rows
set_option maxHeartbeats 0 in
theorem PySem.Challenge.cw_joinedrounds_k29_whole_moves_put_in_late_holds : PySem.Challenge.rw_joinedrounds_k29_whole_moves_put_in_late.Holds := by
  w_on; o_law; k_head; (case hw => w_witness2)
  k_fill
  refine J.walk_G (l := PySem.Challenge.rw_joinedrounds_k29_whole_moves_put_in_late) (n := 63) (k := 9) (x := "_law_script") rfl (by decide) rfl ⟨rfl, by decide, by decide⟩ (fun w h Y => PySem.W.kIn_of Y) ?F
  case F =>
    intro w mg fa h KX G hmg own
    refine' K29.all_mk KX G hmg ?z_all ?z_any ?z_bool ?z_int ?z_isinstance ?z_len ?z_list ?z_range ?z_sorted ?z_str ?z_tuple ?z_zip ?c_LAST_BEGIN ?c_LAST_PAGE ?c_MOST_MOVES ?c_MOST_NEWS ?c_MOST_PACE ?c_MOST_PAGES ?c_MOST_ROWS ?c_MOST_TIME ?c_MOVES ?c_PARTS ?c_WORDS ?l_MOVES ?l_MOVES_3 ?l_MOVES_2 ?l_MOVES_1 ?l_MOVES_0 ?l_PARTS ?l_WORDS ?kl_WORDS ?nd_WORDS_start ?nd_WORDS_fresh ?nd_WORDS_sees ?l_WORDS_2 ?l_WORDS_1 ?l_WORDS_0 ?g_Rule ?pg_Rule ?hd_Rule ?po_Rule ?sa_Rule ?na_Rule_kept_parts ?g_Book ?pg_Book ?hd_Book ?po_Book ?sa_Book ?na_Book_kept_pages ?na_Book_kept_rows ?na_Book_kept_news ?na_Book_kept_moves ?g_Reader ?pg_Reader ?hd_Reader ?po_Reader ?sa_Reader ?na_Reader_kept_begin ?na_Reader_kept_page ?na_Reader_kept_pace ?ha_Reader ?hn_Reader ?ht_Reader ?hm_Reader ?g_InvalidBook ?g_InvalidMove ?g_InvalidNumber ?g_RoundError ?z_super ?t_super ?ii_InvalidBook ?lx_InvalidBook ?lc_InvalidBook ?lk_InvalidBook ?hv_InvalidBook ?hf_InvalidBook ?xa_InvalidBook ?xi_InvalidBook ?em_InvalidBook ?em_InvalidBook_InvalidMove ?ii_InvalidMove ?lx_InvalidMove ?lc_InvalidMove ?lk_InvalidMove ?hv_InvalidMove ?hf_InvalidMove ?xa_InvalidMove ?xi_InvalidMove ?em_InvalidMove ?em_InvalidMove_InvalidMove ?ii_InvalidNumber ?lx_InvalidNumber ?lc_InvalidNumber ?lk_InvalidNumber ?hv_InvalidNumber ?hf_InvalidNumber ?xa_InvalidNumber ?xi_InvalidNumber ?em_InvalidNumber ?em_InvalidNumber_InvalidMove ?g_is_integer ?l_is_integer ?k_is_integer ?e_is_integer ?g_is_between ?l_is_between ?k_is_between ?e_is_between ?g_is_part_value ?l_is_part_value ?k_is_part_value ?e_is_part_value ?m_Rule_init ?i_Rule_init ?l_Rule_init ?k_Rule_init ?e_Rule_init ?kw_Rule_init_moves ?l_Rule_init_moves ?kw_Rule_init_start ?kw_Rule_init_fresh ?kw_Rule_init_sees ?mk_Rule ?kc_Rule ?pt_Rule_fresh ?pg_Rule_fresh ?pk_Rule_fresh ?pr_Rule_fresh ?l_Rule_fresh ?k_Rule_fresh ?e_Rule_fresh ?pt_Rule_sees ?pg_Rule_sees ?pk_Rule_sees ?pr_Rule_sees ?l_Rule_sees ?k_Rule_sees ?e_Rule_sees ?g_are_rows ?l_are_rows ?k_are_rows ?e_are_rows ?g_are_news ?l_are_news ?k_are_news ?e_are_news ?g_pages_at ?l_pages_at ?k_pages_at ?e_pages_at ?g_can_be_made ?l_can_be_made ?k_can_be_made ?e_can_be_made ?g_first_wrong ?l_first_wrong ?k_first_wrong ?e_first_wrong ?m_Book_init ?i_Book_init ?l_Book_init ?k_Book_init ?e_Book_init ?d_Book_init ?l_Book_init_news ?l_Book_init_moves ?mk_Book ?kc_Book ?pt_Book_pages ?pg_Book_pages ?pk_Book_pages ?pr_Book_pages ?l_Book_pages ?k_Book_pages ?e_Book_pages ?pt_Book_rows ?pg_Book_rows ?pk_Book_rows ?pr_Book_rows ?l_Book_rows ?k_Book_rows ?e_Book_rows ?pt_Book_news ?pg_Book_news ?pk_Book_news ?pr_Book_news ?l_Book_news ?k_Book_news ?e_Book_news ?pt_Book_moves ?pg_Book_moves ?pk_Book_moves ?pr_Book_moves ?l_Book_moves ?k_Book_moves ?e_Book_moves ?m_Book_len ?i_Book_len ?l_Book_len ?k_Book_len ?e_Book_len ?m_Book_check ?i_Book_check ?l_Book_check ?k_Book_check ?e_Book_check ?m_Book_spot ?i_Book_spot ?l_Book_spot ?k_Book_spot ?e_Book_spot ?m_Book_place ?i_Book_place ?l_Book_place ?k_Book_place ?e_Book_place ?g_with_move ?l_with_move ?k_with_move ?e_with_move ?m_Reader_init ?i_Reader_init ?l_Reader_init ?k_Reader_init ?e_Reader_init ?d_Reader_init ?mk_Reader ?kc_Reader ?pt_Reader_begin ?pg_Reader_begin ?pk_Reader_begin ?pr_Reader_begin ?l_Reader_begin ?k_Reader_begin ?e_Reader_begin ?pt_Reader_page ?pg_Reader_page ?pk_Reader_page ?pr_Reader_page ?l_Reader_page ?k_Reader_page ?e_Reader_page ?pt_Reader_pace ?pg_Reader_pace ?pk_Reader_pace ?pr_Reader_pace ?l_Reader_pace ?k_Reader_pace ?e_Reader_pace ?g_old_of ?l_old_of ?k_old_of ?e_old_of ?g_check_reader ?l_check_reader ?k_check_reader ?e_check_reader ?g_all_visits ?l_all_visits ?k_all_visits ?e_all_visits ?g_visits ?l_visits ?k_visits ?e_visits ?g_end ?l_end ?k_end ?e_end ?g_home_of ?l_home_of ?k_home_of ?e_home_of ?g_seen ?l_seen ?k_seen ?e_seen ?g_visited_before ?l_visited_before ?k_visited_before ?e_visited_before ?g_balance ?l_balance ?k_balance ?e_balance ?g_L_begin ?l_L_begin ?k_L_begin ?e_L_begin ?g_L_draw ?l_L_draw ?k_L_draw ?e_L_draw ?g_L_case ?l_L_case ?k_L_case ?e_L_case ?g_L_rule ?l_L_rule ?k_L_rule ?e_L_rule ?g_L_there ?l_L_there ?k_L_there ?e_L_there ?g_L_place ?l_L_place ?k_L_place ?e_L_place ?g_L_told ?l_L_told ?k_L_told ?e_L_told ?g_L_book ?l_L_book ?k_L_book ?e_L_book ?g_L_walker ?l_L_walker ?k_L_walker ?e_L_walker ?g_L_tried ?l_L_tried ?k_L_tried ?e_L_tried ?g_law ?l_law ?k_law ?e_law
    (case z_all => first | k_is | exact z_all_fails)
    (case z_any => first | k_is | exact z_any_fails)
    (case z_bool => first | k_is | exact z_bool_fails)
    (case z_int => first | k_is | exact z_int_fails)
    (case z_isinstance => first | k_is | exact z_isinstance_fails)
    (case z_len => first | k_is | exact z_len_fails)
    (case z_list => first | k_is | exact z_list_fails)
    (case z_range => first | k_is | exact z_range_fails)
    (case z_sorted => first | k_is | exact z_sorted_fails)
    (case z_str => first | k_is | exact z_str_fails)
    (case z_tuple => first | k_is | exact z_tuple_fails)
    (case z_zip => first | k_is | exact z_zip_fails)
    (case c_LAST_BEGIN => first | k_is | exact c_LAST_BEGIN_fails)
    (case c_LAST_PAGE => first | k_is | exact c_LAST_PAGE_fails)
    (case c_MOST_MOVES => first | k_is | exact c_MOST_MOVES_fails)
    (case c_MOST_NEWS => first | k_is | exact c_MOST_NEWS_fails)
    (case c_MOST_PACE => first | k_is | exact c_MOST_PACE_fails)
    (case c_MOST_PAGES => first | k_is | exact c_MOST_PAGES_fails)
    (case c_MOST_ROWS => first | k_is | exact c_MOST_ROWS_fails)
    (case c_MOST_TIME => first | k_is | exact c_MOST_TIME_fails)
    (case c_MOVES => first | k_is | exact c_MOVES_fails)
    (case c_PARTS => first | k_is | exact c_PARTS_fails)
    (case c_WORDS => first | k_is | exact c_WORDS_fails)
    (case l_MOVES => first | k_is | exact l_MOVES_fails)
    (case l_MOVES_3 => first | k_is | exact l_MOVES_3_fails)
    (case l_MOVES_2 => first | k_is | exact l_MOVES_2_fails)
    (case l_MOVES_1 => first | k_is | exact l_MOVES_1_fails)
    (case l_MOVES_0 => first | k_is | exact l_MOVES_0_fails)
    (case l_PARTS => first | k_is | exact l_PARTS_fails)
    (case l_WORDS => first | k_is | exact l_WORDS_fails)
    (case kl_WORDS => repeat (first | exact True.intro | refine ⟨⟨_, _, rfl, rfl⟩, ?_⟩))
    (case nd_WORDS_start => first | k_is | exact nd_WORDS_start_fails)
    (case nd_WORDS_fresh => first | k_is | exact nd_WORDS_fresh_fails)
    (case nd_WORDS_sees => first | k_is | exact nd_WORDS_sees_fails)
    (case l_WORDS_2 => first | k_is | exact l_WORDS_2_fails)
    (case l_WORDS_1 => first | k_is | exact l_WORDS_1_fails)
    (case l_WORDS_0 => first | k_is | exact l_WORDS_0_fails)
    (case g_Rule => first | k_is | exact g_Rule_fails)
    (case pg_Rule => first | k_is | exact pg_Rule_fails)
    (case hd_Rule => first | k_is | exact hd_Rule_fails)
    (case po_Rule => first | k_is | exact po_Rule_fails)
    (case sa_Rule => first | k_is | exact sa_Rule_fails)
    (case na_Rule_kept_parts => first | k_is | exact na_Rule_kept_parts_fails)
    (case g_Book => first | k_is | exact g_Book_fails)
    (case pg_Book => first | k_is | exact pg_Book_fails)
    (case hd_Book => first | k_is | exact hd_Book_fails)
    (case po_Book => first | k_is | exact po_Book_fails)
    (case sa_Book => first | k_is | exact sa_Book_fails)
    (case na_Book_kept_pages => first | k_is | exact na_Book_kept_pages_fails)
    (case na_Book_kept_rows => first | k_is | exact na_Book_kept_rows_fails)
    (case na_Book_kept_news => first | k_is | exact na_Book_kept_news_fails)
    (case na_Book_kept_moves => first | k_is | exact na_Book_kept_moves_fails)
    (case g_Reader => first | k_is | exact g_Reader_fails)
    (case pg_Reader => first | k_is | exact pg_Reader_fails)
    (case hd_Reader => first | k_is | exact hd_Reader_fails)
    (case po_Reader => first | k_is | exact po_Reader_fails)
    (case sa_Reader => first | k_is | exact sa_Reader_fails)
    (case na_Reader_kept_begin => first | k_is | exact na_Reader_kept_begin_fails)
    (case na_Reader_kept_page => first | k_is | exact na_Reader_kept_page_fails)
    (case na_Reader_kept_pace => first | k_is | exact na_Reader_kept_pace_fails)
    (case ha_Reader => first | k_is | exact ha_Reader_fails)
    (case hn_Reader => first | k_is | exact hn_Reader_fails)
    (case ht_Reader => first | k_is | exact ht_Reader_fails)
    (case hm_Reader => first | k_is | exact hm_Reader_fails)
    (case g_InvalidBook => first | k_is | exact g_InvalidBook_fails)
    (case g_InvalidMove => first | k_is | exact g_InvalidMove_fails)
    (case g_InvalidNumber => first | k_is | exact g_InvalidNumber_fails)
    (case g_RoundError => first | k_is | exact g_RoundError_fails)
    (case z_super => first | k_is | exact z_super_fails)
    (case t_super => first | kernel_rfl | exact t_super_fails)
    (case ii_InvalidBook => first | k_is | exact ii_InvalidBook_fails)
    (case lx_InvalidBook => first | k_is | exact lx_InvalidBook_fails)
    (case lc_InvalidBook => first | k_is | exact lc_InvalidBook_fails)
    (case lk_InvalidBook => first | k_is | exact lk_InvalidBook_fails)
    (case hv_InvalidBook => first | exact rfl | exact hv_InvalidBook_fails)
    (case hf_InvalidBook => first | kernel_rfl | exact hf_InvalidBook_fails)
    (case xa_InvalidBook => first | kernel_rfl | exact xa_InvalidBook_fails)
    (case xi_InvalidBook => first | kernel_rfl | exact xi_InvalidBook_fails)
    (case em_InvalidBook => first | kernel_rfl | exact em_InvalidBook_fails)
    (case em_InvalidBook_InvalidMove => first | kernel_rfl | exact em_InvalidBook_InvalidMove_fails)
    (case ii_InvalidMove => first | k_is | exact ii_InvalidMove_fails)
    (case lx_InvalidMove => first | k_is | exact lx_InvalidMove_fails)
    (case lc_InvalidMove => first | k_is | exact lc_InvalidMove_fails)
    (case lk_InvalidMove => first | k_is | exact lk_InvalidMove_fails)
    (case hv_InvalidMove => first | exact rfl | exact hv_InvalidMove_fails)
    (case hf_InvalidMove => first | kernel_rfl | exact hf_InvalidMove_fails)
    (case xa_InvalidMove => first | kernel_rfl | exact xa_InvalidMove_fails)
    (case xi_InvalidMove => first | kernel_rfl | exact xi_InvalidMove_fails)
    (case em_InvalidMove => first | kernel_rfl | exact em_InvalidMove_fails)
    (case em_InvalidMove_InvalidMove => first | kernel_rfl | exact em_InvalidMove_InvalidMove_fails)
    (case ii_InvalidNumber => first | k_is | exact ii_InvalidNumber_fails)
    (case lx_InvalidNumber => first | k_is | exact lx_InvalidNumber_fails)
    (case lc_InvalidNumber => first | k_is | exact lc_InvalidNumber_fails)
    (case lk_InvalidNumber => first | k_is | exact lk_InvalidNumber_fails)
    (case hv_InvalidNumber => first | exact rfl | exact hv_InvalidNumber_fails)
    (case hf_InvalidNumber => first | kernel_rfl | exact hf_InvalidNumber_fails)
    (case xa_InvalidNumber => first | kernel_rfl | exact xa_InvalidNumber_fails)
    (case xi_InvalidNumber => first | kernel_rfl | exact xi_InvalidNumber_fails)
    (case em_InvalidNumber => first | kernel_rfl | exact em_InvalidNumber_fails)
    (case em_InvalidNumber_InvalidMove => first | kernel_rfl | exact em_InvalidNumber_InvalidMove_fails)
    (case g_is_integer => first | k_is | exact g_is_integer_fails)
    (case l_is_integer => first | k_is | exact l_is_integer_fails)
    (case k_is_integer => first | k_is | exact k_is_integer_fails)
    (case e_is_integer => first | k_is | exact e_is_integer_fails)
    (case g_is_between => first | k_is | exact g_is_between_fails)
    (case l_is_between => first | k_is | exact l_is_between_fails)
    (case k_is_between => first | k_is | exact k_is_between_fails)
    (case e_is_between => first | k_is | exact e_is_between_fails)
    (case g_is_part_value => first | k_is | exact g_is_part_value_fails)
    (case l_is_part_value => first | k_is | exact l_is_part_value_fails)
    (case k_is_part_value => first | k_is | exact k_is_part_value_fails)
    (case e_is_part_value => first | k_is | exact e_is_part_value_fails)
    (case m_Rule_init => first | k_is | exact m_Rule_init_fails)
    (case i_Rule_init => first | k_is | exact i_Rule_init_fails)
    (case l_Rule_init => first | k_is | exact l_Rule_init_fails)
    (case k_Rule_init => first | k_is | exact k_Rule_init_fails)
    (case e_Rule_init => first | k_is | exact e_Rule_init_fails)
    (case kw_Rule_init_moves => first | k_is | exact kw_Rule_init_moves_fails)
    (case l_Rule_init_moves => first | k_is | exact l_Rule_init_moves_fails)
    (case kw_Rule_init_start => first | k_is | exact kw_Rule_init_start_fails)
    (case kw_Rule_init_fresh => first | k_is | exact kw_Rule_init_fresh_fails)
    (case kw_Rule_init_sees => first | k_is | exact kw_Rule_init_sees_fails)
    (case mk_Rule => first | k_is | exact mk_Rule_fails)
    (case kc_Rule => first | k_is | exact kc_Rule_fails)
    (case pt_Rule_fresh => first | k_is | exact pt_Rule_fresh_fails)
    (case pg_Rule_fresh => first | k_is | exact pg_Rule_fresh_fails)
    (case pk_Rule_fresh => first | k_is | exact pk_Rule_fresh_fails)
    (case pr_Rule_fresh => first | k_is | exact pr_Rule_fresh_fails)
    (case l_Rule_fresh => first | k_is | exact l_Rule_fresh_fails)
    (case k_Rule_fresh => first | k_is | exact k_Rule_fresh_fails)
    (case e_Rule_fresh => first | k_is | exact e_Rule_fresh_fails)
    (case pt_Rule_sees => first | k_is | exact pt_Rule_sees_fails)
    (case pg_Rule_sees => first | k_is | exact pg_Rule_sees_fails)
    (case pk_Rule_sees => first | k_is | exact pk_Rule_sees_fails)
    (case pr_Rule_sees => first | k_is | exact pr_Rule_sees_fails)
    (case l_Rule_sees => first | k_is | exact l_Rule_sees_fails)
    (case k_Rule_sees => first | k_is | exact k_Rule_sees_fails)
    (case e_Rule_sees => first | k_is | exact e_Rule_sees_fails)
    (case g_are_rows => first | k_is | exact g_are_rows_fails)
    (case l_are_rows => first | k_is | exact l_are_rows_fails)
    (case k_are_rows => first | k_is | exact k_are_rows_fails)
    (case e_are_rows => first | k_is | exact e_are_rows_fails)
    (case g_are_news => first | k_is | exact g_are_news_fails)
    (case l_are_news => first | k_is | exact l_are_news_fails)
    (case k_are_news => first | k_is | exact k_are_news_fails)
    (case e_are_news => first | k_is | exact e_are_news_fails)
    (case g_pages_at => first | k_is | exact g_pages_at_fails)
    (case l_pages_at => first | k_is | exact l_pages_at_fails)
    (case k_pages_at => first | k_is | exact k_pages_at_fails)
    (case e_pages_at => first | k_is | exact e_pages_at_fails)
    (case g_can_be_made => first | k_is | exact g_can_be_made_fails)
    (case l_can_be_made => first | k_is | exact l_can_be_made_fails)
    (case k_can_be_made => first | k_is | exact k_can_be_made_fails)
    (case e_can_be_made => first | k_is | exact e_can_be_made_fails)
    (case g_first_wrong => first | k_is | exact g_first_wrong_fails)
    (case l_first_wrong => first | k_is | exact l_first_wrong_fails)
    (case k_first_wrong => first | k_is | exact k_first_wrong_fails)
    (case e_first_wrong => first | k_is | exact e_first_wrong_fails)
    (case m_Book_init => first | k_is | exact m_Book_init_fails)
    (case i_Book_init => first | k_is | exact i_Book_init_fails)
    (case l_Book_init => first | k_is | exact l_Book_init_fails)
    (case k_Book_init => first | k_is | exact k_Book_init_fails)
    (case e_Book_init => first | k_is | exact e_Book_init_fails)
    (case d_Book_init => first | k_is | exact d_Book_init_fails)
    (case l_Book_init_news => first | k_is | exact l_Book_init_news_fails)
    (case l_Book_init_moves => first | k_is | exact l_Book_init_moves_fails)
    (case mk_Book => first | k_is | exact mk_Book_fails)
    (case kc_Book => first | k_is | exact kc_Book_fails)
    (case pt_Book_pages => first | k_is | exact pt_Book_pages_fails)
    (case pg_Book_pages => first | k_is | exact pg_Book_pages_fails)
    (case pk_Book_pages => first | k_is | exact pk_Book_pages_fails)
    (case pr_Book_pages => first | k_is | exact pr_Book_pages_fails)
    (case l_Book_pages => first | k_is | exact l_Book_pages_fails)
    (case k_Book_pages => first | k_is | exact k_Book_pages_fails)
    (case e_Book_pages => first | k_is | exact e_Book_pages_fails)
    (case pt_Book_rows => first | k_is | exact pt_Book_rows_fails)
    (case pg_Book_rows => first | k_is | exact pg_Book_rows_fails)
    (case pk_Book_rows => first | k_is | exact pk_Book_rows_fails)
    (case pr_Book_rows => first | k_is | exact pr_Book_rows_fails)
    (case l_Book_rows => first | k_is | exact l_Book_rows_fails)
    (case k_Book_rows => first | k_is | exact k_Book_rows_fails)
    (case e_Book_rows => first | k_is | exact e_Book_rows_fails)
    (case pt_Book_news => first | k_is | exact pt_Book_news_fails)
    (case pg_Book_news => first | k_is | exact pg_Book_news_fails)
    (case pk_Book_news => first | k_is | exact pk_Book_news_fails)
    (case pr_Book_news => first | k_is | exact pr_Book_news_fails)
    (case l_Book_news => first | k_is | exact l_Book_news_fails)
    (case k_Book_news => first | k_is | exact k_Book_news_fails)
    (case e_Book_news => first | k_is | exact e_Book_news_fails)
    (case pt_Book_moves => first | k_is | exact pt_Book_moves_fails)
    (case pg_Book_moves => first | k_is | exact pg_Book_moves_fails)
    (case pk_Book_moves => first | k_is | exact pk_Book_moves_fails)
    (case pr_Book_moves => first | k_is | exact pr_Book_moves_fails)
    (case l_Book_moves => first | k_is | exact l_Book_moves_fails)
    (case k_Book_moves => first | k_is | exact k_Book_moves_fails)
    (case e_Book_moves => first | k_is | exact e_Book_moves_fails)
    (case m_Book_len => first | k_is | exact m_Book_len_fails)
    (case i_Book_len => first | k_is | exact i_Book_len_fails)
    (case l_Book_len => first | k_is | exact l_Book_len_fails)
    (case k_Book_len => first | k_is | exact k_Book_len_fails)
    (case e_Book_len => first | k_is | exact e_Book_len_fails)
    (case m_Book_check => first | k_is | exact m_Book_check_fails)
    (case i_Book_check => first | k_is | exact i_Book_check_fails)
    (case l_Book_check => first | k_is | exact l_Book_check_fails)
    (case k_Book_check => first | k_is | exact k_Book_check_fails)
    (case e_Book_check => first | k_is | exact e_Book_check_fails)
    (case m_Book_spot => first | k_is | exact m_Book_spot_fails)
    (case i_Book_spot => first | k_is | exact i_Book_spot_fails)
    (case l_Book_spot => first | k_is | exact l_Book_spot_fails)
    (case k_Book_spot => first | k_is | exact k_Book_spot_fails)
    (case e_Book_spot => first | k_is | exact e_Book_spot_fails)
    (case m_Book_place => first | k_is | exact m_Book_place_fails)
    (case i_Book_place => first | k_is | exact i_Book_place_fails)
    (case l_Book_place => first | k_is | exact l_Book_place_fails)
    (case k_Book_place => first | k_is | exact k_Book_place_fails)
    (case e_Book_place => first | k_is | exact e_Book_place_fails)
    (case g_with_move => first | k_is | exact g_with_move_fails)
    (case l_with_move => first | k_is | exact l_with_move_fails)
    (case k_with_move => first | k_is | exact k_with_move_fails)
    (case e_with_move => first | k_is | exact e_with_move_fails)
    (case m_Reader_init => first | k_is | exact m_Reader_init_fails)
    (case i_Reader_init => first | k_is | exact i_Reader_init_fails)
    (case l_Reader_init => first | k_is | exact l_Reader_init_fails)
    (case k_Reader_init => first | k_is | exact k_Reader_init_fails)
    (case e_Reader_init => first | k_is | exact e_Reader_init_fails)
    (case d_Reader_init => first | k_is | exact d_Reader_init_fails)
    (case mk_Reader => first | k_is | exact mk_Reader_fails)
    (case kc_Reader => first | k_is | exact kc_Reader_fails)
    (case pt_Reader_begin => first | k_is | exact pt_Reader_begin_fails)
    (case pg_Reader_begin => first | k_is | exact pg_Reader_begin_fails)
    (case pk_Reader_begin => first | k_is | exact pk_Reader_begin_fails)
    (case pr_Reader_begin => first | k_is | exact pr_Reader_begin_fails)
    (case l_Reader_begin => first | k_is | exact l_Reader_begin_fails)
    (case k_Reader_begin => first | k_is | exact k_Reader_begin_fails)
    (case e_Reader_begin => first | k_is | exact e_Reader_begin_fails)
    (case pt_Reader_page => first | k_is | exact pt_Reader_page_fails)
    (case pg_Reader_page => first | k_is | exact pg_Reader_page_fails)
    (case pk_Reader_page => first | k_is | exact pk_Reader_page_fails)
    (case pr_Reader_page => first | k_is | exact pr_Reader_page_fails)
    (case l_Reader_page => first | k_is | exact l_Reader_page_fails)
    (case k_Reader_page => first | k_is | exact k_Reader_page_fails)
    (case e_Reader_page => first | k_is | exact e_Reader_page_fails)
    (case pt_Reader_pace => first | k_is | exact pt_Reader_pace_fails)
    (case pg_Reader_pace => first | k_is | exact pg_Reader_pace_fails)
    (case pk_Reader_pace => first | k_is | exact pk_Reader_pace_fails)
    (case pr_Reader_pace => first | k_is | exact pr_Reader_pace_fails)
    (case l_Reader_pace => first | k_is | exact l_Reader_pace_fails)
    (case k_Reader_pace => first | k_is | exact k_Reader_pace_fails)
    (case e_Reader_pace => first | k_is | exact e_Reader_pace_fails)
    (case g_old_of => first | k_is | exact g_old_of_fails)
    (case l_old_of => first | k_is | exact l_old_of_fails)
    (case k_old_of => first | k_is | exact k_old_of_fails)
    (case e_old_of => first | k_is | exact e_old_of_fails)
    (case g_check_reader => first | k_is | exact g_check_reader_fails)
    (case l_check_reader => first | k_is | exact l_check_reader_fails)
    (case k_check_reader => first | k_is | exact k_check_reader_fails)
    (case e_check_reader => first | k_is | exact e_check_reader_fails)
    (case g_all_visits => first | k_is | exact g_all_visits_fails)
    (case l_all_visits => first | k_is | exact l_all_visits_fails)
    (case k_all_visits => first | k_is | exact k_all_visits_fails)
    (case e_all_visits => first | k_is | exact e_all_visits_fails)
    (case g_visits => first | k_is | exact g_visits_fails)
    (case l_visits => first | k_is | exact l_visits_fails)
    (case k_visits => first | k_is | exact k_visits_fails)
    (case e_visits => first | k_is | exact e_visits_fails)
    (case g_end => first | k_is | exact g_end_fails)
    (case l_end => first | k_is | exact l_end_fails)
    (case k_end => first | k_is | exact k_end_fails)
    (case e_end => first | k_is | exact e_end_fails)
    (case g_home_of => first | k_is | exact g_home_of_fails)
    (case l_home_of => first | k_is | exact l_home_of_fails)
    (case k_home_of => first | k_is | exact k_home_of_fails)
    (case e_home_of => first | k_is | exact e_home_of_fails)
    (case g_seen => first | k_is | exact g_seen_fails)
    (case l_seen => first | k_is | exact l_seen_fails)
    (case k_seen => first | k_is | exact k_seen_fails)
    (case e_seen => first | k_is | exact e_seen_fails)
    (case g_visited_before => first | k_is | exact g_visited_before_fails)
    (case l_visited_before => first | k_is | exact l_visited_before_fails)
    (case k_visited_before => first | k_is | exact k_visited_before_fails)
    (case e_visited_before => first | k_is | exact e_visited_before_fails)
    (case g_balance => first | k_is | exact g_balance_fails)
    (case l_balance => first | k_is | exact l_balance_fails)
    (case k_balance => first | k_is | exact k_balance_fails)
    (case e_balance => first | k_is | exact e_balance_fails)
    (case g_L_begin => first | k_is | exact g_L_begin_fails)
    (case l_L_begin => first | k_is | exact l_L_begin_fails)
    (case k_L_begin => first | k_is | exact k_L_begin_fails)
    (case e_L_begin => first | k_is | exact e_L_begin_fails)
    (case g_L_draw => first | k_is | exact g_L_draw_fails)
    (case l_L_draw => first | k_is | exact l_L_draw_fails)
    (case k_L_draw => first | k_is | exact k_L_draw_fails)
    (case e_L_draw => first | k_is | exact e_L_draw_fails)
    (case g_L_case => first | k_is | exact g_L_case_fails)
    (case l_L_case => first | k_is | exact l_L_case_fails)
    (case k_L_case => first | k_is | exact k_L_case_fails)
    (case e_L_case => first | k_is | exact e_L_case_fails)
    (case g_L_rule => first | k_is | exact g_L_rule_fails)
    (case l_L_rule => first | k_is | exact l_L_rule_fails)
    (case k_L_rule => first | k_is | exact k_L_rule_fails)
    (case e_L_rule => first | k_is | exact e_L_rule_fails)
    (case g_L_there => first | k_is | exact g_L_there_fails)
    (case l_L_there => first | k_is | exact l_L_there_fails)
    (case k_L_there => first | k_is | exact k_L_there_fails)
    (case e_L_there => first | k_is | exact e_L_there_fails)
    (case g_L_place => first | k_is | exact g_L_place_fails)
    (case l_L_place => first | k_is | exact l_L_place_fails)
    (case k_L_place => first | k_is | exact k_L_place_fails)
    (case e_L_place => first | k_is | exact e_L_place_fails)
    (case g_L_told => first | k_is | exact g_L_told_fails)
    (case l_L_told => first | k_is | exact l_L_told_fails)
    (case k_L_told => first | k_is | exact k_L_told_fails)
    (case e_L_told => first | k_is | exact e_L_told_fails)
    (case g_L_book => first | k_is | exact g_L_book_fails)
    (case l_L_book => first | k_is | exact l_L_book_fails)
    (case k_L_book => first | k_is | exact k_L_book_fails)
    (case e_L_book => first | k_is | exact e_L_book_fails)
    (case g_L_walker => first | k_is | exact g_L_walker_fails)
    (case l_L_walker => first | k_is | exact l_L_walker_fails)
    (case k_L_walker => first | k_is | exact k_L_walker_fails)
    (case e_L_walker => first | k_is | exact e_L_walker_fails)
    (case g_L_tried => first | k_is | exact g_L_tried_fails)
    (case l_L_tried => first | k_is | exact l_L_tried_fails)
    (case k_L_tried => first | k_is | exact k_L_tried_fails)
    (case e_L_tried => first | k_is | exact e_L_tried_fails)
    (case g_law => first | k_is | exact g_law_fails)
    (case l_law => first | k_is | exact l_law_fails)
    (case k_law => first | k_is | exact k_law_fails)
    (case e_law => first | k_is | exact e_law_fails)

