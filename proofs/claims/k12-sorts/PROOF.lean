import PyProof.Rows.All
import Wide.All
import OpenK.AllK
import Wide.FinOn
import HandS.ForMost
import HandS.IsInst
import HandS.Walk
import HandS.Evl
import HandS.Style
import HandS.Exc
import HandS.ExcInit
import HandS.ExcSuper
import HandS.Nested
import KE.KExcSuper
import HandS.TryMany
import HandS.ExcField
import HandS.ExcIs
import HandS.WordsExc
import HandS.Deep
import HandS.Dict
import HandS.Conv
import KE.KExcInit
import HandS.Defaults
import PySem.Challenge.RW_onetalk_k12_sorts_and_values
set_option Elab.async false
set_option linter.all false
set_option maxRecDepth 100000
set_option maxHeartbeats 4000000
/-! Typed readings: what a reading gives, over a known heap G within the heap H; at o (if any) stands a drawer that may change. -/
namespace Ty
open PySem L2
open Evl (Ex ex_l ex_t)

/-- a drawer: four cells -/
def BoxAt (H : Hp) (b : Addr) : Prop := ∃ (n : Int) (g : Bool) (r c : Int), H b = some (.lst [.int n, .bl g, .int r, .int c])
structure Kn (o : Option Addr) (G H : Hp) : Prop where
  sub : Ex G H
  box : ∀ b, o = some b → BoxAt H b ∧ G b = none
structure Go (o : Option Addr) (G H G' H' : Hp) : Prop where
  gg : Ex G G'
  kn : Kn o G' H'
  kp : ∀ a x, H a = some x → o ≠ some a → H' a = some x
  nw : ∀ a, G a = none → H a ≠ none → G' a = none
abbrev T := Hp → V → Prop
/-- t holds of v from G on -/
def U (t : T) (G : Hp) (v : V) : Prop := ∀ G', Ex G G' → t G' v
theorem U.up {t : T} {G G' : Hp} {v : V} (u : U t G v) (e : Ex G G') : U t G' v := fun G2 e2 => u G2 (e.trans e2)
theorem U.now {t : T} {G : Hp} {v : V} (u : U t G v) : t G v := u G (Ex.refl G)
theorem U.imp {t s : T} {G : Hp} {v : V} (u : U t G v) (h : ∀ G', Ex G G' → t G' v → s G' v) : U s G v := fun G' e => h G' e (u G' e)
section
variable {o : Option Addr} {G H G1 H1 G2 H2 : Hp}
theorem Go.refl (k : Kn o G H) : Go o G H G H := ⟨Ex.refl G, k, fun _ _ h _ => h, fun _ h _ => h⟩
theorem Go.trans (a : Go o G H G1 H1) (b : Go o G1 H1 G2 H2) : Go o G H G2 H2 where
  gg := a.gg.trans b.gg
  kn := b.kn
  kp := fun x y h n => b.kp x y (a.kp x y h n) n
  nw := fun x g h => by
    by_cases hx : o = some x
    · exact (b.kn.box x hx).2
    · cases e : H x with
      | none => exact absurd e h
      | some y => exact b.nw x (a.nw x g h) (by rw [a.kp x y e hx]; simp)
theorem Kn.pure (k : Kn o G H) : Kn .none G H := ⟨k.sub, fun _ z => by cases z⟩
theorem Go.pure (k : Kn o G H) (a : Go .none G H G1 H1) : Go o G H G1 H1 := by
  refine ⟨a.gg, ⟨a.kn.sub, fun b z => ?_⟩, fun x y h _ => a.kp x y h (by simp), a.nw⟩
  obtain ⟨⟨n, g, r, c, e⟩, q⟩ := k.box b z
  exact ⟨⟨n, g, r, c, a.kp b _ e (by simp)⟩, a.nw b q (by rw [e]; simp)⟩
/-- a new object is known -/
theorem Go.new (k : Kn o G H) {p : Addr} {x : HO} (hp : H p = none) : Go o G H (upd G p x) (upd H p x) := by
  have gp : G p = none := Evl.fresh_back k.sub hp
  have bp : ∀ b, o = some b → b ≠ p := fun b z e => by
    obtain ⟨⟨n, g, r, c, q⟩, _⟩ := k.box b z
    rw [e, hp] at q
    cases q
  refine ⟨Ex.new gp, ⟨fun a y h => ?_, fun b z => ?_⟩, fun a y h _ => ?_, fun a h n => ?_⟩
  · by_cases e : a = p
    · subst e; rw [upd_same] at h ⊢; exact h
    · rw [upd_ne e] at h ⊢; exact k.sub a y h
  · obtain ⟨⟨n, g, r, c, q⟩, q2⟩ := k.box b z
    exact ⟨⟨n, g, r, c, by rw [upd_ne (bp b z)]; exact q⟩, by rw [upd_ne (bp b z)]; exact q2⟩
  · rw [upd_ne (ne_of_none h hp)]; exact h
  · by_cases e : a = p
    · subst e; exact absurd hp n
    · rw [upd_ne e]; exact h
/-- a new object that is not known -/
theorem Go.tmp (k : Kn o G H) {p : Addr} {x : HO} (hp : H p = none) : Go o G H G (upd H p x) := by
  have bp : ∀ b, o = some b → b ≠ p := fun b z e => by
    obtain ⟨⟨n, g, r, c, q⟩, _⟩ := k.box b z
    rw [e, hp] at q
    cases q
  refine ⟨Ex.refl G, ⟨k.sub.trans (Ex.new hp), fun b z => ?_⟩, fun a y h _ => ?_, fun a h _ => h⟩
  · obtain ⟨⟨n, g, r, c, q⟩, q2⟩ := k.box b z
    exact ⟨⟨n, g, r, c, by rw [upd_ne (bp b z)]; exact q⟩, q2⟩
  · rw [upd_ne (ne_of_none h hp)]; exact h
/-- what is not known may be known from here on -/
theorem Go.fix (a : Go o G H G1 H1) {p : Addr} {x : HO} (hp : H p = none) (h : H1 p = some x) (g : G1 p = none) (ho : o ≠ some p) : Go o G H (upd G1 p x) H1 := by
  refine ⟨a.gg.trans (Ex.new g), ⟨fun c y q => ?_, fun b z => ?_⟩, a.kp, fun c q n => ?_⟩
  · by_cases e : c = p
    · subst e; rw [upd_same] at q; rw [← q]; exact h
    · rw [upd_ne e] at q; exact a.kn.sub c y q
  · obtain ⟨q, q2⟩ := a.kn.box b z
    exact ⟨q, by rw [upd_ne (fun e => ho (by rw [z, e]))]; exact q2⟩
  · by_cases e : c = p
    · subst e; exact absurd hp n
    · rw [upd_ne e]; exact a.nw c q n
end

abbrev PL := Hp → List V → Prop
/-- P holds of xs from G on -/
def UP (P : PL) (G : Hp) (xs : List V) : Prop := ∀ G', Ex G G' → P G' xs
theorem UP.up {P : PL} {G G' : Hp} {xs : List V} (u : UP P G xs) (e : Ex G G') : UP P G' xs := fun G2 e2 => u G2 (e.trans e2)
theorem UP.now {P : PL} {G : Hp} {xs : List V} (u : UP P G xs) : P G xs := u G (Ex.refl G)
/-! ### judgements over readings -/
def Ev (o : Option Addr) (te : TE) (σ : L2.St) (G : Hp) (t : T) : Prop := ∀ G1 H1, Ex G G1 → Kn o G1 H1 → ∀ Q : VK, (∀ v G2 H2, Go o G1 H1 G2 H2 → U t G2 v → Q v H2) → te σ H1 Q
/-- a new list, not yet known -/
def EvN (o : Option Addr) (te : TE) (σ : L2.St) (G : Hp) (P : Hp → List V → Prop) : Prop := ∀ G1 H1, Ex G G1 → Kn o G1 H1 → ∀ Q : VK,
  (∀ p xs G2 H2, Go o G1 H1 G2 H2 → H1 p = none → H2 p = some (.lst xs) → G2 p = none → UP P G2 xs → Q (.ref p) H2) → te σ H1 Q
def EvT (o : Option Addr) (tt : TT) (σ : L2.St) (G : Hp) (p : Bool → Prop) : Prop := ∀ G1 H1, Ex G G1 → Kn o G1 H1 → ∀ Q : Bool → Hp → Prop, (∀ b G2 H2, Go o G1 H1 G2 H2 → p b → Q b H2) → tt σ H1 Q
inductive AllU (G : Hp) : List T → List V → Prop
  | nil : AllU G [] []
  | cons {t : T} {ts : List T} {v : V} {vs : List V} : U t G v → AllU G ts vs → AllU G (t :: ts) (v :: vs)
theorem AllU.up {G G' : Hp} (e : Ex G G') : ∀ {ts : List T} {vs : List V}, AllU G ts vs → AllU G' ts vs
  | _, _, .nil => .nil
  | _, _, .cons a r => .cons (a.up e) (r.up e)
def EvA (o : Option Addr) (ta : TA) (σ : L2.St) (G : Hp) (ts : List T) : Prop := ∀ G1 H1, Ex G G1 → Kn o G1 H1 → ∀ Q : List V → Hp → Prop, (∀ vs G2 H2, Go o G1 H1 G2 H2 → AllU G2 ts vs → Q vs H2) → ta σ H1 Q
/-- operations by values -/
def RO (o : Option Addr) (r : R2) (x y : V) (G : Hp) (t : T) : Prop := ∀ G1 H1, Ex G G1 → Kn o G1 H1 → ∀ Q : VK, (∀ v G2 H2, Go o G1 H1 G2 H2 → U t G2 v → Q v H2) → r x y H1 Q
def RU (o : Option Addr) (r : V → Hp → VK → Prop) (x : V) (G : Hp) (t : T) : Prop := ∀ G1 H1, Ex G G1 → Kn o G1 H1 → ∀ Q : VK, (∀ v G2 H2, Go o G1 H1 G2 H2 → U t G2 v → Q v H2) → r x H1 Q
def RC (o : Option Addr) (r : List V → Hp → VK → Prop) (vs : List V) (G : Hp) (t : T) : Prop := ∀ G1 H1, Ex G G1 → Kn o G1 H1 → ∀ Q : VK, (∀ v G2 H2, Go o G1 H1 G2 H2 → U t G2 v → Q v H2) → r vs H1 Q
/-- the type of one value -/
def tIs (x : V) : T := fun _ v => v = x
theorem u_is {x : V} {G : Hp} : U (tIs x) G x := fun _ _ => rfl
theorem U.eq {x v : V} {G : Hp} (u : U (tIs x) G v) : v = x := u.now

section
variable {o : Option Addr} {σ : L2.St} {G : Hp} {ta tb te tx : TE} {s t u : T} {tt tt' : TT} {x y v : V}
theorem Ev.up {G' : Hp} (h : Ev o te σ G t) (e : Ex G G') : Ev o te σ G' t := fun G1 H1 a => h G1 H1 (e.trans a)
theorem EvN.up {P : Hp → List V → Prop} {G' : Hp} (h : EvN o te σ G P) (e : Ex G G') : EvN o te σ G' P := fun G1 H1 a => h G1 H1 (e.trans a)
theorem EvT.up {p : Bool → Prop} {G' : Hp} (h : EvT o tt σ G p) (e : Ex G G') : EvT o tt σ G' p := fun G1 H1 a => h G1 H1 (e.trans a)
theorem EvA.up {ta : TA} {ts : List T} {G' : Hp} (h : EvA o ta σ G ts) (e : Ex G G') : EvA o ta σ G' ts := fun G1 H1 a => h G1 H1 (e.trans a)
theorem Ev.imp (h : Ev o te σ G t) (k : ∀ G' v, Ex G G' → U t G' v → U u G' v) : Ev o te σ G u := fun G1 H1 a kn Q q => h G1 H1 a kn Q fun v G2 H2 g w => q v G2 H2 g (k G2 v (a.trans g.gg) w)
theorem ev_var {i : Nat} (h : σ[i]? = some (some v)) (w : U t G v) : Ev o (tVar i) σ G t := fun G1 H1 a kn Q q => ⟨v, h, q v G1 H1 (.refl kn) (w.up a)⟩
theorem ev_x {i : Nat} (h : σ[i]? = some (some v)) : Ev o (tVar i) σ G (tIs v) := ev_var h u_is
theorem ev_c (w : U t G v) : Ev o (tC v) σ G t := fun G1 H1 a kn Q q => q v G1 H1 (.refl kn) (w.up a)
theorem ev_k : Ev o (tC v) σ G (tIs v) := ev_c u_is
theorem ev_op {r : R2} (ha : Ev o ta σ G s) (hb : Ev o tb σ G u) (hr : ∀ G' x y, Ex G G' → U s G' x → U u G' y → RO o r x y G' t) : Ev o (tOp r ta tb) σ G t := fun G1 H1 a kn Q q =>
  ha G1 H1 a kn _ fun x G2 H2 g2 w2 => hb G2 H2 (a.trans g2.gg) g2.kn _ fun y G3 H3 g3 w3 =>
    hr G3 x y ((a.trans g2.gg).trans g3.gg) (w2.up g3.gg) w3 G3 H3 (Ex.refl _) g3.kn Q fun z G4 H4 g4 w4 => q z G4 H4 ((g2.trans g3).trans g4) w4
/-- both of one value -/
theorem ev_op2 {r : R2} (ha : Ev o ta σ G (tIs x)) (hb : Ev o tb σ G (tIs y)) (hr : RO o r x y G t) : Ev o (tOp r ta tb) σ G t :=
  ev_op ha hb fun G' x' y' e hx hy => by
    rw [hx.eq, hy.eq]
    exact fun G1 H1 a => hr G1 H1 (e.trans a)
theorem ev_un {r : V → Hp → VK → Prop} (ha : Ev o ta σ G s) (hr : ∀ G' x, Ex G G' → U s G' x → RU o r x G' t) : Ev o (tUn r ta) σ G t := fun G1 H1 a kn Q q =>
  ha G1 H1 a kn _ fun x G2 H2 g2 w2 => hr G2 x (a.trans g2.gg) w2 G2 H2 (Ex.refl _) g2.kn Q fun z G4 H4 g4 w4 => q z G4 H4 (g2.trans g4) w4
theorem ea_nil : EvA o tNil σ G [] := fun G1 H1 a kn Q q => q [] G1 H1 (.refl kn) .nil
theorem ea_cons {tr : TA} {ts : List T} (ha : Ev o ta σ G s) (hr : EvA o tr σ G ts) : EvA o (tCons ta tr) σ G (s :: ts) := fun G1 H1 a kn Q q =>
  ha G1 H1 a kn _ fun x G2 H2 g2 w2 => hr G2 H2 (a.trans g2.gg) g2.kn _ fun xs G3 H3 g3 w3 => q (x :: xs) G3 H3 (g2.trans g3) (.cons (w2.up g3.gg) w3)
theorem ev_cb {r : List V → Hp → VK → Prop} {ta : TA} {ts : List T} (ha : EvA o ta σ G ts) (hr : ∀ G' vs, Ex G G' → AllU G' ts vs → RC o r vs G' t) : Ev o (tCB r ta) σ G t := fun G1 H1 a kn Q q =>
  ha G1 H1 a kn _ fun vs G2 H2 g2 w2 => hr G2 vs (a.trans g2.gg) w2 G2 H2 (Ex.refl _) g2.kn Q fun z G4 H4 g4 w4 => q z G4 H4 (g2.trans g4) w4
/-- operations that leave the heap as it is -/
theorem ro_q {r : R2} {z : V} (w : U t G z) (h : ∀ G1 H1, Ex G G1 → Kn o G1 H1 → ∀ Q : VK, Q z H1 → r x y H1 Q) : RO o r x y G t := fun G1 H1 a kn Q q => h G1 H1 a kn Q (q z G1 H1 (.refl kn) (w.up a))
theorem ru_q {r : V → Hp → VK → Prop} {z : V} (w : U t G z) (h : ∀ G1 H1, Ex G G1 → Kn o G1 H1 → ∀ Q : VK, Q z H1 → r x H1 Q) : RU o r x G t := fun G1 H1 a kn Q q => h G1 H1 a kn Q (q z G1 H1 (.refl kn) (w.up a))
theorem rc_q {r : List V → Hp → VK → Prop} {vs : List V} {z : V} (w : U t G z) (h : ∀ G1 H1, Ex G G1 → Kn o G1 H1 → ∀ Q : VK, Q z H1 → r vs H1 Q) : RC o r vs G t := fun G1 H1 a kn Q q => h G1 H1 a kn Q (q z G1 H1 (.refl kn) (w.up a))
/-- ints -/
theorem ro_I0 {g : Int → Int → V} {i j : Int} : RO o (rI0 g) (.int i) (.int j) G (tIs (g i j)) := ro_q u_is fun _ _ _ _ _ q => ⟨i, j, rfl, rfl, q⟩
theorem ro_I {C : Int → Int → Prop} {g : Int → Int → V} {i j : Int} (hc : C i j) : RO o (rI C g) (.int i) (.int j) G (tIs (g i j)) := ro_q u_is fun _ _ _ _ _ q => ⟨i, j, rfl, rfl, hc, q⟩
theorem ro_eq (h : scal x y = true) : RO o rEq x y G (tIs (.bl (decide (x = y)))) := ro_q u_is fun _ _ _ _ _ q => ⟨h, q⟩
theorem ro_ne (h : scal x y = true) : RO o rNe x y G (tIs (.bl (!decide (x = y)))) := ro_q u_is fun _ _ _ _ _ q => ⟨h, q⟩
/-- values of bools -/
theorem ev_and {a b : Bool} (h1 : Ev o ta σ G (tIs (.bl a))) (h2 : a = true → Ev o tb σ G (tIs (.bl b))) : Ev o (tAndV ta tb) σ G (tIs (.bl (a && b))) := fun G1 H1 e kn Q q =>
  h1 G1 H1 e kn _ fun x G2 H2 g2 w2 => ⟨a, w2.eq, by
    cases a with
    | true => exact h2 rfl G2 H2 (e.trans g2.gg) g2.kn Q fun z G3 H3 g3 w3 => q z G3 H3 (g2.trans g3) w3
    | false => exact q _ G2 H2 g2 u_is⟩
theorem ev_or {a b : Bool} (h1 : Ev o ta σ G (tIs (.bl a))) (h2 : a = false → Ev o tb σ G (tIs (.bl b))) : Ev o (tOrV ta tb) σ G (tIs (.bl (a || b))) := fun G1 H1 e kn Q q =>
  h1 G1 H1 e kn _ fun x G2 H2 g2 w2 => ⟨a, w2.eq, by
    cases a with
    | false => exact h2 rfl G2 H2 (e.trans g2.gg) g2.kn Q fun z G3 H3 g3 w3 => q z G3 H3 (g2.trans g3) w3
    | true => exact q _ G2 H2 g2 u_is⟩
theorem ev_not {a : Bool} (h1 : Ev o ta σ G (tIs (.bl a))) : Ev o (tNotV ta) σ G (tIs (.bl (!a))) := fun G1 H1 e kn Q q =>
  h1 G1 H1 e kn _ fun x G2 H2 g2 w2 => ⟨a, w2.eq, q _ G2 H2 g2 u_is⟩
theorem ev_to {a b : Bool} (h : Ev o ta σ G (tIs (.bl a))) (e : a = b) : Ev o ta σ G (tIs (.bl b)) := e ▸ h
/-- tests -/
theorem et_b {b : Bool} (h : Ev o te σ G (tIs (.bl b))) : EvT o (tB te) σ G (· = b) := fun G1 H1 e kn Q q => h G1 H1 e kn _ fun x G2 H2 g2 w2 => ⟨b, w2.eq, q b G2 H2 g2 rfl⟩
theorem et_test {b : Bool} (h : Ev o te σ G (tIs (.bl b))) : EvT o (tTest te) σ G (· = b) := fun G1 H1 e kn Q q => h G1 H1 e kn _ fun x G2 H2 g2 w2 => ⟨b, w2.eq, q b G2 H2 g2 rfl⟩
/-- .. of a bool that is not told -/
def tBool : T := fun _ v => ∃ b, v = .bl b
theorem et_bU (h : Ev o te σ G tBool) : EvT o (tB te) σ G (fun _ => True) := fun G1 H1 e kn Q q => h G1 H1 e kn _ fun x G2 H2 g2 w2 => by
  obtain ⟨b, e⟩ := w2.now
  exact ⟨b, e, q b G2 H2 g2 trivial⟩
theorem et_testU (h : Ev o te σ G tBool) : EvT o (tTest te) σ G (fun _ => True) := fun G1 H1 e kn Q q => h G1 H1 e kn _ fun x G2 H2 g2 w2 => by
  obtain ⟨b, e⟩ := w2.now
  exact ⟨b, e, q b G2 H2 g2 trivial⟩
theorem EvT.imp {p p' : Bool → Prop} (h : EvT o tt σ G p) (k : ∀ b, p b → p' b) : EvT o tt σ G p' := fun G1 H1 e kn Q q => h G1 H1 e kn Q fun b G2 H2 g w => q b G2 H2 g (k b w)
theorem EvT.to {a b : Bool} (h : EvT o tt σ G (· = a)) (e : a = b) : EvT o tt σ G (· = b) := e ▸ h
theorem et_and {a b : Bool} (h1 : EvT o tt σ G (· = a)) (h2 : a = true → EvT o tt' σ G (· = b)) : EvT o (tAnd tt tt') σ G (· = (a && b)) := fun G1 H1 e kn Q q => h1 G1 H1 e kn _ fun c G2 H2 g2 w2 => by
  subst w2
  cases c with
  | true => exact h2 rfl G2 H2 (e.trans g2.gg) g2.kn Q fun z G3 H3 g3 w3 => q z G3 H3 (g2.trans g3) w3
  | false => exact q false G2 H2 g2 rfl
theorem et_or {a b : Bool} (h1 : EvT o tt σ G (· = a)) (h2 : a = false → EvT o tt' σ G (· = b)) : EvT o (tOr tt tt') σ G (· = (a || b)) := fun G1 H1 e kn Q q => h1 G1 H1 e kn _ fun c G2 H2 g2 w2 => by
  subst w2
  cases c with
  | false => exact h2 rfl G2 H2 (e.trans g2.gg) g2.kn Q fun z G3 H3 g3 w3 => q z G3 H3 (g2.trans g3) w3
  | true => exact q true G2 H2 g2 rfl
theorem et_not {a : Bool} (h1 : EvT o tt σ G (· = a)) : EvT o (tNot tt) σ G (· = (!a)) := fun G1 H1 e kn Q q => h1 G1 H1 e kn _ fun c G2 H2 g2 w2 => q _ G2 H2 g2 (by rw [w2])
theorem ev_if {p : Bool → Prop} (h : EvT o tt σ G p) (h1 : p true → Ev o ta σ G t) (h2 : p false → Ev o tb σ G t) : Ev o (tIf tt ta tb) σ G t := fun G1 H1 e kn Q q => h G1 H1 e kn _ fun c G2 H2 g2 w2 => by
  cases c with
  | true => exact h1 w2 G2 H2 (e.trans g2.gg) g2.kn Q fun z G3 H3 g3 w3 => q z G3 H3 (g2.trans g3) w3
  | false => exact h2 w2 G2 H2 (e.trans g2.gg) g2.kn Q fun z G3 H3 g3 w3 => q z G3 H3 (g2.trans g3) w3
/-- tuples, lists made -/
def tTupU (K : PySem.W.Frag) (ts : List T) : T := fun G v => ∃ a vs, v = .ref a ∧ SqT K G a vs ∧ AllU G ts vs
def tLstU (K : PySem.W.Frag) (ts : List T) : T := fun G v => ∃ a vs, v = .ref a ∧ SqL K G a vs ∧ AllU G ts vs
theorem AllU.len {G : Hp} : ∀ {ts : List T} {vs : List V}, AllU G ts vs → vs.length = ts.length
  | _, _, .nil => rfl
  | _, _, .cons _ r => congrArg (· + 1) r.len
theorem ev_tup {K : PySem.W.Frag} {ta : TA} {ts : List T} (h : EvA o ta σ G ts) (hl : ts.length ≤ 100000) : Ev o (tTup ta) σ G (tTupU K ts) := fun G1 H1 e kn Q q =>
  h G1 H1 e kn _ fun vs G2 H2 g2 w2 => ⟨Evl.sz_of (by rw [w2.len]; exact hl), fun p hp => q _ _ _ (g2.trans (.new g2.kn hp)) fun G' e' => ⟨p, vs, rfl, .of (e' p _ upd_same), w2.up ((Ex.new (Evl.fresh_back g2.kn.sub hp)).trans e')⟩⟩
theorem en_lst {ta : TA} {ts : List T} (h : EvA o ta σ G ts) (hl : ts.length ≤ 100000) : EvN o (tLst ta) σ G (fun G' vs => AllU G' ts vs) := fun G1 H1 e kn Q q =>
  h G1 H1 e kn _ fun vs G2 H2 g2 w2 => ⟨Evl.sz_of (by rw [w2.len]; exact hl), fun p hp => q p vs G2 _ (g2.trans (.tmp g2.kn hp)) (by
    cases z : H1 p with
    | none => rfl
    | some y =>
      by_cases hb : o = some p
      · obtain ⟨⟨_, _, _, _, q2⟩, _⟩ := g2.kn.box p hb
        rw [hp] at q2; cases q2
      · rw [g2.kp p y z hb] at hp; cases hp) upd_same (Evl.fresh_back g2.kn.sub hp) fun G' e' => w2.up e'⟩
/-- a new list is known from here on -/
theorem EvN.ev {P : Hp → List V → Prop} (h : EvN o te σ G P) (k : ∀ G' a xs, Ex G G' → G' a = some (.lst xs) → UP P G' xs → t G' (.ref a)) : Ev o te σ G t := fun G1 H1 e kn Q q =>
  h G1 H1 e kn Q fun p xs G2 H2 g2 hp h2 n2 w2 => by
    have hob : o ≠ some p := fun z => by
      obtain ⟨⟨_, _, _, _, q2⟩, _⟩ := kn.box p z
      rw [hp] at q2; cases q2
    exact q (.ref p) _ H2 (g2.fix hp h2 n2 hob) fun G' e' => k G' p xs (((e.trans g2.gg).trans (Ex.new n2)).trans e') (e' p _ upd_same) (w2.up ((Ex.new n2).trans e'))
end
end Ty
set_option Elab.async false
set_option linter.all false
set_option maxRecDepth 100000
set_option maxHeartbeats 4000000
/-! Calls of own defs, walks, comprehensions, statements. -/
namespace Ty
open PySem L2
open Evl (Ex ex_l ex_t)

/-! ### promises -/
def spC (C : Option Addr → Hp → List V → T → Prop) : Sp := fun vs H Q _ => ∃ o G t, Kn o G H ∧ C o G vs t ∧ ∀ v G2 H2, Go o G H G2 H2 → U t G2 v → Q v H2
section
variable {o : Option Addr} {σ : L2.St} {G H : Hp} {ta tb te tx : TE} {s t u : T} {tt tt' : TT} {x y v : V}
theorem ev_call {C : Option Addr → Hp → List V → T → Prop} {E : XK} {ta : TA} {ts : List T} (ha : EvA o ta σ G ts)
    (hc : ∀ G' vs, Ex G G' → AllU G' ts vs → ∃ o' t', (o' = o ∨ o' = none) ∧ C o' G' vs t' ∧ ∀ G'' v, Ex G' G'' → U t' G'' v → U t G'' v) : Ev o (tCall (spC C) [] E ta) σ G t := fun G1 H1 a kn Q q =>
  ha G1 H1 a kn _ fun vs G2 H2 g2 w2 => by
    obtain ⟨o', t', ho, c, k⟩ := hc G2 vs (a.trans g2.gg) w2
    rw [List.append_nil]
    rcases ho with rfl | rfl
    · exact ⟨o', G2, t', g2.kn, c, fun v G3 H3 g3 w3 => q v G3 H3 (g2.trans g3) (k G3 v g3.gg w3)⟩
    · exact ⟨none, G2, t', g2.kn.pure, c, fun v G3 H3 g3 w3 => q v G3 H3 (g2.trans (g3.pure g2.kn)) (k G3 v g3.gg w3)⟩
/-! ### walks -/
/-- what is walked: the values xs, one after the other, as long as the known heap stands -/
def EvI (o : Option Addr) (wi : TI) (σ : L2.St) (G : Hp) (P : PL) : Prop := ∀ G1 H1, Ex G G1 → Kn o G1 H1 → ∀ R : It → Hp → Prop,
  (∀ J G2 H2 xs, Go o G1 H1 G2 H2 → Walk J xs.length (Ex G2) (YAt xs) → UP P G2 xs → R J H2) → wi σ H1 R
theorem ei_list {K : PySem.W.Frag} {P : PL} (h : Ev o te σ G t) (k : ∀ G' v, Ex G G' → U t G' v → ∃ a xs, v = .ref a ∧ SqL K G' a xs ∧ UP P G' xs) : EvI o (iList K te) σ G P := fun G1 H1 e kn R r =>
  h G1 H1 e kn _ fun v G2 H2 g2 w2 => by
    obtain ⟨a, xs, rfl, hs, hp⟩ := k G2 v (e.trans g2.gg) w2
    exact ⟨a, rfl, ⟨xs, ex_l g2.kn.sub hs⟩, r _ G2 H2 xs g2 ((walk_list (K := K) (a := a) (xs := xs)).mono (fun H' e' => ex_l e' hs) fun _ _ _ _ _ _ y => y) hp⟩
theorem ei_tup {K : PySem.W.Frag} {P : PL} (h : Ev o te σ G t) (k : ∀ G' v, Ex G G' → U t G' v → ∃ a xs, v = .ref a ∧ SqT K G' a xs ∧ UP P G' xs) : EvI o (iTup K te) σ G P := fun G1 H1 e kn R r =>
  h G1 H1 e kn _ fun v G2 H2 g2 w2 => by
    obtain ⟨a, xs, rfl, hs, hp⟩ := k G2 v (e.trans g2.gg) w2
    exact ⟨a, rfl, ⟨xs, ex_t g2.kn.sub hs⟩, r _ G2 H2 xs g2 ((walk_tup (K := K) (a := a) (xs := xs)).mono (fun H' e' => ex_t e' hs) fun _ _ _ _ _ _ y => y) hp⟩
/-- over a new list -/
theorem ei_listN {K : PySem.W.Frag} {P P' : PL} (h : EvN o te σ G P) (hu : ∀ G' xs, Ex G G' → UP P G' xs → UP P' G' xs) : EvI o (iList K te) σ G P' := fun G1 H1 e kn R r =>
  h G1 H1 e kn _ fun p xs G2 H2 g2 hp h2 n2 w2 => by
    have hob : o ≠ some p := fun z => by
      obtain ⟨⟨_, _, _, _, q2⟩, _⟩ := kn.box p z
      rw [hp] at q2; cases q2
    have g3 := g2.fix hp h2 n2 hob
    refine ⟨p, rfl, ⟨xs, .of h2⟩, r _ _ H2 xs g3 ((walk_list (K := K) (a := p) (xs := xs)).mono (fun H' e' => .of (e' p _ upd_same)) fun _ _ _ _ _ _ y => y) ?_⟩
    exact (hu G2 xs (e.trans g2.gg) w2).up (Ex.new n2)
def signsV (z : Str) : List V := z.cps.toList.map fun c => V.str ⟨#[c]⟩
theorem ei_str {z : Str} {P : PL} (h : Ev o te σ G (tIs (.str z))) (k : ∀ G', Ex G G' → UP P G' (signsV z)) : EvI o (iStr te) σ G P := fun G1 H1 e kn R r =>
  h G1 H1 e kn _ fun v G2 H2 g2 w2 => by
    refine ⟨z, w2.eq, r _ G2 H2 (signsV z) g2 ?_ (k G2 (e.trans g2.gg))⟩
    have hl : (signsV z).length = z.cps.size := by unfold signsV; rw [List.length_map, Array.length_toList]
    rw [hl]
    refine (walk_str (z := z)).mono (fun _ _ => trivial) fun i H' x H'' hi _ y => ?_
    obtain ⟨e1, c, hc, e2⟩ := y
    refine ⟨e1, ?_⟩
    unfold signsV
    rw [List.getElem?_map, Array.getElem?_toList, hc, e2]
    rfl
def intsV (lo : Int) (n : Nat) : List V := (List.range n).map fun (i : Nat) => V.int (lo + (i : Int))
theorem ei_rng1 {ta : TA} {P : PL} {Pn : Int → Prop} (h : EvA o ta σ G [fun _ v => ∃ n : Int, v = .int n ∧ Pn n]) (hb : ∀ n, Pn n → -(2 ^ 62) ≤ n ∧ n < 2 ^ 62) (k : ∀ G' n, Ex G G' → Pn n → UP P G' (intsV 0 n.toNat)) : EvI o (iRng1 ta) σ G P := fun G1 H1 e kn R r =>
  h G1 H1 e kn _ fun vs G2 H2 g2 w2 => by
    cases w2 with
    | cons a rest =>
      cases rest
      obtain ⟨n, e1, pn⟩ := a.now
      refine ⟨n, by rw [e1], (hb n pn).1, (hb n pn).2, r _ G2 H2 (intsV 0 n.toNat) g2 ?_ (k G2 n (e.trans g2.gg) pn)⟩
      have hl : (intsV 0 n.toNat).length = n.toNat := by unfold intsV; rw [List.length_map, List.length_range]
      rw [hl]
      refine (walk_range (lo := 0) (n := n.toNat)).mono (fun _ _ => trivial) fun i H' x H'' hi _ y => ?_
      obtain ⟨e1, e2⟩ := y
      refine ⟨e1, ?_⟩
      unfold intsV
      rw [List.getElem?_map, List.getElem?_range hi, e2]
      rfl
theorem ei_rng2 {ta : TA} {P : PL} {Pn : Int → Int → Prop} (h : EvA o ta σ G [fun _ v => ∃ n : Int, v = .int n ∧ Pn n n, fun _ v => ∃ n : Int, v = .int n]) (hb : False) : EvI o (iRng2 ta) σ G P := hb.elim
theorem signsV_get {z : Str} {i : Nat} {x : V} (h : (signsV z)[i]? = some x) : ∃ c, x = .str ⟨#[c]⟩ ∧ z.cps.toList[i]? = some c := by
  unfold signsV at h
  rw [List.getElem?_map] at h
  cases e : z.cps.toList[i]? with
  | none => rw [e] at h; cases h
  | some c => rw [e] at h; exact ⟨c, (Option.some.inj h).symm, rfl⟩
theorem intsV_get {lo : Int} {n i : Nat} {x : V} (h : (intsV lo n)[i]? = some x) : x = .int (lo + (i : Int)) ∧ i < n := by
  unfold intsV at h
  rw [List.getElem?_map] at h
  by_cases hi : i < n
  · rw [List.getElem?_range hi] at h; exact ⟨(Option.some.inj h).symm, hi⟩
  · rw [List.getElem?_eq_none (by rw [List.length_range]; omega)] at h; cases h
theorem intsV_len {lo : Int} {n : Nat} : (intsV lo n).length = n := by unfold intsV; rw [List.length_map, List.length_range]
theorem signsV_len {z : Str} : (signsV z).length = z.length := by unfold signsV; rw [List.length_map, Array.length_toList]; rfl

/-! ### comprehensions: R xs i G acc, what holds behind i items -/
theorem en_lc {wi : TI} {j : Nat} {vs : List Nat} {P : PL} (R : List V → Nat → Hp → List V → Prop) (hi : EvI o wi σ G P) (hw : ∀ x, wipe ((wipe σ vs).set j (some x)) vs = wipe σ vs)
    (hup : ∀ xs i G' G'' acc, Ex G' G'' → R xs i G' acc → R xs i G'' acc)
    (h0 : ∀ G' xs, Ex G G' → UP P G' xs → xs.length ≤ 100000 ∧ R xs 0 G' [])
    (hs : ∀ G' (xs : List V) (i : Nat) x acc, Ex G G' → UP P G' xs → xs[i]? = some x → acc.length ≤ i → R xs i G' acc → ∃ p, EvT o tt ((wipe σ vs).set j (some x)) G' p ∧
      (p true → ∀ G1, Ex G' G1 → ∃ s, Ev o te ((wipe σ vs).set j (some x)) G1 s ∧ ∀ G2 y, Ex G1 G2 → U s G2 y → R xs (i + 1) G2 (acc ++ [y])) ∧ (p false → ∀ G1, Ex G' G1 → R xs (i + 1) G1 acc)) :
    EvN o (tLc wi (gName j) tt te vs) σ G (fun G' ys => ∃ xs, UP P G' xs ∧ ys.length ≤ xs.length ∧ R xs xs.length G' ys) := fun G1 H1 e kn Q q =>
  hi G1 H1 e kn _ fun J G2 H2 xs g2 w hP D hD => by
    obtain ⟨hl, r0⟩ := h0 G2 xs (e.trans g2.gg) hP
    have hob : o ≠ some D := fun z => by
      obtain ⟨⟨_, _, _, _, q2⟩, _⟩ := g2.kn.box D z
      rw [hD] at q2; cases q2
    have gD : G2 D = none := Evl.fresh_back g2.kn.sub hD
    have hD1 : H1 D = none := by
      cases z : H1 D with
      | none => rfl
      | some y => rw [g2.kp D y z (fun z => hob z)] at hD; cases hD
    refine lc_it w (fun i H => ∃ G' acc, Go o G2 H2 G' H ∧ G' D = none ∧ H D = some (.lst acc) ∧ acc.length ≤ i ∧ R xs i G' acc) ⟨G2, [], .tmp g2.kn hD, gD, upd_same, Nat.le_refl _, r0⟩ (fun i H _ p => ?_) (fun i x H H' hlt p y => ?_) (fun H p => ?_)
    · obtain ⟨G', acc, g, _⟩ := p
      exact g.gg.trans g.kn.sub
    · obtain ⟨G', acc, g, n1, hH, la, r⟩ := p
      obtain ⟨e1, hx⟩ := y
      subst e1
      refine ⟨hw x, ?_⟩
      have eG : Ex G G' := (e.trans g2.gg).trans g.gg
      obtain ⟨p, ht, hy, hn⟩ := hs G' xs i x acc eG (hP.up g.gg) hx la r
      refine ht G' H' (Ex.refl _) g.kn _ fun b G3 H3 g3 pb => ?_
      have n3 : G3 D = none := g3.nw D n1 (by rw [hH]; simp)
      have h3 : H3 D = some (.lst acc) := g3.kp D _ hH hob
      cases b with
      | false =>
        show ∃ G' acc, _
        exact ⟨G3, acc, g.trans g3, n3, h3, by omega, hn pb G3 g3.gg⟩
      | true =>
        show te _ _ _
        obtain ⟨s, hev, hR⟩ := hy pb G3 g3.gg
        refine hev G3 H3 (Ex.refl _) g3.kn _ fun v G4 H4 g4 w4 => ?_
        have n4 : G4 D = none := g4.nw D n3 (by rw [h3]; simp)
        have h4 : H4 D = some (.lst acc) := g4.kp D _ h3 hob
        refine ⟨acc, h4, Evl.sz_lt (by omega), G4, acc ++ [v], ?_, n4, upd_same, by rw [List.length_append]; simp; omega, hR G4 v g4.gg w4⟩
        have g5 := (g.trans g3).trans g4
        refine ⟨g5.gg, ⟨fun a z ha => ?_, fun b z => ?_⟩, fun a z ha hb => ?_, g5.nw⟩
        · rw [upd_ne (fun z => by rw [z] at ha; rw [n4] at ha; cases ha)]; exact g5.kn.sub a _ ha
        · obtain ⟨⟨n, gg, r, c, q1⟩, q2⟩ := g5.kn.box b z
          exact ⟨⟨n, gg, r, c, by rw [upd_ne (fun z2 => hob (by rw [z, z2]))]; exact q1⟩, q2⟩
        · rw [upd_ne (ne_of_none ha hD)]; exact g5.kp a _ ha hb
    · obtain ⟨G', acc, g, n1, hH, la, r⟩ := p
      have g' := g2.trans g
      exact q D acc G' H g' hD1 hH n1 fun G'' e'' => ⟨xs, hP.up (g.gg.trans e''), la, hup _ _ _ _ _ e'' r⟩
/-- no test, each item's value told -/
theorem en_map {wi : TI} {j : Nat} {vs : List Nat} {P : PL} (f : V → V) (hi : EvI o wi σ G P) (hw : ∀ x, wipe ((wipe σ vs).set j (some x)) vs = wipe σ vs)
    (hl : ∀ G' xs, Ex G G' → UP P G' xs → xs.length ≤ 100000) (he : ∀ G' (xs : List V) (i : Nat) x, Ex G G' → UP P G' xs → xs[i]? = some x → Ev o te ((wipe σ vs).set j (some x)) G' (tIs (f x))) :
    EvN o (tLc wi (gName j) tYes te vs) σ G (fun G' ys => ∃ xs, UP P G' xs ∧ ys = xs.map f) := fun G1 H1 e kn Q q =>
  en_lc (fun xs i G' acc => acc = (xs.take i).map f) hi hw (fun _ _ _ _ _ _ h => h) (fun G' xs e hP => ⟨hl G' xs e hP, rfl⟩) (fun G' xs i x acc e hP hx la r => ⟨(· = true), fun G2 H2 e2 kn2 Q2 q2 => q2 true G2 H2 (.refl kn2) rfl,
    fun _ G3 e3 => ⟨_, (he G' xs i x e hP hx).up e3, fun G4 y e4 w4 => by
      rw [w4.eq, r]
      have : xs.take (i + 1) = xs.take i ++ [x] := by
        rw [List.take_succ, hx]; rfl
      rw [this, List.map_append]
      rfl⟩, fun z => by cases z⟩) G1 H1 e kn Q fun p ys G2 H2 g2 hp h2 n2 w2 => by
    refine q p ys G2 H2 g2 hp h2 n2 fun G' e' => ?_
    obtain ⟨xs, hP, _, r⟩ := w2 G' e'
    rw [List.take_length] at r
    exact ⟨xs, hP, r⟩
/-- items of one type -/
theorem en_all {wi : TI} {j : Nat} {vs : List Nat} {P : PL} (hi : EvI o wi σ G P) (hw : ∀ x, wipe ((wipe σ vs).set j (some x)) vs = wipe σ vs)
    (hl : ∀ G' xs, Ex G G' → UP P G' xs → xs.length ≤ 100000) (ht : ∀ G' (xs : List V) (i : Nat) x, Ex G G' → UP P G' xs → xs[i]? = some x → EvT o tt ((wipe σ vs).set j (some x)) G' fun _ => True)
    (he : ∀ G' (xs : List V) (i : Nat) x, Ex G G' → UP P G' xs → xs[i]? = some x → Ev o te ((wipe σ vs).set j (some x)) G' t) :
    EvN o (tLc wi (gName j) tt te vs) σ G (fun G' ys => ∃ xs, UP P G' xs ∧ ys.length ≤ xs.length ∧ ∀ y ∈ ys, U t G' y) := fun G1 H1 e kn Q q =>
  en_lc (fun xs i G' acc => ∀ y ∈ acc, U t G' y) hi hw (fun _ _ _ _ _ e h y hy => (h y hy).up e) (fun G' xs e hP => ⟨hl G' xs e hP, fun y hy => nomatch hy⟩) (fun G' xs i x acc e hP hx la r => ⟨fun _ => True, ht G' xs i x e hP hx,
    fun _ G3 e3 => ⟨t, (he G' xs i x e hP hx).up e3, fun G4 y e4 w4 z hz => by
      rcases List.mem_append.mp hz with h | h
      · exact (r z h).up (e3.trans e4)
      · rw [List.mem_singleton.mp h]; exact w4⟩, fun _ G3 e3 y hy => (r y hy).up e3⟩) G1 H1 e kn Q fun p ys G2 H2 g2 hp h2 n2 w2 => by
    refine q p ys G2 H2 g2 hp h2 n2 fun G' e' => ?_
    obtain ⟨xs, hP, l, r⟩ := w2 G' e'
    exact ⟨xs, hP, l, r⟩
theorem et_yes : EvT o tYes σ G fun _ => True := fun G2 H2 e2 kn2 Q2 q2 => q2 true G2 H2 (.refl kn2) trivial
end

/-! ### statements, from the heaps at the entry -/
section
variable {o : Option Addr} {σ : L2.St} {Ge He G H : Hp} {ta tb te tx : TE} {s t u : T} {tt tt' : TT} {x y v : V} {D : Ends} {tu tw tz : TS}
theorem Go.mut (a : Go o Ge He G H) {p : Addr} {x : HO} (he : He p = none) (g : G p = none) (ho : o ≠ some p) : Go o Ge He G (upd H p x) := by
  refine ⟨a.gg, ⟨fun c y q => ?_, fun b z => ?_⟩, fun c y q n => ?_, a.nw⟩
  · rw [upd_ne (fun z => by rw [z, g] at q; cases q)]; exact a.kn.sub c y q
  · obtain ⟨⟨n, gg, r, c, q1⟩, q2⟩ := a.kn.box b z
    exact ⟨⟨n, gg, r, c, by rw [upd_ne (fun z2 => ho (by rw [z, z2]))]; exact q1⟩, q2⟩
  · rw [upd_ne (ne_of_none q he)]; exact a.kp c y q n
theorem s_asg {i : Nat} (g : Go o Ge He G H) (h : Ev o te σ G t) (k : ∀ v G2 H2, Go o Ge He G2 H2 → Go o G H G2 H2 → U t G2 v → D.nx (σ.set i (some v)) H2) : tAsg te (gName i) D σ H :=
  h G H (Ex.refl _) g.kn _ fun v G2 H2 g2 w2 => k v G2 H2 (g.trans g2) g2 w2
theorem q_asg {i : Nat} (g : Go o Ge He G H) (h : Ev o te σ G t) (k : ∀ v G2 H2, Go o Ge He G2 H2 → Go o G H G2 H2 → U t G2 v → tz D (σ.set i (some v)) H2) : tSeq (tAsg te (gName i)) tz D σ H := s_asg (D := { D with nx := tz D }) g h k
theorem Go.fresh (g : Go o Ge He G H) {p : Addr} (h : H p = none) : He p = none := by
  cases z : He p with
  | none => rfl
  | some y =>
    by_cases hb : o = some p
    · obtain ⟨⟨_, _, _, _, q2⟩, _⟩ := g.kn.box p hb
      rw [h] at q2; cases q2
    · rw [g.kp p y z hb] at h; cases h
theorem Kn.nbox (k : Kn o G H) {p : Addr} (h : H p = none) : o ≠ some p := fun z => by
  obtain ⟨⟨_, _, _, _, q2⟩, _⟩ := k.box p z
  rw [h] at q2; cases q2
theorem s_asgN {i : Nat} {P : PL} (g : Go o Ge He G H) (h : EvN o te σ G P) (k : ∀ p xs G2 H2, Go o Ge He G2 H2 → Go o G H G2 H2 → He p = none → H p = none → o ≠ some p → H2 p = some (.lst xs) → G2 p = none → UP P G2 xs → D.nx (σ.set i (some (.ref p))) H2) : tAsg te (gName i) D σ H :=
  h G H (Ex.refl _) g.kn _ fun p xs G2 H2 g2 hp h2 n2 w2 => k p xs G2 H2 (g.trans g2) g2 (g.fresh hp) hp (g.kn.nbox hp) h2 n2 w2
theorem q_asgN {i : Nat} {P : PL} (g : Go o Ge He G H) (h : EvN o te σ G P) (k : ∀ p xs G2 H2, Go o Ge He G2 H2 → Go o G H G2 H2 → He p = none → H p = none → o ≠ some p → H2 p = some (.lst xs) → G2 p = none → UP P G2 xs → tz D (σ.set i (some (.ref p))) H2) : tSeq (tAsg te (gName i)) tz D σ H := s_asgN (D := { D with nx := tz D }) g h k
theorem s_ret (g : Go o Ge He G H) (h : Ev o te σ G t) (k : ∀ v G2 H2, Go o Ge He G2 H2 → U t G2 v → D.rt v H2) : tRet te D σ H :=
  h G H (Ex.refl _) g.kn _ fun v G2 H2 g2 w2 => k v G2 H2 (g.trans g2) w2
theorem s_if {p : Bool → Prop} (g : Go o Ge He G H) (h : EvT o tt σ G p) (h1 : p true → ∀ G2 H2, Go o Ge He G2 H2 → Go o G H G2 H2 → tu D σ H2) (h2 : p false → ∀ G2 H2, Go o Ge He G2 H2 → Go o G H G2 H2 → tw D σ H2) : tIfS tt tu tw D σ H :=
  h G H (Ex.refl _) g.kn _ fun b G2 H2 g2 pb => by
    cases b with
    | true => exact h1 pb G2 H2 (g.trans g2) g2
    | false => exact h2 pb G2 H2 (g.trans g2) g2
theorem q_if {p : Bool → Prop} (g : Go o Ge He G H) (h : EvT o tt σ G p) (h1 : p true → ∀ G2 H2, Go o Ge He G2 H2 → Go o G H G2 H2 → tu { D with nx := tz D } σ H2) (h2 : p false → ∀ G2 H2, Go o Ge He G2 H2 → Go o G H G2 H2 → tw { D with nx := tz D } σ H2) : tSeq (tIfS tt tu tw) tz D σ H :=
  s_if (D := { D with nx := tz D }) g h h1 h2
/-- an if without else -/
theorem q_when {p : Bool → Prop} (g : Go o Ge He G H) (h : EvT o tt σ G p) (h1 : p true → ∀ G2 H2, Go o Ge He G2 H2 → Go o G H G2 H2 → tu { D with nx := tz D } σ H2) (h2 : p false → ∀ G2 H2, Go o Ge He G2 H2 → Go o G H G2 H2 → tz D σ H2) : tSeq (tIfS tt tu tNext) tz D σ H :=
  s_if (D := { D with nx := tz D }) g h h1 h2
theorem s_when {p : Bool → Prop} (g : Go o Ge He G H) (h : EvT o tt σ G p) (h1 : p true → ∀ G2 H2, Go o Ge He G2 H2 → Go o G H G2 H2 → tu D σ H2) (h2 : p false → ∀ G2 H2, Go o Ge He G2 H2 → Go o G H G2 H2 → D.nx σ H2) : tIfS tt tu tNext D σ H :=
  s_if g h h1 h2
theorem q_drop (g : Go o Ge He G H) (h : Ev o te σ G t) (k : ∀ v G2 H2, Go o Ge He G2 H2 → Go o G H G2 H2 → U t G2 v → tz D σ H2) : tSeq (tDrop te) tz D σ H :=
  h G H (Ex.refl _) g.kn _ fun v G2 H2 g2 w2 => k v G2 H2 (g.trans g2) g2 w2
/-- x.append(e), x a list of one's own -/
theorem s_app {K : PySem.W.Frag} {l : Addr} {xs : List V} (g : Go o Ge He G H) (he : He l = none) (hg : G l = none) (ho : o ≠ some l) (hl : H l = some (.lst xs)) (ha : Ev o ta σ G (tIs (.ref l))) (h : ∀ G', Ex G G' → Ev o te σ G' t) (hz : xs.length < 100000)
    (k : ∀ v G2 H2, Go o Ge He G2 (upd H2 l (.lst (xs ++ [v]))) → Go o G H G2 H2 → G2 l = none → U t G2 v → D.nx σ (upd H2 l (.lst (xs ++ [v])))) : tDrop (tBM K "list" rAppend ta (tCons te tNil)) D σ H :=
  ha G H (Ex.refl _) g.kn _ fun v G2 H2 g2 w2 => by
    have e := w2.eq
    subst e
    have h2 := g2.kp l _ hl ho
    refine ⟨.inl ⟨rfl, xs, .of h2⟩, h G2 g2.gg G2 H2 (Ex.refl _) g2.kn _ fun v G3 H3 g3 w3 => ?_⟩
    have h3 := g3.kp l _ h2 ho
    have g13 := g2.trans g3
    have n3 : G3 l = none := g13.nw l hg (by rw [hl]; simp)
    exact ⟨l, xs, v, rfl, rfl, h3, Evl.sz_lt hz, k v G3 H3 ((g.trans g13).mut he n3 ho) g13 n3 w3⟩
theorem q_app {K : PySem.W.Frag} {l : Addr} {xs : List V} (g : Go o Ge He G H) (he : He l = none) (hg : G l = none) (ho : o ≠ some l) (hl : H l = some (.lst xs)) (ha : Ev o ta σ G (tIs (.ref l))) (h : ∀ G', Ex G G' → Ev o te σ G' t) (hz : xs.length < 100000)
    (k : ∀ v G2 H2, Go o Ge He G2 (upd H2 l (.lst (xs ++ [v]))) → Go o G H G2 H2 → G2 l = none → U t G2 v → tz D σ (upd H2 l (.lst (xs ++ [v])))) : tSeq (tDrop (tBM K "list" rAppend ta (tCons te tNil))) tz D σ H :=
  s_app (D := { D with nx := tz D }) g he hg ho hl ha h hz k
/-- a for over values that stand; I by the turn, the slots, the known heap, the heap -/
theorem s_for {wi : TI} {j : Nat} {P : PL} (g : Go o Ge He G H) (hi : EvI o wi σ G P) (I : List V → Nat → L2.St → Hp → Hp → Prop)
    (h0 : ∀ xs G' H', Go o Ge He G' H' → Go o G H G' H' → UP P G' xs → I xs 0 σ G' H')
    (hs : ∀ Gs (xs : List V), Ex G Gs → UP P Gs xs → ∀ (i : Nat) x σ' G' H', xs[i]? = some x → Go o Ge He G' H' → Ex Gs G' → I xs i σ' G' H' →
      tu { D with nx := fun σ2 H2 => ∃ G2, Go o Ge He G2 H2 ∧ Ex Gs G2 ∧ I xs (i + 1) σ2 G2 H2, ct := fun σ2 H2 => ∃ G2, Go o Ge He G2 H2 ∧ Ex Gs G2 ∧ I xs (i + 1) σ2 G2 H2, bk := D.nx } (σ'.set j (some x)) H')
    (hd : ∀ xs σ' G' H', Go o Ge He G' H' → Ex G G' → UP P G' xs → I xs xs.length σ' G' H' → D.nx σ' H') : tFor wi (gName j) tu D σ H :=
  hi G H (Ex.refl _) g.kn _ fun J G2 H2 xs g2 w hP => by
    refine for_it w (fun i σ' H' => ∃ G', Go o Ge He G' H' ∧ Ex G2 G' ∧ I xs i σ' G' H') ⟨G2, g.trans g2, Ex.refl _, h0 xs G2 H2 (g.trans g2) g2 hP⟩ (fun i σ' H' _ p => ?_) (fun i x σ' H' H'' hlt p y => ?_) (fun σ' H' p => ?_)
    · obtain ⟨G', a, b, _⟩ := p
      exact b.trans a.kn.sub
    · obtain ⟨G', a, b, c⟩ := p
      obtain ⟨e1, hx⟩ := y
      subst e1
      exact hs G2 xs g2.gg hP i x σ' G' H'' hx a b c
    · obtain ⟨G', a, b, c⟩ := p
      exact hd xs σ' G' H' a (g2.gg.trans b) (hP.up b) c
theorem q_for {wi : TI} {j : Nat} {P : PL} (g : Go o Ge He G H) (hi : EvI o wi σ G P) (I : List V → Nat → L2.St → Hp → Hp → Prop)
    (h0 : ∀ xs G' H', Go o Ge He G' H' → Go o G H G' H' → UP P G' xs → I xs 0 σ G' H')
    (hs : ∀ Gs (xs : List V), Ex G Gs → UP P Gs xs → ∀ (i : Nat) x σ' G' H', xs[i]? = some x → Go o Ge He G' H' → Ex Gs G' → I xs i σ' G' H' →
      tu { D with nx := fun σ2 H2 => ∃ G2, Go o Ge He G2 H2 ∧ Ex Gs G2 ∧ I xs (i + 1) σ2 G2 H2, ct := fun σ2 H2 => ∃ G2, Go o Ge He G2 H2 ∧ Ex Gs G2 ∧ I xs (i + 1) σ2 G2 H2, bk := tz D } (σ'.set j (some x)) H')
    (hd : ∀ xs σ' G' H', Go o Ge He G' H' → Ex G G' → UP P G' xs → I xs xs.length σ' G' H' → tz D σ' H') : tSeq (tFor wi (gName j) tu) tz D σ H :=
  s_for (D := { D with nx := tz D }) g hi I h0 hs hd
/-- a test at hand -/
def AtT (o : Option Addr) (tt : TT) (σ : L2.St) (G H : Hp) (p : Bool → Prop) : Prop := ∀ Q : Bool → Hp → Prop, (∀ b G2 H2, Go o G H G2 H2 → p b → Q b H2) → tt σ H Q
theorem EvT.at {p : Bool → Prop} (h : EvT o tt σ G p) (kn : Kn o G H) : AtT o tt σ G H p := h G H (Ex.refl _) kn
theorem q_whileA (g : Go o Ge He G H) (I : Nat → L2.St → Hp → Hp → Prop) (m0 : Nat) (h0 : I m0 σ G H)
    (hs : ∀ m σ' G' H', Go o Ge He G' H' → Ex G G' → I m σ' G' H' → ∃ p, AtT o tt σ' G' H' p ∧
      (p true → ∀ G1 H1, Go o Ge He G1 H1 → Go o G' H' G1 H1 → tu { D with nx := fun σ2 H2 => ∃ m' G2, m' < m ∧ Go o Ge He G2 H2 ∧ Ex G G2 ∧ I m' σ2 G2 H2, ct := fun σ2 H2 => ∃ m' G2, m' < m ∧ Go o Ge He G2 H2 ∧ Ex G G2 ∧ I m' σ2 G2 H2, bk := tz D } σ' H1) ∧
      (p false → ∀ G1 H1, Go o Ge He G1 H1 → Go o G' H' G1 H1 → tz D σ' H1)) : tSeq (tWhile tt tu) tz D σ H := by
  show tWhile tt tu { D with nx := tz D } σ H
  refine ⟨fun m σ' H' => ∃ G', Go o Ge He G' H' ∧ Ex G G' ∧ I m σ' G' H', ⟨m0, G, g, Ex.refl _, h0⟩, fun m σ' H' ⟨G', a, b, c⟩ => ?_⟩
  obtain ⟨p, ht, hy, hn⟩ := hs m σ' G' H' a b c
  refine ht _ fun bb G1 H1 g1 pb => ?_
  cases bb with
  | true =>
    exact ⟨_, fun σ2 H2 ⟨m', G2, l, x1, x2, x3⟩ => ⟨m', l, G2, x1, x2, x3⟩, hy pb G1 H1 (a.trans g1) g1⟩
  | false => exact hn pb G1 H1 (a.trans g1) g1
/-- a while, by a word and a measure -/
theorem q_while (g : Go o Ge He G H) (I : Nat → L2.St → Hp → Hp → Prop) (m0 : Nat) (h0 : I m0 σ G H)
    (hs : ∀ m σ' G' H', Go o Ge He G' H' → Ex G G' → I m σ' G' H' → ∃ p, EvT o tt σ' G' p ∧
      (p true → ∀ G1 H1, Go o Ge He G1 H1 → Go o G' H' G1 H1 → tu { D with nx := fun σ2 H2 => ∃ m' G2, m' < m ∧ Go o Ge He G2 H2 ∧ Ex G G2 ∧ I m' σ2 G2 H2, ct := fun σ2 H2 => ∃ m' G2, m' < m ∧ Go o Ge He G2 H2 ∧ Ex G G2 ∧ I m' σ2 G2 H2, bk := tz D } σ' H1) ∧
      (p false → ∀ G1 H1, Go o Ge He G1 H1 → Go o G' H' G1 H1 → tz D σ' H1)) : tSeq (tWhile tt tu) tz D σ H := by
  show tWhile tt tu { D with nx := tz D } σ H
  refine ⟨fun m σ' H' => ∃ G', Go o Ge He G' H' ∧ Ex G G' ∧ I m σ' G' H', ⟨m0, G, g, Ex.refl _, h0⟩, fun m σ' H' ⟨G', a, b, c⟩ => ?_⟩
  obtain ⟨p, ht, hy, hn⟩ := hs m σ' G' H' a b c
  refine ht G' H' (Ex.refl _) a.kn _ fun bb G1 H1 g1 pb => ?_
  cases bb with
  | true =>
    exact ⟨_, fun σ2 H2 ⟨m', G2, l, x1, x2, x3⟩ => ⟨m', l, G2, x1, x2, x3⟩, hy pb G1 H1 (a.trans g1) g1⟩
  | false => exact hn pb G1 H1 (a.trans g1) g1
end
end Ty
set_option Elab.async false
set_option linter.all false
set_option maxRecDepth 100000
set_option maxHeartbeats 4000000
/-! Calls of own defs by name, operations of several kinds. -/
namespace Ty
open PySem L2
open Evl (Ex ex_l ex_t)

/-! ### own defs -/
/-- the def st, bound to x at the top, keeps the promise sp -/
structure Own (P : Program) (w : World) (K : PySem.W.Frag) (mg : Str → Option Value) (base : Heap) (CX : CXT) (k : Nat) (x : Str) (st : Stmt) (ps : List Str) (sp : Sp) : Prop where
  ex : ∃ (f : Addr) (fd : FuncData), FnOk P w K mg base CX k f fd ps sp ∧ mg x = some (.ref f) ∧ PySem.W.keepIn K (.ref f) = true ∧
    ∃ (kV doc pm : Value) (an : Option Addr) (cdv ct : Value), fd = PySem.W.fnOf x x (defArgs st) (defBody st) (defScope st) .none kV doc pm an cdv ct
/-- where a def stands -/
structure Df (K : PySem.W.Frag) (mg : Str → Option Value) (x : Str) (st : Stmt) : Prop where
  ex : ∃ (f : Addr) (fd : FuncData), Fun K x x st f fd ∧ mg x = some (.ref f)
theorem Df.own {P : Program} {w : World} {K : PySem.W.Frag} {mg : Str → Option Value} {base : Heap} {CX : CXT} {k : Nat} {x : Str} {st : Stmt} {ps : List Str} {sp : Sp} (d : Df K mg x st)
    (h : ∀ f fd, Fun K x x st f fd → FnOk P w K mg base CX k f fd ps sp) : Own P w K mg base CX k x st ps sp := by
  obtain ⟨f, fd, F, hm⟩ := d.ex
  obtain ⟨_, _, kV, doc, pm, an, cdv, ct, _, e, _, _⟩ := F.ex
  exact ⟨f, fd, h f fd F, hm, F.kp, kV, doc, pm, an, cdv, ct, e⟩
/-- the positional binding of n parameters -/
def PosB (x : Str) (st : Stmt) (ps : List Str) : Prop := ∀ (kV doc pm : Value) (an : Option Addr) (cdv ct : Value) (us : List Value), us.length = ps.length →
  bindArgs (PySem.W.fnOf x x (defArgs st) (defBody st) (defScope st) .none kV doc pm an cdv ct) ⟨us, []⟩ = pure (ps.zip us)
section
variable {X : Cx} {CX : CXT} {k : Nat} {st : Stmt} {ps : List Str} {sp : Sp} {E : XK} {x : Str} {p pos : Pos} {e : Expr} {es : List Expr} {t : TA}
theorem pe_own (F : Own X.prog X.w X.K X.mg X.base CX k x st ps sp) (hb : PosB x st ps) (hr : Room k X.A) (hg : Gl X x) (hx : Passes CX X E) (ha : PA X (e :: es) t)
    (hdb : (x == ("__debug__" : Str)) = false := by decide) (he : starEach (e :: es) X.env = (false, eval e X.env) :: starEach es X.env := by rfl) (hpl : (backTo pos (starEach es X.env)).any (·.1) = false := by rfl) :
    PE X (.Call (.Name x p) (e :: es) [] pos) (tCall sp [] E t) := by
  obtain ⟨f, fd, F, hm, hk, kV, doc, pm, an, cdv, ct, rfl⟩ := F.ex
  exact pe_call F hr hg hm hk (.all (hb kV doc pm an cdv ct)) .nil hx ha hdb he hpl
theorem pe_own0 (F : Own X.prog X.w X.K X.mg X.base CX k x st ps sp) (hb : PosB x st ps) (hr : Room k X.A) (hg : Gl X x) (hx : Passes CX X E)
    (hdb : (x == ("__debug__" : Str)) = false := by decide) : PE X (.Call (.Name x p) [] [] pos) (tCall sp [] E tNil) := by
  obtain ⟨f, fd, F, hm, hk, kV, doc, pm, an, cdv, ct, rfl⟩ := F.ex
  exact pe_call0 F hr hg hm hk (.all (hb kV doc pm an cdv ct)) .nil hx hdb
/-- all by keywords, in the order ks; g brings them into the parameters' order -/
def tKw (sp : Sp) (n : Nat) (gV : List V → List V) (E : XK) (tk : TA) : TE := fun σ H Q => tk σ H fun zs H2 => zs.length = n ∧ sp (gV zs) H2 Q E
theorem pe_ownK {ks : List Str} {kws : List Keyword} {tk : TA} {g : List Value → List Value} {gV : List V → List V} (F : Own X.prog X.w X.K X.mg X.base CX k x st ps sp)
    (hb : ∀ (kV doc pm : Value) (an : Option Addr) (cdv ct : Value) (ws : List Value), ws.length = ks.length → bindArgs (PySem.W.fnOf x x (defArgs st) (defBody st) (defScope st) .none kV doc pm an cdv ct) ⟨[], ks.zip ws⟩ = pure (ps.zip (g ws)))
    (rel : ∀ {zs : List V} {ws : List Value}, zs.length = ks.length → Vals zs ws → Vals (gV zs) (g ws))
    (hr : Room k X.A) (hg : Gl X x) (hx : Passes CX X E) (hkw : PK X kws tk)
    (hall : (backToKw pos (keywordEach kws X.env)).all (·.1.isSome) = true := by rfl) (hks : (backToKw pos (keywordEach kws X.env)).filterMap (·.1) = ks := by rfl) (hdb : (x == ("__debug__" : Str)) = false := by decide)
    (hpl : ((backTo pos (starEach [] X.env)).any (·.1) || (backToKw pos (keywordEach kws X.env)).any (·.1.isNone)) = false := by rfl) :
    PE X (.Call (.Name x p) [] kws pos) (tKw sp ks.length gV E tk) := by
  obtain ⟨f, fd, F, hm, hk, kV, doc, pm, an, cdv, ct, rfl⟩ := F.ex
  refine ⟨fun pins s σ H Q I h => ?_⟩
  refine wpAny_Call_Name_kw (ld_glob I hg hm ?_ hdb)
  refine PySem.W.callWith_KW0 (h₀ := X.base) I.ok.mod.kin hk hall ?_ hpl
  refine thn (hkw.run pos pins s σ H _ I h) fun ws s2 ⟨zs, H2, I2, rz, hl, q2⟩ => ⟨I2.kIn, ?_⟩
  rw [hks]
  have lw : ws.length = ks.length := by rw [← rz.length, hl]
  have r2 := rel hl rz
  refine wpAny_call (codeAny_mono (F.run X.A X.stack s2 H2 ⟨[], ks.zip ws⟩ (g ws) (gV zs) Q E hr I2.env0 (.of_eq (hb kV doc pm an cdv ct ws lw)) r2 q2) fun r s' hq => ?_)
  cases r with
  | error e => exact hx pins σ H2 s2 e s' I2 hq
  | ok fl =>
    cases fl with
    | ret u => exact I2.after hq
    | next => exact False.elim hq
    | brk => exact False.elim hq
    | cont => exact False.elim hq
end
section
variable {o : Option Addr} {σ : L2.St} {G : Hp} {t : T}
theorem ev_kw {C : Option Addr → Hp → List V → T → Prop} {E : XK} {ta : TA} {ts : List T} {n : Nat} {gV : List V → List V} (hn : ts.length = n) (ha : EvA o ta σ G ts)
    (hc : ∀ G' vs, Ex G G' → AllU G' ts vs → ∃ o' t', (o' = o ∨ o' = none) ∧ C o' G' (gV vs) t' ∧ ∀ G'' v, Ex G' G'' → U t' G'' v → U t G'' v) : Ev o (tKw (spC C) n gV E ta) σ G t := fun G1 H1 a kn Q q =>
  ha G1 H1 a kn _ fun vs G2 H2 g2 w2 => ⟨w2.len.trans hn, by
    obtain ⟨o', t', ho, c, k⟩ := hc G2 vs (a.trans g2.gg) w2
    rcases ho with rfl | rfl
    · exact ⟨o', G2, t', g2.kn, c, fun v G3 H3 g3 w3 => q v G3 H3 (g2.trans g3) (k G3 v g3.gg w3)⟩
    · exact ⟨none, G2, t', g2.kn.pure, c, fun v G3 H3 g3 w3 => q v G3 H3 (g2.trans (g3.pure g2.kn)) (k G3 v g3.gg w3)⟩⟩
end

/-! ### operations of several kinds -/
section
variable {X : Cx} {o : Option Addr} {σ : L2.St} {G : Hp} {ta tb te : TE} {s t u : T} {x y v : V} {K : PySem.W.Frag}
/-- a list and the empty list -/
def rNil (K : PySem.W.Frag) (neg : Bool) : R2 := fun x y H Q => ∃ a b xs, x = .ref a ∧ y = .ref b ∧ SqL K H a xs ∧ SqL K H b [] ∧ Q (.bl (if neg then !xs.isEmpty else xs.isEmpty)) H
theorem op_eqNil (hu : X.A.units + 64 < cLine) : OpR X (compareOp .Eq) (rNil X.K false) := by
  intro pins s σ H x y v u Q I rx ry h
  obtain ⟨a, b, xs, rfl, rfl, ha, hb, q⟩ := h
  cases (show v = Value.ref a from rx)
  cases (show u = Value.ref b from ry)
  obtain ⟨us, r1, p1, _⟩ := I.list ha
  obtain ⟨ws, r2, p2, _⟩ := I.list hb
  have w0 : ws = [] := by cases r2; rfl
  subst w0
  show wpAny _ _ (richCompare .Eq _ _) _ _ s
  cases xs with
  | nil =>
    have u0 : us = [] := by cases r1; rfl
    subst u0
    exact SeqAt.RcAt.lists (e := fun _ => true) p1.isList p2.isList rfl (by omega) (fun j h1 => absurd h1 (Nat.not_lt_zero j)) _ _ _ _ ⟨.bl true, H, I, rfl, q⟩
  | cons z zs =>
    cases r1 with
    | cons r r' => exact SeqAt.RcAt.lists_lengths p1.isList p2.isList (by rfl) (by omega) _ _ _ _ ⟨.bl false, H, I, rfl, q⟩
theorem op_neNil (hu : X.A.units + 64 < cLine) : OpR X (compareOp .NotEq) (rNil X.K true) := by
  intro pins s σ H x y v u Q I rx ry h
  obtain ⟨a, b, xs, rfl, rfl, ha, hb, q⟩ := h
  cases (show v = Value.ref a from rx)
  cases (show u = Value.ref b from ry)
  obtain ⟨us, r1, p1, _⟩ := I.list ha
  obtain ⟨ws, r2, p2, _⟩ := I.list hb
  have w0 : ws = [] := by cases r2; rfl
  subst w0
  show wpAny _ _ (richCompare .NotEq _ _) _ _ s
  cases xs with
  | nil =>
    have u0 : us = [] := by cases r1; rfl
    subst u0
    exact SeqAt.RcNeAt.lists (e := fun _ => true) p1.isList p2.isList rfl (by omega) (fun j h1 => absurd h1 (Nat.not_lt_zero j)) _ _ _ _ ⟨.bl false, H, I, rfl, q⟩
  | cons z zs =>
    cases r1 with
    | cons r r' => exact SeqAt.RcNeAt.lists_lengths p1.isList p2.isList (by rfl) (by omega) _ _ _ _ ⟨.bl true, H, I, rfl, q⟩
abbrev rEqG (K : PySem.W.Frag) : R2 := fun x y H Q => rEq x y H Q ∨ (rNil K false x y H Q ∨ rEqD K x y H Q)
abbrev rNeG (K : PySem.W.Frag) : R2 := fun x y H Q => rNe x y H Q ∨ (rNil K true x y H Q ∨ rNeD K x y H Q)
theorem gEq (hu : X.A.units + 64 < cLine) : OpR X (compareOp .Eq) (rEqG X.K) := op_eq.or ((op_eqNil hu).or (op_eqD hu))
theorem gNe (hu : X.A.units + 64 < cLine) : OpR X (compareOp .NotEq) (rNeG X.K) := op_ne.or ((op_neNil hu).or (op_neD hu))
def rAddS : R2 := fun x y H Q => ∃ i j, x = .str i ∧ y = .str j ∧ i.length + j.length ≤ sizeLine ∧ Q (.str (i ++ j)) H
abbrev rAddG (K : PySem.W.Frag) : R2 := fun x y H Q => rI0 (fun i j => .int (i + j)) x y H Q ∨ (rAddS x y H Q ∨ (rCat x y H Q ∨ rCatT K x y H Q))
theorem gAdd : OpR X (binaryOp .Add) (rAddG X.K) := op_add.or ((op_add_str (X := X)).or (op_cat.or op_catT))
abbrev rMulG : R2 := fun x y H Q => rI CMul (fun i j => .int (i * j)) x y H Q ∨ rRep x y H Q
theorem gMul : OpR X (binaryOp .Mult) rMulG := op_mul.or op_rep
def rInS (neg : Bool) : R2 := fun x y H Q => ∃ (c : Nat) (z : Str), x = .str ⟨#[c]⟩ ∧ y = .str z ∧ Q (.bl (if neg then !decide (c ∈ z.cps.toList) else decide (c ∈ z.cps.toList))) H
abbrev rInG (K : PySem.W.Frag) (neg : Bool) : R2 := fun x y H Q => rIn K neg x y H Q ∨ rInS neg x y H Q
theorem gIn : OpR X (compareOp .In) (rInG X.K false) := op_in_seq.or (op_in_sign (X := X))
theorem gNotIn : OpR X (compareOp .NotIn) (rInG X.K true) := op_notIn_seq.or (op_notIn_sign (X := X))
theorem gLt : OpR X (compareOp .Lt) (rI0 fun i j => .bl (decide (i < j))) := op_lt
abbrev rLen (K : PySem.W.Frag) : List V → Hp → VK → Prop := fun xs H Q => (∃ p ys, xs = [.ref p] ∧ (SqL K H p ys ∨ SqT K H p ys) ∧ Q (.int ys.length) H) ∨ ∃ z, xs = [.str z] ∧ z.length ≤ sizeLine ∧ Q (.int z.length) H
theorem gLen : CallR X (.builtin "len") (rLen X.K) := call_len_seq.or call_len_str
abbrev rSlG (K : PySem.W.Frag) : V → Option Int → Option Int → Hp → VK → Prop := fun x lo hi H Q => rSlL K x lo hi H Q ∨ (rSlS x lo hi H Q ∨ rSlT K x lo hi H Q)
theorem gSl : SlR X (rSlG X.K) := sl_list.or (sl_str.or sl_tup)

/-! ### by kinds -/
variable {r r' : R2}
theorem RO.lft (h : RO o r x y G t) : RO o (fun x y H Q => r x y H Q ∨ r' x y H Q) x y G t := fun G1 H1 a kn Q q => .inl (h G1 H1 a kn Q q)
theorem RO.rgt (h : RO o r' x y G t) : RO o (fun x y H Q => r x y H Q ∨ r' x y H Q) x y G t := fun G1 H1 a kn Q q => .inr (h G1 H1 a kn Q q)
/-- equal scalars, told -/
theorem ro_eqS {b : Bool} (h : scal x y = true) (e : decide (x = y) = b) : RO o (rEqG K) x y G (tIs (.bl b)) := .lft (by rw [← e]; exact ro_eq h)
theorem ro_neS {b : Bool} (h : scal x y = true) (e : (!decide (x = y)) = b) : RO o (rNeG K) x y G (tIs (.bl b)) := .lft (by rw [← e]; exact ro_ne h)
theorem ro_eqN {a b : Addr} {xs : List V} (ha : SqL K G a xs) (hb : SqL K G b []) : RO o (rEqG K) (.ref a) (.ref b) G (tIs (.bl xs.isEmpty)) :=
  .rgt (.lft (ro_q u_is fun G1 H1 e kn Q q => ⟨a, b, xs, rfl, rfl, ex_l (e.trans kn.sub) ha, ex_l (e.trans kn.sub) hb, q⟩))
theorem ro_neN {a b : Addr} {xs : List V} (ha : SqL K G a xs) (hb : SqL K G b []) : RO o (rNeG K) (.ref a) (.ref b) G (tIs (.bl (!xs.isEmpty))) :=
  .rgt (.lft (ro_q u_is fun G1 H1 e kn Q q => ⟨a, b, xs, rfl, rfl, ex_l (e.trans kn.sub) ha, ex_l (e.trans kn.sub) hb, q⟩))
theorem ro_addI {i j : Int} : RO o (rAddG K) (.int i) (.int j) G (tIs (.int (i + j))) := .lft ro_I0
theorem ro_mulI {i j : Int} (h : CMul i j) : RO o rMulG (.int i) (.int j) G (tIs (.int (i * j))) := .lft (ro_I h)
theorem ro_addS {i j : Str} (h : i.length + j.length ≤ 100000) : RO o (rAddG K) (.str i) (.str j) G (tIs (.str (i ++ j))) := .rgt (.lft (ro_q u_is fun G1 H1 e kn Q q => ⟨i, j, rfl, rfl, Evl.sz_of h, q⟩))
theorem rc_lenS {z : Str} (h : z.length ≤ 100000) : RC o (rLen K) [.str z] G (tIs (.int z.length)) := rc_q u_is fun G1 H1 e kn Q q => .inr ⟨z, rfl, Evl.sz_of h, q⟩
theorem rc_lenL {a : Addr} {xs : List V} (h : SqL K G a xs) : RC o (rLen K) [.ref a] G (tIs (.int xs.length)) := rc_q u_is fun G1 H1 e kn Q q => .inl ⟨a, xs, rfl, .inl (ex_l (e.trans kn.sub) h), q⟩
theorem rc_lenT {a : Addr} {xs : List V} (h : SqT K G a xs) : RC o (rLen K) [.ref a] G (tIs (.int xs.length)) := rc_q u_is fun G1 H1 e kn Q q => .inl ⟨a, xs, rfl, .inr (ex_t (e.trans kn.sub) h), q⟩
theorem ro_inS {neg : Bool} {c : Nat} {z : Str} : RO o (rInG K neg) (.str ⟨#[c]⟩) (.str z) G (tIs (.bl (if neg then !decide (c ∈ z.cps.toList) else decide (c ∈ z.cps.toList)))) := .rgt (ro_q u_is fun G1 H1 e kn Q q => ⟨c, z, rfl, rfl, q⟩)
theorem ro_inT {neg : Bool} {a : Addr} {xs : List V} (h : SqT K G a xs) (hx : flatV x = true) (hf : xs.all flatV = true) : RO o (rInG K neg) x (.ref a) G (tIs (.bl (if neg then !inV x xs else inV x xs))) :=
  .lft (ro_q u_is fun G1 H1 e kn Q q => ⟨a, xs, rfl, .inr (ex_t (e.trans kn.sub) h), hx, hf, q⟩)
theorem ro_inL {neg : Bool} {a : Addr} {xs : List V} (h : SqL K G a xs) (hx : flatV x = true) (hf : xs.all flatV = true) : RO o (rInG K neg) x (.ref a) G (tIs (.bl (if neg then !inV x xs else inV x xs))) :=
  .lft (ro_q u_is fun G1 H1 e kn Q q => ⟨a, xs, rfl, .inl (ex_l (e.trans kn.sub) h), hx, hf, q⟩)
/-- items -/
theorem ro_ixL {a : Addr} {xs : List V} {i : Int} (h : SqL K G a xs) (ha : atI xs i = some v) : RO o (rIx K) (.ref a) (.int i) G (tIs v) := .lft (ro_q u_is fun G1 H1 e kn Q q => ⟨a, xs, i, v, rfl, rfl, ex_l (e.trans kn.sub) h, ha, q⟩)
theorem ro_ixT {a : Addr} {xs : List V} {i : Int} (h : SqT K G a xs) (ha : atI xs i = some v) : RO o (rIx K) (.ref a) (.int i) G (tIs v) := .rgt (.lft (ro_q u_is fun G1 H1 e kn Q q => ⟨a, xs, i, v, rfl, rfl, ex_t (e.trans kn.sub) h, ha, q⟩))
/-- slices -/
def EvO (o : Option Addr) (to : TO) (σ : L2.St) (G : Hp) (i : Option Int) : Prop := ∀ G1 H1, Ex G G1 → Kn o G1 H1 → ∀ Q : Option Int → Hp → Prop, (∀ G2 H2, Go o G1 H1 G2 H2 → Q i H2) → to σ H1 Q
theorem eo_none : EvO o tNoPart σ G none := fun G1 H1 e kn Q q => q G1 H1 (.refl kn)
theorem eo_some {i : Int} (h : Ev o te σ G (tIs (.int i))) : EvO o (tPart te) σ G (some i) := fun G1 H1 e kn Q q => h G1 H1 e kn _ fun v G2 H2 g2 w2 => ⟨i, w2.eq, q G2 H2 g2⟩
theorem ev_slS {z : Str} {lo hi : Option Int} {tl th : TO} (h : Ev o te σ G (tIs (.str z))) (hz : z.length ≤ 100000) (hl : EvO o tl σ G lo) (hh : EvO o th σ G hi) : Ev o (tSl (rSlG K) te tl th) σ G (tIs (.str (cutS z lo hi))) := fun G1 H1 e kn Q q =>
  h G1 H1 e kn _ fun v G2 H2 g2 w2 => hl G2 H2 (e.trans g2.gg) g2.kn _ fun G3 H3 g3 => hh G3 H3 ((e.trans g2.gg).trans g3.gg) g3.kn _ fun G4 H4 g4 =>
    .inr (.inl ⟨z, w2.eq, Evl.sz_of hz, q _ G4 H4 ((g2.trans g3).trans g4) u_is⟩)
/-- a slice of a known list: a new list -/
theorem en_slL {lo hi : Option Int} {tl th : TO} {P P' : PL} (h : Ev o te σ G t) (k : ∀ G' v, Ex G G' → U t G' v → ∃ a xs, v = .ref a ∧ SqL K G' a xs ∧ UP P' G' xs) (hl : EvO o tl σ G lo) (hh : EvO o th σ G hi) (hP : ∀ G' xs, P' G' xs → P G' (cutV xs lo hi)) :
    EvN o (tSl (rSlG K) te tl th) σ G P := fun G1 H1 e kn Q q =>
  h G1 H1 e kn _ fun v G2 H2 g2 w2 => hl G2 H2 (e.trans g2.gg) g2.kn _ fun G3 H3 g3 => hh G3 H3 ((e.trans g2.gg).trans g3.gg) g3.kn _ fun G4 H4 g4 => by
    obtain ⟨a, xs, rfl, hs, hp⟩ := k G2 v (e.trans g2.gg) w2
    have g := (g2.trans g3).trans g4
    exact .inl ⟨a, xs, rfl, ex_l ((g3.gg.trans g4.gg).trans g4.kn.sub) hs, fun p hp4 => q p _ G4 _ (g.trans (.tmp g4.kn hp4)) (g.fresh hp4) upd_same (Evl.fresh_back g4.kn.sub hp4) fun G' e' => hP G' xs (hp G' ((g3.gg.trans g4.gg).trans e'))⟩
/-- .. of a new list -/
theorem en_slN {lo hi : Option Int} {tl th : TO} {P P' : PL} (h : EvN o te σ G P') (hl : EvO o tl σ G lo) (hh : EvO o th σ G hi) (hP : ∀ G' xs, P' G' xs → P G' (cutV xs lo hi)) : EvN o (tSl (rSlG K) te tl th) σ G P :=
  en_slL (t := fun G' v => ∃ a xs, v = .ref a ∧ G' a = some (.lst xs) ∧ UP P' G' xs) (P' := P') (h.ev fun G' a xs e ha p0 => ⟨a, xs, rfl, ha, p0⟩) (fun G' v e w => by
    obtain ⟨a, xs, rfl, ha, hp⟩ := w.now
    exact ⟨a, xs, rfl, .of ha, hp⟩) hl hh hP
/-- two new lists, one behind the other -/
theorem en_cat {P P' P2 : PL} (ha : EvN o ta σ G P) (hb : EvN o tb σ G P') (hl : ∀ G' xs, UP P G' xs → xs.length ≤ 50000) (hl2 : ∀ G' xs, UP P' G' xs → xs.length ≤ 50000) (hP : ∀ G' xs ys, UP P G' xs → UP P' G' ys → UP P2 G' (xs ++ ys)) : EvN o (tOp (rAddG K) ta tb) σ G P2 := fun G1 H1 e kn Q q =>
  ha G1 H1 e kn _ fun p xs G2 H2 g2 hp h2 n2 w2 => hb G2 H2 (e.trans g2.gg) g2.kn _ fun p' ys G3 H3 g3 hp' h3 n3 w3 => by
    have hob : o ≠ some p := kn.nbox hp
    have h2' := g3.kp p _ h2 hob
    have g := g2.trans g3
    have l1 := hl G2 xs w2
    have l2 := hl2 G3 ys w3
    exact .inr (.inr (.inl ⟨p, p', xs, ys, rfl, rfl, h2', h3, Evl.sz_of (by omega), fun d hd => q d _ G3 _ (g.trans (.tmp g3.kn hd)) (g.fresh hd) upd_same (Evl.fresh_back g3.kn.sub hd) (hP G3 xs ys (w2.up g3.gg) w3)⟩))
/-- a known list as a new one of its own items is none: the first operand known -/
theorem en_catK {P P' P2 : PL} (ha : Ev o ta σ G t) (k : ∀ G' v, Ex G G' → U t G' v → ∃ a xs, v = .ref a ∧ G' a = some (.lst xs) ∧ UP P G' xs) (hb : EvN o tb σ G P') (hl : ∀ G' xs, UP P G' xs → xs.length ≤ 50000) (hl2 : ∀ G' xs, UP P' G' xs → xs.length ≤ 50000) (hP : ∀ G' xs ys, UP P G' xs → UP P' G' ys → UP P2 G' (xs ++ ys)) : EvN o (tOp (rAddG K) ta tb) σ G P2 := fun G1 H1 e kn Q q =>
  ha G1 H1 e kn _ fun v G2 H2 g2 w2 => hb G2 H2 (e.trans g2.gg) g2.kn _ fun p' ys G3 H3 g3 hp' h3 n3 w3 => by
    obtain ⟨p, xs, rfl, hx, hp⟩ := k G2 v (e.trans g2.gg) w2
    have g := g2.trans g3
    have l1 := hl G2 xs hp
    have l2 := hl2 G3 ys w3
    exact .inr (.inr (.inl ⟨p, p', xs, ys, rfl, rfl, g3.kn.sub _ _ (g3.gg _ _ hx), h3, Evl.sz_of (by omega), fun d hd => q d _ G3 _ (g.trans (.tmp g3.kn hd)) (g.fresh hd) upd_same (Evl.fresh_back g3.kn.sub hd) (hP G3 xs ys (hp.up g3.gg) w3)⟩))
/-- both known -/
theorem en_catKK {P P' P2 : PL} {u : T} (ha : Ev o ta σ G t) (k : ∀ G' v, Ex G G' → U t G' v → ∃ a xs, v = .ref a ∧ G' a = some (.lst xs) ∧ UP P G' xs) (hb : Ev o tb σ G u) (k2 : ∀ G' v, Ex G G' → U u G' v → ∃ a xs, v = .ref a ∧ G' a = some (.lst xs) ∧ UP P' G' xs) (hl : ∀ G' xs, UP P G' xs → xs.length ≤ 50000) (hl2 : ∀ G' xs, UP P' G' xs → xs.length ≤ 50000) (hP : ∀ G' xs ys, UP P G' xs → UP P' G' ys → UP P2 G' (xs ++ ys)) : EvN o (tOp (rAddG K) ta tb) σ G P2 := fun G1 H1 e kn Q q =>
  ha G1 H1 e kn _ fun v G2 H2 g2 w2 => hb G2 H2 (e.trans g2.gg) g2.kn _ fun v' G3 H3 g3 w3 => by
    obtain ⟨p, xs, rfl, hx, hp⟩ := k G2 v (e.trans g2.gg) w2
    obtain ⟨p', ys, rfl, hy, hp'⟩ := k2 G3 v' ((e.trans g2.gg).trans g3.gg) w3
    have g := g2.trans g3
    have l1 := hl G2 xs hp
    have l2 := hl2 G3 ys hp'
    exact .inr (.inr (.inl ⟨p, p', xs, ys, rfl, rfl, g3.kn.sub _ _ (g3.gg _ _ hx), g3.kn.sub _ _ hy, Evl.sz_of (by omega), fun d hd => q d _ G3 _ (g.trans (.tmp g3.kn hd)) (g.fresh hd) upd_same (Evl.fresh_back g3.kn.sub hd) (hP G3 xs ys (hp.up g3.gg) hp')⟩))
/-- a new list, k times -/
theorem en_rep {P P2 : PL} {n : Int} (ha : EvN o ta σ G P) (hb : Ev o tb σ G (tIs (.int n))) (hn : 0 ≤ n ∧ n ≤ 1000) (hl : ∀ G' xs, UP P G' xs → xs.length ≤ 100) (hP : ∀ G' xs, UP P G' xs → UP P2 G' (List.replicate n.toNat xs).flatten) : EvN o (tOp rMulG ta tb) σ G P2 := fun G1 H1 e kn Q q =>
  ha G1 H1 e kn _ fun p xs G2 H2 g2 hp h2 n2 w2 => hb G2 H2 (e.trans g2.gg) g2.kn _ fun v G3 H3 g3 w3 => by
    have hob : o ≠ some p := kn.nbox hp
    have h2' := g3.kp p _ h2 hob
    have g := g2.trans g3
    have l1 := hl G2 xs w2
    refine .inr ⟨p, n, xs, rfl, w3.eq, h2', by omega, by omega, Evl.sz_of ?_, fun d hd => q d _ G3 _ (g.trans (.tmp g3.kn hd)) (g.fresh hd) upd_same (Evl.fresh_back g3.kn.sub hd) (hP G3 xs (w2.up g3.gg))⟩
    have h3 : n.toNat ≤ 1000 := by omega
    exact Nat.le_trans (Nat.mul_le_mul l1 h3) (by decide)
end
end Ty
namespace Ty
open PySem L2
open Evl (Ex ex_l ex_t)
/-! ### more -/
theorem pe_globE {X : Cx} {x : Str} {v : V} {pos : Pos} (hg : Gl X x) (hm : ∃ u, X.mg x = some u ∧ RelV v u) (hd : (x == ("__debug__" : Str)) = false := by decide) : PE X (.Name x pos) (tC v) := by
  obtain ⟨u, h1, h2⟩ := hm
  exact pe_glob hg h1 h2 hd
/-- a promise: a new list -/
def spN (C : Option Addr → Hp → List V → PL → Prop) : Sp := fun vs H Q _ => ∃ o G P, Kn o G H ∧ C o G vs P ∧ ∀ p xs G2 H2, Go o G H G2 H2 → H p = none → H2 p = some (.lst xs) → G2 p = none → UP P G2 xs → Q (.ref p) H2
section
variable {o : Option Addr} {σ : L2.St} {Ge He G H : Hp} {te : TE} {P : PL} {D : Ends}
theorem en_call {C : Option Addr → Hp → List V → PL → Prop} {E : XK} {ta : TA} {ts : List T} (ha : EvA o ta σ G ts)
    (hc : ∀ G' vs, Ex G G' → AllU G' ts vs → ∃ o' P', (o' = o ∨ o' = none) ∧ C o' G' vs P' ∧ ∀ G'' xs, Ex G' G'' → UP P' G'' xs → UP P G'' xs) : EvN o (tCall (spN C) [] E ta) σ G P := fun G1 H1 a kn Q q =>
  ha G1 H1 a kn _ fun vs G2 H2 g2 w2 => by
    obtain ⟨o', P', ho, c, k⟩ := hc G2 vs (a.trans g2.gg) w2
    rw [List.append_nil]
    rcases ho with rfl | rfl
    · exact ⟨o', G2, P', g2.kn, c, fun p xs G3 H3 g3 hp h3 n3 w3 => q p xs G3 H3 (g2.trans g3) (g2.fresh hp) h3 n3 (k G3 xs g3.gg w3)⟩
    · exact ⟨none, G2, P', g2.kn.pure, c, fun p xs G3 H3 g3 hp h3 n3 w3 => q p xs G3 H3 (g2.trans (g3.pure g2.kn)) (g2.fresh hp) h3 n3 (k G3 xs g3.gg w3)⟩
theorem s_retN (g : Go o Ge He G H) (h : EvN o te σ G P) (k : ∀ p xs G2 H2, Go o Ge He G2 H2 → He p = none → H2 p = some (.lst xs) → G2 p = none → UP P G2 xs → D.rt (.ref p) H2) : tRet te D σ H :=
  h G H (Ex.refl _) g.kn _ fun p xs G2 H2 g2 hp h2 n2 w2 => k p xs G2 H2 (g.trans g2) (g.fresh hp) h2 n2 w2
end
end Ty
set_option Elab.async false
set_option linter.all false
set_option maxRecDepth 100000
set_option maxHeartbeats 4000000
/-! Kinds of values, isinstance. -/
namespace Ty
open PySem L2
open Evl (Ex ex_l ex_t)
/-! ### the rules, the written part by its own letter (a block's context has the same) -/
section
variable {X : Cx} {K : PySem.W.Frag}
theorem kIx (e : X.K = K) : IxR X (rIx K) := e ▸ ix_seq
theorem kEq (e : X.K = K) (hu : X.A.units + 64 < cLine) : OpR X (compareOp .Eq) (rEqG K) := e ▸ gEq hu
theorem kNe (e : X.K = K) (hu : X.A.units + 64 < cLine) : OpR X (compareOp .NotEq) (rNeG K) := e ▸ gNe hu
theorem kAdd (e : X.K = K) : OpR X (binaryOp .Add) (rAddG K) := e ▸ gAdd
theorem kIn (e : X.K = K) : OpR X (compareOp .In) (rInG K false) := e ▸ gIn
theorem kNotIn (e : X.K = K) : OpR X (compareOp .NotIn) (rInG K true) := e ▸ gNotIn
theorem kLen (e : X.K = K) : CallR X (.builtin "len") (rLen K) := e ▸ gLen
theorem kSl (e : X.K = K) : SlR X (rSlG K) := e ▸ gSl
theorem kIsi (e : X.K = K) : CallR X (.builtin "isinstance") (rIsi K) := e ▸ call_isi
theorem kIsiT (e : X.K = K) : CallR X (.builtin "isinstance") (rIsiT K) := e ▸ call_isiT
theorem kAll (e : X.K = K) (hc : X.calm = true) : CallR X (.builtin "all") (rAll K) := e ▸ cr_all hc
theorem kAny (e : X.K = K) (hc : X.calm = true) : CallR X (.builtin "any") (rAny K) := e ▸ cr_any hc
theorem kSum (e : X.K = K) (hc : X.calm = true) : CallR X (.builtin "sum") (rSum K) := e ▸ cr_sum hc
def rListOf (K : PySem.W.Frag) : List V → Hp → VK → Prop := fun xs H Q => ∃ p ys, xs = [.ref p] ∧ (SqL K H p ys ∨ SqT K H p ys) ∧ ∀ l, H l = none → Q (.ref l) (upd H l (.lst ys))
theorem kList (e : X.K = K) : CallR X (.type "list") (rListOf K) := e ▸ call_list_of
theorem pi_listK {tg l : Expr} {tl : TE} (e : X.K = K) (hl : PE X l tl) : PI X tg l (iList K tl) := e ▸ pi_list hl
theorem pi_tupK {tg l : Expr} {tl : TE} (e : X.K = K) (hl : PE X l tl) : PI X tg l (iTup K tl) := e ▸ pi_tup hl
end
/-- a value of a built-in kind, as G knows it -/
inductive KT (K : PySem.W.Frag) (G : Hp) : V → String → Prop
  | non : KT K G .non "NoneType"
  | bl (b : Bool) : KT K G (.bl b) "bool"
  | int (i : Int) : KT K G (.int i) "int"
  | str (x : Str) : KT K G (.str x) "str"
  | lst {a : Addr} {xs : List V} : SqL K G a xs → KT K G (.ref a) "list"
  | tup {a : Addr} {xs : List V} : SqT K G a xs → KT K G (.ref a) "tuple"
  | dic {a : Addr} {kvs : List (Key × V)} : G a = some (.dK kvs) → KT K G (.ref a) "dict"
theorem KT.up {K : PySem.W.Frag} {G G' : Hp} {v : V} {n : String} (e : Ex G G') (k : KT K G v n) : KT K G' v n := by
  cases k with
  | non => exact .non
  | bl b => exact .bl b
  | int i => exact .int i
  | str x => exact .str x
  | lst h => exact .lst (ex_l e h)
  | tup h => exact .tup (ex_t e h)
  | dic h => exact .dic (e _ _ h)
theorem KT.ty {K : PySem.W.Frag} {H : Hp} {v : V} {n : String} (k : KT K H v n) : TyX K H v (.type n) := by
  cases k with
  | non => exact .base .non
  | bl b => exact .base (.bl b)
  | int i => exact .base (.int i)
  | str x => exact .base (.str x)
  | lst h =>
    rcases h with (h | ⟨o, h⟩) | ⟨o, its, n, h1, h2, _⟩
    · exact .base (.lst h)
    · exact .base (.frz h)
    · exact .kList h1 h2
  | tup h =>
    rcases h with (h | ⟨o, h⟩) | ⟨o, its, n, h1, h2, _⟩
    · exact .base (.tup h)
    · exact .fTuple h
    · exact .kTuple h1 h2
  | dic h => exact .base (.dK h)
section
variable {K : PySem.W.Frag} {o : Option Addr} {σ : L2.St} {G : Hp} {ta tb te : TE} {s t u : T} {x y v : V}
theorem ev_isi {n : String} {c : String} {b : Bool} (ha : Ev o ta σ G (tIs x)) (k : KT K G x n) (h : kitB n c = some b) : Ev o (tCB (rIsi K) (tCons ta (tCons (tC (.ty c)) tNil))) σ G (tIs (.bl b)) :=
  ev_cb (ea_cons ha (ea_cons ev_k ea_nil)) fun G' vs e a => by
    cases a with
    | cons a1 a => cases a with
      | cons a2 a =>
        cases a
        rw [a1.eq, a2.eq]
        exact rc_q u_is fun G1 H1 e1 kn Q q => ⟨x, .ty c, .type n, .type c, b, rfl, .ty c, (k.up ((e.trans e1).trans kn.sub)).ty, kit_ty h, q⟩
theorem kitAny2 {n c1 c2 : String} {b1 b2 : Bool} (h1 : kitB n c1 = some b1) (h2 : kitB n c2 = some b2) : PySem.W.kitAny K (.type n) [.type c1, .type c2] = some (b1 || b2) :=
  kitAny_cons (kit_ty h1) (fun e => by
    subst e
    exact kitAny_cons (kit_ty h2) (fun e => by subst e; exact kitAny_nil) fun e => by subst e; rfl) fun e => by subst e; rfl
theorem ev_isi2 {n : String} {c1 c2 : String} {b1 b2 : Bool} (ha : Ev o ta σ G (tIs x)) (k : KT K G x n) (h1 : kitB n c1 = some b1) (h2 : kitB n c2 = some b2) :
    Ev o (tCB (rIsiT K) (tCons ta (tCons (tTup (tCons (tC (.ty c1)) (tCons (tC (.ty c2)) tNil))) tNil))) σ G (tIs (.bl (b1 || b2))) := fun G1 H1 e kn Q q =>
  ha G1 H1 e kn _ fun v G2 H2 g2 w2 => by
    refine ⟨by show 2 ≤ sizeLine; decide, fun p hp => ?_⟩
    refine ⟨x, p, [.ty c1, .ty c2], .type n, [.type c1, .type c2], b1 || b2, by rw [w2.eq], upd_same, .cons (.ty c1) (.cons (.ty c2) .nil), (k.up ((e.trans g2.gg).trans (g2.kn.sub.trans (Ex.new hp)))).ty, kitAny2 h1 h2, q _ G2 _ (g2.trans (.tmp g2.kn hp)) u_is⟩
theorem ro_isN : RO o (fun x y H Q => y = .non ∧ Q (.bl (decide (x = .non))) H) x .non G (tIs (.bl (decide (x = .non)))) := ro_q u_is fun _ _ _ _ _ q => ⟨rfl, q⟩
theorem ro_notN : RO o (fun x y H Q => y = .non ∧ Q (.bl (!decide (x = .non))) H) x .non G (tIs (.bl (!decide (x = .non)))) := ro_q u_is fun _ _ _ _ _ q => ⟨rfl, q⟩
theorem ro_isB {a b : Bool} : RO o rIsB (.bl a) (.bl b) G (tIs (.bl (decide (a = b)))) := ro_q u_is fun _ _ _ _ _ q => ⟨a, b, rfl, rfl, q⟩
/-- x is None, told -/
theorem ev_isN {b : Bool} (ha : Ev o ta σ G (tIs x)) (e : decide (x = .non) = b) : Ev o (tOp (fun x y H Q => y = .non ∧ Q (.bl (decide (x = .non))) H) ta (tC .non)) σ G (tIs (.bl b)) := by
  rw [← e]
  exact ev_op2 ha ev_k ro_isN
theorem ev_chain {r r' : R2} {a b : Bool} {z : V} {tc : TE} (ha : Ev o ta σ G (tIs x)) (hb : Ev o tb σ G (tIs y)) (hr : ∀ G', Ex G G' → RO o r x y G' (tIs (.bl a))) (hc : Ev o tc σ G (tIs z)) (hr' : ∀ G', Ex G G' → RO o r' y z G' (tIs (.bl b))) : Ev o (tChain r r' ta tb tc) σ G (tIs (.bl (a && b))) := fun G1 H1 e kn Q q =>
  ha G1 H1 e kn _ fun v1 G2 H2 g2 w2 => hb G2 H2 (e.trans g2.gg) g2.kn _ fun v2 G3 H3 g3 w3 => by
    rw [w2.eq, w3.eq]
    refine hr G3 ((e.trans g2.gg).trans g3.gg) G3 H3 (Ex.refl _) g3.kn _ fun v4 G4 H4 g4 w4 => ⟨a, w4.eq, ?_⟩
    have g := (g2.trans g3).trans g4
    cases a with
    | true =>
      refine hc G4 H4 (e.trans g.gg) g4.kn _ fun v5 G5 H5 g5 w5 => ?_
      rw [w5.eq]
      exact hr' G5 ((e.trans g.gg).trans g5.gg) G5 H5 (Ex.refl _) g5.kn Q fun v6 G6 H6 g6 w6 => q v6 G6 H6 ((g.trans g5).trans g6) w6
    | false => exact q _ G4 H4 g u_is
/-- a test and an item's value, told -/
theorem en_filt {wi : TI} {tt : TT} {j : Nat} {vs : List Nat} {P : PL} (f : V → V) (b : V → Bool) (hi : EvI o wi σ G P) (hw : ∀ x, wipe ((wipe σ vs).set j (some x)) vs = wipe σ vs)
    (hl : ∀ G' xs, Ex G G' → UP P G' xs → xs.length ≤ 100000) (ht : ∀ G' (xs : List V) (i : Nat) x, Ex G G' → UP P G' xs → xs[i]? = some x → EvT o tt ((wipe σ vs).set j (some x)) G' (· = b x))
    (he : ∀ G' (xs : List V) (i : Nat) x, Ex G G' → UP P G' xs → xs[i]? = some x → b x = true → Ev o te ((wipe σ vs).set j (some x)) G' (tIs (f x))) :
    EvN o (tLc wi (gName j) tt te vs) σ G (fun G' ys => ∃ xs, UP P G' xs ∧ ys = (xs.filter b).map f) := fun G1 H1 e kn Q q =>
  en_lc (fun xs i G' acc => acc = ((xs.take i).filter b).map f) hi hw (fun _ _ _ _ _ _ h => h) (fun G' xs e hP => ⟨hl G' xs e hP, rfl⟩) (fun G' xs i x acc e hP hx la r => by
    have hq : xs.take (i + 1) = xs.take i ++ [x] := by
      rw [List.take_succ, hx]; rfl
    refine ⟨_, ht G' xs i x e hP hx, fun hb G3 e3 => ⟨_, (he G' xs i x e hP hx hb.symm).up e3, fun G4 y e4 w4 => ?_⟩, fun hb G3 e3 => ?_⟩
    · rw [w4.eq, r, hq, List.filter_append, List.map_append, List.filter_cons, if_pos hb.symm]
      rfl
    · rw [r, hq, List.filter_append, List.map_append, List.filter_cons, if_neg (by rw [← hb]; simp)]
      simp) G1 H1 e kn Q fun p ys G2 H2 g2 hp h2 n2 w2 => by
    refine q p ys G2 H2 g2 hp h2 n2 fun G' e' => ?_
    obtain ⟨xs, hP, _, r⟩ := w2 G' e'
    rw [List.take_length] at r
    exact ⟨xs, hP, r⟩
/-- a text of at most n signs -/
def tStr (n : Nat) : T := fun _ v => ∃ z : Str, v = .str z ∧ z.length ≤ n
theorem u_str {n : Nat} {z : Str} {G : Hp} (h : z.length ≤ n) : U (tStr n) G (.str z) := fun _ _ => ⟨z, rfl, h⟩
/-- a known value, its text not too long -/
def Kv (K : PySem.W.Frag) (G : Hp) (v : V) : Prop := (∃ n, KT K G v n) ∧ ∀ z : Str, v = .str z → z.length ≤ 1000
def tKv (K : PySem.W.Frag) : T := fun G v => Kv K G v
theorem Kv.up {G' : Hp} (h : Kv K G v) (e : Ex G G') : Kv K G' v := ⟨let ⟨n, k⟩ := h.1; ⟨n, k.up e⟩, h.2⟩
theorem Kv.un (h : Kv K G v) : U (tKv K) G v := fun _ e => h.up e
theorem kv_str {z : Str} (h : z.length ≤ 1000) : Kv K G (.str z) := ⟨⟨_, .str z⟩, fun y e => by cases e; exact h⟩
theorem kv_non : Kv K G .non := ⟨⟨_, .non⟩, fun y e => by cases e⟩
theorem kv_bl {b : Bool} : Kv K G (.bl b) := ⟨⟨_, .bl b⟩, fun y e => by cases e⟩
theorem kv_int {i : Int} : Kv K G (.int i) := ⟨⟨_, .int i⟩, fun y e => by cases e⟩
theorem kv_lst {a : Addr} {xs : List V} (h : SqL K G a xs) : Kv K G (.ref a) := ⟨⟨_, .lst h⟩, fun y e => by cases e⟩
theorem kv_tup {a : Addr} {xs : List V} (h : SqT K G a xs) : Kv K G (.ref a) := ⟨⟨_, .tup h⟩, fun y e => by cases e⟩
theorem kv_dic {a : Addr} {kvs : List (Key × V)} (h : G a = some (.dK kvs)) : Kv K G (.ref a) := ⟨⟨_, .dic h⟩, fun y e => by cases e⟩
theorem ev_dnew : Ev o tDNewK σ G (fun G' v => ∃ d, v = .ref d ∧ G' d = some (.dK [])) := fun G1 H1 e kn Q q d hd => q _ _ _ (.new kn hd) fun G' e' => ⟨d, rfl, e' d _ upd_same⟩
/-- a display of one pair, both flat -/
theorem ev_disp1 {k : Key} {tk tv : TE} (hk : ∀ G', Ev o tk σ G' (tIs (kV k))) (hv : ∀ G', Ev o tv σ G' (tIs v)) : Ev o (tDisp [(tk, tv)]) σ G (fun G' d => ∃ a, d = .ref a ∧ G' a = some (.dK [(k, v)])) := fun G1 H1 e kn Q q p hp => by
  have gp : G1 p = none := Evl.fresh_back kn.sub hp
  have g1 : Go o G1 H1 G1 (upd H1 p (.dK [])) := .tmp kn hp
  have nb := kn.nbox hp
  refine hk G1 _ _ (Ex.refl _) g1.kn _ fun x G2 H2 g2 w2 => hv G2 G2 H2 (Ex.refl _) g2.kn _ fun y G3 H3 g3 w3 => ?_
  have g := (g1.trans g2).trans g3
  have h3 : H3 p = some (.dK []) := g3.kp p _ (g2.kp p _ upd_same nb) nb
  have n3 : G3 p = none := (g2.trans g3).nw p gp (by rw [upd_same]; simp)
  refine ⟨h3, [(k, v)], by rw [w2.eq, w3.eq]; rfl, (by show 1 ≤ 15; decide), q _ (upd G3 p (.dK [(k, v)])) _ ((g.mut hp n3 nb).fix hp upd_same n3 nb) fun G' e' => ⟨p, rfl, e' p _ upd_same⟩⟩
theorem ev_cb1 {r : List V → Hp → VK → Prop} (ha : Ev o ta σ G (tIs x)) (hr : ∀ G', Ex G G' → RC o r [x] G' t) : Ev o (tCB r (tCons ta tNil)) σ G t :=
  ev_cb (ea_cons ha ea_nil) fun G' vs e a => by
    cases a with
    | cons a1 a =>
      cases a
      rw [a1.eq]
      exact hr G' e
theorem EvN.impN {P P' : PL} (h : EvN o te σ G P) (k : ∀ G' xs, P G' xs → P' G' xs) : EvN o te σ G P' := fun G1 H1 e kn Q q => h G1 H1 e kn Q fun p xs G2 H2 g2 hp h2 n2 w2 => q p xs G2 H2 g2 hp h2 n2 fun G' e' => k G' xs (w2 G' e')
/-- two names at once: a known value and a list of one's own -/
theorem q_par1N {Ge He H : Hp} {D : Ends} {tz : TS} {i j : Nat} {P : PL} (g : Go o Ge He G H) (h1 : Ev o ta σ G t) (h2 : EvN o tb σ G P)
    (k : ∀ v p xs G2 H2, Go o Ge He G2 H2 → Go o G H G2 H2 → U t G2 v → He p = none → o ≠ some p → H2 p = some (.lst xs) → G2 p = none → UP P G2 xs → tz D ((σ.set i (some v)).set j (some (.ref p))) H2) :
    tSeq (tPar i j (tCons ta (tCons tb tNil))) tz D σ H :=
  h1 G H (Ex.refl _) g.kn _ fun v G2 H2 g2 w2 => h2 G2 H2 g2.gg g2.kn _ fun p xs G3 H3 g3 hp h3 n3 w3 => ⟨v, .ref p, rfl, k v p xs G3 H3 (g.trans (g2.trans g3)) (g2.trans g3) (w2.up g3.gg) ((g.trans g2).fresh hp) (g2.kn.nbox hp) h3 n3 w3⟩
/-! ### lists, known or one's own -/
def EvQ (o : Option Addr) (te : TE) (σ : L2.St) (G : Hp) (P : PL) : Prop := ∀ G1 H1, Ex G G1 → Kn o G1 H1 → ∀ Q : VK, (∀ p xs G2 H2, Go o G1 H1 G2 H2 → o ≠ some p → H2 p = some (.lst xs) → UP P G2 xs → Q (.ref p) H2) → te σ H1 Q
theorem EvN.q {P : PL} (h : EvN o te σ G P) : EvQ o te σ G P := fun G1 H1 e kn Q q => h G1 H1 e kn Q fun p xs G2 H2 g2 hp h2 n2 w2 => q p xs G2 H2 g2 (kn.nbox hp) h2 w2
theorem Kn.gbox {H : Hp} (kn : Kn o G H) {p : Addr} {z : HO} (h : G p = some z) : o ≠ some p := fun e => by
  rw [(kn.box p e).2] at h
  cases h
theorem Ev.q {P : PL} (h : Ev o te σ G t) (k : ∀ G' v, Ex G G' → U t G' v → ∃ a xs, v = .ref a ∧ G' a = some (.lst xs) ∧ UP P G' xs) : EvQ o te σ G P := fun G1 H1 e kn Q q => h G1 H1 e kn Q fun v G2 H2 g2 w2 => by
  obtain ⟨a, xs, rfl, ha, hp⟩ := k G2 v (e.trans g2.gg) w2
  exact q a xs G2 H2 g2 (g2.kn.gbox ha) (g2.kn.sub _ _ ha) hp
theorem en_catQ {P P' P2 : PL} (ha : EvQ o ta σ G P) (hb : EvQ o tb σ G P') (hl : ∀ G' xs, UP P G' xs → xs.length ≤ 50000) (hl2 : ∀ G' xs, UP P' G' xs → xs.length ≤ 50000) (hP : ∀ G' xs ys, UP P G' xs → UP P' G' ys → UP P2 G' (xs ++ ys)) : EvN o (tOp (rAddG K) ta tb) σ G P2 := fun G1 H1 e kn Q q =>
  ha G1 H1 e kn _ fun p xs G2 H2 g2 hob h2 w2 => hb G2 H2 (e.trans g2.gg) g2.kn _ fun p' ys G3 H3 g3 hob' h3 w3 => by
    have h2' := g3.kp p _ h2 hob
    have g := g2.trans g3
    have l1 := hl G2 xs w2
    have l2 := hl2 G3 ys w3
    exact .inr (.inr (.inl ⟨p, p', xs, ys, rfl, rfl, h2', h3, Evl.sz_of (by omega), fun d hd => q d _ G3 _ (g.trans (.tmp g3.kn hd)) (g.fresh hd) upd_same (Evl.fresh_back g3.kn.sub hd) (hP G3 xs ys (w2.up g3.gg) w3)⟩))
theorem len_app (a b : Str) : (a ++ b).length = a.length + b.length := by
  show (a.cps ++ b.cps).size = _
  rw [Array.size_append]
  rfl
theorem len_join (y : Str) : ∀ ps : List Str, (Str.join y ps).length ≤ (ps.map (·.length)).sum + ps.length * y.length
  | [] => Nat.zero_le _
  | [x] => by
    show x.length ≤ x.length + 0 + 1 * y.length
    omega
  | x :: z :: r => by
    have ih := len_join y (z :: r)
    show (x ++ y ++ Str.join y (z :: r)).length ≤ _
    rw [len_app, len_app, List.map_cons, List.sum_cons, List.length_cons, Nat.succ_mul]
    omega
theorem sum_le {ps : List Str} {m : Nat} (h : ∀ p ∈ ps, p.length ≤ m) : (ps.map (·.length)).sum ≤ ps.length * m := by
  induction ps with
  | nil => exact Nat.zero_le _
  | cons x r ih =>
    have h1 := h x (List.mem_cons_self ..)
    have h2 := ih fun p hp => h p (List.mem_cons_of_mem _ hp)
    rw [List.map_cons, List.sum_cons, List.length_cons, Nat.succ_mul]
    omega
theorem strs_of {n : Nat} {xs : List V} (h : ∀ x ∈ xs, ∃ z : Str, x = .str z ∧ z.length ≤ n) : ∃ ys : List Str, xs = ys.map V.str ∧ ∀ y ∈ ys, y.length ≤ n := by
  induction xs with
  | nil => exact ⟨[], rfl, fun _ h => nomatch h⟩
  | cons x r ih =>
    obtain ⟨z, rfl, hz⟩ := h x (List.mem_cons_self ..)
    obtain ⟨ys, rfl, hy⟩ := ih fun p hp => h p (List.mem_cons_of_mem _ hp)
    exact ⟨z :: ys, rfl, fun y hy' => by
      rcases List.mem_cons.mp hy' with rfl | h'
      · exact hz
      · exact hy y h'⟩
def rJoin (K : PySem.W.Frag) : V → List V → Hp → VK → Prop := fun x xs H Q => ∃ a p, ∃ ys : List Str, x = .str a ∧ xs = [.ref p] ∧ (SqL K H p (ys.map V.str) ∨ SqT K H p (ys.map V.str)) ∧
      (ys.map (·.length)).sum + ys.length * a.length ≤ 16777216 ∧ Q (.str (Txt.join a ys)) H
/-- ''.join of few short texts -/
theorem ev_join {n m : Nat} (ha : Ev o ta σ G (tIs (.str ""))) (hb : EvN o te σ G fun G' xs => xs.length ≤ n ∧ ∀ x ∈ xs, U (tStr m) G' x) (hn : n * m ≤ 100000) : Ev o (tM1 (rJoin K) ta te) σ G (tStr (n * m)) := fun G1 H1 e kn Q q =>
  ha G1 H1 e kn _ fun v G2 H2 g2 w2 => ⟨⟨_, w2.eq⟩, hb G2 H2 (e.trans g2.gg) g2.kn _ fun p xs G3 H3 g3 hp h3 n3 w3 => by
    obtain ⟨hl, hx⟩ := w3.now
    obtain ⟨ys, rfl, hy⟩ := strs_of fun x h => (hx x h).now
    rw [List.length_map] at hl
    have s1 := sum_le hy
    have s2 : ys.length * m ≤ n * m := Nat.mul_le_mul_right m hl
    have z0 : (("" : Str)).length = 0 := by decide +kernel
    refine ⟨"", p, ys, w2.eq, rfl, .inl (.of h3), by rw [z0, Nat.mul_zero]; omega, q _ G3 H3 (g2.trans g3) (u_str ?_)⟩
    rw [TL.join_eq]
    have := len_join "" ys
    rw [z0, Nat.mul_zero] at this
    omega⟩
theorem ev_upper {z : Str} (ha : Ev o ta σ G (tIs (.str z))) (hz : z.length ≤ 100000) : Ev o (tM0 (fun x xs H Q => ∃ a, x = .str a ∧ xs = [] ∧ a.length ≤ 5592405 ∧ Q (.str (Txt.upper a)) H) ta) σ G (tIs (.str (Txt.upper z))) := fun G1 H1 e kn Q q =>
  ha G1 H1 e kn _ fun v G2 H2 g2 w2 => ⟨⟨_, w2.eq⟩, z, w2.eq, rfl, by omega, q _ G2 H2 g2 u_is⟩
theorem Go.unbox {Ge He G2 H2 G3 H3 : Hp} {p : Addr} (a : Go none Ge He G2 H2) (hp : He p = none) (b : Go (some p) G2 H2 G3 H3) : Go none Ge He G3 H3 where
  gg := a.gg.trans b.gg
  kn := b.kn.pure
  kp := fun x y h _ => b.kp x y (a.kp x y h (by simp)) (fun z => by cases z; rw [hp] at h; cases h)
  nw := fun x g h => by
    cases e : He x with
    | none => exact absurd e h
    | some y => exact b.nw x (a.nw x g h) (by rw [a.kp x y e (by simp)]; simp)
end
/-! ### the top's facts -/
theorem df_mk {K : PySem.W.Frag} {h : Heap} {mg : Str → Option Value} {x : Str} {st : Stmt} {f : Addr} {oc : Value} {od an : Option Addr} {osl : Array (Option Value)} {kV doc pm cdv ct : Value} (X : K.In h) (G : h.Ns mainGlobals mg)
    (a : PySem.W.nsIn K mainGlobals x = some (some (.ref f))) (l : K.lookup f = some ⟨oc, od, .func (PySem.W.fnOf x x (defArgs st) (defBody st) (defScope st) .none kV doc pm an cdv ct), osl⟩)
    (c : PySem.W.codeIn K cdv x = true) (k : PySem.W.keepIn K (.ref f) = true) : Df K mg x st := ⟨f, _, fun_mk l c k, PySem.W.mg_of X G a⟩
theorem gl_mk {K : PySem.W.Frag} {h : Heap} {mg : Str → Option Value} {x : Str} {v : V} {u : Value} (X : K.In h) (G : h.Ns mainGlobals mg) (a : PySem.W.nsIn K mainGlobals x = some (some u)) (r : RelV v u) : ∃ u, mg x = some u ∧ RelV v u := ⟨u, PySem.W.mg_of X G a, r⟩
end Ty
set_option Elab.async false
set_option linter.all false
set_option maxRecDepth 100000
set_option maxHeartbeats 4000000
/-! An own exception class over ValueError whose __init__ says super().__init__(x) and keeps x. -/
namespace Ex
open PySem PySem.W PySem.Calls PyProof.Rows
section
variable {prog : Program} {w : World} {A : Around} {E : Value → Shared → Prop} {h : Heap} {g : Array GenState} {d : Drawn} {t : Nat} {os : OsState}
variable {nm q : Str} {C N : Addr} {bs bm : List Value} {hdct : Bool} {sn : List Str} {sub : List Value} {ab : Bool} {col : Option Bool} {dd : Option Addr} {k0 k1 k2 k3 k5 : Option Value}
theorem call_mw {u e t0 : Addr} {rest : List Value} {Q : Value → Shared → Prop}
    (hC : h.get? C = some (excClassObj nm q C N bs bm hdct sn sub ab col dd k0 k1 k2 k3 k5 "ValueError.__new__")) (he : h.get? e = some (HandSPX.excO C t0)) (hu : h.get? u = some (kxs_mw "ValueError.__init__" e)) (hrest : rest.length ≤ sizeLine)
    (hq : ∀ h' t1, (∀ b o, b ≠ e → h.get? b = some o → h'.get? b = some o) → h'.get? e = some (HandSPX.excO C t1) → Q .none ⟨h', g, d, t, os⟩) :
    wpAny (model prog w) A (call (.ref u) rest) Q E ⟨h, g, d, t, os⟩ := by
  refine wpAny_call (codeAny_of_tree ?_)
  show wpAny _ A.in1 (callAny (.ref u) ⟨rest, []⟩) _ _ _
  simp only [callAny]
  refine wpAny_bind (wpAny_load hu ?_)
  simp only [kxs_mw, show (Value.type "method-wrapper" == Value.type "method" || Value.type "method-wrapper" == Value.type "builtin_function_or_method" || Value.type "method-wrapper" == Value.type "method-wrapper") = true by decide, if_true]
  refine KFB.if_so (by decide) ?_
  refine wpAny_bind (check_bound_init F.excBase_ValueError.toExcCallFacts hC he rfl ?_)
  refine wpAny_bind (wpAny_pure (wpAny_pure ?_))
  refine ⟨plainId_quiet F.excBase_ValueError.init.plain _, codeAny_builtin F.excBase_ValueError.initEntry ?_⟩
  exact exc_init_tree (cls := .ref C) (t0 := t0) (dv := none) (c2 := .none) (c3 := .none) (b4 := .bool false) he hrest fun h' k e' t' => hq h' _ k e'
end
end Ex
set_option Elab.async false
set_option linter.all false
set_option maxRecDepth 100000
set_option maxHeartbeats 4000000
namespace Ex
open PySem L2 NdefX
/-- what the written part says of an exception class at C, whose __init__ (of the class at D) says super().__init__(x) -/
structure SupC (K : PySem.W.Frag) (C D : Addr) : Prop where
  oex : OexC K C
  ini : PySem.W.ks_superIn K C D "__init__" = some (some (.builtin "ValueError.__init__"))
  ve : PySem.W.subIn K (.ref C) (.type "ValueError") = some true
  inD : PySem.W.mroIn K C (.ref D) = some true
  no : PySem.W.findIn K (.ref C) "given" = some none
/-- of the class at D, the cell of its name, the code of its __init__, the names -/
structure SupD (K : PySem.W.Frag) (mg : Str → Option Value) (prog : Program) (D cc cda : Addr) : Prop where
  cell : ∃ cl cld csl, K.lookup cc = some ⟨cl, cld, .cell (some (.ref D)), csl⟩
  cls : ∃ cd, PySem.W.clsIn K D = some cd
  code : ∃ ccl cdd vs ccs file tf, K.lookup cda = some ⟨ccl, cdd, .fields vs, ccs⟩ ∧ vs[2]? = some (.str file tf) ∧ ((prog.main.file : Str) == file) = true
  sup : mg "super" = none
  opq : PySem.W.nsIn K PySem.cStatics "thirdparty.any" = some none
  top : (prog.main.scope.names.lookup ("super" : Str)).isSome = false
/-- the promise of that __init__: the exception at a keeps x as given, in a dict of its own -/
def spSup (K : PySem.W.Frag) (D : Addr) : Sp := fun vs H Q _ => ∃ (a C : Addr) (x : V), vs = [.ref a, x] ∧ SupC K C D ∧ H a = some (exo a C none) ∧
  ∀ d, H d = none → d ≠ a → Q .non (upd (upd H d (exd d [("given", x)])) a (exo a C (some d)))
theorem nscS {sc : Scope} (h : nscB ["self", "given", "__class__"] ["self", "given"] ["__class__"] sc = true) : NScope ["self", "given", "__class__"] ["self", "given"] ["__class__"] sc := nscope_by h
abbrev supBody (p0 p1 p2 p3 p4 p5 p6 p7 p8 p9 : Pos) : List Stmt := [.Expr (.Call (.Attribute (.Call (.Name "super" p0) [] [] p1) "__init__" p2) [.Name "given" p3] [] p4) p5, .Assign [.Attribute (.Name "self" p6) "given" p7] (.Name "given" p8) p9]
section
variable {P : Program} {w : World} {K : PySem.W.Frag} {mg : Str → Option Value} {base : Heap} {CX : CXT} {f cc cda D : Addr} {qual : Str} {params : Arguments} {scope : Scope} {p0 p1 p2 p3 p4 p5 p6 p7 p8 p9 : Pos} {dV kV doc pm ct oc : Value} {an od : Option Addr} {osl : Array (Option Value)} {ar : Arg}
/-- super().__init__(given); self.given = given -/
theorem ok_sup (lk : K.lookup f = some ⟨oc, od, .func (PySem.W.ksFn "__init__" qual params (supBody p0 p1 p2 p3 p4 p5 p6 p7 p8 p9) scope dV kV doc pm an (.ref cda) ct cc), osl⟩) (hcd : PySem.W.codeIn K (.ref cda) qual = true)
    (S : NScope ["self", "given", "__class__"] ["self", "given"] ["__class__"] scope) (hks : scope.names.lookup ("super" : Str) = some .globalImplicit) (hp : (params.posonlyargs ++ params.args).head? = some ar) (har : ar.arg = "self") (T : SupD K mg P D cc cda)
    {pl : Env → Sem Bool} (hev : ∀ env : Env, eval (.Call (.Attribute (.Call (.Name "super" p0) [] [] p1) "__init__" p2) [.Name "given" p3] [] p4) env = (do
      let ov ← attributeBase (.Call (.Name "super" p0) [] [] p1) "__init__" env (eval (.Call (.Name "super" p0) [] [] p1) env)
      standAt p2.atName
      let (f, first) ← holding [ov] (getMethod ov "__init__" (pl env))
      callWith p4 f first (backTo p4 (starEach [.Name "given" p3] env)) [])) :
    FnOk P w K mg base CX 1 f (PySem.W.ksFn "__init__" qual params (supBody p0 p1 p2 p3 p4 p5 p6 p7 p8 p9) scope dV kV doc pm an (.ref cda) ct cc) ["self", "given"] (spSup K D) := by
  refine ⟨fun vs H Q E h => by obtain ⟨a, C, x, rfl, _⟩ := h; rfl, fun A outer s H args us vs Q E hr e0 hb r hsp => ?_⟩
  obtain ⟨a, C, x, rfl, TC, ha, k⟩ := hsp
  obtain ⟨clc, cld, csl, hcell⟩ := T.cell
  have KX : K.In s.heap := e0.mod.kin.keeps fun b o e => (e0.bs b o e).1
  have lim : s.heap.NoLimit := e0.mod.nolimit.keeps fun b o e => (e0.bs b o e).1
  have hcc := e0.bs cc _ (e0.mod.kin _ _ hcell)
  have look : ∀ {y : Str} {c : Addr}, List.lookup y [(("__class__" : Str), cc)] = some c → y = "__class__" ∧ c = cc := fun {y c} e => by
    by_cases hy : y = "__class__"
    · subst hy
      exact ⟨rfl, by simpa [List.lookup] using e.symm⟩
    · have z : (y == ("__class__" : Str)) = false := by simpa using hy
      simp [List.lookup, z] at e
  have C0 : CellsAt [(("__class__" : Str), cc)] ["__class__"] [none] s.heap H := {
    len := rfl
    all := fun y c e => by
      obtain ⟨_, rfl⟩ := look e
      exact ⟨hcc.2, _, _, hcc.1, rfl⟩
    inj := fun y z c e1 e2 => (look e1).1.trans (look e2).1.symm
    has := fun i y e => by
      cases i with
      | zero =>
        cases e
        exact ⟨cc, rfl, fun v z => by cases z⟩
      | succ i => cases e }
  refine PySem.ks_codeAny_call_defAt (fd := PySem.W.ksFn "__init__" qual params (supBody p0 p1 p2 p3 p4 p5 p6 p7 p8 p9) scope dV kV doc pm an (.ref cda) ct cc) hr.depth (KX _ _ lk) rfl lim (PySem.W.codeRec_of KX hcd) rfl hb S.nocell (fun ⟨n, _⟩ hy => S.par n (List.of_mem_zip hy).1) (fun h₁ hns kp => ?_) S.co S.gen S.kind
  let F : NF := ⟨"__init__", qual, params, supBody p0 p1 p2 p3 p4 p5 p6 p7 p8 p9, scope, [("__class__", cc)], cda⟩
  have I : Inv (ncx CX P w K mg base ["self", "given", "__class__"] F f A outer s H E) [] (startF ["self", "given", "__class__"] [.ref a, x] [none]) H { s with heap := h₁, toks := s.toks + (["self", "given"].zip us).length } := inv_startN S hr.hd e0 rfl r C0 hns kp
  have KI := I.kIn
  obtain ⟨t1, hoa⟩ := exo_at I.hok ha
  obtain ⟨nm, q, N, bs, bm, sn, sub, ab, col, dd, k0, k1, k2, k3, k5, hC, hbm⟩ := TC.oex.cls
  obtain ⟨cdD, hcdD⟩ := T.cls
  obtain ⟨ccl, cdd, fvs, ccs, file, tf, hcode, hvs, hfile⟩ := T.code
  have ks : Vis scope "self" := .inl (S.par "self" (List.mem_cons_self ..))
  have kg : Vis scope "given" := .inl (S.par "given" (List.mem_cons_of_mem _ (List.mem_cons_self ..)))
  let X : Cx := ncx CX P w K mg base ["self", "given", "__class__"] F f A outer s H E
  have hkc : scope.names.lookup ("__class__" : Str) = some .free := S.frk _ (List.mem_cons_self ..)
  cases r with
  | @cons _ ua _ ur ra r =>
  cases r with
  | @cons _ ux _ ur rx r =>
  cases r
  cases (show ua = Value.ref a from ra)
  obtain ⟨oD, hD1, hD2⟩ : ∃ oD, h₁.get? D = some oD ∧ oD.data = .cls cdD := by
    unfold PySem.W.clsIn at hcdD
    split at hcdD
    · rename_i c d cd' sl ho
      cases hcdD
      exact ⟨_, KI _ _ ho, rfl⟩
    · cases hcdD
  show PySem.wpAt _ _ _ (execs (supBody p0 p1 p2 p3 p4 p5 p6 p7 p8 p9) (envF F f s.heap.objs.size)) _ _ _
  refine PySem.ks_wpAt_execs_cons ?_
  refine PySem.ks_wpAt_Expr_any ?_ I.quiet rfl
  refine PySem.ks_wpAt_MethodCall (pl := pl (envF F f s.heap.objs.size)) ?_ (hev _)
  refine PySem.ks_wpAt_super_base (env := envF F f s.heap.objs.size) hks hkc (by decide +kernel) rfl (kp _ _ (KX _ _ lk)) rfl hp rfl (KI _ _ hcode) rfl hvs hfile T.top ?_
  refine PySem.W.ks_loadName_global S.kind hks ?_
  obtain ⟨mb, b1, b2⟩ := I.mod.blt
  refine PySem.Calls.loadGlobal_builtin (I.mod.glob.keeps I.bk) T.sup (b1.keeps I.bk) ((b2 "super" (by decide)).trans (by first | decide +kernel | rfl)) ⟨rfl, ?_⟩
  refine wpAny_loadName_free S.kind hkc rfl ⟨_, KI _ _ hcell, rfl⟩ ?_
  rw [har]
  refine wpAny_loadName_local S.kind (S.par "self" (List.mem_cons_self ..)) hns (zip_look (i := 0) (by decide +kernel) rfl rfl) ?_
  refine PySem.ks_wpAny_isType_cls hD1 hD2 ⟨rfl, ?_⟩
  refine PySem.ks_wpAny_call_super hD1 hD2 hoa rfl (fun c e => by cases e) (PySem.W.looks_mroIn KI TC.inD) (fun h2 e2 kp2 => ?_)
  have I2 : Inv X [] (startF ["self", "given", "__class__"] [.ref a, x] [none]) H { s with heap := h2, toks := s.toks + (["self", "given"].zip [Value.ref a, ux]).length } := I.kept (h' := h2) (t' := s.toks + (["self", "given"].zip [Value.ref a, ux]).length) kp2
  have K2 := I2.kIn
  obtain ⟨t2, ho2⟩ := exo_at I2.hok ha
  have hin := TC.ini
  cases hcl : PySem.W.clsIn K C with
  | none => unfold PySem.W.ks_superIn at hin; rw [hcl] at hin; cases hin
  | some cd =>
  unfold PySem.W.ks_superIn at hin
  rw [hcl] at hin
  have IA : PySem.W.InstAt h2 a (PySem.HandSPX.excO C t2) C none := ⟨ho2, rfl, rfl, trivial⟩
  refine PySem.W.kxs_getMethod PySem.W.kxs_ValueError e2 (PySem.W.looks_opaque K2 T.opq) (l₀ := cd.mro) (fun A Q E s k q => wpAny_bind ((PySem.W.looks_clsIn K2 hcl) A _ E s k (wpAny_pure q))) rfl K2 hin (IA.type.andThen (PySem.W.looks_subIn K2 TC.ve)) (PySem.W.ks_ne K2 IA hcl) (by decide +kernel) ?_
  have I3 : Inv X [] (startF ["self", "given", "__class__"] [.ref a, x] [none]) H { s with heap := h2.push (PySem.W.kxs_mw "ValueError.__init__" a), toks := s.toks + (["self", "given"].zip [Value.ref a, ux]).length + 1 } :=
    I2.kept (h' := h2.push (PySem.W.kxs_mw "ValueError.__init__" a)) (t' := s.toks + (["self", "given"].zip [Value.ref a, ux]).length + 1) (fun b o e => Heap.get?_push_of_some _ e)
  have hu3 : (h2.push (PySem.W.kxs_mw "ValueError.__init__" a)).get? h2.objs.size = some (PySem.W.kxs_mw "ValueError.__init__" a) := Heap.get?_push_at rfl rfl
  have I4 : Inv X [(h2.objs.size, PySem.W.kxs_mw "ValueError.__init__" a)] (startF ["self", "given", "__class__"] [.ref a, x] [none]) H { s with heap := h2.push (PySem.W.kxs_mw "ValueError.__init__" a), toks := s.toks + (["self", "given"].zip [Value.ref a, ux]).length + 1 } :=
    I3.pins_of fun p hp => by
      rw [List.mem_singleton.mp hp]
      exact ⟨hu3, I2.hok.fresh (Nat.le_refl _), Nat.ne_of_gt I2.lt, I2.nofs (Nat.le_refl _), fun v e => by cases e⟩
  refine PySem.W.kxs_callWith (i := "ValueError.__init__") (x := a) rfl (PySem.Calls.evalArgs_plain ?_)
  have pg : PE X (.Name "given" p3) (tVar 1) := pv 1 rfl kg
  refine thn ((pa_cons pg pa_nil).run p4 _ _ _ H (fun vs H' => vs = [x] ∧ H' = H) I4 ⟨x, rfl, rfl, rfl⟩) fun vs s4 ⟨ws, H', I5, rv, ew, eH⟩ => ?_
  subst ew
  have eH' := eH.symm
  subst eH'
  cases rv with
  | @cons _ ux2 _ ur rx2 rv =>
  cases rv
  obtain ⟨hu5, _⟩ := I5.pin _ (List.mem_cons_self ..)
  obtain ⟨t5, ho5⟩ := exo_at I5.hok ha
  refine ⟨hu5, ?_⟩
  obtain ⟨hh5, g5, d5, tk5, os5⟩ := s4
  show wpAny _ _ (call (.ref h2.objs.size) [ux2]) _ _ _
  refine call_mw (I5.kIn _ _ hC) ho5 hu5 (by show 1 ≤ sizeLine; decide) fun h6 t6 k6 ho6 => ?_
  have I6 : Inv X [] (startF ["self", "given", "__class__"] [.ref a, x] [none]) (upd H a (exo a C none)) ⟨h6, g5, d5, tk5, os5⟩ :=
    I5.unpinned (pins := []).write (x := a) (e := a) (by rw [ha]; exact True.intro) (.inl rfl) k6 ⟨_, ho6⟩ (exo_ok ho6)
  have eu : upd H a (exo a C none) = H := by
    funext b
    by_cases hb : b = a
    · rw [hb, upd_same, ha]
    · rw [upd_ne hb]
  rw [eu] at I6
  have pgs : PSs X [.Assign [.Attribute (.Name "self" p6) "given" p7] (.Name "given" p8) p9] (tOst K "given" (tVar 0) (tVar 1)) := pss_one (ps_ost (X := X) (pv 0 rfl ks) (pv 1 rfl kg) rfl)
  refine wpAt_of_wpAny ?_
  refine wpAny_mono (pgs.run [] _ _ H { nx := fun _ H' => Q .non H', rt := Q } I6 ⟨x, rfl, .ref a, rfl, a, C, rfl, TC.oex, TC.no, .inl ⟨ha, k⟩⟩) (fun fl s' hs => ?_) fun e s' hs => hs
  have fin : ∀ {σ' : L2.St} {H' : Hp} {v : V} {u : Value}, Inv X [] σ' H' s' → L2.RelV v u → Q v H' → CE outer P w H s Q u s' := fun {σ' H' v u} J rv q => ⟨v, H', J.os, J.bare, J.base, J.hok, rv, q⟩
  cases fl with
  | ret u =>
    obtain ⟨v, σ', H', J, rv, q⟩ := hs
    exact fin J rv q
  | next =>
    obtain ⟨σ', H', J, q⟩ := hs
    exact fin (v := V.non) (u := Value.none) J rfl q
  | brk =>
    obtain ⟨_, _, _, q⟩ := hs
    exact False.elim q
  | cont =>
    obtain ⟨_, _, _, q⟩ := hs
    exact False.elim q
end
end Ex
set_option Elab.async false
set_option linter.all false
set_option maxRecDepth 100000
set_option maxHeartbeats 4000000
/-! Several except clauses with a name; isinstance of a caught error that has a dict; calls that may raise, by what the slots are. -/
namespace PySem.W
open PySem PySem.Spec PySem.Calls PyProof.Rows
section
variable {prog : Program} {w : World} {A : Around} {E : Value → Shared → Prop} {s : Shared} {K : Frag} {x D : Addr} {ox : Obj} {od : Option Obj}
theorem findObj_dataD {C : Addr} {name : Str} {a g : Value} (hc : (clsIn K C).isSome = true) (ha : findIn K (.ref C) name = some (some a)) (hg : specialIn K a "__get__" = some (some g)) (ht : takesIn K a = some true) : findObj K C od name = some (.bind g a) := by
  obtain ⟨cd, hc⟩ := Option.isSome_iff_exists.mp hc
  unfold findObj
  rw [hc, Option.bind_some, ha, Option.bind_some]
  simp [hg, ht]
theorem kin_classD {Q : Option Value → Shared → Prop} (hga : findIn K (.ref D) "__getattribute__" = some (some (.builtin "BaseException.__getattribute__"))) (hgt : findIn K (.ref D) "__getattr__" = some none) (hsub : subIn K (.ref D) (.type "BaseException") = some true)
    (hdct : hasDictIn K D = true) (ha : findIn K (.ref D) "__class__" = some (some (.builtin "object.__class__")))
    (hn : specialIn K (.builtin "object.__class__") "__get__" = some (some (.builtin "getset_descriptor.__get__"))) (htk : takesIn K (.builtin "object.__class__") = some true) (hm : mroIn K D (.type "object") = some true)
    (X : K.In s.heap) (I : InstAt s.heap x ox D od) (h : Q (some (.ref D)) { s with toks := s.toks + 1 }) : wpAny (model prog w) A (getAttr? (.ref x) "__class__") Q E s := by
  have hf : findObj K D od "__class__" = some (.bind (.builtin "getset_descriptor.__get__") (.builtin "object.__class__")) := findObj_dataD (by obtain ⟨cd, hc, _⟩ := any_some hdct; rw [hc]; rfl) ha hn htk
  obtain ⟨hp, g, d, t, os⟩ := s
  have L0 := I.type (M := model prog w)
  have L1 := looks_findIn (M := model prog w) X hga
  have L2 := looks_findIn (M := model prog w) X hgt
  have L3 := looks_find (M := model prog w) X I hf
  have sub : Looks (model prog w) hp (isInstance (.ref x) (.type "BaseException")) true := L0.andThen (looks_subIn X hsub)
  have hx0 : (false && onTheHeap (Value.builtin "BaseException.__getattribute__")) = false := rfl
  have hx2 : (Value.builtin "BaseException.__getattribute__" == Value.builtin "object.__getattribute__") = false := by decide +kernel
  have hx1 : (onTheHeap (Value.ref D) && Value.builtin "BaseException.__getattribute__" == Value.builtin "object.__getattribute__") = false := by rw [hx2]; rfl
  unfold getAttr? getAttrBy? getAttrBy
  refine wpAny_bind (wpAny_mkText (wpAny_bind (wpAny_attempt (wpAny_holding (wpAny_bind (L0.at (wpAny_bind (L1.at ?_))))))))
  show wpAny _ _ (if (onTheHeap (Value.ref D) && Value.builtin "BaseException.__getattribute__" == Value.builtin "object.__getattribute__") = true then _ else _) _ _ _
  rw [hx1, if_neg Bool.false_ne_true]
  unfold getAttrByItsOwn hookBefore
  refine wpAny_bind ?_
  rw [if_pos (show onTheHeap (Value.ref D) = true from rfl)]
  refine L2.at ?_
  refine wpAny_bind (wpAny_attempt (wpAny_holding ?_))
  unfold callGetattribute
  rw [hx0, if_neg Bool.false_ne_true]
  unfold boundAndCalled
  rw [PySem.F.excAttr_ValueError.ga.bind (.ref x)]
  refine wpAny_bind (wpAny_pure ?_)
  show wpAny _ _ (call (.builtin "BaseException.__getattribute__") [.ref x, .str "__class__" t]) _ _ _
  refine wpAny_call (codeAny_call_builtin PySem.F.excAttr_ValueError.ga.plain PySem.F.entry_bexc_ga ?_)
  refine @check_slot (model prog w) _ _ ⟨hp, g, d, t + 1, os⟩ "BaseException.__getattribute__" "BaseException" "__getattribute__" (.ref x) [.str "__class__" t] [] _ (by decide +kernel) (by decide +kernel) sub (PySem.F.args_bexc_ga (.ref x) (.str "__class__" t)) ?_
  unfold Builtin.«object.__getattribute__»
  refine wpAny_bind (wpAny_of_eq (a := ((Value.ref x : Value), [Value.str "__class__" t])) (by first | rfl | (simp only [slotArgs]; rfl)) ?_)
  refine wpAny_bind (wpAny_pure (wpAny_bind (L0.at (wpAny_bind (L3.at ?_)))))
  show wpAny _ _ (holding [Value.builtin "object.__class__"] (call (.builtin "getset_descriptor.__get__") [.builtin "object.__class__", .ref x, .ref D]) >>= ret) _ _ _
  refine wpAny_bind (wpAny_holding (wpAny_call (class_get (s := ⟨hp, g, d, t + 1, os⟩) (ox := ox) (od := od) X I hm ?_)))
  refine wpAny_pure ?_
  show wpAny _ _ (handedOut (.ref D)) _ _ _
  rw [handedOut_of (v := .ref D) rfl]
  first
    | exact wpAny_pure (wpAny_pure h)
    | exact wpAny_pure h
    | exact wpAny_pure (wpAny_bind (wpAny_pure (wpAny_pure h)))
theorem kitx_excD (hga : findIn K (.ref D) "__getattribute__" = some (some (.builtin "BaseException.__getattribute__"))) (hgt : findIn K (.ref D) "__getattr__" = some none) (hsub : subIn K (.ref D) (.type "BaseException") = some true) (hdct : hasDictIn K D = true) (ha : findIn K (.ref D) "__class__" = some (some (.builtin "object.__class__")))
    (hn : specialIn K (.builtin "object.__class__") "__get__" = some (some (.builtin "getset_descriptor.__get__"))) (htk : takesIn K (.builtin "object.__class__") = some true) (hm : mroIn K D (.type "object") = some true) :
    KitX K (.ref x) (.ref D) (fun h => InstAt h x ox D od) where
  ty := fun _ _ _ I => I.type
  it := fun _ _ X _ => by
    obtain ⟨cdD, hcD, _⟩ := any_some hdct
    unfold clsIn at hcD
    split at hcD
    · rename_i c' d' cd' sl' ho
      intro A' Q' E' s' k q
      unfold isType loadHead
      exact wpAny_bind (wpAny_loadPart (k _ _ (X _ _ ho)) (wpAny_pure q))
    · cases hcD
  ne := fun h tp dd its n sl X htp => by
    obtain ⟨cdD, hcD, _⟩ := any_some hdct
    refine Bool.eq_false_iff.mpr fun q => ?_
    have e : D = tp := Value.ref.inj (beq_iff_eq.mp q)
    subst e
    unfold clsIn at hcD
    split at hcD
    · rename_i c' d' cd' sl' ho
      have z := (X _ _ ho).symm.trans htp
      cases z
    · cases hcD
  ca := fun X I k => kin_classD hga hgt hsub hdct ha hn htk hm X I k
end
end PySem.W
namespace L2
open PySem PySem.Spec PyProof.Rows
/-- isinstance(e, c), e the exception that the suite holds, with a dict -/
def rIsD (K : PySem.W.Frag) (a : Addr) (cls : Value) (d : Option Addr) : List V → Hp → VK → Prop := fun xs H Q => ∃ (D dd : Addr) (fs : List (Str × V)) (c : V) (cv : Value) (b : Bool), cls = .ref D ∧ d = some dd ∧ ExcC K D ∧ H dd = some (.xd fs) ∧
  xs = [.ref a, c] ∧ (∀ u, RelV c u → u = cv) ∧ PySem.W.kitOne K (.ref D) cv = some b ∧ Q (.bl b) H
theorem call_isD {X : Cx} {a : Addr} {cls : Value} {d : Option Addr} {oe : Obj} {pn : List (Addr × Obj)} (hz : Zc cls d oe) (hf : ∃ vs, oe.data = .fields vs) : CallR (X.suite a ((a, oe) :: pn)) (.builtin "isinstance") (rIsD X.K a cls d) := by
  intro pins s σ H xs us Q I r h
  obtain ⟨D, dd, fs, c, cv, b, rfl, rfl, C, hd, rfl, hcv, e, q⟩ := h
  cases r with
  | cons rx rr =>
    cases rr with
    | cons rt rr =>
      cases rr
      cases rx
      have ec := hcv _ rt
      subst ec
      obtain ⟨hget, _⟩ := I.pin (a, oe) (List.mem_append.mpr (.inl List.mem_cons_self))
      obtain ⟨vs, hv⟩ := hf
      have hx : ObjOk X.prog X.w H s.heap dd (.xd fs) := I.hok dd _ hd
      obtain ⟨mA, hns, hr⟩ := hx
      obtain ⟨od, ho, hl⟩ := lookIn_ns hns
      have J : PySem.W.InstAt s.heap a oe D (some od) := ⟨hget, hz.1, by unfold PySem.W.notCls; rw [hv] <;> rfl, by rw [hz.2]; exact ho⟩
      exact PySem.W.kia_one (PySem.W.kitx_excD C.hg C.hk C.hs C.hd C.ha C.hn C.ht C.hm) I.kIn J e (fun z => nomatch z) fun tk => ⟨.bl b, H, I.kept (t' := tk) fun _ _ z => z, rfl, q⟩
/-! ### several clauses, each with a name -/
def wManyAs (K : PySem.W.Frag) (i : Nat) (Wout : WX) (D : Ends) : List (Value × (Addr → Value → Option Addr → TS)) → WX
  | [] => Wout
  | (c, ts) :: r => fun cls d σ H => ∃ b, PySem.W.exmOne K cls c = some b ∧
      (b = true → ∀ a, H a = none → ts a cls d { nx := fun σ' H' => D.nx (σ'.set i none) H', rt := D.rt, bk := fun σ' H' => D.bk (σ'.set i none) H', ct := fun σ' H' => D.ct (σ'.set i none) H' } (σ.set i (some (.ref a))) H) ∧
      (b = false → wManyAs K i Wout D r cls d σ H)
inductive HdsAs (X : Cx) (n : Str) : List ExceptHandler → List (Value × (Addr → Value → Option Addr → TS)) → Prop
  | nil : HdsAs X n [] []
  | cons {x : Str} {c : Value} {ts : Addr → Value → Option Addr → TS} {b₀ : Stmt} {suite : List Stmt} {np pos' : Pos} {hds : List ExceptHandler} {l : List (Value × (Addr → Value → Option Addr → TS))} (hc : Names X x c)
      (hsu : ∀ (a : Addr) (oe : Obj) (cls : Value) (d : Option Addr) (pn : List (Addr × Obj)), Zc cls d oe → (∃ vs, oe.data = .fields vs) → PSs (X.suite a ((a, oe) :: pn)) (b₀ :: suite) (ts a cls d)) (r : HdsAs X n hds l) :
      HdsAs X n (.ExceptHandler (some (.Name x np)) (some n) (b₀ :: suite) pos' :: hds) ((c, ts) :: l)
section
variable {X : Cx} {n : Str} {i : Nat} {body : List Stmt} {h₀ : ExceptHandler} {hds : List ExceptHandler} {l : List (Value × (Addr → Value → Option Addr → TS))} {pos : Pos} {tb : WX → TS} {Wout : WX}
theorem ps_try_manyAs (hs : X.stack = X.env :: X.outer) (hf : X.env.frame = some X.env.locals) (hN : X.N.Nodup) (hi : X.N[i]? = some n) (hln : X.env.kindOf n = some .local) (tk : Takes X Wout)
    (hb : ∀ (W : WX) (pn : List (Addr × Obj)) (xe : Value → Shared → Prop), Takes (X.tr pn xe) W → PassesOwn (model X.prog X.w) X.A X.env xe → PSs (X.tr pn xe) body (tb W))
    (hh : HdsAs X n (h₀ :: hds) l) : PS X (.Try body (h₀ :: hds) [] [] pos) (fun D σ H => tb (wManyAs X.K i Wout D l) D σ H) := by
  refine ⟨fun pins s σ H D I h => ?_⟩
  have ok := I.ok
  have hfr : X.A.frames = some (X.env :: X.outer) := by rw [ok.frames, hs]
  have hloc : Loc X.env.scope n := .inl hln
  refine wpAny_Try_except ?_
  refine wpAny_mono ((hb (wManyAs X.K i Wout D l) (X.pn ++ pins) (fun e s₁ => wpAny (model X.prog X.w) X.A (noteFrame e X.env) (fun _ s₂ => wpAny (model X.prog X.w) X.A (setFlight e none) (fun _ s₃ =>
    wpAny (model X.prog X.w) X.A (handleBy e X.env (h₀ :: hds)) (SP X pins D) X.xe s₃) X.xe s₂) X.xe s₁) (fun u s' xx => ?_) PassesOwn.looking).run [] s σ H D (I.toTry _) h) (fun f s1 hsp => ?_) (fun e s1 he => he)
  · -- the catch
    obtain ⟨a, B, sI, pins', σ', H', cls, d, rfl, J', nb, up, sky, na, os, ag, w⟩ := xx
    have J : Inv X pins σ' H' sI := J'.ofTry ok
    have sky' : Sky B (X.env :: X.outer) a (Zc cls d) X.env.locals s'.heap := by rw [← hs]; exact sky
    show wpAny (model X.prog X.w) X.A (noteFrame (.ref a) X.env) _ _ _
    refine Sky.land Zc.steady hfr hf sky' fun h3 fl3 up3 => ?_
    have J3 : Inv X pins σ' H' { s' with heap := h3 } := J.landed nb fl3.1 (up.trans up3) os ag
    obtain ⟨oe3, vs3, he3, hz3, hd3⟩ := fl3.there
    have notFr : ∀ {h : Heap} {o : Obj} {vs : Array Value}, h.FunFrames B (X.env :: X.outer) → h.get? a = some o → o.data = .fields vs → a ∉ frs (X.env :: X.outer) := fun {h o vs} ff e dd hm => by
      obtain ⟨_, o', e', hnf⟩ := ff.mem hm
      rw [e] at e'; cases e'
      exact hnf _ dd
    have nfr := notFr fl3.2.2.1 he3 hd3
    have nL : a ≠ X.env.locals := fun z => nfr (List.mem_filterMap.mpr ⟨X.env, List.mem_cons_self, by rw [hf, z]⟩)
    have nF : a ∉ X.fs := fun hm => by
      obtain ⟨e, he, q⟩ := List.mem_filterMap.mp hm
      exact nfr (List.mem_filterMap.mpr ⟨e, List.mem_cons_of_mem _ he, q⟩)
    have S3 := J3.suite he3 hd3 na nL nF
    have go : ∀ {hds' : List ExceptHandler} {l' : List (Value × (Addr → Value → Option Addr → TS))}, HdsAs X n hds' l' → wManyAs X.K i Wout D l' cls d σ' H' →
        wpAny (model X.prog X.w) X.A (handleBy (.ref a) X.env hds') (SP X pins D) X.xe { s' with heap := h3 } := by
      intro hds' l' hk
      induction hk with
      | nil =>
        intro w
        refine wpAny_handleBy_nil ?_
        obtain ⟨k1, k2, k3, oe, vs, T, oT, ts', he, hz, hd, h1, hr⟩ := id fl3
        unfold PySem.passOn
        refine wpAny_bind (wpAny_field he hd h1 ?_)
        rw [if_neg (show ¬ ((Value.ref T == Value.none) = true) from by simp)]
        have fin : wpAny (model X.prog X.w) X.A (setFlight (.ref a) X.env.frame) (fun _ s4 => wpAny (model X.prog X.w) X.A (throw (.ref a) : Sem Flow) (SP X pins D) X.xe s4) X.xe { s' with heap := h3 } := by
          rw [hf]
          refine HandSPX.setFlight_upZ fl3 fun h4 hh4 up4 => wpAny_throw (tk _ _ ?_)
          exact ⟨a, B, sI, pins, σ', H', cls, d, rfl, J, nb, (up.trans up3).trans up4, .inr (.inr (by rw [hs]; exact hh4)), na, os, ag, w⟩
        first
          | exact wpAny_bind (wpAny_pure (wpAny_bind fin))
          | exact wpAny_bind fin
      | @cons x c ts b₀ suite np pos' hds2 l2 hc hsu r ih =>
        intro w
        obtain ⟨b, hb1, hyes, hno⟩ := w
        refine wpAny_handleBy_cons (codeAny_handlers_test ?_) (by intro q; cases q)
        have LT : PySem.W.Looks (model X.prog X.w) h3 (typeOf (.ref a)) cls := fun A Q E s k q => wpAny_typeOf_ref (k _ _ he3) (by rw [hz3.1]; exact q)
        have LM := PySem.W.exm_one (M := model X.prog X.w) (J3.kIn) LT hb1
        have test : ∀ {Q : Value → Shared → Prop} {E : Value → Shared → Prop}, Q c { s' with heap := h3 } → wpAny (model X.prog X.w) (X.A.mark (some (.ref a))) (eval (.Name x np) X.env) Q E { s' with heap := h3 } := fun {Q E} q => by
          obtain ⟨hg, hdbg, hm | ⟨hm, hv, hnn⟩⟩ := hc
          · exact ld_glob (X := X.suite a ((a, oe3) :: (X.pn ++ pins))) S3 hg hm q hdbg
          · exact ld_blt (X := X.suite a ((a, oe3) :: (X.pn ++ pins))) S3 hg hm hv q hnn hdbg
        refine test (LM.here ?_)
        cases b with
        | true =>
          refine codeAny_handlers_suite_as ?_
          refine HandSPX.lands_againZ fl3 fun h4 fl4 up4 => ?_
          have J4 : Inv X pins σ' H' { s' with heap := h4 } := J.landed nb fl4.1 ((up.trans up3).trans up4) os ag
          obtain ⟨oe4, vs4, he4, hz4, hd4⟩ := fl4.there
          have S4 := J4.suite he4 hd4 na nL nF
          refine store_ok (X := X.suite a ((a, oe4) :: (X.pn ++ pins))) (v := .ref a) S4 hN hi hloc rfl (fun s5 S5 => ?_) (.inr hln)
          refine wpAny_mono ((hsu a oe4 cls d (X.pn ++ pins) hz4 ⟨_, hd4⟩).run [] s5 _ H' _ S5 (hyes rfl a na)) (fun f s6 hsp => ?_) (fun _ _ z => False.elim z)
          have end_ : ∀ {σ6 : St} {H6 : Hp} {Q : Shared → Prop}, Inv (X.suite a ((a, oe4) :: (X.pn ++ pins))) [] σ6 H6 s6 → (∀ s7, Inv X pins (σ6.set i none) H6 s7 → Q s7) →
              wpAny (model X.prog X.w) X.A (do bindName X.env n .none; unbindBehindTheSuite X.env n pos') (fun _ s7 => Q s7) X.xe s6 := fun {σ6 H6 Q} S6 hq => gone_ok (S6.unsuite ok) hN hi hln hq
          cases f with
          | next =>
            obtain ⟨σ6, H6, S6, q6⟩ := hsp
            exact end_ S6 fun s7 J7 => ⟨_, _, J7, q6⟩
          | brk =>
            obtain ⟨σ6, H6, S6, q6⟩ := hsp
            exact end_ S6 fun s7 J7 => ⟨_, _, J7, q6⟩
          | cont =>
            obtain ⟨σ6, H6, S6, q6⟩ := hsp
            exact end_ S6 fun s7 J7 => ⟨_, _, J7, q6⟩
          | ret u =>
            obtain ⟨v6, σ6, H6, S6, r6, q6⟩ := hsp
            exact end_ S6 fun s7 J7 => ⟨_, _, _, J7, r6, q6⟩
        | false =>
          show wpAny _ X.A (handleBy (.ref a) X.env hds2) _ _ _
          exact ih (hno rfl)
    exact go hh w
  · cases f with
    | next =>
      obtain ⟨σ', H', J', q⟩ := hsp
      exact wpAny_execs_nil ⟨σ', H', J'.ofTry ok, q⟩
    | brk =>
      obtain ⟨σ', H', J', q⟩ := hsp
      exact ⟨σ', H', J'.ofTry ok, q⟩
    | cont =>
      obtain ⟨σ', H', J', q⟩ := hsp
      exact ⟨σ', H', J'.ofTry ok, q⟩
    | ret u =>
      obtain ⟨v, σ', H', J', r, q⟩ := hsp
      exact ⟨v, σ', H', J'.ofTry ok, r, q⟩
end
end L2
set_option Elab.async false
set_option linter.all false
set_option maxRecDepth 100000
set_option maxHeartbeats 4000000
/-! Calls that may raise, raise, readings from an entry on. -/
namespace Ty
open PySem L2
open Evl (Ex ex_l ex_t)
open Ex (SupC SupD spSup)
abbrev CXo (P : Program) (w : World) : CXT := L2.CX P w
/-! ### the rules -/
def tCallW (sp : Sp) (W : WX) (t : TA) : TE := fun σ H Q => t σ H fun vs H1 => sp vs H1 Q fun cls d H' => W cls d σ H'
def tKwW (sp : Sp) (n : Nat) (gV : List V → List V) (W : WX) (tk : TA) : TE := fun σ H Q => tk σ H fun zs H2 => zs.length = n ∧ sp (gV zs) H2 Q fun cls d H' => W cls d σ H'
section
variable {X : Cx} {k : Nat} {st : Stmt} {ps : List Str} {sp : Sp} {W : WX} {x : Str} {p pos pos' : Pos} {e : Expr} {es : List Expr} {t : TA} {te : TE}
theorem pe_ownW (F : Own X.prog X.w X.K X.mg X.base (CXo X.prog X.w) k x st ps sp) (hb : PosB x st ps) (hr : Room k X.A) (hg : Gl X x) (tk : Takes X W) (ha : PA X (e :: es) t)
    (hdb : (x == ("__debug__" : Str)) = false := by decide) (he : starEach (e :: es) X.env = (false, eval e X.env) :: starEach es X.env := by rfl) (hpl : (backTo pos (starEach es X.env)).any (·.1) = false := by rfl) :
    PE X (.Call (.Name x p) (e :: es) [] pos) (tCallW sp W t) := by
  obtain ⟨f, fd, F, hm, hk, kV, doc, pm, an, cdv, ct, rfl⟩ := F.ex
  refine ⟨fun pins s σ H Q I h => ?_⟩
  refine wpAny_Call_Name_kw (ld_glob I hg hm ?_ hdb)
  refine PySem.W.callWith_K (h₀ := X.base) I.ok.mod.kin hk (thn (ha.run pos pins s σ H _ I h) fun us s1 ⟨vs, H1, I1, r, q⟩ => ⟨I1.kIn, ?_⟩) he hpl
  have hl : us.length = ps.length := by rw [← r.length]; exact F.len _ _ _ _ q
  refine wpAny_call (codeAny_mono (F.run X.A X.stack s1 H1 ⟨us, []⟩ us vs Q _ hr I1.env0 (.of_eq (hb kV doc pm an cdv ct us hl)) r q) fun r s' hq => ?_)
  cases r with
  | error e => exact tk e s' (XE.of_call I1 (fun cls d H' h => h) hq)
  | ok fl =>
    cases fl with
    | ret u => exact I1.after hq
    | next => exact False.elim hq
    | brk => exact False.elim hq
    | cont => exact False.elim hq
theorem pe_ownKW {ks : List Str} {kws : List Keyword} {tk' : TA} {g : List Value → List Value} {gV : List V → List V} (F : Own X.prog X.w X.K X.mg X.base (CXo X.prog X.w) k x st ps sp)
    (hb : ∀ (kV doc pm : Value) (an : Option Addr) (cdv ct : Value) (ws : List Value), ws.length = ks.length → bindArgs (PySem.W.fnOf x x (defArgs st) (defBody st) (defScope st) .none kV doc pm an cdv ct) ⟨[], ks.zip ws⟩ = pure (ps.zip (g ws)))
    (rel : ∀ {zs : List V} {ws : List Value}, zs.length = ks.length → Vals zs ws → Vals (gV zs) (g ws))
    (hr : Room k X.A) (hg : Gl X x) (tk : Takes X W) (hkw : PK X kws tk')
    (hall : (backToKw pos (keywordEach kws X.env)).all (·.1.isSome) = true := by rfl) (hks : (backToKw pos (keywordEach kws X.env)).filterMap (·.1) = ks := by rfl) (hdb : (x == ("__debug__" : Str)) = false := by decide)
    (hpl : ((backTo pos (starEach [] X.env)).any (·.1) || (backToKw pos (keywordEach kws X.env)).any (·.1.isNone)) = false := by rfl) :
    PE X (.Call (.Name x p) [] kws pos) (tKwW sp ks.length gV W tk') := by
  obtain ⟨f, fd, F, hm, hk, kV, doc, pm, an, cdv, ct, rfl⟩ := F.ex
  refine ⟨fun pins s σ H Q I h => ?_⟩
  refine wpAny_Call_Name_kw (ld_glob I hg hm ?_ hdb)
  refine PySem.W.callWith_KW0 (h₀ := X.base) I.ok.mod.kin hk hall ?_ hpl
  refine thn (hkw.run pos pins s σ H _ I h) fun ws s2 ⟨zs, H2, I2, rz, hl, q2⟩ => ⟨I2.kIn, ?_⟩
  rw [hks]
  have lw : ws.length = ks.length := by rw [← rz.length, hl]
  have r2 := rel hl rz
  refine wpAny_call (codeAny_mono (F.run X.A X.stack s2 H2 ⟨[], ks.zip ws⟩ (g ws) (gV zs) Q _ hr I2.env0 (.of_eq (hb kV doc pm an cdv ct ws lw)) r2 q2) fun r s' hq => ?_)
  cases r with
  | error e => exact tk e s' (XE.of_call I2 (fun cls d H' h => h) hq)
  | ok fl =>
    cases fl with
    | ret u => exact I2.after hq
    | next => exact False.elim hq
    | brk => exact False.elim hq
    | cont => exact False.elim hq
end
/-- an own error class with TalkError's __init__: its instances made with one value -/
structure OwnE (P : Program) (w : World) (K : PySem.W.Frag) (mg : Str → Option Value) (base : Heap) (k : Nat) (x : Str) (C D : Addr) : Prop where
  ex : ∃ (fI : Addr) (fd : FuncData), PySem.W.findIn K (.ref C) "__init__" = some (some (.ref fI)) ∧ PySem.W.typeIn K (.ref fI) = some (.type "function") ∧ FnOk P w K mg base CX0 k fI fd ["self", "given"] (spSup K D) ∧ Binds K fd ["self", "given"] []
  sup : SupC K C D
  mg : mg x = some (.ref C)
def tRaise (K : PySem.W.Frag) (C D : Addr) (W : WX) (te : TE) : TS := fun _ σ H => tMkO C (spSup K D) [] (tCons te tNil) σ H fun cls d H' => W cls d σ H'
section
variable {X : Cx} {k : Nat} {W : WX} {x : Str} {C D : Addr} {p pos pos' : Pos} {e : Expr} {te : TE}
theorem ps_raiseE (E : OwnE X.prog X.w X.K X.mg X.base k x C D) (hc : X.calm = true) (tk : Takes X W) (hr : Room (k + 1) X.A) (hg : Gl X x) (he : PE X e te) (hdb : (x == ("__debug__" : Str)) = false := by decide)
    (hs : starEach [e] X.env = (false, eval e X.env) :: starEach [] X.env := by rfl) : PS X (.Raise (some (.Call (.Name x p) [e] [] pos)) none pos') (tRaise X.K C D W te) := by
  obtain ⟨⟨fI, fd, iC, tI, F1, hb⟩, sup, hm⟩ := E
  exact ps_raise hc tk (pmk_oex sup.oex iC tI F1 hr hb .nil pass0 hg hm (pa_cons he pa_nil hs) hdb hs)
end
/-! ### readings from an entry on -/
variable {o : Option Addr} {σ : L2.St} {Ge He G H : Hp} {ta tb te tx : TE} {s t u : T} {tt tt' : TT} {x y v : V} {D : Ends} {tu tw tz : TS} {W : WX}
def EvX (o : Option Addr) (te : TE) (σ : L2.St) (Ge He G : Hp) (t : T) : Prop := ∀ G1 H1, Ex G G1 → Go o Ge He G1 H1 → ∀ Q : VK, (∀ v G2 H2, Go o G1 H1 G2 H2 → U t G2 v → Q v H2) → te σ H1 Q
theorem Ev.toX (h : Ev o te σ G t) : EvX o te σ Ge He G t := fun G1 H1 e g Q q => h G1 H1 e g.kn Q q
theorem EvX.up {G' : Hp} (h : EvX o te σ Ge He G t) (e : Ex G G') : EvX o te σ Ge He G' t := fun G1 H1 a => h G1 H1 (e.trans a)
theorem EvX.imp (h : EvX o te σ Ge He G t) (k : ∀ G' v, Ex G G' → U t G' v → U u G' v) : EvX o te σ Ge He G u := fun G1 H1 a g Q q => h G1 H1 a g Q fun v G2 H2 g2 w => q v G2 H2 g2 (k G2 v (a.trans g2.gg) w)
/-- what a call may raise: a class, the value that it keeps -/
abbrev Er := Value → V → Prop
def noEr : Er := fun _ _ => False
def spR (C : Option Addr → Hp → List V → T → Er → Prop) : Sp := fun vs H Q E => ∃ o G t B, Kn o G H ∧ C o G vs t B ∧ (∀ v G2 H2, Go o G H G2 H2 → U t G2 v → Q v H2) ∧
  (∀ c d x G2 H2, Go o G H G2 H2 → G2 d = some (.xd [("given", x)]) → B c x → E c (some d) H2)
/-- W takes the errors of B -/
def Tk (o : Option Addr) (Ge He : Hp) (W : WX) (σ : L2.St) (B : Er) : Prop := ∀ c d x G2 H2, Go o Ge He G2 H2 → G2 d = some (.xd [("given", x)]) → B c x → W c (some d) σ H2
theorem Tk.no : Tk o Ge He W σ noEr := fun _ _ _ _ _ _ _ z => z.elim
theorem Tk.imp {B B' : Er} (h : Tk o Ge He W σ B) (k : ∀ c x, B' c x → B c x) : Tk o Ge He W σ B' := fun c d x G2 H2 g e b => h c d x G2 H2 g e (k c x b)
def CallsR (C : Option Addr → Hp → List V → T → Er → Prop) (o : Option Addr) (G : Hp) (ts : List T) (t : T) (B : Er) (gV : List V → List V) : Prop :=
  ∀ G' vs, Ex G G' → AllU G' ts vs → ∃ o' t' B', (o' = o ∨ o' = none) ∧ C o' G' (gV vs) t' B' ∧ (∀ G'' v, Ex G' G'' → U t' G'' v → U t G'' v) ∧ ∀ c x, B' c x → B c x
theorem call_run {C : Option Addr → Hp → List V → T → Er → Prop} {vs : List V} {o' : Option Addr} {t' : T} {B' B : Er} {Q : VK} (g : Go o Ge He G H) (tk : Tk o Ge He W σ B) (ho : o' = o ∨ o' = none) (c : C o' G vs t' B') (hb : ∀ c x, B' c x → B c x)
    (q : ∀ v G2 H2, Go o G H G2 H2 → U t' G2 v → Q v H2) : spR C vs H Q fun cls d H' => W cls d σ H' := by
  rcases ho with rfl | rfl
  · exact ⟨o', G, t', B', g.kn, c, q, fun c d x G2 H2 g2 e b => tk c d x G2 H2 (g.trans g2) e (hb c x b)⟩
  · exact ⟨none, G, t', B', g.kn.pure, c, fun v G2 H2 g2 w => q v G2 H2 (g2.pure g.kn) w, fun c d x G2 H2 g2 e b => tk c d x G2 H2 (g.trans (g2.pure g.kn)) e (hb c x b)⟩
theorem ex_call {C : Option Addr → Hp → List V → T → Er → Prop} {ta : TA} {ts : List T} {B : Er} (tk : Tk o Ge He W σ B) (ha : EvA o ta σ G ts) (hc : CallsR C o G ts t B id) : EvX o (tCallW (spR C) W ta) σ Ge He G t := fun G1 H1 a g Q q =>
  ha G1 H1 a g.kn _ fun vs G2 H2 g2 w2 => by
    obtain ⟨o', t', B', ho, c, k, hb⟩ := hc G2 vs (a.trans g2.gg) w2
    exact call_run (g.trans g2) tk ho c hb fun v G3 H3 g3 w3 => q v G3 H3 (g2.trans g3) (k G3 v g3.gg w3)
theorem ex_kw {C : Option Addr → Hp → List V → T → Er → Prop} {ta : TA} {ts : List T} {B : Er} {n : Nat} {gV : List V → List V} (hn : ts.length = n) (tk : Tk o Ge He W σ B) (ha : EvA o ta σ G ts) (hc : CallsR C o G ts t B gV) : EvX o (tKwW (spR C) n gV W ta) σ Ge He G t := fun G1 H1 a g Q q =>
  ha G1 H1 a g.kn _ fun vs G2 H2 g2 w2 => ⟨w2.len.trans hn, by
    obtain ⟨o', t', B', ho, c, k, hb⟩ := hc G2 vs (a.trans g2.gg) w2
    exact call_run (g.trans g2) tk ho c hb fun v G3 H3 g3 w3 => q v G3 H3 (g2.trans g3) (k G3 v g3.gg w3)⟩
theorem ex_if {p : Bool → Prop} (h : EvT o tt σ G p) (h1 : p true → EvX o ta σ Ge He G t) (h2 : p false → EvX o tb σ Ge He G t) : EvX o (tIf tt ta tb) σ Ge He G t := fun G1 H1 e g Q q => h G1 H1 e g.kn _ fun c G2 H2 g2 w2 => by
  cases c with
  | true => exact h1 w2 G2 H2 (e.trans g2.gg) (g.trans g2) Q fun z G3 H3 g3 w3 => q z G3 H3 (g2.trans g3) w3
  | false => exact h2 w2 G2 H2 (e.trans g2.gg) (g.trans g2) Q fun z G3 H3 g3 w3 => q z G3 H3 (g2.trans g3) w3
def EvAX (o : Option Addr) (ta : TA) (σ : L2.St) (Ge He G : Hp) (ts : List T) : Prop := ∀ G1 H1, Ex G G1 → Go o Ge He G1 H1 → ∀ Q : List V → Hp → Prop, (∀ vs G2 H2, Go o G1 H1 G2 H2 → AllU G2 ts vs → Q vs H2) → ta σ H1 Q
theorem eax_nil : EvAX o tNil σ Ge He G [] := fun G1 H1 a g Q q => q [] G1 H1 (.refl g.kn) .nil
theorem eax_cons {tr : TA} {ts : List T} (ha : EvX o ta σ Ge He G s) (hr : EvAX o tr σ Ge He G ts) : EvAX o (tCons ta tr) σ Ge He G (s :: ts) := fun G1 H1 a g Q q =>
  ha G1 H1 a g _ fun x G2 H2 g2 w2 => hr G2 H2 (a.trans g2.gg) (g.trans g2) _ fun xs G3 H3 g3 w3 => q (x :: xs) G3 H3 (g2.trans g3) (.cons (w2.up g3.gg) w3)
/-- a known list of known items -/
def tLs (ts : List T) : T := fun G v => ∃ a vs, v = .ref a ∧ G a = some (.lst vs) ∧ AllU G ts vs
theorem ex_lst {ta : TA} {ts : List T} (h : EvAX o ta σ Ge He G ts) (hl : ts.length ≤ 100000) : EvX o (tLst ta) σ Ge He G (tLs ts) := fun G1 H1 e g Q q =>
  h G1 H1 e g _ fun vs G2 H2 g2 w2 => ⟨Evl.sz_of (by rw [w2.len]; exact hl), fun p hp => q _ _ _ (g2.trans (.new g2.kn hp)) fun G' e' => ⟨p, vs, rfl, e' p _ upd_same, w2.up ((Ex.new (Evl.fresh_back g2.kn.sub hp)).trans e')⟩⟩
theorem s_retX (g : Go o Ge He G H) (h : EvX o te σ Ge He G t) (k : ∀ v G2 H2, Go o Ge He G2 H2 → U t G2 v → D.rt v H2) : tRet te D σ H :=
  h G H (Ex.refl _) g _ fun v G2 H2 g2 w2 => k v G2 H2 (g.trans g2) w2
theorem s_asgX {i : Nat} (g : Go o Ge He G H) (h : EvX o te σ Ge He G t) (k : ∀ v G2 H2, Go o Ge He G2 H2 → Go o G H G2 H2 → U t G2 v → D.nx (σ.set i (some v)) H2) : tAsg te (gName i) D σ H :=
  h G H (Ex.refl _) g _ fun v G2 H2 g2 w2 => k v G2 H2 (g.trans g2) g2 w2
theorem q_asgX {i : Nat} (g : Go o Ge He G H) (h : EvX o te σ Ge He G t) (k : ∀ v G2 H2, Go o Ge He G2 H2 → Go o G H G2 H2 → U t G2 v → tz D (σ.set i (some v)) H2) : tSeq (tAsg te (gName i)) tz D σ H := s_asgX (D := { D with nx := tz D }) g h k
theorem s_dropX (g : Go o Ge He G H) (h : EvX o te σ Ge He G t) (k : ∀ v G2 H2, Go o Ge He G2 H2 → Go o G H G2 H2 → U t G2 v → D.nx σ H2) : tDrop te D σ H :=
  h G H (Ex.refl _) g _ fun v G2 H2 g2 w2 => k v G2 H2 (g.trans g2) g2 w2
theorem q_dropX (g : Go o Ge He G H) (h : EvX o te σ Ge He G t) (k : ∀ v G2 H2, Go o Ge He G2 H2 → Go o G H G2 H2 → U t G2 v → tz D σ H2) : tSeq (tDrop te) tz D σ H := s_dropX (D := { D with nx := tz D }) g h k
/-- raise C(x) -/
theorem s_raise {K : PySem.W.Frag} {C Dd : Addr} (g : Go o Ge He G H) (T : SupC K C Dd) (h : Ev o te σ G (tIs x)) (k : ∀ d G2 H2, Go o Ge He G2 H2 → Go o G H G2 H2 → G2 d = some (.xd [("given", x)]) → W (.ref C) (some d) σ H2) : tRaise K C Dd W te D σ H := by
  unfold tRaise tMkO
  refine (ea_cons h ea_nil) G H (Ex.refl _) g.kn _ fun vs G2 H2 g2 w2 => ?_
  cases w2 with
  | cons a1 a =>
    cases a
    rw [a1.eq]
    refine ⟨by show 1 ≤ 1000; decide, fun a na => ⟨a, C, x, rfl, T, upd_same, fun d nd ne => ⟨rfl, d, [("given", x)], upd_same, by rw [upd_ne ne, upd_same], by rw [upd_ne ne] at nd; exact nd, ?_⟩⟩⟩
    have nd' : H2 d = none := by rw [upd_ne ne] at nd; exact nd
    have e : upd (del (upd (upd (upd H2 a (exo a C none)) d (exd d [("given", x)])) a (exo a C (some d))) a) d (.xd [("given", x)]) = upd H2 d (.xd [("given", x)]) := by
      funext b
      by_cases hb : b = d
      · rw [hb, upd_same, upd_same]
      · rw [upd_ne hb, upd_ne hb]
        by_cases ha : b = a
        · rw [ha, del_same, na]
        · rw [del_ne ha, upd_ne ha, upd_ne hb, upd_ne ha]
    show W (.ref C) (some d) σ _
    rw [e]
    have g3 : Go o G H (upd G2 d (.xd [("given", x)])) (upd H2 d (.xd [("given", x)])) := g2.trans (.new g2.kn nd')
    exact k d _ _ (g.trans g3) g3 upd_same
/-! ### in a clause -/
/-- e.given -/
theorem ev_given {K : PySem.W.Frag} {a d C : Addr} {dd : Option Addr} {cls : Value} (h : Ev o te σ G (tIs (.ref a))) (hc : cls = .ref C) (hd : dd = some d) (hg : G d = some (.xd [("given", x)])) : Ev o (tXf a cls dd C "given" te) σ G (tIs x) := fun G1 H1 e kn Q q =>
  h G1 H1 e kn _ fun v G2 H2 g2 w2 => ⟨w2.eq, hc, d, [("given", x)], x, hd, g2.kn.sub _ _ ((e.trans g2.gg) _ _ hg), by simp [List.lookup], q x G2 H2 g2 u_is⟩
theorem ev_isD {K : PySem.W.Frag} {a d C c : Addr} {dd : Option Addr} {cls : Value} {b : Bool} {fs : List (Str × V)} (h : Ev o te σ G (tIs (.ref a))) (hc : cls = .ref C) (hd : dd = some d) (T : ExcC K C) (hg : G d = some (.xd fs)) (hk : PySem.W.kitOne K (.ref C) (.ref c) = some b) :
    Ev o (tCB (rIsD K a cls dd) (tCons te (tCons (tC (.ref c)) tNil))) σ G (tIs (.bl b)) :=
  ev_cb (ea_cons h (ea_cons ev_k ea_nil)) fun G' vs e al => by
    cases al with
    | cons a1 al => cases al with
      | cons a2 al =>
        cases al
        rw [a1.eq, a2.eq]
        exact rc_q u_is fun G1 H1 e1 kn Q q => ⟨C, d, fs, .ref c, .ref c, b, hc, hd, T, kn.sub _ _ ((e.trans e1) _ _ hg), rfl, fun u r => r, hk, q⟩
end Ty
set_option Elab.async false
set_option linter.all false
set_option maxRecDepth 100000
set_option maxHeartbeats 4000000
/-! Values as data: kinds, equality, items. -/
namespace Ty
open PySem L2 PySem.Spec PyProof.Rows
open Evl (Ex ex_l ex_t)
/-! ### a < b < c < d -/
section
variable {X : Cx} {a b c d : Expr} {ta tb tc td : TE} {pos : Pos}
def tChain3 (r r' r2 : R2) (ta tb tc td : TE) : TE := fun σ H Q => ta σ H fun x H1 => tb σ H1 fun y H2 => r x y H2 fun z H3 => ∃ k, z = .bl k ∧
  (if k = true then tc σ H3 fun w' H4 => r' y w' H4 fun z2 H5 => ∃ k2, z2 = .bl k2 ∧ (if k2 = true then td σ H5 fun w2 H6 => r2 w' w2 H6 Q else Q (.bl false) H5) else Q (.bl false) H3)
theorem pe_chain3 {op op' op2 : CmpOp} {r r' r2 : R2} (ho : OpR X (compareOp op) r) (ho' : OpR X (compareOp op') r') (ho2 : OpR X (compareOp op2) r2) (ha : PE X a ta) (hb : PE X b tb) (hc : PE X c tc) (hd : PE X d td)
    (hm : lastMarks [op, op', op2] [b, c, d] = false := by with_unfolding_all rfl) : PE X (.Compare a [op, op', op2] [b, c, d] pos) (tChain3 r r' r2 ta tb tc td) := by
  refine ⟨fun pins s σ H Q I h => ?_⟩
  refine Compare_chain (thn (ha.run pins s σ H _ I h) fun v s1 ⟨x, H1, I1, r1, q1⟩ => chain_link (thn (hb.run pins s1 σ H1 _ I1 q1) fun u s2 ⟨y, H2, I2, r2, q2⟩ =>
    thn (ho pins s2 σ H2 x y v u _ I2 r1 r2 q2) fun d s3 ⟨z, H3, I3, r3, k, e, q3⟩ => ?_)) hm
  subst e
  cases r3
  refine wpAny_truthy_bool ?_
  cases k with
  | false => exact ite_ff ⟨.bl false, H3, I3, rfl, q3⟩
  | true =>
    refine ite_tt (chain_link (thn (hc.run pins s3 σ H3 _ I3 q3) fun w' s4 ⟨z', H4, I4, r4, q4⟩ => thn (ho' pins s4 σ H4 y z' u w' _ I4 r2 r4 q4) fun d2 s5 ⟨z2, H5, I5, r5, k2, e2, q5⟩ => ?_))
    subst e2
    cases r5
    refine wpAny_truthy_bool ?_
    cases k2 with
    | false => exact ite_ff ⟨.bl false, H5, I5, rfl, q5⟩
    | true => exact ite_tt (chain_last (thn (hd.run pins s5 σ H5 _ I5 q5) fun w2 s6 ⟨z3, H6, I6, r6, q6⟩ => ho2 pins s6 σ H6 z' z3 w' w2 Q I6 r4 r6 q6))
/-- x in a tuple of data -/
def rInTD (K : PySem.W.Frag) : R2 := fun x y H Q => ∃ d ds, Dp K H x d ∧ Dp K H y (.tuple ds) ∧ SeqAt.shaped d = true ∧ SeqAt.shaped (.tuple ds) = true ∧ Q (.bl (ds.any fun z => PyData.eqv z d)) H
theorem room_inT {A : Around} {d : PyData} {xs : List PyData} (h : SeqAt.shaped d = true) (hu : A.units + 65 < cLine) : A.units + 1 + min (PyData.depthAll xs) d.depth < cLine := by
  have h1 := SeqAt.depth_of_shaped h
  have h2 : min (PyData.depthAll xs) d.depth ≤ d.depth := Nat.min_le_right _ _
  omega
theorem op_inTD (hu : X.A.units + 65 < cLine) : OpR X (compareOp .In) (rInTD X.K) := by
  intro pins s σ H x y v u Q I rx ry h
  obtain ⟨d, ds, hd, he, sd, se, q⟩ := h
  obtain ⟨as, r1⟩ := Dp.reads I d x v hd rx
  obtain ⟨bs, r2⟩ := Dp.reads I (.tuple ds) y u he ry
  exact SeqAt.in_tuple_reads r2 r1 (SeqAt.canLay_of_shaped se) (SeqAt.canLay_of_shaped sd) (room_inT sd hu) ⟨.bl _, H, I, rfl, q⟩
theorem kInTD {K : PySem.W.Frag} (e : X.K = K) (hu : X.A.units + 65 < cLine) : OpR X (compareOp .In) (rInTD K) := e ▸ op_inTD hu
theorem kInD {K : PySem.W.Frag} (e : X.K = K) (hu : X.A.units + 65 < cLine) : OpR X (compareOp .In) (rInD K) := e ▸ op_inD hu
theorem kNotInD {K : PySem.W.Frag} (e : X.K = K) (hu : X.A.units + 65 < cLine) : OpR X (compareOp .NotIn) (rNotInD K) := e ▸ op_notInD hu
end
/-! ### data, as G knows it -/
section
variable {K : PySem.W.Frag} {o : Option Addr} {σ : L2.St} {G G' Ge He H : Hp} {ta tb tc td te : TE} {s t u : T} {x y v : V} {d e : PyData}
mutual
theorem dp_up (e : Ex G G') : ∀ (d : PyData) {v : V}, Dp K G v d → Dp K G' v d
  | .none, _, h => by cases h; exact .non
  | .bool b, _, h => by cases h; exact .bl b
  | .int i, _, h => by cases h; exact .int i
  | .str x, _, h => by cases h; exact .str x
  | .list ds, _, h => by
    cases h with
    | lst a b => exact .lst (ex_l e a) (dps_up e ds b)
  | .tuple ds, _, h => by
    cases h with
    | tup a b => exact .tup (ex_t e a) (dps_up e ds b)
  | .dict _, _, h => by cases h
theorem dps_up (e : Ex G G') : ∀ (ds : List PyData) {vs : List V}, DpAll K G vs ds → DpAll K G' vs ds
  | [], _, h => by cases h; exact .nil
  | d :: ds, _, h => by
    cases h with
    | cons a b => exact .cons (dp_up e d a) (dps_up e ds b)
end
/-- .. or an empty dict -/
def Vl (K : PySem.W.Frag) (G : Hp) (v : V) (d : PyData) : Prop := Dp K G v d ∨ ∃ a, v = .ref a ∧ d = .dict [] ∧ G a = some (.dK [])
def tV (K : PySem.W.Frag) (d : PyData) : T := fun G v => Vl K G v d
theorem Vl.up (h : Vl K G v d) (e : Ex G G') : Vl K G' v d := h.imp (dp_up e d) fun ⟨a, e1, e2, e3⟩ => ⟨a, e1, e2, e _ _ e3⟩
theorem Vl.toU (h : Vl K G v d) : U (tV K d) G v := fun _ e => h.up e
theorem vl_non : Vl K G .non .none := .inl .non
theorem vl_bl {b : Bool} : Vl K G (.bl b) (.bool b) := .inl (.bl b)
theorem vl_int {i : Int} : Vl K G (.int i) (.int i) := .inl (.int i)
theorem vl_str {z : Str} : Vl K G (.str z) (.str z) := .inl (.str z)
theorem Vl.int {i : Int} (h : Vl K G v (.int i)) : v = .int i := by
  rcases h with h | ⟨_, _, e, _⟩
  · cases h; rfl
  · cases e
theorem Vl.bl {b : Bool} (h : Vl K G v (.bool b)) : v = .bl b := by
  rcases h with h | ⟨_, _, e, _⟩
  · cases h; rfl
  · cases e
theorem Vl.str {z : Str} (h : Vl K G v (.str z)) : v = .str z := by
  rcases h with h | ⟨_, _, e, _⟩
  · cases h; rfl
  · cases e
theorem Vl.non (h : Vl K G v .none) : v = .non := by
  rcases h with h | ⟨_, _, e, _⟩
  · cases h; rfl
  · cases e
theorem Vl.tup {ds : List PyData} (h : Vl K G v (.tuple ds)) : ∃ a xs, v = .ref a ∧ SqT K G a xs ∧ DpAll K G xs ds := by
  rcases h with h | ⟨_, _, e, _⟩
  · cases h with
    | tup a b => exact ⟨_, _, rfl, a, b⟩
  · cases e
theorem Vl.lst {ds : List PyData} (h : Vl K G v (.list ds)) : ∃ a xs, v = .ref a ∧ SqL K G a xs ∧ DpAll K G xs ds := by
  rcases h with h | ⟨_, _, e, _⟩
  · cases h with
    | lst a b => exact ⟨_, _, rfl, a, b⟩
  · cases e
theorem Vl.dp (h : Vl K G v d) (s : SeqAt.shaped d = true) : Dp K G v d := by
  rcases h with h | ⟨_, _, e, _⟩
  · exact h
  · subst e
    exact absurd (SeqAt.canLay_of_shaped s) (by simp [PyData.canLay0])
theorem dps_len : ∀ {xs : List V} {ds : List PyData}, DpAll K G xs ds → xs.length = ds.length
  | _, _, .nil => rfl
  | _, _, .cons _ r => congrArg (· + 1) (dps_len r)
theorem dps_at : ∀ {xs : List V} {ds : List PyData} {i : Nat} {d : PyData}, DpAll K G xs ds → ds[i]? = some d → ∃ x, xs[i]? = some x ∧ Dp K G x d
  | _, _, _, _, .nil, h => by simp at h
  | _, _, 0, _, .cons a _, h => by
    cases (show some _ = some _ from h)
    exact ⟨_, rfl, a⟩
  | _, _, i + 1, _, .cons _ r, h => dps_at (i := i) r h
/-! kinds -/
def kd : PyData → String
  | .none => "NoneType"
  | .bool _ => "bool"
  | .int _ => "int"
  | .str _ => "str"
  | .list _ => "list"
  | .tuple _ => "tuple"
  | .dict _ => "dict"
theorem Vl.kt (h : Vl K G v d) : Ty.KT K G v (kd d) := by
  rcases h with h | ⟨a, rfl, rfl, e⟩
  · cases h with
    | non => exact .non
    | bl b => exact .bl b
    | int i => exact .int i
    | str z => exact .str z
    | lst a _ => exact .lst a
    | tup a _ => exact .tup a
  · exact .dic e
def isInt : PyData → Bool
  | .bool _ => true
  | .int _ => true
  | _ => false
def isBool : PyData → Bool
  | .bool _ => true
  | _ => false
def isStr : PyData → Bool
  | .str _ => true
  | _ => false
def isList : PyData → Bool
  | .list _ => true
  | _ => false
def isTup : PyData → Bool
  | .tuple _ => true
  | _ => false
def isDict : PyData → Bool
  | .dict _ => true
  | _ => false
theorem ki_int : kitB (kd d) "int" = some (isInt d) := by
  cases d with
  | none => exact (show kitB "NoneType" "int" = some false from by decide +kernel)
  | bool _ => exact (show kitB "bool" "int" = some true from by decide +kernel)
  | int _ => exact (show kitB "int" "int" = some true from by decide +kernel)
  | str _ => exact (show kitB "str" "int" = some false from by decide +kernel)
  | list _ => exact (show kitB "list" "int" = some false from by decide +kernel)
  | tuple _ => exact (show kitB "tuple" "int" = some false from by decide +kernel)
  | dict _ => exact (show kitB "dict" "int" = some false from by decide +kernel)
theorem ki_bool : kitB (kd d) "bool" = some (isBool d) := by
  cases d with
  | none => exact (show kitB "NoneType" "bool" = some false from by decide +kernel)
  | bool _ => exact (show kitB "bool" "bool" = some true from by decide +kernel)
  | int _ => exact (show kitB "int" "bool" = some false from by decide +kernel)
  | str _ => exact (show kitB "str" "bool" = some false from by decide +kernel)
  | list _ => exact (show kitB "list" "bool" = some false from by decide +kernel)
  | tuple _ => exact (show kitB "tuple" "bool" = some false from by decide +kernel)
  | dict _ => exact (show kitB "dict" "bool" = some false from by decide +kernel)
theorem ki_str : kitB (kd d) "str" = some (isStr d) := by
  cases d with
  | none => exact (show kitB "NoneType" "str" = some false from by decide +kernel)
  | bool _ => exact (show kitB "bool" "str" = some false from by decide +kernel)
  | int _ => exact (show kitB "int" "str" = some false from by decide +kernel)
  | str _ => exact (show kitB "str" "str" = some true from by decide +kernel)
  | list _ => exact (show kitB "list" "str" = some false from by decide +kernel)
  | tuple _ => exact (show kitB "tuple" "str" = some false from by decide +kernel)
  | dict _ => exact (show kitB "dict" "str" = some false from by decide +kernel)
theorem ki_list : kitB (kd d) "list" = some (isList d) := by
  cases d with
  | none => exact (show kitB "NoneType" "list" = some false from by decide +kernel)
  | bool _ => exact (show kitB "bool" "list" = some false from by decide +kernel)
  | int _ => exact (show kitB "int" "list" = some false from by decide +kernel)
  | str _ => exact (show kitB "str" "list" = some false from by decide +kernel)
  | list _ => exact (show kitB "list" "list" = some true from by decide +kernel)
  | tuple _ => exact (show kitB "tuple" "list" = some false from by decide +kernel)
  | dict _ => exact (show kitB "dict" "list" = some false from by decide +kernel)
theorem ki_tup : kitB (kd d) "tuple" = some (isTup d) := by
  cases d with
  | none => exact (show kitB "NoneType" "tuple" = some false from by decide +kernel)
  | bool _ => exact (show kitB "bool" "tuple" = some false from by decide +kernel)
  | int _ => exact (show kitB "int" "tuple" = some false from by decide +kernel)
  | str _ => exact (show kitB "str" "tuple" = some false from by decide +kernel)
  | list _ => exact (show kitB "list" "tuple" = some false from by decide +kernel)
  | tuple _ => exact (show kitB "tuple" "tuple" = some true from by decide +kernel)
  | dict _ => exact (show kitB "dict" "tuple" = some false from by decide +kernel)
theorem ki_dict : kitB (kd d) "dict" = some (isDict d) := by
  cases d with
  | none => exact (show kitB "NoneType" "dict" = some false from by decide +kernel)
  | bool _ => exact (show kitB "bool" "dict" = some false from by decide +kernel)
  | int _ => exact (show kitB "int" "dict" = some false from by decide +kernel)
  | str _ => exact (show kitB "str" "dict" = some false from by decide +kernel)
  | list _ => exact (show kitB "list" "dict" = some false from by decide +kernel)
  | tuple _ => exact (show kitB "tuple" "dict" = some false from by decide +kernel)
  | dict _ => exact (show kitB "dict" "dict" = some true from by decide +kernel)
theorem ev_isiV {c : String} {b : Bool} (ha : Ev o ta σ G (tV K d)) (h : kitB (kd d) c = some b) : Ev o (tCB (rIsi K) (tCons ta (tCons (tC (.ty c)) tNil))) σ G (tIs (.bl b)) :=
  ev_cb (ea_cons ha (ea_cons ev_k ea_nil)) fun G' vs e a => by
    cases a with
    | cons a1 a => cases a with
      | cons a2 a =>
        cases a
        rw [a2.eq]
        exact rc_q u_is fun G1 H1 e1 kn Q q => ⟨_, .ty c, .type (kd d), .type c, b, rfl, .ty c, ((a1.now.up (e1.trans kn.sub)).kt).ty, kit_ty h, q⟩
/-! readings -/
theorem ev_v {i : Nat} (h : σ[i]? = some (some v)) (w : Vl K G v d) : Ev o (tVar i) σ G (tV K d) := ev_var h w.toU
theorem Ev.isInt {i : Int} (h : Ev o te σ G (tV K (.int i))) : Ev o te σ G (tIs (.int i)) := h.imp fun _ _ _ w => by rw [w.now.int]; exact u_is
theorem Ev.isBl {b : Bool} (h : Ev o te σ G (tV K (.bool b))) : Ev o te σ G (tIs (.bl b)) := h.imp fun _ _ _ w => by rw [w.now.bl]; exact u_is
theorem Ev.isStr {z : Str} (h : Ev o te σ G (tV K (.str z))) : Ev o te σ G (tIs (.str z)) := h.imp fun _ _ _ w => by rw [w.now.str]; exact u_is
theorem Ev.vInt {i : Int} (h : Ev o te σ G (tIs (.int i))) : Ev o te σ G (tV K (.int i)) := h.imp fun _ _ _ w => by rw [w.eq]; exact vl_int.toU
theorem Ev.vBl {b : Bool} (h : Ev o te σ G (tIs (.bl b))) : Ev o te σ G (tV K (.bool b)) := h.imp fun _ _ _ w => by rw [w.eq]; exact vl_bl.toU
theorem Ev.vStr {z : Str} (h : Ev o te σ G (tIs (.str z))) : Ev o te σ G (tV K (.str z)) := h.imp fun _ _ _ w => by rw [w.eq]; exact vl_str.toU
theorem Ev.vNon (h : Ev o te σ G (tIs .non)) : Ev o te σ G (tV K .none) := h.imp fun _ _ _ w => by rw [w.eq]; exact vl_non.toU
inductive AllV (K : PySem.W.Frag) : List T → List PyData → Prop
  | nil : AllV K [] []
  | cons {d : PyData} {ts : List T} {ds : List PyData} : AllV K ts ds → AllV K (tV K d :: ts) (d :: ds)
theorem allV : ∀ ds : List PyData, AllV K (ds.map (tV K)) ds
  | [] => .nil
  | _ :: r => .cons (allV r)
theorem dps_of : ∀ {ds : List PyData} {vs : List V}, (∀ d' ∈ ds, SeqAt.shaped d' = true) → AllU G (ds.map (tV K)) vs → DpAll K G vs ds
  | [], _, _, h => by cases h; exact .nil
  | d :: ds, _, hs, h => by
    cases h with
    | cons a b => exact .cons (a.now.dp (hs d (List.mem_cons_self ..))) (dps_of (fun d' h' => hs d' (List.mem_cons_of_mem _ h')) b)
theorem ev_tupV {ta : TA} {ds : List PyData} (h : EvA o ta σ G (ds.map (tV K))) (hs : ∀ d' ∈ ds, SeqAt.shaped d' = true) (hl : ds.length ≤ 100000) : Ev o (tTup ta) σ G (tV K (.tuple ds)) :=
  (ev_tup (K := K) h (by rw [List.length_map]; exact hl)).imp fun G' v e w => by
    obtain ⟨a, vs, rfl, hs', hu⟩ := w.now
    exact Vl.toU (.inl (.tup hs' (dps_of hs hu)))
theorem ev_lstV {ta : TA} {ds : List PyData} (h : EvA o ta σ G (ds.map (tV K))) (hs : ∀ d' ∈ ds, SeqAt.shaped d' = true) (hl : ds.length ≤ 100000) : Ev o (tLst ta) σ G (tV K (.list ds)) :=
  (en_lst h (by rw [List.length_map]; exact hl)).ev fun G' a xs e ha hp => .inl (.lst (.of ha) (dps_of hs hp.now))
theorem ev_eqV {b : Bool} (ha : Ev o ta σ G (tV K d)) (hb : Ev o tb σ G (tV K e)) (sd : SeqAt.shaped d = true) (se : SeqAt.shaped e = true) (h : PyData.eqv d e = b) : Ev o (tOp (rEqG K) ta tb) σ G (tIs (.bl b)) := by
  subst h
  exact ev_op ha hb fun G' x y e' hx hy => .rgt (.rgt (ro_q u_is fun G1 H1 e1 kn Q q => ⟨d, e, (hx.now.up (e1.trans kn.sub)).dp sd, (hy.now.up (e1.trans kn.sub)).dp se, sd, se, q⟩))
theorem ev_neV {b : Bool} (ha : Ev o ta σ G (tV K d)) (hb : Ev o tb σ G (tV K e)) (sd : SeqAt.shaped d = true) (se : SeqAt.shaped e = true) (h : (!PyData.eqv d e) = b) : Ev o (tOp (rNeG K) ta tb) σ G (tIs (.bl b)) := by
  subst h
  exact ev_op ha hb fun G' x y e' hx hy => .rgt (.rgt (ro_q u_is fun G1 H1 e1 kn Q q => ⟨d, e, (hx.now.up (e1.trans kn.sub)).dp sd, (hy.now.up (e1.trans kn.sub)).dp se, sd, se, q⟩))
theorem ev_inTV {ds : List PyData} {b : Bool} (ha : Ev o ta σ G (tV K d)) (hb : Ev o tb σ G (tV K (.tuple ds))) (sd : SeqAt.shaped d = true) (se : SeqAt.shaped (.tuple ds) = true) (h : (ds.any fun z => PyData.eqv z d) = b) : Ev o (tOp (rInTD K) ta tb) σ G (tIs (.bl b)) := by
  subst h
  exact ev_op ha hb fun G' x y e' hx hy => ro_q u_is fun G1 H1 e1 kn Q q => ⟨d, ds, (hx.now.up (e1.trans kn.sub)).dp sd, (hy.now.up (e1.trans kn.sub)).dp se, sd, se, q⟩
theorem ev_ixT {ds : List PyData} {i : Nat} (ha : Ev o ta σ G (tV K (.tuple ds))) (hb : Ev o tb σ G (tIs (.int i))) (h : ds[i]? = some d) : Ev o (tOp (rIx K) ta tb) σ G (tV K d) :=
  ev_op ha hb fun G' x y e' hx hy => by
    obtain ⟨a, xs, rfl, hs, hd⟩ := hx.now.tup
    obtain ⟨v, hv, hp⟩ := dps_at hd h
    rw [hy.eq]
    exact fun G1 H1 e1 kn Q q => ro_ixT hs (at_of rfl hv) G1 H1 e1 kn Q fun v' G3 H3 g3 w3 => q v' G3 H3 g3 (by rw [w3.eq]; exact Vl.toU (.inl (dp_up (e1.trans g3.gg) _ hp)))
theorem ev_ixLV {ds : List PyData} {i : Nat} (ha : Ev o ta σ G (tV K (.list ds))) (hb : Ev o tb σ G (tIs (.int i))) (h : ds[i]? = some d) : Ev o (tOp (rIx K) ta tb) σ G (tV K d) :=
  ev_op ha hb fun G' x y e' hx hy => by
    obtain ⟨a, xs, rfl, hs, hd⟩ := hx.now.lst
    obtain ⟨v, hv, hp⟩ := dps_at hd h
    rw [hy.eq]
    exact fun G1 H1 e1 kn Q q => ro_ixL hs (at_of rfl hv) G1 H1 e1 kn Q fun v' G3 H3 g3 w3 => q v' G3 H3 g3 (by rw [w3.eq]; exact Vl.toU (.inl (dp_up (e1.trans g3.gg) _ hp)))
theorem ev_lenT {ds : List PyData} (ha : Ev o ta σ G (tV K (.tuple ds))) : Ev o (tCB (rLen K) (tCons ta tNil)) σ G (tIs (.int ds.length)) :=
  ev_cb (ea_cons ha ea_nil) fun G' vs e a => by
    cases a with
    | cons a1 a =>
      cases a
      obtain ⟨p, xs, rfl, hs, hd⟩ := a1.now.tup
      rw [← dps_len hd]
      exact rc_lenT hs
theorem ev_lenLV {ds : List PyData} (ha : Ev o ta σ G (tV K (.list ds))) : Ev o (tCB (rLen K) (tCons ta tNil)) σ G (tIs (.int ds.length)) :=
  ev_cb (ea_cons ha ea_nil) fun G' vs e a => by
    cases a with
    | cons a1 a =>
      cases a
      obtain ⟨p, xs, rfl, hs, hd⟩ := a1.now.lst
      rw [← dps_len hd]
      exact rc_lenL hs
def isNon : PyData → Bool
  | .none => true
  | _ => false
theorem ev_isNV (ha : Ev o ta σ G (tV K d)) : Ev o (tOp (fun x y H Q => y = .non ∧ Q (.bl (decide (x = .non))) H) ta (tC .non)) σ G (tIs (.bl (isNon d))) :=
  ev_op ha ev_k fun G' x y e hx hy => by
    rw [hy.eq]
    have hd : decide (x = .non) = isNon d := by
      have w := hx.now
      rcases w with h | ⟨a, rfl, rfl, _⟩
      · cases h <;> rfl
      · rfl
    rw [← hd]
    exact ro_isN
/-! ints -/
theorem ev_i0 {g : Int → Int → V} {i j : Int} (ha : Ev o ta σ G (tIs (.int i))) (hb : Ev o tb σ G (tIs (.int j))) : Ev o (tOp (rI0 g) ta tb) σ G (tIs (g i j)) := ev_op2 ha hb ro_I0
theorem ev_iC {C : Int → Int → Prop} {g : Int → Int → V} {i j : Int} (ha : Ev o ta σ G (tIs (.int i))) (hb : Ev o tb σ G (tIs (.int j))) (hc : C i j) : Ev o (tOp (rI C g) ta tb) σ G (tIs (g i j)) := ev_op2 ha hb (ro_I hc)
theorem ev_addI {i j : Int} (ha : Ev o ta σ G (tIs (.int i))) (hb : Ev o tb σ G (tIs (.int j))) : Ev o (tOp (rAddG K) ta tb) σ G (tIs (.int (i + j))) := ev_op2 ha hb ro_addI
theorem ev_chain2 {f f' : Int → Int → Bool} {i j k : Int} (ha : Ev o ta σ G (tIs (.int i))) (hb : Ev o tb σ G (tIs (.int j))) (hc : Ev o tc σ G (tIs (.int k))) :
    Ev o (tChain (rI0 fun i j => .bl (f i j)) (rI0 fun i j => .bl (f' i j)) ta tb tc) σ G (tIs (.bl (f i j && f' j k))) := ev_chain ha hb (fun _ _ => ro_I0) hc fun _ _ => ro_I0
theorem ev_chain3 {f f' f2 : Int → Int → Bool} {i j k l : Int} (ha : Ev o ta σ G (tIs (.int i))) (hb : Ev o tb σ G (tIs (.int j))) (hc : Ev o tc σ G (tIs (.int k))) (hd : Ev o td σ G (tIs (.int l))) :
    Ev o (tChain3 (rI0 fun i j => .bl (f i j)) (rI0 fun i j => .bl (f' i j)) (rI0 fun i j => .bl (f2 i j)) ta tb tc td) σ G (tIs (.bl (f i j && (f' j k && f2 k l)))) := fun G1 H1 e kn Q q =>
  ha G1 H1 e kn _ fun v1 G2 H2 g2 w2 => hb G2 H2 (e.trans g2.gg) g2.kn _ fun v2 G3 H3 g3 w3 => by
    rw [w2.eq, w3.eq]
    refine ⟨i, j, rfl, rfl, f i j, rfl, ?_⟩
    have g := g2.trans g3
    revert q
    generalize f i j = b1
    intro q
    cases b1 with
    | false => exact q _ G3 H3 g u_is
    | true =>
      refine hc G3 H3 (e.trans g.gg) g3.kn _ fun v4 G4 H4 g4 w4 => ?_
      rw [w4.eq]
      refine ⟨j, k, rfl, rfl, f' j k, rfl, ?_⟩
      revert q
      generalize f' j k = b2
      intro q
      cases b2 with
      | false => exact q _ G4 H4 (g.trans g4) u_is
      | true =>
        refine hd G4 H4 (e.trans (g.trans g4).gg) g4.kn _ fun v5 G5 H5 g5 w5 => ?_
        rw [w5.eq]
        exact ⟨k, l, rfl, rfl, q _ G5 H5 ((g.trans g4).trans g5) u_is⟩
end
/-! ### an object of one's own, known for a while -/
section
variable {o : Option Addr} {G H G2 H2 : Hp} {a : Addr} {x : HO}
theorem Go.lend (k : Kn o G H) (ga : G a = none) (ha : H a = some x) (ho : o ≠ some a) : Kn o (upd G a x) H := ⟨fun b y h => by
  by_cases e : b = a
  · rw [e, upd_same] at h; rw [e, ha, h]
  · rw [upd_ne e] at h; exact k.sub b y h, fun b z => by
  obtain ⟨q, q2⟩ := k.box b z
  exact ⟨q, by rw [upd_ne (fun e => ho (by rw [z, e]))]; exact q2⟩⟩
theorem Go.back (g : Go o (upd G a x) H G2 H2) (ga : G a = none) : Go o G H (L2.del G2 a) H2 where
  gg := fun b y h => by
    have e : b ≠ a := fun z => by rw [z, ga] at h; cases h
    rw [L2.del_ne e]
    exact g.gg b y (by rw [upd_ne e]; exact h)
  kn := ⟨fun b y h => by
    by_cases e : b = a
    · rw [e, L2.del_same] at h; cases h
    · rw [L2.del_ne e] at h; exact g.kn.sub b y h, fun b z => by
    obtain ⟨q, q2⟩ := g.kn.box b z
    refine ⟨q, ?_⟩
    by_cases e : b = a
    · rw [e, L2.del_same]
    · rw [L2.del_ne e]; exact q2⟩
  kp := g.kp
  nw := fun c h n => by
    by_cases e : c = a
    · rw [e, L2.del_same]
    · rw [L2.del_ne e]; exact g.nw c (by rw [upd_ne e]; exact h) n
end
end Ty
set_option Elab.async false
set_option linter.all false
set_option maxRecDepth 100000
set_option maxHeartbeats 4000000
/-! Dicts: len, a copy, walks under a lock; values that are the same; copies, errors that keep the very value. -/
namespace Ty
open PySem L2 PySem.Spec PyProof.Rows
open Evl (Ex ex_l ex_t)
section
variable {X : Cx} {K : PySem.W.Frag}
def rLenD : List V → Hp → VK → Prop := fun xs H Q => ∃ a kvs, xs = [.ref a] ∧ Rd H a (.dK kvs) ∧ Q (.int (List.length (α := Key × V) kvs)) H
theorem call_lenD : CallR X (.builtin "len") rLenD := by
  intro pins s σ H xs us Q I r h
  obtain ⟨a, kvs, rfl, e, q⟩ := h
  obtain ⟨u, rfl, rx⟩ := vals1 r
  cases (show u = Value.ref a from rx)
  exact d_len I e fun t s' I' => ⟨.int kvs.length, H, I', ⟨t, rfl⟩, q⟩
abbrev rLenA (K : PySem.W.Frag) : List V → Hp → VK → Prop := fun xs H Q => rLen K xs H Q ∨ rLenD xs H Q
theorem kLenA (e : X.K = K) : CallR X (.builtin "len") (rLenA K) := e ▸ gLen.or call_lenD
def rDictOf : List V → Hp → VK → Prop := fun xs H Q => ∃ (a : Addr) (kvs : List (Key × V)), xs = [.ref a] ∧ Rd H a (.dK kvs) ∧ ∀ p, H p = none → Q (.ref p) (upd H p (.dK kvs))
theorem call_dictOf : CallR X (.type "dict") rDictOf := by
  intro pins s σ H xs us Q I r h
  obtain ⟨a, kvs, rfl, e, q⟩ := h
  obtain ⟨u, rfl, rx⟩ := vals1 r
  cases (show u = Value.ref a from rx)
  exact d_copyOf I e fun p s' hp I' => ⟨.ref p, _, I', rfl, q p hp⟩
end
section
variable {K : PySem.W.Frag} {o : Option Addr} {σ : L2.St} {G G' Ge He H G2 H2 : Hp} {ta tb tc td te : TE} {s t u : T} {x y v : V} {d e : PyData} {D : Ends} {tz : TS}
/-! ### a lock -/
theorem Kn.lock {b : Addr} {z : HO} (k : Kn .none G H) : Kn .none (upd G b z) (upd H b z) := ⟨fun c y h => by
  by_cases e : c = b
  · rw [e, upd_same] at h ⊢; exact h
  · rw [upd_ne e] at h ⊢; exact k.sub c y h, fun _ z => by cases z⟩
theorem Go.unlock {b : Addr} {z w : HO} (k : Kn .none G H) (gb : G b = some w) (hb : H b = some w) (g : Go .none (upd G b z) (upd H b z) G2 H2) : Go .none G H (upd G2 b w) (upd H2 b w) where
  gg := fun c y h => by
    by_cases e : c = b
    · rw [e, gb] at h; rw [e, upd_same]; exact h
    · rw [upd_ne e]; exact g.gg c y (by rw [upd_ne e]; exact h)
  kn := g.kn.lock
  kp := fun c y h _ => by
    by_cases e : c = b
    · rw [e, hb] at h; rw [e, upd_same]; exact h
    · rw [upd_ne e]; exact g.kp c y (by rw [upd_ne e]; exact h) (by simp)
  nw := fun c h n => by
    by_cases e : c = b
    · rw [e, gb] at h; cases h
    · rw [upd_ne e]; exact g.nw c (by rw [upd_ne e]; exact h) (by rw [upd_ne e]; exact n)
/-- a reading under a lock of what is known -/
theorem ev_lock {b : Addr} {w : HO} (gb : ∀ G', Ex G G' → G' b = some w) (mu : Mut (some w)) (h : ∀ G' od, Ex G G' → Ev .none te σ (upd G' b (.frz od w)) (tIs v)) : Ev .none (tLockE te) σ G (tIs v) := fun G1 H1 e kn Q q => by
  have g1 := gb G1 e
  have h1 := kn.sub _ _ g1
  refine ⟨b, w, h1, mu, fun od => h G1 od e _ _ (Ex.refl _) kn.lock _ fun v2 G2 H2 g2 w2 => ?_⟩
  exact ⟨g2.kn.sub _ _ (g2.gg b _ upd_same), q v2 _ _ (Go.unlock kn g1 h1 g2) (by rw [w2.eq]; exact u_is)⟩
theorem ei_keys {kvs : List (Key × V)} {a : Addr} {od : Obj} {P : PL} (h : Ev o td σ G (tIs (.ref a))) (hg : G a = some (.frz od (.dK kvs))) (k : ∀ G', Ex G G' → UP P G' (kvs.map fun kv => kV kv.1)) : EvI o (iKeys td) σ G P := fun G1 H1 e kn R r =>
  h G1 H1 e kn _ fun v G2 H2 g2 w2 => by
    have g3 : G2 a = some (.frz od (.dK kvs)) := g2.gg _ _ (e _ _ hg)
    refine ⟨a, od, w2.eq, .inl ⟨kvs, g2.kn.sub _ _ g3, r _ G2 H2 (kvs.map fun kv => kV kv.1) g2 ?_ (k G2 (e.trans g2.gg))⟩⟩
    rw [List.length_map]
    refine walk_keys.mono (fun H' e' => e' _ _ g3) fun i H' x H'' hi _ y => ?_
    obtain ⟨e1, k, v, hk, e2⟩ := y
    refine ⟨e1, ?_⟩
    rw [List.getElem?_map, hk, e2]
    rfl
theorem Rd.up {a : Addr} {w : HO} (h : Rd G a w) (e : Ex G G') : Rd G' a w := by
  rcases h with h | ⟨od, h⟩
  · exact .inl (e _ _ h)
  · exact .inr ⟨od, e _ _ h⟩
theorem ev_dget {a : Addr} {kvs : List (Key × V)} {k : Key} (h : Ev o td σ G (tIs (.ref a))) (hk : Ev o tb σ G (tIs (kV k))) (hr : Rd G a (.dK kvs)) (hv : valV kvs k = some v) : Ev o (tDGet td tb) σ G (tIs v) := fun G1 H1 e kn Q q =>
  h G1 H1 e kn _ fun v2 G2 H2 g2 w2 => hk G2 H2 (e.trans g2.gg) g2.kn _ fun v3 G3 H3 g3 w3 => by
    have g := g2.trans g3
    exact ⟨a, v, w2.eq, .inl ⟨kvs, k, Rd.up hr ((e.trans g.gg).trans g3.kn.sub), w3.eq, hv.symm⟩, q v G3 H3 g u_is⟩
theorem ev_dnotin {a : Addr} {kvs : List (Key × V)} {k : Key} {b : Bool} (hk : Ev o tb σ G (tIs (kV k))) (h : Ev o td σ G (tIs (.ref a))) (hr : Rd G a (.dK kvs)) (hv : (!(valV kvs k).isSome) = b) : Ev o (tDNotIn tb td) σ G (tIs (.bl b)) := fun G1 H1 e kn Q q =>
  hk G1 H1 e kn _ fun v2 G2 H2 g2 w2 => h G2 H2 (e.trans g2.gg) g2.kn _ fun v3 G3 H3 g3 w3 => by
    have g := g2.trans g3
    exact ⟨a, _, w3.eq, .inl ⟨kvs, k, Rd.up hr ((e.trans g.gg).trans g3.kn.sub), w2.eq, rfl⟩, q _ G3 H3 g (by rw [hv]; exact u_is)⟩
theorem ev_din {a : Addr} {kvs : List (Key × V)} {k : Key} {b : Bool} (hk : Ev o tb σ G (tIs (kV k))) (h : Ev o td σ G (tIs (.ref a))) (hr : Rd G a (.dK kvs)) (hv : (valV kvs k).isSome = b) : Ev o (tDIn tb td) σ G (tIs (.bl b)) := fun G1 H1 e kn Q q =>
  hk G1 H1 e kn _ fun v2 G2 H2 g2 w2 => h G2 H2 (e.trans g2.gg) g2.kn _ fun v3 G3 H3 g3 w3 => by
    have g := g2.trans g3
    exact ⟨a, _, w3.eq, .inl ⟨kvs, k, Rd.up hr ((e.trans g.gg).trans g3.kn.sub), w2.eq, rfl⟩, q _ G3 H3 g (by rw [hv]; exact u_is)⟩
theorem valV_has {kvs : List (Key × V)} {i : Nat} {k : Key} {v : V} (h : kvs[i]? = some (k, v)) : ∃ w, valV kvs k = some w ∧ ∃ j : Key, (j, w) ∈ kvs := by
  have hm : (k, v) ∈ kvs := List.mem_of_getElem? h
  have hs : (valV kvs k).isSome = true := by
    rw [← valV_any]
    exact List.any_eq_true.mpr ⟨_, hm, by simp⟩
  obtain ⟨w, hw⟩ := Option.isSome_iff_exists.mp hs
  refine ⟨w, hw, ?_⟩
  unfold valV at hw
  obtain ⟨p, hp, e⟩ := Option.map_eq_some_iff.mp hw
  exact ⟨p.1, by rw [← e]; exact List.mem_of_find?_eq_some hp⟩
theorem rc_lenA {vs : List V} (h : RC o (rLen K) vs G t) : RC o (rLenA K) vs G t := fun G1 H1 a kn Q q => .inl (h G1 H1 a kn Q q)
theorem rc_lenDA {a : Addr} {kvs : List (Key × V)} (h : G a = some (.dK kvs)) : RC o (rLenA K) [.ref a] G (tIs (.int kvs.length)) := rc_q u_is fun G1 H1 e kn Q q => .inr ⟨a, kvs, rfl, .inl (kn.sub _ _ (e _ _ h)), q⟩
/-! ### the same, place by place -/
def fl : V → Bool
  | .non => true
  | .bl _ => true
  | .int _ => true
  | .str _ => true
  | _ => false
def Sm (K : PySem.W.Frag) : Nat → Hp → V → V → Prop
  | 0, _, _, _ => False
  | n + 1, G, x, y => (x = y ∧ fl x = true) ∨ (∃ a b xs ys, x = .ref a ∧ y = .ref b ∧ SqL K G a xs ∧ SqL K G b ys ∧ xs.length ≤ 1000 ∧ Paired (Sm K n G) xs ys) ∨
      (∃ a b xs ys, x = .ref a ∧ y = .ref b ∧ SqT K G a xs ∧ SqT K G b ys ∧ xs.length ≤ 1000 ∧ Paired (Sm K n G) xs ys) ∨
      ∃ a b kvs, x = .ref a ∧ y = .ref b ∧ G a = some (.dK kvs) ∧ G b = some (.dK kvs) ∧ kvs.length ≤ 1000 ∧ kvs.all (fun kv => fl kv.2) = true ∧ 0 < n
theorem Sm.up {K : PySem.W.Frag} {G G' : Hp} (e : Ex G G') : ∀ {n : Nat} {x y : V}, Sm K n G x y → Sm K n G' x y
  | 0, _, _, h => h
  | n + 1, x, y, h => by
    rcases h with h | ⟨a, b, xs, ys, e1, e2, h1, h2, hl, h3⟩ | ⟨a, b, xs, ys, e1, e2, h1, h2, hl, h3⟩ | ⟨a, b, kvs, e1, e2, h1, h2, hl, h3, h4⟩
    · exact .inl h
    · exact .inr (.inl ⟨a, b, xs, ys, e1, e2, ex_l e h1, ex_l e h2, hl, L2.Paired.mapP h3 fun _ _ => Sm.up e⟩)
    · exact .inr (.inr (.inl ⟨a, b, xs, ys, e1, e2, ex_t e h1, ex_t e h2, hl, L2.Paired.mapP h3 fun _ _ => Sm.up e⟩))
    · exact .inr (.inr (.inr ⟨a, b, kvs, e1, e2, e _ _ h1, e _ _ h2, hl, h3, h4⟩))
theorem Sm.flat {n : Nat} {x : V} (h : fl x = true) : Sm K (n + 1) G x x := .inl ⟨rfl, h⟩
theorem Sm.more : ∀ {n : Nat} {x y : V}, Sm K n G x y → Sm K (n + 1) G x y
  | 0, _, _, h => h.elim
  | n + 1, x, y, h => by
    rcases h with h | ⟨a, b, xs, ys, e1, e2, h1, h2, hl, h3⟩ | ⟨a, b, xs, ys, e1, e2, h1, h2, hl, h3⟩ | ⟨a, b, kvs, e1, e2, h1, h2, hl, h3, h4⟩
    · exact .inl h
    · exact .inr (.inl ⟨a, b, xs, ys, e1, e2, h1, h2, hl, L2.Paired.mapP h3 fun _ _ => Sm.more⟩)
    · exact .inr (.inr (.inl ⟨a, b, xs, ys, e1, e2, h1, h2, hl, L2.Paired.mapP h3 fun _ _ => Sm.more⟩))
    · exact .inr (.inr (.inr ⟨a, b, kvs, e1, e2, h1, h2, hl, h3, Nat.succ_pos _⟩))
theorem Paired.at' {α β : Type} {R : α → β → Prop} : ∀ {xs : List α} {ys : List β} {i : Nat}, Paired R xs ys → i < xs.length → ∃ x y, xs[i]? = some x ∧ ys[i]? = some y ∧ R x y
  | _, _, i, .nil, h => absurd h (Nat.not_lt_zero i)
  | _, _, 0, .cons r _, _ => ⟨_, _, rfl, rfl, r⟩
  | _, _, i + 1, .cons _ t, h => Paired.at' (i := i) t (Nat.lt_of_succ_lt_succ h)
def cSame (K : PySem.W.Frag) (n : Nat) (o : Option Addr) (G : Hp) (vs : List V) (t : T) : Prop := o = none ∧ ∃ x y, vs = [x, y] ∧ Sm K n G x y ∧ t = tIs (.bl true)
def tNilL : T := fun G v => ∃ a, v = .ref a ∧ G a = some (.lst [])
theorem ev_nilL {te : TE} {P : PL} (h : EvN o te σ G P) (k : ∀ G' xs, UP P G' xs → xs = []) : Ev o te σ G tNilL :=
  h.ev fun G' a xs _ ha hp => ⟨a, rfl, by rw [ha, k G' xs hp]⟩
theorem ev_nil : Ev o (tLst tNil) σ G tNilL := ev_nilL (en_lst ea_nil (by decide)) fun G' xs h => by
  have a := h.now
  cases a
  rfl
theorem ev_eqNil {te : TE} (h : Ev o te σ G tNilL) : Ev o (tOp (rEqG K) te (tLst tNil)) σ G (tIs (.bl true)) :=
  ev_op h ev_nil fun G' x y _ hx hy => by
    obtain ⟨a, rfl, ha⟩ := hx.now
    obtain ⟨b, rfl, hb⟩ := hy.now
    exact ro_eqN (xs := []) (.of ha) (.of hb)
/-! ### data are the same as themselves -/
/-- not deeper than n, no list of more than 900 -/
def okn : Nat → PyData → Bool
  | 0, _ => false
  | n + 1, .list ds => decide (ds.length ≤ 900) && ds.all (okn n)
  | n + 1, .tuple ds => decide (ds.length ≤ 900) && ds.all (okn n)
  | n + 1, .dict _ => decide (0 < n)
  | _ + 1, _ => true
theorem sm_vl : ∀ {n : Nat} {v : V} {d : PyData}, okn n d = true → Vl K G v d → Sm K n G v v
  | 0, _, _, h, _ => by cases h
  | n + 1, v, d, h, w => by
    have all : ∀ {xs : List V} {ds : List PyData}, DpAll K G xs ds → ds.all (okn n) = true → Paired (Sm K n G) xs xs := fun {xs ds} a => by
      intro hh
      induction ds generalizing xs with
      | nil => cases a; exact .nil
      | cons d ds ih =>
        cases a with
        | cons a b =>
          rw [List.all_cons, Bool.and_eq_true] at hh
          exact .cons (sm_vl hh.1 (.inl a)) (ih b hh.2)
    rcases w with w | ⟨a, rfl, rfl, e⟩
    · cases w with
      | non => exact .flat rfl
      | bl b => exact .flat rfl
      | int i => exact .flat rfl
      | str z => exact .flat rfl
      | @lst a xs ds hs hd =>
        have h' := Bool.and_eq_true_iff.mp h
        have hl := of_decide_eq_true h'.1
        exact .inr (.inl ⟨_, _, _, _, rfl, rfl, hs, hs, by rw [dps_len hd]; omega, all hd h'.2⟩)
      | @tup a xs ds hs hd =>
        have h' := Bool.and_eq_true_iff.mp h
        have hl := of_decide_eq_true h'.1
        exact .inr (.inr (.inl ⟨_, _, _, _, rfl, rfl, hs, hs, by rw [dps_len hd]; omega, all hd h'.2⟩))
    · exact .inr (.inr (.inr ⟨_, _, [], rfl, rfl, e, e, Nat.zero_le _, rfl, of_decide_eq_true h⟩))
/-! ### a fresh copy; what a test of the very value may take -/
/-- v is a list or a dict of one's own, of flat items, or neither -/
def Mv (K : PySem.W.Frag) (o : Option Addr) (H0 G H : Hp) (v : V) : Prop :=
  (Sm K 3 G v v ∧ ∃ n, Ty.KT K G v n ∧ kitB n "list" = some false ∧ kitB n "dict" = some false) ∨
  (∃ a xs, v = .ref a ∧ H0 a = none ∧ G a = none ∧ o ≠ some a ∧ H a = some (.lst xs) ∧ xs.length ≤ 900 ∧ ∀ x ∈ xs, Sm K 2 G x x) ∨
  ∃ a kvs, v = .ref a ∧ H0 a = none ∧ G a = none ∧ o ≠ some a ∧ H a = some (.dK kvs) ∧ kvs.length ≤ 900 ∧ kvs.all (fun kv => fl kv.2) = true
def spBlame (K : PySem.W.Frag) : Sp := fun vs H Q _ => ∃ o G0 H0 G v, Go o G0 H0 G H ∧ vs = [v, v] ∧ Mv K o H0 G H v ∧ ∀ G2 H2, Go o G0 H0 G2 H2 → Q (.bl true) H2
theorem dps_mem {n : Nat} : ∀ {xs : List V} {ds : List PyData}, DpAll K G xs ds → ds.all (okn n) = true → ∀ x ∈ xs, Sm K n G x x
  | _, _, .nil, _, x, hx => nomatch hx
  | _, _, .cons a b, h, x, hx => by
    rw [List.all_cons, Bool.and_eq_true] at h
    rcases List.mem_cons.mp hx with rfl | hx
    · exact sm_vl h.1 (.inl a)
    · exact dps_mem b h.2 x hx
/-- v' is what the copy of d gives -/
def Cp (K : PySem.W.Frag) (o : Option Addr) (H0 G2 H2 : Hp) (d : PyData) (v' : V) : Prop :=
  (Vl K G2 v' d ∧ isList d = false ∧ isDict d = false) ∨
  (∃ a xs ds, d = .list ds ∧ v' = .ref a ∧ H0 a = none ∧ G2 a = none ∧ o ≠ some a ∧ H2 a = some (.lst xs) ∧ DpAll K G2 xs ds) ∨
  ∃ a, d = .dict [] ∧ v' = .ref a ∧ H0 a = none ∧ G2 a = none ∧ o ≠ some a ∧ H2 a = some (.dK [])
def spCopy (K : PySem.W.Frag) : Sp := fun vs H Q _ => ∃ o G v d, Kn o G H ∧ vs = [v] ∧ Vl K G v d ∧ ∀ v' G2 H2, Go o G H G2 H2 → Cp K o H G2 H2 d v' → Q v' H2
theorem Cp.go {H0 G3 H3 : Hp} {v' : V} (c : Cp K o H0 G2 H2 d v') (g : Go o G2 H2 G3 H3) : Cp K o H0 G3 H3 d v' := by
  rcases c with ⟨w, h1, h2⟩ | ⟨a, xs, ds, rfl, rfl, h0, h2, ho, ha, hd⟩ | ⟨a, rfl, rfl, h0, h2, ho, ha⟩
  · exact .inl ⟨w.up g.gg, h1, h2⟩
  · exact .inr (.inl ⟨a, xs, ds, rfl, rfl, h0, g.nw a h2 (by rw [ha]; simp), ho, g.kp a _ ha ho, dps_up g.gg _ hd⟩)
  · exact .inr (.inr ⟨a, rfl, rfl, h0, g.nw a h2 (by rw [ha]; simp), ho, g.kp a _ ha ho⟩)
theorem Cp.mv {H0 H1 : Hp} {v' : V} (c : Cp K o H0 G2 H2 d v') (h : okn 3 d = true) (k : ∀ a, H0 a = none → H1 a = none) : Mv K o H1 G2 H2 v' := by
  rcases c with ⟨w, h1, h2⟩ | ⟨a, xs, ds, rfl, rfl, h0, h2, ho, ha, hd⟩ | ⟨a, rfl, rfl, h0, h2, ho, ha⟩
  · exact .inl ⟨sm_vl h w, kd d, w.kt, by rw [ki_list, h1], by rw [ki_dict, h2]⟩
  · have h' := Bool.and_eq_true_iff.mp h
    have hl := of_decide_eq_true h'.1
    exact .inr (.inl ⟨a, xs, rfl, k a h0, h2, ho, ha, by rw [dps_len hd]; omega, dps_mem hd h'.2⟩)
  · exact .inr (.inr ⟨a, [], rfl, k a h0, h2, ho, ha, by decide, rfl⟩)
/-- a copy may be lent: it stands for the same data -/
theorem Cp.lend {H0 : Hp} {v' : V} (c : Cp K o H0 G2 H2 d v') (kn : Kn o G2 H2) : ∃ G3, Ex G2 G3 ∧ Kn o G3 H2 ∧ Vl K G3 v' d ∧
    ∀ G4 H4, Go o G3 H2 G4 H4 → ∃ G5, Go o G2 H2 G5 H4 ∧ Cp K o H0 G5 H4 d v' ∧ (∀ p y, G4 p = some y → H2 p = none → G5 p = some y) ∧ Ex G5 G4 := by
  rcases c with ⟨w, h1, h2⟩ | ⟨a, xs, ds, rfl, rfl, h0, h2, ho, ha, hd⟩ | ⟨a, rfl, rfl, h0, h2, ho, ha⟩
  · exact ⟨G2, Ex.refl _, kn, w, fun G4 H4 g => ⟨G4, g, .inl ⟨w.up g.gg, h1, h2⟩, fun p y h _ => h, Ex.refl _⟩⟩
  · refine ⟨upd G2 a (.lst xs), Ex.new h2, Go.lend kn h2 ha ho, .inl (.lst (.of upd_same) (dps_up (Ex.new h2) _ hd)), fun G4 H4 g => ?_⟩
    have gb := g.back h2
    refine ⟨_, gb, .inr (.inl ⟨a, xs, ds, rfl, rfl, h0, L2.del_same, ho, g.kp a _ ha ho, dps_up gb.gg _ hd⟩), fun p y h n => ?_, fun p y h => ?_⟩
    · rw [L2.del_ne (fun z => by rw [z, ha] at n; cases n)]; exact h
    · by_cases z : p = a
      · rw [z, L2.del_same] at h; cases h
      · rw [L2.del_ne z] at h; exact h
  · refine ⟨upd G2 a (.dK []), Ex.new h2, Go.lend kn h2 ha ho, .inr ⟨a, rfl, rfl, upd_same⟩, fun G4 H4 g => ?_⟩
    refine ⟨_, g.back h2, .inr (.inr ⟨a, rfl, rfl, h0, L2.del_same, ho, g.kp a _ ha ho⟩), fun p y h n => ?_, fun p y h => ?_⟩
    · rw [L2.del_ne (fun z => by rw [z, ha] at n; cases n)]; exact h
    · by_cases z : p = a
      · rw [z, L2.del_same] at h; cases h
      · rw [L2.del_ne z] at h; exact h
/-! ### statements while something of one's own is known -/
variable {tt : TT} {tu tw : TS} {a : Addr} {w : HO}
theorem q_whenL {p : Bool → Prop} (g : Go o Ge He G H) (ga : G a = none) (ha : H a = some w) (ho : o ≠ some a) (h : EvT o tt σ (upd G a w) p) (hf : ¬ p true)
    (h2 : ∀ G2 H2, Go o Ge He G2 H2 → Go o G H G2 H2 → G2 a = none → H2 a = some w → tz D σ H2) : tSeq (tIfS tt tu tNext) tz D σ H :=
  h _ H (Ex.refl _) (Go.lend g.kn ga ha ho) _ fun b G2 H2 g2 pb => by
    cases b with
    | true => exact (hf pb).elim
    | false =>
      have gb := g2.back ga
      exact h2 _ H2 (g.trans gb) gb L2.del_same (g2.kp a _ ha ho)
theorem q_whenLT {p : Bool → Prop} (g : Go o Ge He G H) (ga : G a = none) (ha : H a = some w) (ho : o ≠ some a) (h : EvT o tt σ (upd G a w) p) (hf : ¬ p false)
    (h2 : ∀ G2 H2, Go o Ge He G2 H2 → Go o G H G2 H2 → G2 a = none → H2 a = some w → tu { D with nx := tz D } σ H2) : tSeq (tIfS tt tu tNext) tz D σ H :=
  h _ H (Ex.refl _) (Go.lend g.kn ga ha ho) _ fun b G2 H2 g2 pb => by
    cases b with
    | false => exact (hf pb).elim
    | true =>
      have gb := g2.back ga
      exact h2 _ H2 (g.trans gb) gb L2.del_same (g2.kp a _ ha ho)
theorem s_retL (g : Go o Ge He G H) (ga : G a = none) (ha : H a = some w) (ho : o ≠ some a) (h : Ev o te σ (upd G a w) (tIs v)) (k : ∀ G2 H2, Go o Ge He G2 H2 → D.rt v H2) : tRet te D σ H :=
  h _ H (Ex.refl _) (Go.lend g.kn ga ha ho) _ fun v' G2 H2 g2 w2 => by
    rw [w2.eq]
    exact k _ H2 (g.trans (g2.back ga))
theorem putK_fl {kvs : List (Key × V)} {k : Key} {v : V} (h : kvs.all (fun kv => fl kv.2) = true) (hv : fl v = true) : (putK kvs k v).all (fun kv => fl kv.2) = true := by
  unfold putK
  split
  · rw [List.all_map]
    refine List.all_eq_true.mpr fun kv hkv => ?_
    show fl (if kv.1 = k then (kv.1, v) else kv).2 = true
    split
    · exact hv
    · exact List.all_eq_true.mp h kv hkv
  · rw [List.all_append, h]
    simp [hv]
end
theorem u65 {k : Nat} {A : Around} (r : Room k A) : A.units + 65 < cLine := by have z := r.un; omega
end Ty
set_option Elab.async false
set_option linter.all false
set_option maxRecDepth 100000
set_option maxHeartbeats 4000000
/-! except C as e: return [w if isinstance(e, D) else '', e.given], several of them. -/
namespace Ty
open PySem L2
open Evl (Ex ex_l ex_t)
theorem all1 {G' : Hp} {x : V} {vs : List V} (h : AllU G' [tIs x] vs) : vs = [x] := by
  cases h with
  | cons a1 h =>
    cases h
    rw [a1.eq]
theorem all2 {G' : Hp} {x y : V} {vs : List V} (h : AllU G' [tIs x, tIs y] vs) : vs = [x, y] := by
  cases h with
  | cons a1 h =>
    rw [a1.eq, all1 h]
theorem all3 {G' : Hp} {x y z : V} {vs : List V} (h : AllU G' [tIs x, tIs y, tIs z] vs) : vs = [x, y, z] := by
  cases h with
  | cons a1 h =>
    rw [a1.eq, all2 h]
section
variable {K : PySem.W.Frag} {o : Option Addr} {σ : L2.St} {Ge He G H : Hp} {De : Ends} {Dt : Addr} {i : Nat} {Wout : WX}
/-- return [.., f(..)] -/
theorem s_retLX {tl : TA} {ts : List T} (g : Go o Ge He G H) (h : EvAX o tl σ Ge He G ts) (hl : ts.length ≤ 100000)
    (k : ∀ p xs G2 H2, Go o Ge He G2 H2 → He p = none → H2 p = some (.lst xs) → G2 p = none → (∀ G', Ex G2 G' → AllU G' ts xs) → De.rt (.ref p) H2) : tRet (tLst tl) De σ H :=
  h G H (Ex.refl _) g _ fun vs G2 H2 g2 w2 => ⟨Evl.sz_of (by rw [w2.len]; exact hl), fun p hp => k p vs G2 _ ((g.trans g2).trans (.tmp g2.kn hp)) ((g.trans g2).fresh hp) upd_same (Evl.fresh_back g2.kn.sub hp) fun G' e' => w2.up e'⟩
abbrev suiteIs (K : PySem.W.Frag) (i : Nat) (Dt : Addr) (w : Str) (C : Addr) : Addr → Value → Option Addr → TS := fun a cls d =>
  tRet (tLst (tCons (tIf (tB (tCB (rIsD K a cls d) (tCons (tVar i) (tCons (tC (.ref Dt)) tNil)))) (tC (.str w)) (tC (.str ""))) (tCons (tXf a cls d C "given" (tVar i)) tNil)))
abbrev clauses (K : PySem.W.Frag) (i : Nat) (Dt : Addr) (l : List (Str × Addr)) : List (Value × (Addr → Value → Option Addr → TS)) := l.map fun p => (Value.ref p.2, suiteIs K i Dt p.1 p.2)
def ExmL (K : PySem.W.Frag) : List (Str × Addr) → Prop
  | [] => True
  | p :: r => PySem.W.exmOne K (.ref p.2) (.ref p.2) = some true ∧ (∀ q ∈ r, PySem.W.exmOne K (.ref q.2) (.ref p.2) = some false) ∧ ExmL K r
theorem tk_many {good : Str → V → Prop} (hσ : i < σ.length) : ∀ {l : List (Str × Addr)}, (∀ p ∈ l, ExcC K p.2 ∧ PySem.W.kitOne K (.ref p.2) (.ref Dt) = some true) → ExmL K l →
    (∀ w x p xs G3 H3, good w x → Go o Ge He G3 H3 → He p = none → H3 p = some (.lst xs) → G3 p = none → xs = [.str w, x] → De.rt (.ref p) H3) →
    Tk o Ge He (wManyAs K i Wout De (clauses K i Dt l)) σ fun c x => ∃ p ∈ l, c = .ref p.2 ∧ good p.1 x
  | [], _, _, _ => fun _ _ _ _ _ _ _ ⟨_, z, _⟩ => nomatch z
  | p :: r, hx, he, kk => fun c dd x G2 H2 g2 e ⟨q, hq, hc, hg⟩ => by
    subst hc
    have own : q.2 = p.2 → q.1 = p.1 → wManyAs K i Wout De (clauses K i Dt (p :: r)) (.ref q.2) (some dd) σ H2 := fun e2 e1 => by
      rw [e2]
      rw [e1] at hg
      refine ⟨true, he.1, fun _ a na => ?_, fun z => nomatch z⟩
      obtain ⟨hX, hk⟩ := hx p (List.mem_cons_self ..)
      have hs : (σ.set i (some (.ref a)))[i]? = some (some (V.ref a)) := by simp [hσ]
      exact s_retN g2 (en_lst (ea_cons (s := tIs (.str p.1)) (ev_if (p := (· = true)) (et_b (ev_isD (ev_x hs) rfl rfl hX e hk)) (fun _ => ev_k) fun z => nomatch z) (ea_cons (ev_given (K := K) (ev_x hs) rfl rfl e) ea_nil)) (show 2 ≤ 100000 by decide)) fun b xs G3 H3 g3 hp h3 n3 w3 =>
        kk p.1 x b xs G3 H3 hg g3 hp h3 n3 (all2 w3.now)
    rcases List.mem_cons.mp hq with rfl | hq
    · exact own rfl rfl
    · exact ⟨false, he.2.1 q hq, (fun z => nomatch z), fun _ => tk_many hσ (fun p hp => hx p (List.mem_cons_of_mem _ hp)) he.2.2 kk _ dd x G2 H2 g2 e ⟨q, hq, rfl, hg⟩⟩
end
end Ty
set_option Elab.async false
set_option linter.all false
set_option maxRecDepth 100000
set_option maxHeartbeats 4000000
/-! Written items as data; list(range(n)); tuples joined; values that may be compared and copied. -/
namespace Ty
open PySem L2
open Evl (Ex ex_l ex_t)
def shD (d : PyData) : Bool := isDict d || SeqAt.shaped d
theorem sh_str {z : Str} (h : PyData.strOk z = true) : SeqAt.shaped (.str z) = true := by simp [SeqAt.shaped, PyData.canLay0, PyData.depth, h]
theorem sh_int {i : Int} : SeqAt.shaped (.int i) = true := by simp [SeqAt.shaped, PyData.canLay0, PyData.depth]
theorem sh_bl {b : Bool} : SeqAt.shaped (.bool b) = true := by simp [SeqAt.shaped, PyData.canLay0, PyData.depth]
theorem sh_non : SeqAt.shaped .none = true := by simp [SeqAt.shaped, PyData.canLay0, PyData.depth]
theorem sh_all {ds : List PyData} (h : ds.all SeqAt.shaped = true) : ∀ d' ∈ ds, SeqAt.shaped d' = true := fun d' h' => List.all_eq_true.mp h d' h'
theorem sh_nil : ∀ d' ∈ ([] : List PyData), SeqAt.shaped d' = true := fun _ z => nomatch z
theorem sh_cons {d : PyData} {ds : List PyData} (h : SeqAt.shaped d = true) (r : ∀ d' ∈ ds, SeqAt.shaped d' = true) : ∀ d' ∈ d :: ds, SeqAt.shaped d' = true := fun d' h' => by
  rcases List.mem_cons.mp h' with rfl | h'
  · exact h
  · exact r d' h'
/-- a value that may be compared, copied -/
def tOk (K : PySem.W.Frag) : T := fun G v => ∃ d, Vl K G v d ∧ okn 3 d = true ∧ shD d = true
section
variable {K : PySem.W.Frag} {o : Option Addr} {σ : L2.St} {Ge He G H : Hp} {te tl ti tb : TE} {d : PyData} {s t : T}
theorem tOk.u {v : V} (h : Vl K G v d) (h1 : okn 3 d = true) (h2 : shD d = true) : U (tOk K) G v := fun _ e => ⟨d, h.up e, h1, h2⟩
theorem okd (h : Ev o te σ G (tV K d)) (h1 : okn 3 d = true) (h2 : shD d = true) : Ev o te σ G (tOk K) := h.imp fun G' v _ w => tOk.u w.now h1 h2
theorem ev_neg {i : Int} (h : Ev o te σ G (tIs (.int i))) : Ev o (tUn (rU fun i => .int (-i)) te) σ G (tIs (.int (-i))) :=
  ev_un h fun G' x e hx => by
    rw [hx.eq]
    exact ru_q u_is fun _ _ _ _ _ q => ⟨i, rfl, q⟩
theorem ev_dnewV : Ev o tDNewK σ G (tV K (.dict [])) := ev_dnew.imp fun G' v _ w => by
  obtain ⟨a, rfl, ha⟩ := w.now
  exact Vl.toU (.inr ⟨a, rfl, rfl, ha⟩)
/-- list(a tuple) -/
theorem ev_listOfT {ds : List PyData} (h : Ev o te σ G (tV K (.tuple ds))) : Ev o (tCB (rListOf K) (tCons te tNil)) σ G (tV K (.list ds)) := fun G1 H1 e kn Q q =>
  (ea_cons h ea_nil) G1 H1 e kn _ fun vs G2 H2 g2 w2 => by
    cases w2 with
    | cons a1 w2 =>
      cases w2
      obtain ⟨a, xs, rfl, hs, hd⟩ := a1.now.tup
      exact ⟨a, xs, rfl, .inr (ex_t g2.kn.sub hs), fun l hl => q (.ref l) _ _ (g2.trans (.new g2.kn hl)) (Vl.toU (.inl (.lst (.of upd_same) (dps_up (Ex.new (Evl.fresh_back g2.kn.sub hl)) _ hd))))⟩
theorem dps_app : ∀ {xs ys : List V} {ds es : List PyData}, DpAll K G xs ds → DpAll K G ys es → DpAll K G (xs ++ ys) (ds ++ es)
  | _, _, _, _, .nil, b => b
  | _, _, _, _, .cons a r, b => .cons a (dps_app r b)
/-- list(range(n)) -/
theorem en_listRg {n : Int} (h : Ev o te σ G (tIs (.int n))) (h0 : 0 ≤ n ∧ n ≤ 100000) : EvN o (tLstRg (tRg1 te)) σ G (fun _ xs => xs = rgV 0 n) := fun G1 H1 e kn Q q =>
  h G1 H1 e kn _ fun v G2 H2 g2 w2 => ⟨n, w2.eq, .of_le (by decide) (by omega) (by decide) h0.1, fun p hp => q p _ G2 _ (g2.trans (.tmp g2.kn hp)) (g2.fresh hp) upd_same (Evl.fresh_back g2.kn.sub hp) fun _ _ => rfl⟩
theorem rgV_mem {n : Int} {x : V} (h : x ∈ rgV 0 n) : ∃ i : Int, x = .int i ∧ 0 ≤ i ∧ i < n := by
  unfold rgV at h
  obtain ⟨i, hi, rfl⟩ := List.mem_map.mp h
  have := List.mem_range.mp hi
  exact ⟨_, rfl, by omega, by omega⟩
/-- a known list of at most n items of the type t -/
def tList (n : Nat) (t : T) : T := fun G v => ∃ a xs, v = .ref a ∧ G a = some (.lst xs) ∧ xs.length ≤ n ∧ ∀ x ∈ xs, U t G x
theorem tList.u {n : Nat} {a : Addr} {xs : List V} (h : G a = some (.lst xs)) (hl : xs.length ≤ n) (hx : ∀ x ∈ xs, U t G x) : U (tList n t) G (.ref a) := fun _ e => ⟨a, xs, rfl, e _ _ h, hl, fun x hm => (hx x hm).up e⟩
def pAll (n : Nat) (t : T) : PL := fun G xs => xs.length ≤ n ∧ ∀ x ∈ xs, U t G x
theorem pAll.up {n : Nat} {xs : List V} (h : pAll n t G xs) : UP (pAll n t) G xs := fun _ e => ⟨h.1, fun x hm => (h.2 x hm).up e⟩
theorem EvN.list {n : Nat} (h : EvN o te σ G (pAll n t)) : Ev o te σ G (tList n t) := h.ev fun G' a xs _ ha hp => ⟨a, xs, rfl, ha, hp.now.1, hp.now.2⟩
theorem allU_mem : ∀ {n : Nat} {vs : List V}, AllU G (List.replicate n t) vs → vs.length = n ∧ ∀ v ∈ vs, U t G v
  | 0, _, h => by cases h; exact ⟨rfl, fun _ z => nomatch z⟩
  | n + 1, _, h => by
    cases h with
    | cons a r =>
      obtain ⟨h1, h2⟩ := allU_mem r
      exact ⟨congrArg (· + 1) h1, fun v hv => (List.mem_cons.mp hv).elim (fun e => e ▸ a) (h2 v)⟩
theorem en_items {tl : TA} {n : Nat} (h : EvA o tl σ G (List.replicate n t)) (hl : n ≤ 100000) : EvN o (tLst tl) σ G (pAll n t) :=
  (en_lst h (by rw [List.length_replicate]; exact hl)).impN fun G' xs u => by
    obtain ⟨h1, h2⟩ := allU_mem u
    exact ⟨Nat.le_of_eq h1, h2⟩
/-- known + new -/
theorem en_catL {n m : Nat} (ha : Ev o te σ G (tList n t)) (hb : EvN o tb σ G (pAll m t)) (hn : n ≤ 50000) (hm : m ≤ 50000) : EvN o (tOp (rAddG K) te tb) σ G (pAll (n + m) t) :=
  en_catQ (P := pAll n t) (P' := pAll m t) (ha.q fun G' v _ w => by
    obtain ⟨a, xs, rfl, h1, h2, h3⟩ := w.now
    exact ⟨a, xs, rfl, h1, pAll.up ⟨h2, h3⟩⟩) hb.q (fun _ _ h => by have := h.now.1; omega) (fun _ _ h => by have := h.now.1; omega) fun G' xs ys h1 h2 => pAll.up ⟨by
      have l1 := h1.now.1
      have l2 := h2.now.1
      rw [List.length_append]; omega, fun x hx => (List.mem_append.mp hx).elim (h1.now.2 x) (h2.now.2 x)⟩
/-- an item of a known list -/
theorem ev_ixA {n : Nat} {a : Addr} {xs : List V} {i : Int} (ha : Ev o te σ G (tIs (.ref a))) (hb : Ev o tb σ G (tIs (.int i))) (h : G a = some (.lst xs)) (hx : ∀ x ∈ xs, U t G x) (hi : 0 ≤ i ∧ i < xs.length) : Ev o (tOp (rIx K) te tb) σ G t :=
  ev_op ha hb fun G' x y e hx' hy => by
    rw [hx'.eq, hy.eq]
    have hlt : i.toNat < xs.length := by omega
    exact fun G1 H1 e1 kn1 Q q => ro_ixL (.of (e _ _ h)) (at_of (v := xs[i.toNat]) (j := i.toNat) (by omega) (List.getElem?_eq_getElem hlt)) G1 H1 e1 kn1 Q fun v' G3 H3 g3 w3 => q v' G3 H3 g3 (by rw [w3.eq]; exact (hx _ (List.getElem_mem hlt)).up ((e.trans e1).trans g3.gg))
end
end Ty
set_option Elab.async false
set_option linter.all false
set_option maxRecDepth 100000
set_option maxHeartbeats 4000000
/-! given = copy(value); told = asked(.., given); if told[0] != w or not blamed(told[1], given): return False -/
namespace Ty
open PySem L2
open Evl (Ex ex_l ex_t)
/-- a copy of d, known, made behind Gs -/
def tCp (K : PySem.W.Frag) (Gs : Hp) (d : PyData) : T := fun G v => (Vl K G v d ∧ isList d = false ∧ isDict d = false) ∨
  (∃ a xs ds G1, d = .list ds ∧ v = .ref a ∧ Ex Gs G1 ∧ Ex G1 G ∧ G1 a = none ∧ G a = some (.lst xs) ∧ DpAll K G1 xs ds) ∨
  ∃ a G1, d = .dict [] ∧ v = .ref a ∧ Ex Gs G1 ∧ Ex G1 G ∧ G1 a = none ∧ G a = some (.dK [])
section
variable {K : PySem.W.Frag} {o : Option Addr} {σ : L2.St} {Ge He G H G2 H2 H0 Gs : Hp} {te tl ti tb ta tc : TE} {d : PyData} {s t : T} {De : Ends} {tz tu : TS} {v v' : V} {E : XK}
theorem tCp.up {G' : Hp} (c : tCp K Gs d G v) (e : Ex G G') : tCp K Gs d G' v := by
  rcases c with ⟨w, h⟩ | ⟨a, xs, ds, G1, e1, e2, e3, e4, h1, h2, h3⟩ | ⟨a, G1, e1, e2, e3, e4, h1, h2⟩
  · exact .inl ⟨w.up e, h⟩
  · exact .inr (.inl ⟨a, xs, ds, G1, e1, e2, e3, e4.trans e, h1, e _ _ h2, h3⟩)
  · exact .inr (.inr ⟨a, G1, e1, e2, e3, e4.trans e, h1, e _ _ h2⟩)
theorem tCp.vl (c : tCp K Gs d G v) : Vl K G v d := by
  rcases c with ⟨w, h⟩ | ⟨a, xs, ds, G1, rfl, rfl, e3, e4, h1, h2, h3⟩ | ⟨a, G1, rfl, rfl, e3, e4, h1, h2⟩
  · exact w
  · exact .inl (.lst (.of h2) (dps_up e4 _ h3))
  · exact .inr ⟨a, rfl, rfl, h2⟩
theorem ev_copy (h : Ev o te σ G (tV K d)) : Ev o (tCall (spCopy K) [] E (tCons te tNil)) σ G (tCp K G d) := fun G1 H1 e kn Q q => by
  show tCons te tNil σ H1 fun vs H2 => spCopy K (vs ++ []) H2 Q E
  refine (ea_cons h ea_nil) G1 H1 e kn _ fun vs G2 H2 g2 w2 => ?_
  cases w2 with
  | cons a1 w2 =>
    cases w2
    refine ⟨o, G2, _, d, g2.kn, rfl, a1.now, fun v' G3 H3 g3 c => ?_⟩
    have g := g2.trans g3
    rcases c with ⟨w, h1, h2⟩ | ⟨a, xs, ds, rfl, rfl, h0, n3, ho, ha, hd⟩ | ⟨a, rfl, rfl, h0, n3, ho, ha⟩
    · exact q v' G3 H3 g fun G' e' => .inl ⟨w.up e', h1, h2⟩
    · refine q _ _ H3 (g.fix (g2.fresh h0) ha n3 ho) fun G' e' => .inr (.inl ⟨a, xs, ds, G3, rfl, rfl, e.trans g.gg, (Ex.new n3).trans e', n3, e' _ _ upd_same, hd⟩)
    · refine q _ _ H3 (g.fix (g2.fresh h0) ha n3 ho) fun G' e' => .inr (.inr ⟨a, G3, rfl, rfl, e.trans g.gg, (Ex.new n3).trans e', n3, e' _ _ upd_same⟩)
theorem Go.forget {a : Addr} (g : Go o Ge He G H) (ga : Ge a = none) : Go o Ge He (L2.del G a) H where
  gg := fun b y h => by
    rw [L2.del_ne (fun z => by rw [z, ga] at h; cases h)]
    exact g.gg b y h
  kn := ⟨fun b y h => by
    by_cases e : b = a
    · rw [e, L2.del_same] at h; cases h
    · rw [L2.del_ne e] at h; exact g.kn.sub b y h, fun b z => by
    obtain ⟨q, q2⟩ := g.kn.box b z
    refine ⟨q, ?_⟩
    by_cases e : b = a
    · rw [e, L2.del_same]
    · rw [L2.del_ne e]; exact q2⟩
  kp := g.kp
  nw := fun c h n => by
    by_cases e : c = a
    · rw [e, L2.del_same]
    · rw [L2.del_ne e]; exact g.nw c h n
/-- what was copied may be one's own again -/
theorem tCp.mv (g : Go o Ge He G H) (c : tCp K Ge d G v) (h : okn 3 d = true) : ∃ G2, Go o Ge He G2 H ∧ Mv K o He G2 H v := by
  have fr : ∀ {a : Addr} {x : HO} {G1 : Hp}, Ex Ge G1 → G1 a = none → G a = some x → Ge a = none ∧ He a = none ∧ o ≠ some a ∧ H a = some x := fun {a x G1} e n h => by
    have n0 : Ge a = none := by
      cases z : Ge a with
      | none => rfl
      | some y => rw [e a y z] at n; cases n
    refine ⟨n0, ?_, g.kn.gbox h, g.kn.sub _ _ h⟩
    cases z : He a with
    | none => rfl
    | some y => rw [g.nw a n0 (by rw [z]; simp)] at h; cases h
  rcases c with ⟨w, h1, h2⟩ | ⟨a, xs, ds, G1, rfl, rfl, e3, e4, h1, h2, h3⟩ | ⟨a, G1, rfl, rfl, e3, e4, h1, h2⟩
  · exact ⟨G, g, .inl ⟨sm_vl h w, kd d, w.kt, by rw [ki_list, h1], by rw [ki_dict, h2]⟩⟩
  · obtain ⟨n0, n1, n2, n3⟩ := fr e3 h1 h2
    have h' := Bool.and_eq_true_iff.mp h
    have hl := of_decide_eq_true h'.1
    have e5 : Ex G1 (L2.del G a) := fun b y q => by
      rw [L2.del_ne (fun z => by rw [z, h1] at q; cases q)]
      exact e4 b y q
    exact ⟨_, g.forget n0, .inr (.inl ⟨a, xs, rfl, n1, L2.del_same, n2, n3, by rw [dps_len h3]; omega, dps_mem (dps_up e5 _ h3) h'.2⟩)⟩
  · obtain ⟨n0, n1, n2, n3⟩ := fr e3 h1 h2
    exact ⟨_, g.forget n0, .inr (.inr ⟨a, [], rfl, n1, L2.del_same, n2, n3, by decide, rfl⟩)⟩
theorem s_blame {w : Str} (g : Go o Ge He G H) (c : U (tCp K Ge d) G v') (hd : okn 3 d = true) (h0 : Ev o ta σ G (tIs (.str w))) (h1 : Ev o tb σ G (tIs v')) (h2 : Ev o tc σ G (tIs v')) (k : ∀ G2 H2, Go o Ge He G2 H2 → De.nx σ H2) :
    tIfS (tOr (tTest (tOp (rNeG K) ta (tC (.str w)))) (tNot (tB (tCall (spBlame K) [] E (tCons tb (tCons tc tNil)))))) tu tNext De σ H := by
  have t1 : EvT o (tTest (tOp (rNeG K) ta (tC (.str w)))) σ G (· = false) := et_test (ev_op2 h0 ev_k (ro_neS rfl (by simp)))
  have a2 : EvA o (tCons tb (tCons tc tNil)) σ G [tIs v', tIs v'] := ea_cons h1 (ea_cons h2 ea_nil)
  refine t1 G H (Ex.refl _) g.kn _ fun b G2 H2 g2 hb => ?_
  subst hb
  rw [if_neg (by decide)]
  show tCons tb (tCons tc tNil) σ H2 fun vs H1 => spBlame K (vs ++ []) H1 (fun x H' => ∃ k, x = .bl k ∧ (if (!k) = true then tu De σ H' else tNext De σ H')) E
  refine a2 G2 H2 g2.gg g2.kn _ fun vs G3 H3 g3 w3 => ?_
  rw [all2 w3]
  have g23 := g2.trans g3
  obtain ⟨G4, g4, mv⟩ := tCp.mv (g.trans g23) (c.up g23.gg).now hd
  exact ⟨o, Ge, He, G4, v', g4, rfl, mv, fun G5 H5 g5 => ⟨true, rfl, k G5 H5 g5⟩⟩
def tKL (l : List V) : T := fun G v => ∃ a, v = .ref a ∧ G a = some (.lst l)
theorem ev_lst1 {x : V} (h : Ev o ta σ G (tIs x)) : Ev o (tLst (tCons ta tNil)) σ G (tKL [x]) := (en_lst (ea_cons h ea_nil) (by show 1 ≤ 100000; decide)).ev fun G' a xs e ha hp => ⟨a, rfl, by rw [ha, all1 hp.now]⟩
theorem ev_lst2 {x y : V} (h : Ev o ta σ G (tIs x)) (h2 : Ev o tb σ G (tIs y)) : Ev o (tLst (tCons ta (tCons tb tNil))) σ G (tKL [x, y]) := (en_lst (ea_cons h (ea_cons h2 ea_nil)) (by show 2 ≤ 100000; decide)).ev fun G' a xs e ha hp => ⟨a, rfl, by rw [ha, all2 hp.now]⟩
end
end Ty
namespace Ty
open PySem L2
open Evl (Ex ex_l ex_t)
section
variable {K : PySem.W.Frag} {o : Option Addr} {σ : L2.St} {Ge He G H G2 H2 H0 Gs : Hp} {te tl ti tb ta tc : TE} {d : PyData} {s t : T} {D : Ends} {tz tu : TS} {v v' : V} {E : XK}
theorem tCp.down {Gs' : Hp} (e : Ex Gs' Gs) (c : tCp K Gs d G v) : tCp K Gs' d G v := by
  rcases c with h | ⟨a, xs, ds, G1, e1, e2, e3, e4, h1, h2, h3⟩ | ⟨a, G1, e1, e2, e3, e4, h1, h2⟩
  · exact .inl h
  · exact .inr (.inl ⟨a, xs, ds, G1, e1, e2, e.trans e3, e4, h1, h2, h3⟩)
  · exact .inr (.inr ⟨a, G1, e1, e2, e.trans e3, e4, h1, h2⟩)
theorem ev_copyD {Gs : Hp} (e : Ex Gs G) (h : Ev o te σ G (tV K d)) : Ev o (tCall (spCopy K) [] E (tCons te tNil)) σ G (tCp K Gs d) := (ev_copy h).imp fun _ _ _ u G'' e2 => tCp.down e (u G'' e2)
/-- a for whose target is any -/
theorem s_forG {wi : TI} {tg : TG} {P : PL} (g : Go o Ge He G H) (hi : EvI o wi σ G P) (I : List V → Nat → L2.St → Hp → Hp → Prop)
    (h0 : ∀ xs G' H', Go o Ge He G' H' → Go o G H G' H' → UP P G' xs → I xs 0 σ G' H')
    (hs : ∀ Gs (xs : List V), Ex G Gs → UP P Gs xs → ∀ (i : Nat) x σ' G' H', xs[i]? = some x → Go o Ge He G' H' → Ex Gs G' → I xs i σ' G' H' →
      tg x σ' H' fun σ3 H3 => tu { D with nx := fun σ2 H2 => ∃ G2, Go o Ge He G2 H2 ∧ Ex Gs G2 ∧ I xs (i + 1) σ2 G2 H2, ct := fun σ2 H2 => ∃ G2, Go o Ge He G2 H2 ∧ Ex Gs G2 ∧ I xs (i + 1) σ2 G2 H2, bk := D.nx } σ3 H3)
    (hd : ∀ xs σ' G' H', Go o Ge He G' H' → Ex G G' → UP P G' xs → I xs xs.length σ' G' H' → D.nx σ' H') : tFor wi tg tu D σ H :=
  hi G H (Ex.refl _) g.kn _ fun J G2 H2 xs g2 w hP => by
    refine for_it w (fun i σ' H' => ∃ G', Go o Ge He G' H' ∧ Ex G2 G' ∧ I xs i σ' G' H') ⟨G2, g.trans g2, Ex.refl _, h0 xs G2 H2 (g.trans g2) g2 hP⟩ (fun i σ' H' _ p => ?_) (fun i x σ' H' H'' hlt p y => ?_) (fun σ' H' p => ?_)
    · obtain ⟨G', a, b, _⟩ := p
      exact b.trans a.kn.sub
    · obtain ⟨G', a, b, c⟩ := p
      obtain ⟨e1, hx⟩ := y
      subst e1
      exact hs G2 xs g2.gg hP i x σ' G' H'' hx a b c
    · obtain ⟨G', a, b, c⟩ := p
      exact hd xs σ' G' H' a (g2.gg.trans b) (hP.up b) c
theorem tg_pair {i j : Nat} {a : Addr} {x y : V} {Q : L2.St → Hp → Prop} (kn : Kn o G H) (h : SqT K G a [x, y]) (q : Q ((σ.set i (some x)).set j (some y)) H) : gTup K 2 (gCons (gName i) (gCons (gName j) gNil)) (.ref a) σ H Q :=
  ⟨a, _, rfl, ex_t kn.sub h, rfl, _, _, rfl, _, _, rfl, rfl, q⟩
end
end Ty
set_option Elab.async false
set_option linter.all false
set_option maxRecDepth 100000
set_option maxHeartbeats 4000000
/-! What the written part says of the error classes, as one test. -/
namespace Ty
open PySem L2 PySem.W
open Ex (SupC SupD spSup)
def oexCls (K : Frag) (C : Addr) : Bool := match K.lookup C with
  | some ⟨.type "type", _, .cls cd, sl⟩ => (match cd.mro, sl.toList with
    | .ref C' :: bm, [_, _, _, _, some (.builtin n), _] => C' == C && n == "ValueError.__new__" && !cd.hasDel && cd.hasDict && PySem.HandSPX.refsVE bm
    | _, _ => false)
  | _ => false
theorem oexCls_of {K : Frag} {C : Addr} (q : oexCls K C = true) : ∃ nm qn N bs bm sn sub ab col dd k0 k1 k2 k3 k5, K.lookup C = some (excClassObj nm qn C N bs bm true sn sub ab col dd k0 k1 k2 k3 k5 "ValueError.__new__") ∧ PySem.HandSPX.refsVE bm = true := by
  unfold oexCls at q
  split at q
  · rename_i dd cd sl ho
    split at q
    · rename_i C' bm k0 k1 k2 k3 n k5 hm hs
      simp only [Bool.and_eq_true, beq_iff_eq, Bool.not_eq_true'] at q
      obtain ⟨⟨⟨⟨rfl, rfl⟩, hdel⟩, hd⟩, ht⟩ := q
      obtain ⟨nm, bs, mro, ns, qn, hdd, sn, sub, ab, col, del⟩ := cd
      dsimp only at hm hdel hd
      subst hm hdel hd
      have hsl : sl = #[k0, k1, k2, k3, some (.builtin "ValueError.__new__"), k5] := by
        obtain ⟨l⟩ := sl
        simp only at hs
        rw [hs]
      subst hsl
      exact ⟨nm, qn, ns, bs, bm, sn, sub, ab, col, dd, k0, k1, k2, k3, k5, ho, ht⟩
    · cases q
  · cases q
/-- an error class at C, TalkError at D, its __init__ at fI -/
def errB (K : Frag) (C D fI : Addr) : Bool := oexCls K C && (decide (findIn K (.ref C) "__setattr__" = some (some (.builtin "object.__setattr__"))) && (decide (subIn K (.ref C) (.type "BaseException") = some true) && (decide (typeIn K (.ref C) = some (.type "type")) && (keepIn K (.ref C) &&
  (decide (ks_superIn K C D "__init__" = some (some (.builtin "ValueError.__init__"))) && (decide (subIn K (.ref C) (.type "ValueError") = some true) && (decide (mroIn K C (.ref D) = some true) && (decide (findIn K (.ref C) "given" = some none) &&
  (decide (findIn K (.ref C) "__init__" = some (some (.ref fI))) && (decide (findIn K (.ref C) "__getattribute__" = some (some (.builtin "BaseException.__getattribute__"))) && (decide (findIn K (.ref C) "__getattr__" = some none) && (hasDictIn K C &&
  (decide (findIn K (.ref C) "__class__" = some (some (.builtin "object.__class__"))) && (decide (mroIn K C (.type "object") = some true) && decide (kitOne K (.ref C) (.ref D) = some true)))))))))))))))
/-- what is common to all -/
def comB (K : Frag) (D fI : Addr) : Bool := decide (specialIn K (.builtin "object.__class__") "__get__" = some (some (.builtin "getset_descriptor.__get__"))) && (decide (takesIn K (.builtin "object.__class__") = some true) && (decide (typeIn K (.ref fI) = some (.type "function")) &&
  (decide (nsIn K PySem.cStatics "thirdparty.any" = some none) && (clsIn K D).isSome)))
structure ErrF (K : Frag) (C D fI : Addr) : Prop where
  sup : SupC K C D
  ini : findIn K (.ref C) "__init__" = some (some (.ref fI))
  tI : typeIn K (.ref fI) = some (.type "function")
  xf : XfC K C
  ex : ExcC K C
  kit : kitOne K (.ref C) (.ref D) = some true
theorem errB_ok {K : Frag} {C D fI : Addr} (h : errB K C D fI = true) (h' : comB K D fI = true) : ErrF K C D fI := by
  unfold errB at h
  unfold comB at h'
  simp only [Bool.and_eq_true, decide_eq_true_eq] at h h'
  obtain ⟨a1, a2, a3, a4, a5, a6, a7, a8, a9, a10, a11, a12, a13, a14, a15, a16⟩ := h
  obtain ⟨b1, b2, b3, b4, b5⟩ := h'
  exact ⟨⟨⟨oexCls_of a1, a2, a3, a4, a5⟩, a6, a7, a8, a9⟩, a10, b3, ⟨a11, a12, a3, a13⟩, ⟨a11, a12, a3, a13, a14, b1, b2, a15⟩, a16⟩
theorem supD_mk {K : Frag} {mg : Str → Option Value} {P : Program} {D cc cda fI : Addr} {cl : Value} {cld : Option Addr} {csl : Array (Option Value)} {ccl : Value} {cdd : Option Addr} {vs : Array Value} {ccs : Array (Option Value)} {file : Str} {tf : Tok}
    (h' : comB K D fI = true) (hc : K.lookup cc = some ⟨cl, cld, .cell (some (.ref D)), csl⟩) (hk : K.lookup cda = some ⟨ccl, cdd, .fields vs, ccs⟩) (hv : vs[2]? = some (.str file tf)) (hf : ((P.main.file : Str) == file) = true) (sup : mg "super" = none)
    (top : (P.main.scope.names.lookup ("super" : Str)).isSome = false) : SupD K mg P D cc cda := by
  unfold comB at h'
  simp only [Bool.and_eq_true, decide_eq_true_eq] at h'
  obtain ⟨b1, b2, b3, b4, b5⟩ := h'
  exact ⟨⟨cl, cld, csl, hc⟩, Option.isSome_iff_exists.mp b5, ⟨ccl, cdd, vs, ccs, file, tf, hk, hv, hf⟩, sup, b4, top⟩
theorem ownE_mk {P : Program} {w : World} {K : Frag} {mg : Str → Option Value} {base : Heap} {k : Nat} {x : Str} {C D fI : Addr} {fd : FuncData} (e : ErrF K C D fI) (F : FnOk P w K mg base CX0 k fI fd ["self", "given"] (spSup K D)) (hb : Binds K fd ["self", "given"] []) (hm : mg x = some (.ref C)) :
    OwnE P w K mg base k x C D := ⟨⟨fI, fd, e.ini, e.tI, F, hb⟩, e.sup, hm⟩
end Ty
set_option Elab.async false
set_option linter.all false
set_option maxRecDepth 100000
set_option maxHeartbeats 4000000
namespace K12
open PySem L2 Ty
open Evl (Ex ex_l ex_t)
def top (i : Nat) : Stmt := PySem.Challenge.pw_onetalk_k12_sorts_and_values.main.body.getD i (.Pass ⟨0, 0, 0, 0⟩)
abbrev s__law_box : Stmt := top 26
theorem sc__law_box : FnScope ["great"] ["great"] (defScope s__law_box) := ⟨rfl, rfl, rfl, by decide +kernel, rfl, by decide +kernel, by decide +kernel⟩
theorem pb__law_box : PosB "_law_box" s__law_box ["great"] := fun _ _ _ _ _ _ us hl => match us, hl with | [_], _ => rfl
abbrev s__law_take : Stmt := top 27
theorem sc__law_take : FnScope ["box", "many", "digit"] ["box", "many"] (defScope s__law_take) := ⟨rfl, rfl, rfl, by decide +kernel, rfl, by decide +kernel, by decide +kernel⟩
theorem pb__law_take : PosB "_law_take" s__law_take ["box", "many"] := fun _ _ _ _ _ _ us hl => match us, hl with | [_, _], _ => rfl
abbrev s__law_cell : Stmt := top 28
theorem sc__law_cell : FnScope ["script", "k"] ["script", "k"] (defScope s__law_cell) := ⟨rfl, rfl, rfl, by decide +kernel, rfl, by decide +kernel, by decide +kernel⟩
theorem pb__law_cell : PosB "_law_cell" s__law_cell ["script", "k"] := fun _ _ _ _ _ _ us hl => match us, hl with | [_, _], _ => rfl
abbrev s__law_mixed : Stmt := top 32
theorem sc__law_mixed : FnScope ["box", "items", "left", "found"] ["box", "items"] (defScope s__law_mixed) := ⟨rfl, rfl, rfl, by decide +kernel, rfl, by decide +kernel, by decide +kernel⟩
theorem pb__law_mixed : PosB "_law_mixed" s__law_mixed ["box", "items"] := fun _ _ _ _ _ _ us hl => match us, hl with | [_, _], _ => rfl
abbrev s__law_same : Stmt := top 29
theorem sc__law_same : FnScope ["told", "due", "key", "k"] ["told", "due"] (defScope s__law_same) := ⟨rfl, rfl, rfl, by decide +kernel, rfl, by decide +kernel, by decide +kernel⟩
theorem pb__law_same : PosB "_law_same" s__law_same ["told", "due"] := fun _ _ _ _ _ _ us hl => match us, hl with | [_, _], _ => rfl
abbrev s__law_copy : Stmt := top 30
theorem sc__law_copy : FnScope ["value"] ["value"] (defScope s__law_copy) := ⟨rfl, rfl, rfl, by decide +kernel, rfl, by decide +kernel, by decide +kernel⟩
theorem pb__law_copy : PosB "_law_copy" s__law_copy ["value"] := fun _ _ _ _ _ _ us hl => match us, hl with | [_], _ => rfl
abbrev s__law_blamed : Stmt := top 31
theorem sc__law_blamed : FnScope ["given", "value"] ["given", "value"] (defScope s__law_blamed) := ⟨rfl, rfl, rfl, by decide +kernel, rfl, by decide +kernel, by decide +kernel⟩
theorem pb__law_blamed : PosB "_law_blamed" s__law_blamed ["given", "value"] := fun _ _ _ _ _ _ us hl => match us, hl with | [_, _], _ => rfl
-- OV _law_same: {"call:len(told)": "(kLenA (K := K) rfl)", "call:len(due)": "(kLenA (K := K) rfl)", "iter:due": "(pi_keys (pv 1))", "lock:[key for key in due if key not in told or not _law_same(told[key], due[key])] == []": "", "told[key]": "(pe_dget (Nat.lt_of_le_of_lt (Nat.add_le_add_left (by decide) _) hr.units) (pv 0) (pv 2) (fun _ _ => rfl))", "due[key]": "(pe_dget (Nat.lt_of_le_of_lt (Nat.add_le_add_left (by decide) _) hr.units) (pv 1) (pv 2) (fun _ _ => rfl))", "test:key not in told": "(pt_cmp (pc_dnotin (Nat.lt_of_le_of_lt (Nat.add_le_add_left (by decide) _) hr.units) (pv 2) (pv 0)))"}
-- OV _law_blamed: {"stmt:value['more'] = 1": "(ps_dput (Nat.lt_of_le_of_lt (Nat.add_le_add_left (by decide) _) hr.units) (pv 1) pe_str pe_int rfl)"}

/-- what the walk asks of the top's names -/
structure Txt (K : PySem.W.Frag) (mg : Str → Option Value) : Prop where
  n_isinstance : mg "isinstance" = none
  n_str : mg "str" = none
  n_bool : mg "bool" = none
  n_int : mg "int" = none
  n_list : mg "list" = none
  n_tuple : mg "tuple" = none
  n_dict : mg "dict" = none
  n_len : mg "len" = none
  n_all : mg "all" = none
  n_abs : mg "abs" = none
  n_sum : mg "sum" = none
  n_max : mg "max" = none
  n_min : mg "min" = none
  n_range : mg "range" = none
section
variable {P : Program} {w : World} {K : PySem.W.Frag} {mg : Str → Option Value} {base : Heap}
/-! ### the drawer -/
def pBox : PL := fun _ xs => ∃ (n : Int) (g : Bool) (r c : Int), xs = [.int n, .bl g, .int r, .int c]
def cBox (o : Option Addr) (G : Hp) (vs : List V) (p : PL) : Prop := o = none ∧ ∃ n : Int, vs = [.int n] ∧ p = pBox
theorem rc_int {o : Option Addr} {G : Hp} {ta : TA} {σ : L2.St} {n : Int} (ha : EvA o ta σ G [tIs (.int n)]) {r : List V → Hp → VK → Prop} {z : V} (h : ∀ H (Q : VK), Q z H → r [.int n] H Q) : Ev o (tCB r ta) σ G (tIs z) :=
  ev_cb ha fun G' vs e a => by
    cases a with
    | cons a b =>
      cases b
      rw [a.eq]
      exact rc_q u_is fun G1 H1 e kn Q q => h H1 Q q
theorem ok_box (T : Txt K mg) (d : Df K mg "_law_box" s__law_box) : Own P w K mg base CX0 1 "_law_box" s__law_box ["great"] (spN cBox) :=
  d.own fun f fd F => F.ok sc__law_box (fun vs H Q E h => by obtain ⟨o, G, p, kn, ⟨_, n, rfl, _⟩, _⟩ := h; rfl) (fun cdv A outer s H vs Q E hr h => by
    obtain ⟨o, G, p, kn, ⟨rfl, n, rfl, rfl⟩, k⟩ := h
    refine ⟨_, (pss_one (ps_ret (pe_lst (pa_cons (pe_callB call_abs (by rfl) T.n_abs (by decide +kernel) (pa_cons (pv 0) pa_nil)) (pa_cons (pe_cmpR op_ge (pe_callB call_abs (by rfl) T.n_abs (by decide +kernel) (pa_cons (pv 0) pa_nil)) (pe_op op_pow pe_int pe_int) (nomark _)) (pa_cons (pe_op op_mod (pe_callTy call_int1 (by rfl) T.n_int (by decide +kernel) (pa_cons (pe_callB call_abs (by rfl) T.n_abs (by decide +kernel) (pa_cons (pv 0) pa_nil)) pa_nil)) pe_int) (pa_cons pe_int pa_nil))))))), ?_⟩
    have g0 := Go.refl kn
    have ab : ∀ G', Ev none (tCB (fun xs H Q => ∃ i, xs = [.int i] ∧ Q (.int (if i < 0 then -i else i)) H) (tCons (tVar 0) tNil)) (start ["great"] [.int n]) G' (tIs (.int (if n < 0 then -n else n))) := fun G' =>
      rc_int (ea_cons (ev_x rfl) ea_nil) fun H Q q => ⟨n, rfl, q⟩
    refine s_retN g0 (en_lst (ea_cons (ab _) (ea_cons (ev_op2 (ab _) (ev_op2 ev_k ev_k (ro_I ⟨by decide, by decide, by decide⟩)) ro_I0)
      (ea_cons (ev_op2 (rc_int (ea_cons (ab _) ea_nil) fun H Q q => .inl ⟨_, rfl, q⟩) ev_k (ro_I (by decide))) (ea_cons ev_k ea_nil)))) (by show 4 ≤ 100000; decide)) fun p xs G2 H2 g2 hp h2 n2 w2 => k p xs G2 H2 g2 hp h2 n2 fun G' e' => ?_
    have a := w2 G' e'
    cases a with
    | cons a1 a => cases a with
      | cons a2 a => cases a with
        | cons a3 a => cases a with
          | cons a4 a =>
            cases a
            exact ⟨_, _, _, _, by rw [a1.eq, a2.eq, a3.eq, a4.eq]⟩)
def tRng (lo hi : Int) : T := fun _ v => ∃ i : Int, v = .int i ∧ lo ≤ i ∧ i < hi
def tInt : T := fun _ v => ∃ i : Int, v = .int i
def cTake (o : Option Addr) (G : Hp) (vs : List V) (t : T) : Prop := ∃ (b : Addr) (n : Int), o = some b ∧ vs = [.ref b, .int n] ∧ (0 < n ∧ n < 1073741824) ∧ t = tRng 0 n
theorem go_set {b : Addr} {G H : Hp} (kn : Kn (some b) G H) {n : Int} {g : Bool} {r c : Int} : Go (some b) G H G (upd H b (.lst [.int n, .bl g, .int r, .int c])) := by
  have gb : G b = none := (kn.box b rfl).2
  refine ⟨Ex.refl G, ⟨fun a x h => ?_, fun a e => ?_⟩, fun a x h e => ?_, fun a h _ => h⟩
  · rw [upd_ne (fun z => by rw [z, gb] at h; cases h)]; exact kn.sub a x h
  · cases e; exact ⟨⟨n, g, r, c, upd_same⟩, gb⟩
  · rw [upd_ne (fun z => e (by rw [z]))]; exact h
theorem at0 {a b c d : V} : atI [a, b, c, d] (0 : Int) = some a := atI_nat (j := 0) rfl
theorem at1 {a b c d : V} : atI [a, b, c, d] (1 : Int) = some b := atI_nat (j := 1) rfl
theorem at2 {a b c d : V} : atI [a, b, c, d] (2 : Int) = some c := atI_nat (j := 2) rfl
theorem at3 {a b c d : V} : atI [a, b, c, d] (3 : Int) = some d := atI_nat (j := 3) rfl
theorem ok_take (T : Txt K mg) (d : Df K mg "_law_take" s__law_take) : Own P w K mg base CX0 1 "_law_take" s__law_take ["box", "many"] (spC cTake) :=
  d.own fun f fd F => F.ok sc__law_take (fun vs H Q E h => by obtain ⟨o, G, p, kn, ⟨b, n, _, rfl, _⟩, _⟩ := h; rfl) (fun cdv A outer s H vs Q E hr h => by
    obtain ⟨o, G, p, kn, ⟨b, n, rfl, rfl, ⟨h0, h1⟩, rfl⟩, k⟩ := h
    refine ⟨_, (pss_cons (ps_if (PW.pt (pw_and (pt_val (pe_ix (kIx (K := K) rfl) (pv 0) pe_int (fun _ _ => rfl))) (pw_and1 (pt_cmpR op_gt (pe_ix (kIx (K := K) rfl) (pv 0) pe_int (fun _ _ => rfl)) pe_int (nomark _))))) (pss_cons (ps_set (i := 2) sc__law_take.nd rfl (Or.inl rfl) (pe_op op_mod (pe_callTy call_int1 (by rfl) T.n_int (by decide +kernel) (pa_cons (pe_ix (kIx (K := K) rfl) (pv 0) pe_int (fun _ _ => rfl)) pa_nil)) (pv 1)))
   (pss_cons (ps_asg (pe_op op_fdiv (pe_callTy call_int1 (by rfl) T.n_int (by decide +kernel) (pa_cons (pe_ix (kIx (K := K) rfl) (pv 0) pe_int (fun _ _ => rfl)) pa_nil)) (pv 1)) (pg_sub (pv 0) pe_int set_list))
   (pss_one (ps_ret (pv 2))))) pss_nil)
   (pss_cons (ps_asg (pe_op (kAdd (K := K) rfl) (pe_ix (kIx (K := K) rfl) (pv 0) pe_int (fun _ _ => rfl)) pe_int) (pg_sub (pv 0) pe_int set_list))
   (pss_cons (ps_asg (pe_op op_mod (pe_op (kAdd (K := K) rfl) (pe_op (kAdd (K := K) rfl) (pe_op gMul (pe_ix (kIx (K := K) rfl) (pv 0) pe_int (fun _ _ => rfl)) pe_int) (pe_op gMul pe_int (pe_ix (kIx (K := K) rfl) (pv 0) pe_int (fun _ _ => rfl)))) pe_int) pe_int) (pg_sub (pv 0) pe_int set_list))
   (pss_one (ps_ret (pe_op op_mod (pe_op op_fdiv (pe_ix (kIx (K := K) rfl) (pv 0) pe_int (fun _ _ => rfl)) pe_int) (pv 1))))))), ?_⟩
    obtain ⟨⟨m, g, r, c, hb⟩, gb⟩ := kn.box b rfl
    have ix : ∀ {H' : Hp} {m g r c v : V} {i : Int} {Q : VK}, H' b = some (.lst [m, g, r, c]) → atI [m, g, r, c] i = some v → Q v H' → rIx K (.ref b) (.int i) H' Q := fun h1 h2 q => .inl ⟨b, _, _, _, rfl, rfl, .of h1, h2, q⟩
    have rest : ∀ r c (q : Q (.int ((r * 69621 + 1351 * (c + 1) + 41) % 2147483629 / 64 % n)) (upd (upd H b (.lst [.int m, .bl g, .int r, .int (c + 1)])) b (.lst [.int m, .bl g, .int ((r * 69621 + 1351 * (c + 1) + 41) % 2147483629), .int (c + 1)]))), True := fun _ _ _ => trivial
    have fin : Q (.int ((r * 69621 + 1351 * (c + 1) + 41) % 2147483629 / 64 % n)) (upd (upd H b (.lst [.int m, .bl g, .int r, .int (c + 1)])) b (.lst [.int m, .bl g, .int ((r * 69621 + 1351 * (c + 1) + 41) % 2147483629), .int (c + 1)])) :=
      k _ G _ (by rw [upd_upd]; exact go_set kn) fun G' e' => ⟨_, rfl, Int.emod_nonneg _ (by omega), Int.emod_lt_of_pos _ h0⟩
    have tail : (tSeq (tAsg (tOp (rAddG K) (tOp (rIx K) (tVar 0) (tC (.int 3))) (tC (.int 1))) (gSub (tVar 0) (tC (.int 3)) rSetL))
      (tSeq (tAsg (tOp (rI (fun _ j => 0 < j) fun i j => .int (i % j)) (tOp (rAddG K) (tOp (rAddG K) (tOp rMulG (tOp (rIx K) (tVar 0) (tC (.int 2))) (tC (.int 69621))) (tOp rMulG (tC (.int 1351)) (tOp (rIx K) (tVar 0) (tC (.int 3))))) (tC (.int 41))) (tC (.int 2147483629))) (gSub (tVar 0) (tC (.int 2)) rSetL))
        (tRet (tOp (rI (fun _ j => 0 < j) fun i j => .int (i % j)) (tOp (rI CDiv fun i j => .int (i / j)) (tOp (rIx K) (tVar 0) (tC (.int 2))) (tC (.int 64))) (tVar 1))))) { nx := fun _ H' => Q .non H', rt := Q } (start ["box", "many", "digit"] [.ref b, .int n]) H := by
      refine ⟨_, rfl, ix hb at3 (.inl ⟨c, 1, rfl, rfl, _, rfl, b, _, 3, 3, rfl, rfl, hb, rfl, ?_⟩)⟩
      refine ⟨_, rfl, ix upd_same at2 (.inl ⟨r, 69621, rfl, rfl, .inr ⟨by decide, by decide⟩, _, rfl, ix upd_same at3 (.inl ⟨1351, c + 1, rfl, rfl, .inl ⟨by decide, by decide⟩, .inl ⟨_, _, rfl, rfl, .inl ⟨_, 41, rfl, rfl, _, 2147483629, rfl, rfl, (show (0 : Int) < 2147483629 by decide), _, rfl, b, _, 2, 2, rfl, rfl, upd_same, rfl, ?_⟩⟩⟩)⟩)⟩
      exact ⟨_, rfl, ix upd_same at2 ⟨_, 64, rfl, rfl, ⟨by decide, by decide⟩, _, rfl, _, n, rfl, rfl, h0, fin⟩⟩
    refine ⟨_, rfl, ix hb at1 ⟨g, rfl, ?_⟩⟩
    cases g with
    | false => exact iteF (iteF tail)
    | true =>
      refine iteT ⟨_, rfl, ix hb at0 ⟨m, 0, rfl, rfl, _, rfl, ite2 (fun hm => ?_) fun hm => tail⟩⟩
      refine ⟨_, rfl, ix hb at0 (.inl ⟨m, rfl, _, rfl, m, n, rfl, rfl, h0, ?_⟩)⟩
      refine ⟨_, rfl, ix hb at0 (.inl ⟨m, rfl, _, rfl, m, n, rfl, rfl, ⟨h0, h1⟩, _, rfl, b, _, 0, 0, rfl, rfl, hb, rfl, ?_⟩)⟩
      exact ⟨_, rfl, k _ G _ (go_set kn) fun G' e' => ⟨_, rfl, Int.emod_nonneg _ (by omega), Int.emod_lt_of_pos _ h0⟩⟩)
def cCell (K : PySem.W.Frag) (o : Option Addr) (G : Hp) (vs : List V) (t : T) : Prop := o = none ∧ ∃ (a : Addr) (ns : List Int) (k : Int), vs = [.ref a, .int k] ∧ SqL K G a (ns.map V.int) ∧ (0 ≤ k ∧ k < 1000) ∧ t = tInt
theorem cut_ints (ns : List Int) (lo hi : Option Int) : cutV (ns.map V.int) lo hi = ((ns.drop (HT.sIx ns.length 0 lo)).take (HT.sIx ns.length ns.length hi - HT.sIx ns.length 0 lo)).map V.int := by
  unfold cutV
  rw [List.length_map, ← List.map_drop, ← List.map_take]
theorem ok_cell (T : Txt K mg) (d : Df K mg "_law_cell" s__law_cell) : Own P w K mg base CX0 1 "_law_cell" s__law_cell ["script", "k"] (spC (cCell K)) :=
  d.own fun f fd F => F.ok sc__law_cell (fun vs H Q E h => by obtain ⟨o, G, p, kn, ⟨_, a, ns, k, rfl, _⟩, _⟩ := h; rfl) (fun cdv A outer s H vs Q E hr h => by
    obtain ⟨o, G, p, kn, ⟨rfl, a, ns, kk, rfl, hs, ⟨h0, h1⟩, rfl⟩, k⟩ := h
    refine ⟨_, (pss_one (ps_ret (pe_ifExp (pt_cmpR gLt (pv 1) (pe_callB (kLen (K := K) rfl) (by rfl) T.n_len (by decide +kernel) (pa_cons (pv 0) pa_nil)) (nomark _)) (pe_ix (kIx (K := K) rfl) (pv 0) (pv 1) (fun _ _ => rfl)) (pe_op (kAdd (K := K) rfl) (pe_op gMul pe_int (pv 1)) (pe_op op_mod (pe_callB (kSum (K := K) rfl rfl) (by rfl) T.n_sum (by decide +kernel) (pa_cons (pe_slice (kSl (K := K) rfl) (pv 0) po_none (po_some pe_int)) pa_nil)) pe_int))))), ?_⟩
    have g0 := Go.refl kn
    refine s_ret (t := tInt) g0 (ev_if (p := (· = decide (kk < ns.length))) (et_test (ev_op2 (ev_x rfl) (ev_cb (ea_cons (ev_x rfl) ea_nil) fun G' vs e x => ?_) ro_I0)) (fun hk => ?_) (fun _ => ?_)) fun v G2 H2 g2 w2 => k v G2 H2 g2 w2
    · cases x with
      | cons x y =>
        cases y
        rw [x.eq]
        have := rc_lenL (o := none) (ex_l e hs)
        rw [List.length_map] at this
        exact this
    · have hk : kk < ns.length := of_decide_eq_true hk.symm
      have hj : kk.toNat < ns.length := by omega
      refine (ev_op2 (ev_x rfl) (ev_x rfl) (ro_ixL (v := .int ns[kk.toNat]) hs ?_)).imp fun G' v _ w => w.imp fun _ _ e => ⟨_, e⟩
      have e : kk = ((kk.toNat : Nat) : Int) := by omega
      exact at_of e (by rw [List.getElem?_map, List.getElem?_eq_getElem hj]; rfl)
    · refine ev_op (s := tInt) (u := tInt) ((ev_op2 ev_k (ev_x rfl) (ro_mulI (.inl ⟨by decide, by decide⟩))).imp fun G' v _ w => w.imp fun _ _ e => ⟨_, e⟩)
        (ev_op (s := tInt) (u := tIs (.int 1000033)) ?_ ev_k fun G' x y _ hx hy => ?_) fun G' x y _ hx hy => ?_
      · have hn : EvN none (tSl (rSlG K) (tVar 0) tNoPart (tPart (tC (.int 1)))) (start ["script", "k"] [.ref a, .int kk]) G (fun _ xs => ∃ ms : List Int, xs = ms.map V.int) :=
          en_slL (t := tIs (.ref a)) (P' := fun _ xs => xs = ns.map V.int) (ev_x rfl) (fun G' v e w => ⟨a, _, w.eq, ex_l e hs, fun _ _ => rfl⟩) eo_none (eo_some ev_k) fun G' xs e => by
            subst e
            exact ⟨_, cut_ints ns none (some 1)⟩
        have hv : Ev none (tSl (rSlG K) (tVar 0) tNoPart (tPart (tC (.int 1)))) (start ["script", "k"] [.ref a, .int kk]) G (fun G' v => ∃ (a : Addr) (ms : List Int), v = .ref a ∧ G' a = some (.lst (ms.map V.int))) :=
          hn.ev fun G' a xs e ha hp => by
            obtain ⟨ms, rfl⟩ := hp.now
            exact ⟨a, ms, rfl, ha⟩
        refine ev_cb (ea_cons hv ea_nil) fun G' vs e x => ?_
        cases x with
        | cons x y =>
          cases y
          obtain ⟨a, ms, rfl, ha⟩ := x.now
          refine rc_q (z := .int ms.sum) (fun _ _ => ⟨_, rfl⟩) fun G1 H1 e1 kn1 Q q => ⟨a, ms, rfl, .of (kn1.sub _ _ (e1 _ _ ha)), q⟩
      · obtain ⟨i, rfl⟩ := hx.now
        rw [hy.eq]
        exact ro_q (z := .int (i % 1000033)) (fun _ _ => ⟨_, rfl⟩) fun _ _ _ _ _ q => ⟨i, 1000033, rfl, rfl, (show (0 : Int) < 1000033 by decide), q⟩
      · obtain ⟨i, rfl⟩ := hx.now
        obtain ⟨j, rfl⟩ := hy.now
        exact ro_q (z := .int (i + j)) (fun _ _ => ⟨_, rfl⟩) fun _ _ _ _ _ q => .inl ⟨i, j, rfl, rfl, q⟩)
def cMixed (K : PySem.W.Frag) (o : Option Addr) (G : Hp) (vs : List V) (p : PL) : Prop := ∃ (b a : Addr) (xs : List V), o = some b ∧ vs = [.ref b, .ref a] ∧ SqL K G a xs ∧ xs.length ≤ 1000 ∧ p = fun _ ys => ys.Perm xs
theorem perm_erase {α : Type} : ∀ {ys : List α} {k : Nat} {y : α}, ys[k]? = some y → (y :: ys.eraseIdx k).Perm ys
  | [], _, _, h => by cases h
  | z :: r, 0, y, h => by
    cases h
    exact .refl _
  | z :: r, k + 1, y, h => by
    have ih := perm_erase (ys := r) (k := k) (y := y) h
    exact (List.Perm.swap z y _).trans (ih.cons z)
theorem perm_pop {α : Type} {xs ys zs : List α} {k : Nat} {y : α} (h : (zs ++ ys).Perm xs) (e : ys[k]? = some y) : ((zs ++ [y]) ++ ys.eraseIdx k).Perm xs := by
  refine List.Perm.trans ?_ h
  rw [List.append_assoc]
  refine List.Perm.append_left zs ?_
  exact perm_erase e
theorem ok_mixed (T : Txt K mg) (d : Df K mg "_law_mixed" s__law_mixed) (G__law_take : Own P w K mg base CX0 1 "_law_take" s__law_take ["box", "many"] (spC cTake)) : Own P w K mg base CX0 2 "_law_mixed" s__law_mixed ["box", "items"] (spN (cMixed K)) :=
  d.own fun f fd F => F.ok sc__law_mixed (fun vs H Q E h => by obtain ⟨o, G, p, kn, ⟨b, a, xs, _, rfl, _⟩, _⟩ := h; rfl) (fun cdv A outer s H vs Q E hr h => by
    obtain ⟨o, G, p, kn, ⟨b, a, xs, rfl, rfl, hs, hx, rfl⟩, k⟩ := h
    refine ⟨_, (pss_cons (ps_par (i := 2) (j := 3) (by rfl) sc__law_mixed.nd rfl rfl (by decide) rfl rfl (pa_cons (pe_callTy (kList (K := K) rfl) (by rfl) T.n_list (by decide +kernel) (pa_cons (pv 1) pa_nil)) (pa_cons (pe_lst pa_nil) pa_nil)) (by rfl))
   (pss_cons (ps_while PassesOwn.never (pt_cmpR (kNe (K := K) rfl hr.units) (pv 2) (pe_lst pa_nil) (nomark _)) (pss_one (ps_expr (pe_bm PySem.F.plainAttrs_list PySem.F.slot_list_append PySem.F.type_list_append mt_append (pv 3) (pa_cons (pe_bm PySem.F.plainAttrs_list PySem.F.slot_list_pop PySem.F.type_list_pop mt_popAt (pv 2) (pa_cons (pe_own G__law_take pb__law_take (hr.mono (by first | decide | exact Nat.le_refl _)) rfl pass0 (pa_cons (pv 0) (pa_cons (pe_callB (kLen (K := K) rfl) (by rfl) T.n_len (by decide +kernel) (pa_cons (pv 2) pa_nil)) pa_nil))) pa_nil)) pa_nil)))))
   (pss_one (ps_ret (pv 3))))), ?_⟩
    refine ⟨.ref a, rfl, a, xs, rfl, .inl (ex_l kn.sub hs), fun l hl => ⟨Nat.zero_le _, fun p hp => ⟨_, _, rfl, ?_⟩⟩⟩
    have g1 : Go (some b) G H G (upd H l (.lst xs)) := .tmp kn hl
    have g2 : Go (some b) G H G (upd (upd H l (.lst xs)) p (.lst [])) := g1.trans (.tmp g1.kn hp)
    have npl : p ≠ l := fun e => by rw [e, upd_same] at hp; cases hp
    have nbl : some b ≠ some l := kn.nbox hl
    have nbp : some b ≠ some p := g1.kn.nbox hp
    have hp0 : H p = none := by rw [upd_ne npl] at hp; exact hp
    refine q_whileA g2 (fun m σ' G' H' => ∃ ys zs : List V, σ' = [some (.ref b), some (.ref a), some (.ref l), some (.ref p)] ∧ G' l = none ∧ G' p = none ∧ H' l = some (.lst ys) ∧ H' p = some (.lst zs) ∧ (zs ++ ys).Perm xs ∧ m = ys.length) xs.length
      ⟨xs, [], rfl, Evl.fresh_back kn.sub hl, Evl.fresh_back kn.sub hp0, by rw [upd_ne npl.symm, upd_same], upd_same, .refl _, rfl⟩ fun m σ' G' H' g' e' i => ?_
    obtain ⟨ys, zs, rfl, gl, gp, hl', hp', pm, rfl⟩ := i
    have lz : zs.length ≤ 1000 := by
      have := pm.length_eq
      rw [List.length_append] at this
      omega
    have ly : ys.length ≤ 1000 := by
      have := pm.length_eq
      rw [List.length_append] at this
      omega
    refine ⟨(· = !ys.isEmpty), fun Q2 q2 => ⟨.ref l, rfl, Nat.zero_le _, fun c hc => .inr (.inl ⟨l, c, ys, rfl, rfl, .of (by rw [upd_ne (ne_of_none hl' hc)]; exact hl'), .of upd_same, _, rfl, q2 _ G' _ (.tmp g'.kn hc) rfl⟩)⟩, fun hb G1 H1 g1' g1 => ?_, fun hb G1 H1 g1' g1 => ?_⟩
    · have hl1 := g1.kp l _ hl' nbl
      have hp1 := g1.kp p _ hp' nbp
      have hpos : 0 < ys.length := by
        cases ys with
        | nil => cases hb
        | cons _ _ => exact Nat.succ_pos _
      refine ⟨.ref p, rfl, .inl ⟨rfl, zs, .of hp1⟩, .ref l, rfl, .inl ⟨rfl, ys, .of hl1⟩, .ref b, rfl, .ref l, rfl, .inl ⟨l, ys, rfl, .inl (.of hl1), ?_⟩⟩
      refine ⟨some b, G1, tRng 0 ys.length, g1.kn, ⟨b, (ys.length : Int), rfl, rfl, ⟨by omega, by omega⟩, rfl⟩, fun v G2 H2 g3 w3 => ?_⟩
      obtain ⟨i, rfl, i0, i1⟩ := w3.now
      have hl2 := g3.kp l _ hl1 nbl
      have hp2 := g3.kp p _ hp1 nbp
      have gl2 : G2 l = none := g3.nw l (g1.nw l gl (by rw [hl']; simp)) (by rw [hl1]; simp)
      have gp2 : G2 p = none := g3.nw p (g1.nw p gp (by rw [hp']; simp)) (by rw [hp1]; simp)
      have hk : i.toNat < ys.length := by omega
      have hix : ixN ys.length i = some i.toNat := by
        unfold ixN
        rw [if_pos i0, if_pos i1]
      refine ⟨l, ys, i, i.toNat, ys[i.toNat], rfl, rfl, hl2, by omega, by omega, (ixN_seq hix).1, List.getElem?_eq_getElem hk, ?_⟩
      have g4 := ((g1'.trans g3).mut hl gl2 nbl (x := .lst (ys.eraseIdx i.toNat)))
      refine ⟨p, zs, ys[i.toNat], rfl, rfl, by rw [upd_ne npl]; exact hp2, Evl.sz_lt (by omega), (ys.eraseIdx i.toNat).length, G2, ?_, g4.mut hp0 gp2 nbp, (e'.trans g1.gg).trans g3.gg, ys.eraseIdx i.toNat, zs ++ [ys[i.toNat]], rfl, gl2, gp2, by rw [upd_ne npl.symm, upd_same], upd_same, perm_pop pm (List.getElem?_eq_getElem hk), rfl⟩
      rw [List.length_eraseIdx_of_lt hk]
      omega
    · have hp1 := g1.kp p _ hp' nbp
      have gp1 : G1 p = none := g1.nw p gp (by rw [hp']; simp)
      refine ⟨.ref p, rfl, k p zs G1 H1 g1' hp0 hp1 gp1 fun _ _ => ?_⟩
      cases ys with
      | nil => rw [List.append_nil] at pm; exact pm
      | cons _ _ => cases hb)
theorem ok_same (T : Txt K mg) (d : Df K mg "_law_same" s__law_same) : ∀ n, Own P w K mg base CX0 n "_law_same" s__law_same ["told", "due"] (spC (cSame K n))
  | 0 => d.own fun f fd F => ⟨fun vs H Q E h => by obtain ⟨o, G, t, _, ⟨_, x, y, _, z, _⟩, _⟩ := h; exact z.elim, fun A outer s H args us vs Q E hr he hb hv h => by obtain ⟨o, G, t, _, ⟨_, x, y, _, z, _⟩, _⟩ := h; exact z.elim⟩
  | n + 1 => d.own fun f fd F => F.ok sc__law_same (fun vs H Q E h => by obtain ⟨o, G, t, _, ⟨_, x, y, rfl, _⟩, _⟩ := h; rfl) (fun cdv A outer s H vs Q E hr h => by
    have G__law_same := ok_same T d n
    obtain ⟨o, G, t, kn, ⟨rfl, x, y, rfl, sm, rfl⟩, k⟩ := h
    refine ⟨_, (pss_cons (ps_if (PW.pt (pw_or (pt_cmpR op_isN (pv 1) pe_non (nomark _)) (pw_or1 (pt_val (pe_callB (kIsi (K := K) rfl) (by rfl) T.n_isinstance (by decide +kernel) (pa_cons (pv 1) (pa_cons (pe_bltn (v := .ty "bool") (by rfl) T.n_bool (by decide +kernel) rfl) pa_nil))))))) (pss_one (ps_ret (pe_ifExp (pt_cmpR op_isN (pv 1) pe_non (nomark _)) (pe_cmpR op_isN (pv 0) pe_non (nomark _)) (pe_and (pe_callB (kIsi (K := K) rfl) (by rfl) T.n_isinstance (by decide +kernel) (pa_cons (pv 0) (pa_cons (pe_bltn (v := .ty "bool") (by rfl) T.n_bool (by decide +kernel) rfl) pa_nil))) (pe_one (pe_cmpR (kEq (K := K) rfl hr.units) (pe_cmpR op_isBl (pv 0) pe_bl (nomark _)) (pe_cmpR op_isBl (pv 1) pe_bl (nomark _)) (nomark _))))))) pss_nil)
   (pss_cons (ps_if (pt_val (pe_callB (kIsi (K := K) rfl) (by rfl) T.n_isinstance (by decide +kernel) (pa_cons (pv 1) (pa_cons (pe_bltn (v := .ty "int") (by rfl) T.n_int (by decide +kernel) rfl) pa_nil)))) (pss_one (ps_ret (pe_and (pe_callB (kIsi (K := K) rfl) (by rfl) T.n_isinstance (by decide +kernel) (pa_cons (pv 0) (pa_cons (pe_bltn (v := .ty "int") (by rfl) T.n_int (by decide +kernel) rfl) pa_nil))) (pe_and (pe_not (pe_callB (kIsi (K := K) rfl) (by rfl) T.n_isinstance (by decide +kernel) (pa_cons (pv 0) (pa_cons (pe_bltn (v := .ty "bool") (by rfl) T.n_bool (by decide +kernel) rfl) pa_nil)))) (pe_one (pe_cmpR (kEq (K := K) rfl hr.units) (pv 0) (pv 1) (nomark _))))))) pss_nil)
   (pss_cons (ps_if (pt_val (pe_callB (kIsi (K := K) rfl) (by rfl) T.n_isinstance (by decide +kernel) (pa_cons (pv 1) (pa_cons (pe_bltn (v := .ty "str") (by rfl) T.n_str (by decide +kernel) rfl) pa_nil)))) (pss_one (ps_ret (pe_and (pe_callB (kIsi (K := K) rfl) (by rfl) T.n_isinstance (by decide +kernel) (pa_cons (pv 0) (pa_cons (pe_bltn (v := .ty "str") (by rfl) T.n_str (by decide +kernel) rfl) pa_nil))) (pe_one (pe_cmpR (kEq (K := K) rfl hr.units) (pv 0) (pv 1) (nomark _)))))) pss_nil)
   (pss_cons (ps_if (pt_val (pe_callB (kIsi (K := K) rfl) (by rfl) T.n_isinstance (by decide +kernel) (pa_cons (pv 1) (pa_cons (pe_bltn (v := .ty "dict") (by rfl) T.n_dict (by decide +kernel) rfl) pa_nil)))) (pss_cons (ps_if (PW.pt (pw_or (pt_not (pt_val (pe_callB (kIsi (K := K) rfl) (by rfl) T.n_isinstance (by decide +kernel) (pa_cons (pv 0) (pa_cons (pe_bltn (v := .ty "dict") (by rfl) T.n_dict (by decide +kernel) rfl) pa_nil))))) (pw_or1 (pt_cmpR (kNe (K := K) rfl hr.units) (pe_callB (kLenA (K := K) rfl) (by rfl) T.n_len (by decide +kernel) (pa_cons (pv 0) pa_nil)) (pe_callB (kLenA (K := K) rfl) (by rfl) T.n_len (by decide +kernel) (pa_cons (pv 1) pa_nil)) (nomark _))))) (pss_one (ps_ret pe_bl)) pss_nil)
   (pss_one (ps_ret (pe_lock (pe_cmpR (kEq (K := K) rfl hr.units) (pe_lc (own := [("key", 2)]) rfl sc__law_same.nd (pi_keys (pv 1)) (blkOk_by (own := [("key", 2)]) (N := ["told", "due", "key", "k"]) (sc := defScope s__law_same) (by decide +kernel)) (fun _ _ _ _ _ => (pg_name (i := 2) sc__law_same.nd rfl (Or.inl rfl))) (fun _ _ _ _ _ => (pts_one (PW.pt (pw_or (pt_cmp (pc_dnotin (Nat.lt_of_le_of_lt (Nat.add_le_add_left (by decide) _) hr.units) (pv 2) (pv 0))) (pw_or1 (pt_not (pt_val (pe_own G__law_same pb__law_same (hr.mono (by first | decide | exact Nat.le_refl _)) rfl pass0 (pa_cons (pe_dget (Nat.lt_of_le_of_lt (Nat.add_le_add_left (by decide) _) hr.units) (pv 0) (pv 2) (fun _ _ => rfl)) (pa_cons (pe_dget (Nat.lt_of_le_of_lt (Nat.add_le_add_left (by decide) _) hr.units) (pv 1) (pv 2) (fun _ _ => rfl)) pa_nil)))))))))) (fun _ _ _ _ _ => (pv 2))) (pe_lst pa_nil) (nomark _)))))) pss_nil)
   (pss_cons (ps_if (pt_val (pe_callB (kIsiT (K := K) rfl) (by rfl) T.n_isinstance (by decide +kernel) (pa_cons (pv 1) (pa_cons (pe_tup (pa_cons (pe_bltn (v := .ty "list") (by rfl) T.n_list (by decide +kernel) rfl) (pa_cons (pe_bltn (v := .ty "tuple") (by rfl) T.n_tuple (by decide +kernel) rfl) pa_nil))) pa_nil)))) (pss_cons (ps_if (PW.pt (pw_or (pt_not (pt_val (pe_callB (kIsiT (K := K) rfl) (by rfl) T.n_isinstance (by decide +kernel) (pa_cons (pv 0) (pa_cons (pe_tup (pa_cons (pe_bltn (v := .ty "list") (by rfl) T.n_list (by decide +kernel) rfl) (pa_cons (pe_bltn (v := .ty "tuple") (by rfl) T.n_tuple (by decide +kernel) rfl) pa_nil))) pa_nil))))) (pw_or (pt_cmpR (kNe (K := K) rfl hr.units) (pe_callB (kIsi (K := K) rfl) (by rfl) T.n_isinstance (by decide +kernel) (pa_cons (pv 0) (pa_cons (pe_bltn (v := .ty "list") (by rfl) T.n_list (by decide +kernel) rfl) pa_nil))) (pe_callB (kIsi (K := K) rfl) (by rfl) T.n_isinstance (by decide +kernel) (pa_cons (pv 1) (pa_cons (pe_bltn (v := .ty "list") (by rfl) T.n_list (by decide +kernel) rfl) pa_nil))) (nomark _)) (pw_or1 (pt_cmpR (kNe (K := K) rfl hr.units) (pe_callB (kLenA (K := K) rfl) (by rfl) T.n_len (by decide +kernel) (pa_cons (pv 0) pa_nil)) (pe_callB (kLenA (K := K) rfl) (by rfl) T.n_len (by decide +kernel) (pa_cons (pv 1) pa_nil)) (nomark _)))))) (pss_one (ps_ret pe_bl)) pss_nil)
   (pss_one (ps_ret (pe_cmpR (kEq (K := K) rfl hr.units) (pe_lc (own := [("k", 3)]) rfl sc__law_same.nd (pi_range1 rfl T.n_range (pa_cons (pe_callB (kLenA (K := K) rfl) (by rfl) T.n_len (by decide +kernel) (pa_cons (pv 1) pa_nil)) pa_nil)) (blkOk_by (own := [("k", 3)]) (N := ["told", "due", "key", "k"]) (sc := defScope s__law_same) (by decide +kernel)) (fun _ _ _ _ _ => (pg_name (i := 3) sc__law_same.nd rfl (Or.inl rfl))) (fun _ _ _ _ _ => (pts_one (pt_not (pt_val (pe_own G__law_same pb__law_same (hr.mono (by first | decide | exact Nat.le_refl _)) rfl pass0 (pa_cons (pe_ix (kIx (K := K) rfl) (pv 0) (pv 3) (fun _ _ => rfl)) (pa_cons (pe_ix (kIx (K := K) rfl) (pv 1) (pv 3) (fun _ _ => rfl)) pa_nil))))))) (fun _ _ _ _ _ => (pv 3))) (pe_lst pa_nil) (nomark _))))) pss_nil)
   (pss_one (ps_ret pe_bl))))))), ?_⟩
    have g0 := Go.refl kn
    have vx : ∀ G', Ev none (tVar 0) (start ["told", "due", "key", "k"] [x, y]) G' (tIs x) := fun G' => ev_x rfl
    have vy : ∀ G', Ev none (tVar 1) (start ["told", "due", "key", "k"] [x, y]) G' (tIs y) := fun G' => ev_x rfl
    have no : ∀ {p : Bool → Prop} {b : Bool}, (p = fun c => c = b) → b = false → ¬ p true := fun e f z => by rw [e, f] at z; cases z
    rcases sm with ⟨rfl, f⟩ | ⟨a, b, xs, ys, rfl, rfl, ha, hb, hl, hp⟩ | ⟨a, b, xs, ys, rfl, rfl, ha, hb, hl, hp⟩ | ⟨a, b, kvs, rfl, rfl, ha, hb, hl, hf, hn⟩
    · cases x with
      | non =>
        refine q_when g0 (p := (· = (true || true))) (et_or (et_test (ev_isN (vy _) rfl)) fun z => nomatch z) (fun _ G2 H2 g2 _ => ?_) fun z => nomatch z
        exact s_ret g2 (ev_if (p := (· = true)) (et_test (ev_isN (vy _) rfl)) (fun _ => ev_isN (vx _) rfl) fun z => nomatch z) fun v G3 H3 g3 w3 => k v G3 H3 g3 w3
      | bl b =>
        refine q_when g0 (p := (· = (false || true))) (et_or (et_test (ev_isN (vy _) rfl)) fun _ => et_b (ev_isi (vy _) (.bl b) (by decide +kernel))) (fun _ G2 H2 g2 _ => ?_) fun z => nomatch z
        refine s_ret g2 (ev_if (p := (· = false)) (et_test (ev_isN (vy _) rfl)) (fun z => nomatch z) fun _ => ev_and (a := true) (b := true) (ev_isi (vx _) (.bl b) (by decide +kernel)) fun _ => ?_) fun v G3 H3 g3 w3 => k v G3 H3 g3 w3
        exact ev_op2 (ev_op2 (vx _) ev_k ro_isB) (ev_op2 (vy _) ev_k ro_isB) (ro_eqS rfl (by simp))
      | int i =>
        refine q_when g0 (p := (· = (false || false))) (et_or (et_test (ev_isN (vy _) rfl)) fun _ => et_b (ev_isi (vy _) (.int i) (by decide +kernel))) (fun z => nomatch z) fun _ G2 H2 g2 _ => ?_
        refine q_when g2 (p := (· = true)) (et_b (ev_isi (vy _) (.int i) (by decide +kernel))) (fun _ G3 H3 g3 _ => ?_) fun z => nomatch z
        refine s_ret g3 (ev_and (a := true) (b := true) (ev_isi (vx _) (.int i) (by decide +kernel)) fun _ => ev_and (a := !false) (b := true) (ev_not (ev_isi (vx _) (.int i) (by decide +kernel))) fun _ => ?_) fun v G3 H3 g3 w3 => k v G3 H3 g3 w3
        exact ev_op2 (vx _) (vy _) (ro_eqS rfl (by simp))
      | str z =>
        refine q_when g0 (p := (· = (false || false))) (et_or (et_test (ev_isN (vy _) rfl)) fun _ => et_b (ev_isi (vy _) (.str z) (by decide +kernel))) (fun z => nomatch z) fun _ G2 H2 g2 _ => ?_
        refine q_when g2 (p := (· = false)) (et_b (ev_isi (vy _) (.str z) (by decide +kernel))) (fun z => nomatch z) fun _ G3 H3 g3 _ => ?_
        refine q_when g3 (p := (· = true)) (et_b (ev_isi (vy _) (.str z) (by decide +kernel))) (fun _ G3 H3 g3 _ => ?_) fun z => nomatch z
        refine s_ret g3 (ev_and (a := true) (b := true) (ev_isi (vx _) (.str z) (by decide +kernel)) fun _ => ?_) fun v G3 H3 g3 w3 => k v G3 H3 g3 w3
        exact ev_op2 (vx _) (vy _) (ro_eqS rfl (by simp))
      | byt _ => cases f
      | flt _ => cases f
      | ref _ => cases f
      | ty _ => cases f
    · have kx : KT K G (.ref a) "list" := .lst ha
      have ky : KT K G (.ref b) "list" := .lst hb
      refine q_when g0 (p := (· = (false || false))) (et_or (et_test (ev_isN (vy _) rfl)) fun _ => et_b (ev_isi (vy _) ky (by decide +kernel))) (fun z => nomatch z) fun _ G2 H2 g2 _ => ?_
      refine q_when g2 (p := (· = false)) (et_b (ev_isi (vy _) (ky.up g2.gg) (by decide +kernel))) (fun z => nomatch z) fun _ G3 H3 g3 _ => ?_
      refine q_when g3 (p := (· = false)) (et_b (ev_isi (vy _) (ky.up g3.gg) (by decide +kernel))) (fun z => nomatch z) fun _ G4 H4 g4 _ => ?_
      refine q_when g4 (p := (· = false)) (et_b (ev_isi (vy _) (ky.up g4.gg) (by decide +kernel))) (fun z => nomatch z) fun _ G5 H5 g5 _ => ?_
      refine q_when g5 (p := (· = (true || false))) (et_b (ev_isi2 (vy _) (ky.up g5.gg) (by decide +kernel) (by decide +kernel))) (fun _ G6 H6 g6 _ => ?_) fun z => nomatch z
      have ha' := ex_l g6.gg ha
      have hb' := ex_l g6.gg hb
      refine q_when g6 (p := (· = (!(true || false) || (false || false)))) (et_or (et_not (et_b (ev_isi2 (vx _) (kx.up g6.gg) (by decide +kernel) (by decide +kernel)))) fun _ => et_or (et_test (ev_op2 (ev_isi (vx _) (kx.up g6.gg) (b := true) (by decide +kernel)) (ev_isi (vy _) (ky.up g6.gg) (b := true) (by decide +kernel)) (ro_neS rfl (by simp)))) fun _ =>
        et_test (ev_op2 (ev_cb1 (vx _) fun G' e => rc_lenA (rc_lenL (ex_l e ha'))) (ev_cb1 (vy _) fun G' e => rc_lenA (rc_lenL (ex_l e hb'))) (ro_neS rfl (by simp [Paired.length hp])))) (fun z => nomatch z) fun _ G7 H7 g7 g67 => ?_
      refine s_ret (t := tIs (.bl true)) g7 (ev_eqNil (ev_nilL (P := fun _ ys => ys = []) ?_ fun G' xs h => h.now)) k
      have hn : EvI none (iRng1 (tCons (tCB (rLenA K) (tCons (tVar 1) tNil)) tNil)) (start ["told", "due", "key", "k"] [.ref a, .ref b]) G7 (fun _ zs => zs = intsV 0 ys.length) :=
        ei_rng1 (Pn := fun n => n = (ys.length : Int)) (ea_cons ((ev_cb1 (vy _) fun G' e => rc_lenA (rc_lenL (ex_l (g67.gg.trans e) hb'))).imp fun G' v _ w => w.imp fun _ _ e => ⟨_, e, rfl⟩) ea_nil) (fun n e => by have := Paired.length hp; omega) fun G' n _ e => by
          subst e
          exact fun _ _ => by rw [Int.toNat_natCast]
      refine (en_lc (fun _ _ _ acc => acc = []) hn (fun _ => rfl) (fun _ _ _ _ _ _ h => h) (fun G' zs _ hz => ⟨by rw [hz.now, intsV_len]; have := Paired.length hp; omega, rfl⟩) fun G' zs i z acc e hz hi _ r => ?_).impN fun G' ys h => by
        obtain ⟨_, _, _, r⟩ := h
        exact r
      rw [hz.now] at hi
      obtain ⟨rfl, hi⟩ := intsV_get hi
      obtain ⟨x', y', hx, hy, hr'⟩ := Paired.at' (i := i) hp (by have := Paired.length hp; omega)
      have ez : (0 : Int) + (i : Int) = (i : Int) := Int.zero_add _
      refine ⟨(· = !true), et_not (et_b (ev_call (t := tIs (.bl true)) (ea_cons (ev_op2 (ev_x rfl) (ev_x rfl) (ro_ixL (ex_l (g67.gg.trans e) ha') (at_of ez hx))) (ea_cons (ev_op2 (ev_x rfl) (ev_x rfl) (ro_ixL (ex_l (g67.gg.trans e) hb') (at_of ez hy))) ea_nil)) fun G'' vs e2 al => ?_)), (fun z => nomatch z), fun _ G1 _ => r⟩
      cases al with
      | cons a1 al => cases al with
        | cons a2 al =>
          cases al
          rw [a1.eq, a2.eq]
          exact ⟨none, _, .inl rfl, ⟨rfl, x', y', rfl, hr'.up (g7.gg.trans (e.trans e2)), rfl⟩, fun _ _ _ w => w⟩
    · have kx : KT K G (.ref a) "tuple" := .tup ha
      have ky : KT K G (.ref b) "tuple" := .tup hb
      refine q_when g0 (p := (· = (false || false))) (et_or (et_test (ev_isN (vy _) rfl)) fun _ => et_b (ev_isi (vy _) ky (by decide +kernel))) (fun z => nomatch z) fun _ G2 H2 g2 _ => ?_
      refine q_when g2 (p := (· = false)) (et_b (ev_isi (vy _) (ky.up g2.gg) (by decide +kernel))) (fun z => nomatch z) fun _ G3 H3 g3 _ => ?_
      refine q_when g3 (p := (· = false)) (et_b (ev_isi (vy _) (ky.up g3.gg) (by decide +kernel))) (fun z => nomatch z) fun _ G4 H4 g4 _ => ?_
      refine q_when g4 (p := (· = false)) (et_b (ev_isi (vy _) (ky.up g4.gg) (by decide +kernel))) (fun z => nomatch z) fun _ G5 H5 g5 _ => ?_
      refine q_when g5 (p := (· = (false || true))) (et_b (ev_isi2 (vy _) (ky.up g5.gg) (by decide +kernel) (by decide +kernel))) (fun _ G6 H6 g6 _ => ?_) fun z => nomatch z
      have ha' := ex_t g6.gg ha
      have hb' := ex_t g6.gg hb
      refine q_when g6 (p := (· = (!(false || true) || (false || false)))) (et_or (et_not (et_b (ev_isi2 (vx _) (kx.up g6.gg) (by decide +kernel) (by decide +kernel)))) fun _ => et_or (et_test (ev_op2 (ev_isi (vx _) (kx.up g6.gg) (b := false) (by decide +kernel)) (ev_isi (vy _) (ky.up g6.gg) (b := false) (by decide +kernel)) (ro_neS rfl (by simp)))) fun _ =>
        et_test (ev_op2 (ev_cb1 (vx _) fun G' e => rc_lenA (rc_lenT (ex_t e ha'))) (ev_cb1 (vy _) fun G' e => rc_lenA (rc_lenT (ex_t e hb'))) (ro_neS rfl (by simp [Paired.length hp])))) (fun z => nomatch z) fun _ G7 H7 g7 g67 => ?_
      refine s_ret (t := tIs (.bl true)) g7 (ev_eqNil (ev_nilL (P := fun _ ys => ys = []) ?_ fun G' xs h => h.now)) k
      have hn : EvI none (iRng1 (tCons (tCB (rLenA K) (tCons (tVar 1) tNil)) tNil)) (start ["told", "due", "key", "k"] [.ref a, .ref b]) G7 (fun _ zs => zs = intsV 0 ys.length) :=
        ei_rng1 (Pn := fun n => n = (ys.length : Int)) (ea_cons ((ev_cb1 (vy _) fun G' e => rc_lenA (rc_lenT (ex_t (g67.gg.trans e) hb'))).imp fun G' v _ w => w.imp fun _ _ e => ⟨_, e, rfl⟩) ea_nil) (fun n e => by have := Paired.length hp; omega) fun G' n _ e => by
          subst e
          exact fun _ _ => by rw [Int.toNat_natCast]
      refine (en_lc (fun _ _ _ acc => acc = []) hn (fun _ => rfl) (fun _ _ _ _ _ _ h => h) (fun G' zs _ hz => ⟨by rw [hz.now, intsV_len]; have := Paired.length hp; omega, rfl⟩) fun G' zs i z acc e hz hi _ r => ?_).impN fun G' ys h => by
        obtain ⟨_, _, _, r⟩ := h
        exact r
      rw [hz.now] at hi
      obtain ⟨rfl, hi⟩ := intsV_get hi
      obtain ⟨x', y', hx, hy, hr'⟩ := Paired.at' (i := i) hp (by have := Paired.length hp; omega)
      have ez : (0 : Int) + (i : Int) = (i : Int) := Int.zero_add _
      refine ⟨(· = !true), et_not (et_b (ev_call (t := tIs (.bl true)) (ea_cons (ev_op2 (ev_x rfl) (ev_x rfl) (ro_ixT (ex_t (g67.gg.trans e) ha') (at_of ez hx))) (ea_cons (ev_op2 (ev_x rfl) (ev_x rfl) (ro_ixT (ex_t (g67.gg.trans e) hb') (at_of ez hy))) ea_nil)) fun G'' vs e2 al => ?_)), (fun z => nomatch z), fun _ G1 _ => r⟩
      cases al with
      | cons a1 al => cases al with
        | cons a2 al =>
          cases al
          rw [a1.eq, a2.eq]
          exact ⟨none, _, .inl rfl, ⟨rfl, x', y', rfl, hr'.up (g7.gg.trans (e.trans e2)), rfl⟩, fun _ _ _ w => w⟩
    · have kx : KT K G (.ref a) "dict" := .dic ha
      have ky : KT K G (.ref b) "dict" := .dic hb
      refine q_when g0 (p := (· = (false || false))) (et_or (et_test (ev_isN (vy _) rfl)) fun _ => et_b (ev_isi (vy _) ky (by decide +kernel))) (fun z => nomatch z) fun _ G2 H2 g2 _ => ?_
      refine q_when g2 (p := (· = false)) (et_b (ev_isi (vy _) (ky.up g2.gg) (by decide +kernel))) (fun z => nomatch z) fun _ G3 H3 g3 _ => ?_
      refine q_when g3 (p := (· = false)) (et_b (ev_isi (vy _) (ky.up g3.gg) (by decide +kernel))) (fun z => nomatch z) fun _ G4 H4 g4 _ => ?_
      refine q_when g4 (p := (· = true)) (et_b (ev_isi (vy _) (ky.up g4.gg) (by decide +kernel))) (fun _ G5 H5 g5 _ => ?_) fun z => nomatch z
      refine q_when g5 (p := (· = (!true || false))) (et_or (et_not (et_b (ev_isi (vx _) (kx.up g5.gg) (by decide +kernel)))) fun _ =>
        et_test (ev_op2 (ev_cb1 (vx _) fun G' e => rc_lenDA ((g5.gg.trans e) _ _ ha)) (ev_cb1 (vy _) fun G' e => rc_lenDA ((g5.gg.trans e) _ _ hb)) (ro_neS rfl (by simp)))) (fun z => nomatch z) fun _ G6 H6 g6 _ => ?_
      refine s_ret (t := tIs (.bl true)) g6 (ev_lock (b := b) (w := .dK kvs) (fun G' e => (g6.gg.trans e) _ _ hb) trivial fun G' od e => ev_eqNil (ev_nilL (P := fun _ ys => ys = []) ?_ fun G' xs h => h.now)) k
      have rb : Rd (upd G' b (.frz od (.dK kvs))) b (.dK kvs) := .inr ⟨od, upd_same⟩
      have ra : Rd (upd G' b (.frz od (.dK kvs))) a (.dK kvs) := by
        by_cases z : a = b
        · rw [z]; exact rb
        · exact .inl (by rw [upd_ne z]; exact (g6.gg.trans e) _ _ ha)
      refine (en_lc (fun _ _ _ acc => acc = []) (ei_keys (kvs := kvs) (P := fun _ zs => zs = kvs.map fun kv => kV kv.1) (ev_x rfl) upd_same fun _ _ _ _ => rfl) (fun _ => rfl) (fun _ _ _ _ _ _ h => h) (fun G2 zs _ hz => ⟨by rw [hz.now, List.length_map]; omega, rfl⟩) fun G2 zs i z acc e2 hz hi _ r => ?_).impN fun G' ys h => by
        obtain ⟨_, _, _, r⟩ := h
        exact r
      rw [hz.now, List.getElem?_map] at hi
      obtain ⟨⟨kk, vv⟩, hkv, ez⟩ := Option.map_eq_some_iff.mp hi
      have ez' : z = kV kk := ez.symm
      subst ez'
      obtain ⟨w, hw, j, hj⟩ := valV_has hkv
      have fw : fl w = true := List.all_eq_true.mp hf _ hj
      refine ⟨(· = (false || !true)), et_or (et_b (ev_dnotin (ev_x rfl) (ev_x rfl) (Rd.up ra e2) (by rw [hw]; rfl))) fun _ => et_not (et_b (ev_call (t := tIs (.bl true)) (ea_cons (ev_dget (ev_x rfl) (ev_x rfl) (Rd.up ra e2) hw) (ea_cons (ev_dget (ev_x rfl) (ev_x rfl) (Rd.up rb e2) hw) ea_nil)) fun G'' vs e2 al => ?_)), (fun z => nomatch z), fun _ G1 _ => r⟩
      cases al with
      | cons a1 al => cases al with
        | cons a2 al =>
          cases al
          rw [a1.eq, a2.eq]
          refine ⟨none, _, .inl rfl, ⟨rfl, w, w, rfl, ?_, rfl⟩, fun _ _ _ w => w⟩
          cases n with
          | zero => exact absurd hn (Nat.lt_irrefl 0)
          | succ m => exact .flat fw)
/-! ### copies, very values -/
theorem ok_copy (T : Txt K mg) (d : Df K mg "_law_copy" s__law_copy) : Own P w K mg base CX0 1 "_law_copy" s__law_copy ["value"] (spCopy K) :=
  d.own fun f fd F => F.ok sc__law_copy (fun vs H Q E h => by obtain ⟨o, G, v, d, _, rfl, _⟩ := h; rfl) (fun cdv A outer s H vs Q E hr h => by
    obtain ⟨o, G, v, d, kn, rfl, hv, k⟩ := h
    refine ⟨_, (pss_one (ps_ret (pe_ifExp (pt_val (pe_callB (kIsi (K := K) rfl) (by rfl) T.n_isinstance (by decide +kernel) (pa_cons (pv 0) (pa_cons (pe_bltn (v := .ty "list") (by rfl) T.n_list (by decide +kernel) rfl) pa_nil)))) (pe_callTy (kList (K := K) rfl) (by rfl) T.n_list (by decide +kernel) (pa_cons (pv 0) pa_nil)) (pe_ifExp (pt_val (pe_callB (kIsi (K := K) rfl) (by rfl) T.n_isinstance (by decide +kernel) (pa_cons (pv 0) (pa_cons (pe_bltn (v := .ty "dict") (by rfl) T.n_dict (by decide +kernel) rfl) pa_nil)))) (pe_callTy call_dictOf (by rfl) T.n_dict (by decide +kernel) (pa_cons (pv 0) pa_nil)) (pv 0))))), ?_⟩
    have g0 := Go.refl kn
    have vv : ∀ G', Ex G G' → Ev o (tVar 0) (start ["value"] [v]) G' (tV K d) := fun G' e => ev_v rfl (hv.up e)
    refine (et_b (ev_isiV (vv G (Ex.refl _)) ki_list)) G H (Ex.refl _) kn _ fun b G2 H2 g2 hb => ?_
    subst hb
    cases e1 : isList d with
    | true =>
      cases d with
      | list ds =>
        refine vv G2 g2.gg G2 H2 (Ex.refl _) g2.kn _ fun v2 G3 H3 g3 w3 => ?_
        obtain ⟨a, xs, rfl, hs, hd⟩ := w3.now.lst
        refine ⟨a, xs, rfl, .inl (ex_l g3.kn.sub hs), fun l hl => ?_⟩
        have g := g2.trans g3
        refine k _ G3 _ (g.trans (.tmp g3.kn hl)) (.inr (.inl ⟨l, xs, ds, rfl, rfl, g.fresh hl, Evl.fresh_back g3.kn.sub hl, g3.kn.nbox hl, upd_same, hd⟩))
      | _ => cases e1
    | false =>
      refine (et_b (ev_isiV (vv G2 g2.gg) ki_dict)) G2 H2 (Ex.refl _) g2.kn _ fun b G3 H3 g3 hb => ?_
      subst hb
      have g := g2.trans g3
      cases e2 : isDict d with
      | true =>
        refine vv G3 g.gg G3 H3 (Ex.refl _) g3.kn _ fun v2 G4 H4 g4 w4 => ?_
        rcases w4.now with w | ⟨a, rfl, rfl, ha⟩
        · cases w <;> cases e2
        · refine ⟨a, [], rfl, .inl (g4.kn.sub _ _ ha), fun l hl => ?_⟩
          exact k _ G4 _ ((g.trans g4).trans (.tmp g4.kn hl)) (.inr (.inr ⟨l, rfl, rfl, (g.trans g4).fresh hl, Evl.fresh_back g4.kn.sub hl, g4.kn.nbox hl, upd_same⟩))
      | false =>
        exact vv G3 g.gg G3 H3 (Ex.refl _) g3.kn _ fun v2 G4 H4 g4 w4 => k _ G4 H4 (g.trans g4) (.inl ⟨w4.now, e1, e2⟩))
theorem ok_blamed (T : Txt K mg) (d : Df K mg "_law_blamed" s__law_blamed) {n : Nat} (G__law_same : Own P w K mg base CX0 n "_law_same" s__law_same ["told", "due"] (spC (cSame K 3))) : Own P w K mg base CX0 (n + 1) "_law_blamed" s__law_blamed ["given", "value"] (spBlame K) :=
  d.own fun f fd F => F.ok sc__law_blamed (fun vs H Q E h => by obtain ⟨o, G0, H0, G, v, _, rfl, _⟩ := h; rfl) (fun cdv A outer s H vs Q E hr h => by
    obtain ⟨o, G0, H0, G, v, g, rfl, mv, k⟩ := h
    refine ⟨_, (pss_cons (ps_if (pt_not (pt_val (pe_own G__law_same pb__law_same (hr.mono (by first | decide | exact Nat.le_refl _)) rfl pass0 (pa_cons (pv 0) (pa_cons (pv 1) pa_nil))))) (pss_one (ps_ret pe_bl)) pss_nil)
   (pss_cons (ps_if (pt_val (pe_callB (kIsi (K := K) rfl) (by rfl) T.n_isinstance (by decide +kernel) (pa_cons (pv 1) (pa_cons (pe_bltn (v := .ty "list") (by rfl) T.n_list (by decide +kernel) rfl) pa_nil)))) (pss_one (ps_expr (pe_bm PySem.F.plainAttrs_list PySem.F.slot_list_append PySem.F.type_list_append mt_append (pv 1) (pa_cons pe_str pa_nil)))) pss_nil)
   (pss_cons (ps_if (pt_val (pe_callB (kIsi (K := K) rfl) (by rfl) T.n_isinstance (by decide +kernel) (pa_cons (pv 1) (pa_cons (pe_bltn (v := .ty "dict") (by rfl) T.n_dict (by decide +kernel) rfl) pa_nil)))) (pss_one (ps_dput (Nat.lt_of_le_of_lt (Nat.add_le_add_left (by decide) _) hr.units) (pv 1) pe_str pe_int rfl)) pss_nil)
   (pss_one (ps_ret (pe_own G__law_same pb__law_same (hr.mono (by first | decide | exact Nat.le_refl _)) rfl pass0 (pa_cons (pv 0) (pa_cons (pv 1) pa_nil)))))))), ?_⟩
    have same : ∀ G', Sm K 3 G' v v → Ev o (tCall (spC (cSame K 3)) [] E0 (tCons (tVar 0) (tCons (tVar 1) tNil))) (start ["given", "value"] [v, v]) G' (tIs (.bl true)) := fun G' sm =>
      ev_call (ea_cons (ev_x rfl) (ea_cons (ev_x rfl) ea_nil)) fun G'' vs e al => by
        cases al with
        | cons a1 al => cases al with
          | cons a2 al =>
            cases al
            rw [a1.eq, a2.eq]
            exact ⟨none, _, .inr rfl, ⟨rfl, v, v, rfl, sm.up e, rfl⟩, fun _ _ _ w => w⟩
    have vx : ∀ G', Ev o (tVar 1) (start ["given", "value"] [v, v]) G' (tIs v) := fun G' => ev_x rfl
    rcases mv with ⟨sm, n, kt, e1, e2⟩ | ⟨a, xs, rfl, h0, ga, ho, ha, hl, hx⟩ | ⟨a, kvs, rfl, h0, ga, ho, ha, hl, hx⟩
    · refine q_when g (p := (· = !true)) (et_not (et_b (same _ sm))) (fun z => nomatch z) fun _ G2 H2 g2 g12 => ?_
      refine q_when g2 (p := (· = false)) (et_b (ev_isi (vx _) (kt.up g12.gg) e1)) (fun z => nomatch z) fun _ G3 H3 g3 g23 => ?_
      refine q_when g3 (p := (· = false)) (et_b (ev_isi (vx _) (kt.up (g12.gg.trans g23.gg)) e2)) (fun z => nomatch z) fun _ G4 H4 g4 g34 => ?_
      exact s_ret g4 (same _ (sm.up ((g12.gg.trans g23.gg).trans g34.gg))) fun v2 G5 H5 g5 w5 => by rw [w5.eq]; exact k G5 H5 g5
    · have smL : ∀ {G' : Hp} {ys : List V}, (∀ x ∈ ys, Sm K 2 G' x x) → ys.length ≤ 1000 → G' a = none → Sm K 3 (upd G' a (.lst ys)) (.ref a) (.ref a) := fun {G' ys} hy hl gn => by
        refine .inr (.inl ⟨a, a, ys, ys, rfl, rfl, .of upd_same, .of upd_same, hl, ?_⟩)
        have : ∀ zs : List V, (∀ x ∈ zs, Sm K 2 G' x x) → Paired (Sm K 2 (upd G' a (.lst ys))) zs zs := fun zs => by
          induction zs with
          | nil => exact fun _ => .nil
          | cons z zs ih => exact fun h => .cons ((h z (List.mem_cons_self ..)).up (Ex.new gn)) (ih fun x hx => h x (List.mem_cons_of_mem _ hx))
        exact this ys hy
      refine q_whenL g ga ha ho (p := (· = !true)) (et_not (et_b (same _ (smL hx (by omega) ga)))) (fun z => nomatch z) fun G2 H2 g2 g12 ga2 ha2 => ?_
      refine q_whenLT g2 ga2 ha2 ho (p := (· = true)) (et_b (ev_isi (vx _) (.lst (.of upd_same)) (by decide +kernel))) (fun z => nomatch z) fun G3 H3 g3 g23 ga3 ha3 => ?_
      refine s_app (t := tIs (.str "more")) g3 h0 ga3 ho ha3 (vx _) (fun _ _ => ev_k) (by omega) fun v2 G4 H4 g4 g34 ga4 w4 => ?_
      rw [w4.eq] at g4 ⊢
      refine q_whenL g4 ga4 upd_same ho (p := (· = false)) (et_b (ev_isi (vx _) (.lst (.of upd_same)) (by decide +kernel))) (fun z => nomatch z) fun G5 H5 g5 g45 ga5 ha5 => ?_
      refine s_retL g5 ga5 ha5 ho (same _ (smL (fun x hx' => ?_) (by rw [List.length_append]; show xs.length + 1 ≤ 1000; omega) ga5)) k
      rcases List.mem_append.mp hx' with h | h
      · exact (hx x h).up (((g12.gg.trans g23.gg).trans g34.gg).trans g45.gg)
      · rw [List.mem_singleton.mp h]; exact .flat rfl
    · have smD : ∀ {G' : Hp} {ys : List (Key × V)}, ys.all (fun kv => fl kv.2) = true → ys.length ≤ 1000 → Sm K 3 (upd G' a (.dK ys)) (.ref a) (.ref a) := fun {G' ys} hy hl =>
        .inr (.inr (.inr ⟨a, a, ys, rfl, rfl, upd_same, upd_same, hl, hy, by decide⟩))
      refine q_whenL g ga ha ho (p := (· = !true)) (et_not (et_b (same _ (smD hx (by omega))))) (fun z => nomatch z) fun G2 H2 g2 g12 ga2 ha2 => ?_
      refine q_whenL g2 ga2 ha2 ho (p := (· = false)) (et_b (ev_isi (vx _) (.dic upd_same) (by decide +kernel))) (fun z => nomatch z) fun G3 H3 g3 g23 ga3 ha3 => ?_
      refine q_whenLT g3 ga3 ha3 ho (p := (· = true)) (et_b (ev_isi (vx _) (.dic upd_same) (by decide +kernel))) (fun z => nomatch z) fun G4 H4 g4 g34 ga4 ha4 => ?_
      have lz : (putK kvs ((Sum.inr "more" : Key)) (.int 1)).length ≤ 1000 := Nat.le_trans (length_putK ..) (by omega)
      refine ⟨_, rfl, a, _, rfl, DPut.k (k := (Sum.inr "more" : Key)) ha4 (Evl.sz_lt (by omega)), ?_⟩
      have g5 : Go o G0 H0 G4 (upd H4 a (.dK (putK kvs ((Sum.inr "more" : Key)) (.int 1)))) := g4.mut h0 ga4 ho
      exact s_retL g5 ga4 upd_same ho (same _ (smD (putK_fl hx rfl) lz)) k)
end
end K12
set_option Elab.async false
set_option linter.all false
set_option maxRecDepth 100000
set_option maxHeartbeats 4000000
namespace K12
open PySem L2 Ty
open Evl (Ex ex_l ex_t)
abbrev s_is_integer : Stmt := top 6
theorem sc_is_integer : FnScope ["value"] ["value"] (defScope s_is_integer) := ⟨rfl, rfl, rfl, by decide +kernel, rfl, by decide +kernel, by decide +kernel⟩
theorem pb_is_integer : PosB "is_integer" s_is_integer ["value"] := fun _ _ _ _ _ _ us hl => match us, hl with | [_], _ => rfl
abbrev s_is_truth : Stmt := top 7
theorem sc_is_truth : FnScope ["value"] ["value"] (defScope s_is_truth) := ⟨rfl, rfl, rfl, by decide +kernel, rfl, by decide +kernel, by decide +kernel⟩
theorem pb_is_truth : PosB "is_truth" s_is_truth ["value"] := fun _ _ _ _ _ _ us hl => match us, hl with | [_], _ => rfl
abbrev s_is_within : Stmt := top 8
theorem sc_is_within : FnScope ["value", "low", "high"] ["value", "low", "high"] (defScope s_is_within) := ⟨rfl, rfl, rfl, by decide +kernel, rfl, by decide +kernel, by decide +kernel⟩
theorem pb_is_within : PosB "is_within" s_is_within ["value", "low", "high"] := fun _ _ _ _ _ _ us hl => match us, hl with | [_, _, _], _ => rfl
abbrev s_is_tuple : Stmt := top 9
theorem sc_is_tuple : FnScope ["value", "size"] ["value", "size"] (defScope s_is_tuple) := ⟨rfl, rfl, rfl, by decide +kernel, rfl, by decide +kernel, by decide +kernel⟩
theorem pb_is_tuple : PosB "is_tuple" s_is_tuple ["value", "size"] := fun _ _ _ _ _ _ us hl => match us, hl with | [_, _], _ => rfl
abbrev s_is_sort : Stmt := top 16
theorem sc_is_sort : FnScope ["value"] ["value"] (defScope s_is_sort) := ⟨rfl, rfl, rfl, by decide +kernel, rfl, by decide +kernel, by decide +kernel⟩
theorem pb_is_sort : PosB "is_sort" s_is_sort ["value"] := fun _ _ _ _ _ _ us hl => match us, hl with | [_], _ => rfl
abbrev s_check_sort : Stmt := top 17
theorem sc_check_sort : FnScope ["sort"] ["sort"] (defScope s_check_sort) := ⟨rfl, rfl, rfl, by decide +kernel, rfl, by decide +kernel, by decide +kernel⟩
theorem pb_check_sort : PosB "check_sort" s_check_sort ["sort"] := fun _ _ _ _ _ _ us hl => match us, hl with | [_], _ => rfl
abbrev s_is_value_of : Stmt := top 18
theorem sc_is_value_of : FnScope ["sort", "value"] ["sort", "value"] (defScope s_is_value_of) := ⟨rfl, rfl, rfl, by decide +kernel, rfl, by decide +kernel, by decide +kernel⟩
theorem pb_is_value_of : PosB "is_value_of" s_is_value_of ["sort", "value"] := fun _ _ _ _ _ _ us hl => match us, hl with | [_, _], _ => rfl
abbrev s_is_value : Stmt := top 19
theorem sc_is_value : FnScope ["sort", "value"] ["sort", "value"] (defScope s_is_value) := ⟨rfl, rfl, rfl, by decide +kernel, rfl, by decide +kernel, by decide +kernel⟩
theorem pb_is_value : PosB "is_value" s_is_value ["sort", "value"] := fun _ _ _ _ _ _ us hl => match us, hl with | [_, _], _ => rfl
abbrev s_kept_in : Stmt := top 20
theorem sc_kept_in : FnScope ["number"] ["number"] (defScope s_kept_in) := ⟨rfl, rfl, rfl, by decide +kernel, rfl, by decide +kernel, by decide +kernel⟩
theorem pb_kept_in : PosB "kept_in" s_kept_in ["number"] := fun _ _ _ _ _ _ us hl => match us, hl with | [_], _ => rfl
abbrev s_kept : Stmt := top 21
theorem sc_kept : FnScope ["number"] ["number"] (defScope s_kept) := ⟨rfl, rfl, rfl, by decide +kernel, rfl, by decide +kernel, by decide +kernel⟩
theorem pb_kept : PosB "kept" s_kept ["number"] := fun _ _ _ _ _ _ us hl => match us, hl with | [_], _ => rfl
abbrev s_fitted_in : Stmt := top 22
theorem sc_fitted_in : FnScope ["sort", "value"] ["sort", "value"] (defScope s_fitted_in) := ⟨rfl, rfl, rfl, by decide +kernel, rfl, by decide +kernel, by decide +kernel⟩
theorem pb_fitted_in : PosB "fitted_in" s_fitted_in ["sort", "value"] := fun _ _ _ _ _ _ us hl => match us, hl with | [_, _], _ => rfl
abbrev s_is_of_kind : Stmt := top 23
theorem sc_is_of_kind : FnScope ["sort", "value"] ["sort", "value"] (defScope s_is_of_kind) := ⟨rfl, rfl, rfl, by decide +kernel, rfl, by decide +kernel, by decide +kernel⟩
theorem pb_is_of_kind : PosB "is_of_kind" s_is_of_kind ["sort", "value"] := fun _ _ _ _ _ _ us hl => match us, hl with | [_, _], _ => rfl
abbrev s_fitted : Stmt := top 24
theorem sc_fitted : FnScope ["sort", "value"] ["sort", "value"] (defScope s_fitted) := ⟨rfl, rfl, rfl, by decide +kernel, rfl, by decide +kernel, by decide +kernel⟩
theorem pb_fitted : PosB "fitted" s_fitted ["sort", "value"] := fun _ _ _ _ _ _ us hl => match us, hl with | [_, _], _ => rfl
abbrev s__law_whole : Stmt := top 34
theorem sc__law_whole : FnScope ["value"] ["value"] (defScope s__law_whole) := ⟨rfl, rfl, rfl, by decide +kernel, rfl, by decide +kernel, by decide +kernel⟩
theorem pb__law_whole : PosB "_law_whole" s__law_whole ["value"] := fun _ _ _ _ _ _ us hl => match us, hl with | [_], _ => rfl
abbrev s__law_is_sort : Stmt := top 35
theorem sc__law_is_sort : FnScope ["value"] ["value"] (defScope s__law_is_sort) := ⟨rfl, rfl, rfl, by decide +kernel, rfl, by decide +kernel, by decide +kernel⟩
theorem pb__law_is_sort : PosB "_law_is_sort" s__law_is_sort ["value"] := fun _ _ _ _ _ _ us hl => match us, hl with | [_], _ => rfl
abbrev s__law_is_value : Stmt := top 40
theorem sc__law_is_value : FnScope ["sort", "value"] ["sort", "value"] (defScope s__law_is_value) := ⟨rfl, rfl, rfl, by decide +kernel, rfl, by decide +kernel, by decide +kernel⟩
theorem pb__law_is_value : PosB "_law_is_value" s__law_is_value ["sort", "value"] := fun _ _ _ _ _ _ us hl => match us, hl with | [_, _], _ => rfl
/-! ### what is meant -/
def wh (d : PyData) : Bool := isInt d && !isBool d
def inR (d : PyData) (lo hi : Int) : Bool := match d with
  | .int i => decide (lo ≤ i) && decide (i ≤ hi)
  | _ => false
def lenIs (d : PyData) (n : Int) : Bool := match d with
  | .tuple ds => decide ((ds.length : Int) = n)
  | _ => false
def isS : PyData → Bool
  | .tuple [.str z] => decide (z = "none") || decide (z = "truth")
  | .tuple [.str z, .int a, .int b] => decide (z = "integer") && ((decide (-1000 ≤ a) && decide (a ≤ 1000)) && (decide (a ≤ b) && decide (b ≤ 1000)))
  | _ => false
theorem wh_int {d : PyData} (h : wh d = true) : ∃ i, d = .int i := by
  cases d with
  | int i => exact ⟨i, rfl⟩
  | _ => cases h
theorem wh_not {d : PyData} (h : wh d = false) (lo hi : Int) : inR d lo hi = false := by
  cases d with
  | int i => cases h
  | _ => rfl
/-! ### the top -/
structure Txt2 (K : PySem.W.Frag) (mg : Str → Option Value) (na ta : Addr) : Prop extends Txt K mg where
  g_LOW : ∃ u, mg "LOW" = some u ∧ RelV (.int (-1000)) u
  g_HIGH : ∃ u, mg "HIGH" = some u ∧ RelV (.int 1000) u
  g_INTEGER : ∃ u, mg "INTEGER" = some u ∧ RelV (.str "integer") u
  g_NONE : ∃ u, mg "NONE" = some u ∧ RelV (.ref na) u
  g_TRUTH : ∃ u, mg "TRUTH" = some u ∧ RelV (.ref ta) u
  noneT : SqT K (fun _ => none) na [.str "none"]
  truthT : SqT K (fun _ => none) ta [.str "truth"]
section
variable {P : Program} {w : World} {K : PySem.W.Frag} {mg : Str → Option Value} {base : Heap} {na ta : Addr}
theorem ex_nil {G : Hp} : Ex (fun _ => none) G := fun _ _ h => by cases h
theorem vl_none (T : Txt2 K mg na ta) {G : Hp} : Vl K G (.ref na) (.tuple [.str "none"]) := .inl (.tup (ex_t ex_nil T.noneT) (.cons (.str _) .nil))
theorem vl_truth (T : Txt2 K mg na ta) {G : Hp} : Vl K G (.ref ta) (.tuple [.str "truth"]) := .inl (.tup (ex_t ex_nil T.truthT) (.cons (.str _) .nil))
def cV1 (K : PySem.W.Frag) (f : PyData → Bool) (o : Option Addr) (G : Hp) (vs : List V) (t : T) : Prop := o = none ∧ ∃ x d, vs = [x] ∧ Vl K G x d ∧ t = tIs (.bl (f d))
/-- .. of data that may be compared -/
def cS1 (K : PySem.W.Frag) (f : PyData → Bool) (o : Option Addr) (G : Hp) (vs : List V) (t : T) : Prop := o = none ∧ ∃ x d, vs = [x] ∧ (Vl K G x d ∧ shD d = true) ∧ t = tIs (.bl (f d))
theorem ev_callS1 {f : PyData → Bool} {o : Option Addr} {σ : L2.St} {G : Hp} {te : TE} {E : XK} {d : PyData} (hs : shD d = true) (h : Ev o te σ G (tV K d)) : Ev o (tCall (spC (cS1 K f)) [] E (tCons te tNil)) σ G (tIs (.bl (f d))) :=
  ev_call (ea_cons h ea_nil) fun G' vs e al => by
    cases al with
    | cons a1 al =>
      cases al
      exact ⟨none, _, .inr rfl, ⟨rfl, _, d, rfl, ⟨a1.now, hs⟩, rfl⟩, fun _ _ _ w => w⟩
theorem ev_callV1 {f : PyData → Bool} {o : Option Addr} {σ : L2.St} {G : Hp} {te : TE} {E : XK} {d : PyData} (h : Ev o te σ G (tV K d)) : Ev o (tCall (spC (cV1 K f)) [] E (tCons te tNil)) σ G (tIs (.bl (f d))) :=
  ev_call (ea_cons h ea_nil) fun G' vs e al => by
    cases al with
    | cons a1 al =>
      cases al
      exact ⟨none, _, .inr rfl, ⟨rfl, _, d, rfl, a1.now, rfl⟩, fun _ _ _ w => w⟩
def cV3 (K : PySem.W.Frag) (o : Option Addr) (G : Hp) (vs : List V) (t : T) : Prop := o = none ∧ ∃ x d lo hi, vs = [x, .int lo, .int hi] ∧ Vl K G x d ∧ t = tIs (.bl (inR d lo hi))
theorem ev_callV3 {o : Option Addr} {σ : L2.St} {G : Hp} {te tl th : TE} {E : XK} {d : PyData} {lo hi : Int} (h : Ev o te σ G (tV K d)) (hl : Ev o tl σ G (tIs (.int lo))) (hh : Ev o th σ G (tIs (.int hi))) :
    Ev o (tCall (spC (cV3 K)) [] E (tCons te (tCons tl (tCons th tNil)))) σ G (tIs (.bl (inR d lo hi))) :=
  ev_call (ea_cons h (ea_cons hl (ea_cons hh ea_nil))) fun G' vs e al => by
    cases al with
    | cons a1 al => cases al with
      | cons a2 al => cases al with
        | cons a3 al =>
          cases al
          rw [a2.eq, a3.eq]
          exact ⟨none, _, .inr rfl, ⟨rfl, _, d, lo, hi, rfl, a1.now, rfl⟩, fun _ _ _ w => w⟩
def cV2 (K : PySem.W.Frag) (o : Option Addr) (G : Hp) (vs : List V) (t : T) : Prop := o = none ∧ ∃ x d n, vs = [x, .int n] ∧ Vl K G x d ∧ t = tIs (.bl (lenIs d n))
theorem ev_callV2 {o : Option Addr} {σ : L2.St} {G : Hp} {te tl : TE} {E : XK} {d : PyData} {n : Int} (h : Ev o te σ G (tV K d)) (hl : Ev o tl σ G (tIs (.int n))) :
    Ev o (tCall (spC (cV2 K)) [] E (tCons te (tCons tl tNil))) σ G (tIs (.bl (lenIs d n))) :=
  ev_call (ea_cons h (ea_cons hl ea_nil)) fun G' vs e al => by
    cases al with
    | cons a1 al => cases al with
      | cons a2 al =>
        cases al
        rw [a2.eq]
        exact ⟨none, _, .inr rfl, ⟨rfl, _, d, n, rfl, a1.now, rfl⟩, fun _ _ _ w => w⟩
theorem ok_integer (T : Txt2 K mg na ta) (d : Df K mg "is_integer" s_is_integer) : Own P w K mg base CX0 1 "is_integer" s_is_integer ["value"] (spC (cV1 K wh)) :=
  d.own fun f fd F => F.ok sc_is_integer (fun vs H Q E h => by obtain ⟨o, G, t, kn, ⟨_, x, d, rfl, _⟩, _⟩ := h; rfl) (fun cdv A outer s H vs Q E hr h => by
    obtain ⟨o, G, t, kn, ⟨rfl, x, d, rfl, hv, rfl⟩, k⟩ := h
    refine ⟨_, (pss_one (ps_ret (pe_and (pe_callB (kIsi (K := K) rfl) (by rfl) T.n_isinstance (by decide +kernel) (pa_cons (pv 0) (pa_cons (pe_bltn (v := .ty "int") (by rfl) T.n_int (by decide +kernel) rfl) pa_nil))) (pe_one (pe_not (pe_callB (kIsi (K := K) rfl) (by rfl) T.n_isinstance (by decide +kernel) (pa_cons (pv 0) (pa_cons (pe_bltn (v := .ty "bool") (by rfl) T.n_bool (by decide +kernel) rfl) pa_nil)))))))), ?_⟩
    exact s_ret (Go.refl kn) (ev_and (ev_isiV (ev_v rfl hv) ki_int) fun _ => ev_not (ev_isiV (ev_v rfl hv) ki_bool)) k)
theorem ok_whole (T : Txt2 K mg na ta) (d : Df K mg "_law_whole" s__law_whole) : Own P w K mg base CX0 1 "_law_whole" s__law_whole ["value"] (spC (cV1 K wh)) :=
  d.own fun f fd F => F.ok sc__law_whole (fun vs H Q E h => by obtain ⟨o, G, t, kn, ⟨_, x, d, rfl, _⟩, _⟩ := h; rfl) (fun cdv A outer s H vs Q E hr h => by
    obtain ⟨o, G, t, kn, ⟨rfl, x, d, rfl, hv, rfl⟩, k⟩ := h
    refine ⟨_, (pss_one (ps_ret (pe_and (pe_callB (kIsi (K := K) rfl) (by rfl) T.n_isinstance (by decide +kernel) (pa_cons (pv 0) (pa_cons (pe_bltn (v := .ty "int") (by rfl) T.n_int (by decide +kernel) rfl) pa_nil))) (pe_one (pe_not (pe_callB (kIsi (K := K) rfl) (by rfl) T.n_isinstance (by decide +kernel) (pa_cons (pv 0) (pa_cons (pe_bltn (v := .ty "bool") (by rfl) T.n_bool (by decide +kernel) rfl) pa_nil)))))))), ?_⟩
    exact s_ret (Go.refl kn) (ev_and (ev_isiV (ev_v rfl hv) ki_int) fun _ => ev_not (ev_isiV (ev_v rfl hv) ki_bool)) k)
theorem ok_truth (T : Txt2 K mg na ta) (d : Df K mg "is_truth" s_is_truth) : Own P w K mg base CX0 1 "is_truth" s_is_truth ["value"] (spC (cV1 K isBool)) :=
  d.own fun f fd F => F.ok sc_is_truth (fun vs H Q E h => by obtain ⟨o, G, t, kn, ⟨_, x, d, rfl, _⟩, _⟩ := h; rfl) (fun cdv A outer s H vs Q E hr h => by
    obtain ⟨o, G, t, kn, ⟨rfl, x, d, rfl, hv, rfl⟩, k⟩ := h
    refine ⟨_, (pss_one (ps_ret (pe_callB (kIsi (K := K) rfl) (by rfl) T.n_isinstance (by decide +kernel) (pa_cons (pv 0) (pa_cons (pe_bltn (v := .ty "bool") (by rfl) T.n_bool (by decide +kernel) rfl) pa_nil))))), ?_⟩
    exact s_ret (Go.refl kn) (ev_isiV (ev_v rfl hv) ki_bool) k)
theorem ok_within (T : Txt2 K mg na ta) (d : Df K mg "is_within" s_is_within) (G_is_integer : Own P w K mg base CX0 1 "is_integer" s_is_integer ["value"] (spC (cV1 K wh))) : Own P w K mg base CX0 2 "is_within" s_is_within ["value", "low", "high"] (spC (cV3 K)) :=
  d.own fun f fd F => F.ok sc_is_within (fun vs H Q E h => by obtain ⟨o, G, t, kn, ⟨_, x, d, lo, hi, rfl, _⟩, _⟩ := h; rfl) (fun cdv A outer s H vs Q E hr h => by
    obtain ⟨o, G, t, kn, ⟨rfl, x, d, lo, hi, rfl, hv, rfl⟩, k⟩ := h
    refine ⟨_, (pss_one (ps_ret (pe_and (pe_own G_is_integer pb_is_integer (hr.mono (by first | decide | exact Nat.le_refl _)) rfl pass0 (pa_cons (pv 0) pa_nil)) (pe_one (pe_chain op_le op_le (pv 1) (pv 0) (pv 2)))))), ?_⟩
    have c := ev_callV1 (o := none) (G := G) (σ := start ["value", "low", "high"] [x, .int lo, .int hi]) (f := wh) (E := E0) (ev_v (i := 0) rfl hv)
    cases e : wh d with
    | false =>
      rw [e] at c
      rw [wh_not e] at k
      exact s_ret (Go.refl kn) (ev_and (b := true) c fun z => nomatch z) k
    | true =>
      rw [e] at c
      obtain ⟨i, rfl⟩ := wh_int e
      exact s_ret (Go.refl kn) (ev_and c fun _ => ev_chain2 (f := fun i j => decide (i ≤ j)) (f' := fun i j => decide (i ≤ j)) (ev_x rfl) (ev_v rfl hv).isInt (ev_x rfl)) k)
theorem ok_tuple (T : Txt2 K mg na ta) (d : Df K mg "is_tuple" s_is_tuple) : Own P w K mg base CX0 1 "is_tuple" s_is_tuple ["value", "size"] (spC (cV2 K)) :=
  d.own fun f fd F => F.ok sc_is_tuple (fun vs H Q E h => by obtain ⟨o, G, t, kn, ⟨_, x, d, n, rfl, _⟩, _⟩ := h; rfl) (fun cdv A outer s H vs Q E hr h => by
    obtain ⟨o, G, t, kn, ⟨rfl, x, d, n, rfl, hv, rfl⟩, k⟩ := h
    refine ⟨_, (pss_one (ps_ret (pe_and (pe_callB (kIsi (K := K) rfl) (by rfl) T.n_isinstance (by decide +kernel) (pa_cons (pv 0) (pa_cons (pe_bltn (v := .ty "tuple") (by rfl) T.n_tuple (by decide +kernel) rfl) pa_nil))) (pe_one (pe_cmpR (kEq (K := K) rfl hr.units) (pe_callB (kLen (K := K) rfl) (by rfl) T.n_len (by decide +kernel) (pa_cons (pv 0) pa_nil)) (pv 1) (nomark _)))))), ?_⟩
    cases e : isTup d with
    | true =>
      cases d with
      | tuple ds => exact s_ret (Go.refl kn) (ev_and (ev_isiV (ev_v rfl hv) ki_tup) fun _ => ev_op2 (ev_lenT (ev_v rfl hv)) (ev_x rfl) (ro_eqS rfl (by simp))) k
      | _ => cases e
    | false =>
      have e2 : lenIs d n = false := by
        cases d with
        | tuple ds => cases e
        | _ => rfl
      rw [e2] at k
      have c := ev_isiV (o := none) (G := G) (σ := start ["value", "size"] [x, .int n]) (ev_v (i := 0) rfl hv) ki_tup
      rw [e] at c
      exact s_ret (Go.refl kn) (ev_and (b := true) c fun z => nomatch z) k)
end
end K12
set_option Elab.async false
set_option linter.all false
set_option maxRecDepth 100000
set_option maxHeartbeats 4000000
namespace K12
open PySem L2 Ty
open Evl (Ex ex_l ex_t)
-- OV is_sort: {"op:value in (NONE, TRUTH):0": "(kInTD (K := K) rfl (u65 hr))"}
theorem len1 {d : PyData} (h : lenIs d 1 = true) : ∃ a, d = .tuple [a] := by
  cases d with
  | tuple ds =>
    have h' := of_decide_eq_true h
    match ds, h' with
    | [a], _ => exact ⟨a, rfl⟩
    | [], h' => cases h'
    | _ :: _ :: _, h' => simp only [List.length_cons] at h'; omega
  | _ => cases h
theorem len3 {d : PyData} (h : lenIs d 3 = true) : ∃ a b c, d = .tuple [a, b, c] := by
  cases d with
  | tuple ds =>
    have h' := of_decide_eq_true h
    match ds, h' with
    | [a, b, c], _ => exact ⟨a, b, c, rfl⟩
    | [], h' => cases h'
    | [_], h' => cases h'
    | [_, _], h' => cases h'
    | _ :: _ :: _ :: _ :: _, h' => simp only [List.length_cons] at h'; omega
  | _ => cases h
theorem isS_no {d : PyData} (h1 : lenIs d 1 = false) (h3 : lenIs d 3 = false) : isS d = false := by
  unfold isS
  split
  · cases h1
  · cases h3
  · rfl
theorem isS1 {a : PyData} (h : isStr a = false) : isS (.tuple [a]) = false := by
  cases a with
  | str z => cases h
  | _ => rfl
def in3 (a b : PyData) : Bool := match a with
  | .int i => inR b i 1000
  | _ => false
theorem isS3 {z : Str} {a b : PyData} : isS (.tuple [.str z, a, b]) = (decide (z = "integer") && (inR a (-1000) 1000 && in3 a b)) := by
  cases a with
  | int i =>
    cases b with
    | int j => rfl
    | _ =>
      show false = (decide (z = "integer") && (inR (.int i) (-1000) 1000 && false))
      simp
  | _ =>
    show false = (decide (z = "integer") && (false && _))
    simp
theorem isS3n {a b c : PyData} (h : isStr a = false) : isS (.tuple [a, b, c]) = false := by
  cases a with
  | str z => cases h
  | _ => rfl
theorem str_of {a : PyData} (h : isStr a = true) : ∃ z, a = .str z := by
  cases a with
  | str z => exact ⟨z, rfl⟩
  | _ => cases h
theorem eqv1 {a z : Str} : PyData.eqv (.tuple [.str a]) (.tuple [.str z]) = decide (z = a) := by
  simp only [PyData.eqv, PyData.eqvAll, Bool.and_true]
  by_cases h : z = a
  · rw [h]; simp
  · rw [decide_eq_false h]
    exact beq_eq_false_iff_ne.mpr fun e => h e.symm
theorem shN : SeqAt.shaped (.tuple [.str "none"]) = true := by decide +kernel
theorem shT : SeqAt.shaped (.tuple [.str "truth"]) = true := by decide +kernel
theorem shNT : SeqAt.shaped (.tuple [.tuple [.str "none"], .tuple [.str "truth"]]) = true := by decide +kernel
section
variable {P : Program} {w : World} {K : PySem.W.Frag} {mg : Str → Option Value} {base : Heap} {na ta : Addr}
theorem vSt {z : Str} : V.str z = V.str "integer" ↔ z = "integer" := ⟨fun e => by cases e; rfl, fun e => by rw [e]⟩
theorem ok_sort (T : Txt2 K mg na ta) (d : Df K mg "is_sort" s_is_sort) (G_is_tuple : Own P w K mg base CX0 1 "is_tuple" s_is_tuple ["value", "size"] (spC (cV2 K))) (G_is_within : Own P w K mg base CX0 2 "is_within" s_is_within ["value", "low", "high"] (spC (cV3 K))) :
    Own P w K mg base CX0 3 "is_sort" s_is_sort ["value"] (spC (cS1 K isS)) :=
  d.own fun f fd F => F.ok sc_is_sort (fun vs H Q E h => by obtain ⟨o, G, t, kn, ⟨_, x, d, rfl, _⟩, _⟩ := h; rfl) (fun cdv A outer s H vs Q E hr h => by
    obtain ⟨o, G, t, kn, ⟨rfl, x, d, rfl, ⟨hv, hsh⟩, rfl⟩, k⟩ := h
    refine ⟨_, (pss_cons (ps_if (pt_val (pe_own G_is_tuple pb_is_tuple (hr.mono (by first | decide | exact Nat.le_refl _)) rfl pass0 (pa_cons (pv 0) (pa_cons pe_int pa_nil)))) (pss_one (ps_ret (pe_and (pe_callB (kIsi (K := K) rfl) (by rfl) T.n_isinstance (by decide +kernel) (pa_cons (pe_ix (kIx (K := K) rfl) (pv 0) pe_int (fun _ _ => rfl)) (pa_cons (pe_bltn (v := .ty "str") (by rfl) T.n_str (by decide +kernel) rfl) pa_nil))) (pe_one (pe_cmpR (kInTD (K := K) rfl (u65 hr)) (pv 0) (pe_tup (pa_cons (pe_globE rfl T.g_NONE) (pa_cons (pe_globE rfl T.g_TRUTH) pa_nil))) (by rfl)))))) pss_nil)
   (pss_cons (ps_if (PW.pt (pw_or (pt_not (pt_val (pe_own G_is_tuple pb_is_tuple (hr.mono (by first | decide | exact Nat.le_refl _)) rfl pass0 (pa_cons (pv 0) (pa_cons pe_int pa_nil))))) (pw_or (pt_not (pt_val (pe_callB (kIsi (K := K) rfl) (by rfl) T.n_isinstance (by decide +kernel) (pa_cons (pe_ix (kIx (K := K) rfl) (pv 0) pe_int (fun _ _ => rfl)) (pa_cons (pe_bltn (v := .ty "str") (by rfl) T.n_str (by decide +kernel) rfl) pa_nil))))) (pw_or1 (pt_cmpR (kNe (K := K) rfl hr.units) (pe_ix (kIx (K := K) rfl) (pv 0) pe_int (fun _ _ => rfl)) (pe_globE rfl T.g_INTEGER) (nomark _)))))) (pss_one (ps_ret pe_bl)) pss_nil)
   (pss_one (ps_ret (pe_and (pe_own G_is_within pb_is_within (hr.mono (by first | decide | exact Nat.le_refl _)) rfl pass0 (pa_cons (pe_ix (kIx (K := K) rfl) (pv 0) pe_int (fun _ _ => rfl)) (pa_cons (pe_globE rfl T.g_LOW) (pa_cons (pe_globE rfl T.g_HIGH) pa_nil)))) (pe_one (pe_own G_is_within pb_is_within (hr.mono (by first | decide | exact Nat.le_refl _)) rfl pass0 (pa_cons (pe_ix (kIx (K := K) rfl) (pv 0) pe_int (fun _ _ => rfl)) (pa_cons (pe_ix (kIx (K := K) rfl) (pv 0) pe_int (fun _ _ => rfl)) (pa_cons (pe_globE rfl T.g_HIGH) pa_nil)))))))))), ?_⟩
    have vx : ∀ {G'}, Ex G G' → Ev none (tVar 0) (start ["value"] [x]) G' (tV K d) := fun e => ev_v rfl (hv.up e)
    refine q_when (Go.refl kn) (et_b (ev_callV2 (vx (Ex.refl _)) ev_k)) (fun h1 G2 H2 g2 _ => ?_) fun h1 G2 H2 g2 _ => ?_
    · obtain ⟨a, rfl⟩ := len1 h1.symm
      cases e : isStr a with
      | false =>
        rw [isS1 e] at k
        exact s_ret g2 (ev_and (a := false) (b := true) (ev_isiV (ev_ixT (vx g2.gg) ev_k rfl) (by rw [ki_str, e])) fun z => nomatch z) k
      | true =>
        obtain ⟨z, rfl⟩ := str_of e
        refine s_ret g2 (ev_and (a := true) (b := decide (z = "none") || decide (z = "truth")) (ev_isiV (ev_ixT (vx g2.gg) ev_k rfl) ki_str) fun _ => ?_) k
        refine ev_inTV (ds := [.tuple [.str "none"], .tuple [.str "truth"]]) (vx g2.gg) (ev_tupV (ds := [.tuple [.str "none"], .tuple [.str "truth"]]) (ea_cons (ev_c (vl_none T).toU) (ea_cons (ev_c (vl_truth T).toU) ea_nil)) (fun d' h' => ?_) (by decide)) hsh shNT ?_
        · rcases List.mem_cons.mp h' with rfl | h'
          · exact shN
          · rw [List.mem_singleton.mp h']; exact shT
        · rw [List.any_cons, List.any_cons, List.any_nil, eqv1, eqv1, Bool.or_false]
    · have h1' := h1.symm
      cases h3 : lenIs d 3 with
      | false =>
        rw [isS_no h1' h3] at k
        have c3 := ev_callV2 (E := E0) (vx g2.gg) (ev_k (v := .int 3))
        rw [h3] at c3
        exact q_when g2 (p := (· = (!false || true))) (et_or (et_not (et_b c3)) fun z => nomatch z) (fun _ G3 H3 g3 _ => s_ret g3 ev_k k) fun z => nomatch z
      | true =>
        have c3 := ev_callV2 (E := E0) (vx g2.gg) (ev_k (v := .int 3))
        rw [h3] at c3
        obtain ⟨a, b, c, rfl⟩ := len3 h3
        cases e : isStr a with
        | false =>
          rw [isS3n e] at k
          exact q_when g2 (p := (· = (!true || (!false || true)))) (et_or (et_not (et_b c3)) fun _ => et_or (et_not (et_b (ev_isiV (ev_ixT (vx g2.gg) ev_k rfl) (by rw [ki_str, e])))) fun z => nomatch z) (fun _ G3 H3 g3 _ => s_ret g3 ev_k k) fun z => nomatch z
        | true =>
          obtain ⟨z, rfl⟩ := str_of e
          rw [isS3] at k
          refine q_when g2 (p := (· = (!true || (!true || !decide (z = "integer"))))) (et_or (et_not (et_b c3)) fun _ => et_or (et_not (et_b (ev_isiV (ev_ixT (vx g2.gg) ev_k rfl) ki_str))) fun _ => et_test (ev_op2 (ev_ixT (vx g2.gg) ev_k rfl).isStr ev_k (ro_neS rfl (by simp only [vSt])))) (fun hb G3 H3 g3 _ => ?_) fun hb G3 H3 g3 _ => ?_
          · have hz : decide (z = "integer") = false := by
              have hb' : true = (false || (false || !decide (z = "integer"))) := hb
              revert hb'
              cases decide (z = "integer") <;> decide
            rw [hz] at k
            exact s_ret g3 ev_k k
          · have hz : decide (z = "integer") = true := by
              have hb' : false = (false || (false || !decide (z = "integer"))) := hb
              revert hb'
              cases decide (z = "integer") <;> decide
            rw [hz] at k
            refine s_ret g3 (ev_and (ev_callV3 (ev_ixT (vx g3.gg) ev_k rfl) ev_k ev_k) fun hi => ?_) k
            cases b with
            | int i => exact ev_callV3 (ev_ixT (vx g3.gg) ev_k rfl) (ev_ixT (vx g3.gg) ev_k rfl).isInt ev_k
            | _ => cases hi)
end
end K12
set_option Elab.async false
set_option linter.all false
set_option maxRecDepth 100000
set_option maxHeartbeats 4000000
namespace K12
open PySem L2 Ty
open Evl (Ex ex_l ex_t)
/-! ### what is meant -/
def keep (i : Int) : Int := (i - (-1000)) % (1000 - (-1000) + 1) + (-1000)
/-- the kinds of sorts -/
inductive SK
  | none | truth | int (a b : Int)
def SK.d : SK → PyData
  | .none => .tuple [.str "none"]
  | .truth => .tuple [.str "truth"]
  | .int a b => .tuple [.str "integer", .int a, .int b]
def SK.ok : SK → Prop
  | .int a b => -1000 ≤ a ∧ a ≤ b ∧ b ≤ 1000
  | _ => True
theorem sk_of {d : PyData} (h : isS d = true) : ∃ s : SK, d = s.d ∧ s.ok := by
  unfold isS at h
  split at h
  · rename_i z
    rcases Bool.or_eq_true_iff.mp h with h | h
    · exact ⟨.none, by rw [of_decide_eq_true h]; rfl, trivial⟩
    · exact ⟨.truth, by rw [of_decide_eq_true h]; rfl, trivial⟩
  · rename_i z a b
    simp only [Bool.and_eq_true, decide_eq_true_eq] at h
    obtain ⟨hz, ⟨h1, h2⟩, h3, h4⟩ := h
    exact ⟨.int a b, by rw [hz]; rfl, h1, h3, h4⟩
  · cases h
def SK.has : SK → PyData → Bool
  | .none, v => isNon v
  | .truth, v => isBool v
  | .int a b, v => inR v a b
def SK.isI : SK → Bool
  | .int _ _ => true
  | _ => false
/-- whether a value may be fitted; what is told for it -/
def SK.may : SK → PyData → Bool
  | .int _ _, v => inR v (-1000) 1000
  | s, v => s.has v
def SK.fit : SK → PyData → PyData
  | .int a b, .int i => .int (a + (i - a) % (b - a + 1))
  | _, v => v
section
variable {P : Program} {w : World} {K : PySem.W.Frag} {mg : Str → Option Value} {base : Heap} {na ta CS CN CV D : Addr}
def Er1 (b : Bool) (C : Addr) (x : V) : Er := fun c g => b = false ∧ c = .ref C ∧ g = x
def cCheck (K : PySem.W.Frag) (CS : Addr) (o : Option Addr) (G : Hp) (vs : List V) (t : T) (B : Er) : Prop := o = none ∧ ∃ x d, vs = [x] ∧ (Vl K G x d ∧ shD d = true) ∧ t = (fun _ v => isS d = true ∧ v = .non) ∧ B = Er1 (isS d) CS x
theorem ok_check (T : Txt2 K mg na ta) (d : Df K mg "check_sort" s_check_sort) (E_InvalidSort : OwnE P w K mg base 1 "InvalidSort" CS D) (G_is_sort : Own P w K mg base CX0 3 "is_sort" s_is_sort ["value"] (spC (cS1 K isS))) :
    Own P w K mg base (CXo P w) 4 "check_sort" s_check_sort ["sort"] (spR (cCheck K CS)) :=
  d.own fun f fd F => F.okX sc_check_sort (fun vs H Q E h => by obtain ⟨o, G, t, B, kn, ⟨_, x, d, rfl, _⟩, _⟩ := h; rfl) (fun cdv A outer s H vs Q E hr h => by
    obtain ⟨o, G, t, B, kn, ⟨rfl, x, d, rfl, ⟨hv, hsh⟩, rfl, rfl⟩, k, kE⟩ := h
    refine ⟨_, (pss_one (ps_if (pt_not (pt_val (pe_own G_is_sort pb_is_sort (hr.mono (by first | decide | exact Nat.le_refl _)) rfl pass0 (pa_cons (pv 0) pa_nil)))) (pss_one (ps_raiseE E_InvalidSort rfl (takes_of rfl rfl rfl rfl) (hr.mono (by first | decide | exact Nat.le_refl _)) rfl (pv 0))) pss_nil)), ?_⟩
    refine s_when (Go.refl kn) (et_not (et_b (ev_callS1 hsh (ev_v rfl hv)))) (fun hb G2 H2 g2 _ => ?_) fun hb G2 H2 g2 _ => ?_
    · have hf : isS d = false := by
        have hb' : true = !isS d := hb
        revert hb'
        cases isS d <;> decide
      exact s_raise g2 E_InvalidSort.sup (ev_x rfl) fun dd G3 H3 g3 _ e => kE _ dd x G3 H3 g3 e ⟨hf, rfl, rfl⟩
    · have hf : isS d = true := by
        have hb' : false = !isS d := hb
        revert hb'
        cases isS d <;> decide
      exact k .non G2 H2 g2 fun _ _ => ⟨hf, rfl⟩)
def cVO (K : PySem.W.Frag) (o : Option Addr) (G : Hp) (vs : List V) (t : T) : Prop := o = none ∧ ∃ x y v, ∃ s : SK, vs = [x, y] ∧ (Vl K G x s.d ∧ s.ok) ∧ Vl K G y v ∧ t = tIs (.bl (s.has v))
theorem sh3 {a b : Int} : SeqAt.shaped (.tuple [.str "integer", .int a, .int b]) = true := by
  have h : PyData.strOk ("integer" : Str) = true := by decide +kernel
  simp [SeqAt.shaped, PyData.canLay0, PyData.canLayAll0, PyData.depth, PyData.depthAll, h]
theorem sk_sh (s : SK) : SeqAt.shaped s.d = true := by
  cases s with
  | none => exact shN
  | truth => exact shT
  | int a b => exact sh3
theorem eqN (s : SK) : PyData.eqv s.d (.tuple [.str "none"]) = (match s with | .none => true | _ => false) := by
  cases s with
  | none => decide +kernel
  | truth => decide +kernel
  | int a b => simp [SK.d, PyData.eqv, PyData.eqvAll]
theorem eqT (s : SK) : PyData.eqv s.d (.tuple [.str "truth"]) = (match s with | .truth => true | _ => false) := by
  cases s with
  | none => decide +kernel
  | truth => decide +kernel
  | int a b => simp [SK.d, PyData.eqv, PyData.eqvAll]
theorem ok_value_of (T : Txt2 K mg na ta) (d : Df K mg "is_value_of" s_is_value_of) (G_is_truth : Own P w K mg base CX0 1 "is_truth" s_is_truth ["value"] (spC (cV1 K isBool))) (G_is_within : Own P w K mg base CX0 2 "is_within" s_is_within ["value", "low", "high"] (spC (cV3 K))) :
    Own P w K mg base CX0 3 "is_value_of" s_is_value_of ["sort", "value"] (spC (cVO K)) :=
  d.own fun f fd F => F.ok sc_is_value_of (fun vs H Q E h => by obtain ⟨o, G, t, kn, ⟨_, x, y, v, s, rfl, _⟩, _⟩ := h; rfl) (fun cdv A outer s H vs Q E hr h => by
    obtain ⟨o, G, t, kn, ⟨rfl, x, y, v, s, rfl, ⟨hs, hok⟩, hv, rfl⟩, k⟩ := h
    refine ⟨_, (pss_cons (ps_if (pt_cmpR (kEq (K := K) rfl hr.units) (pv 0) (pe_globE rfl T.g_NONE) (nomark _)) (pss_one (ps_ret (pe_cmpR op_isN (pv 1) pe_non (nomark _)))) pss_nil)
   (pss_one (ps_ret (pe_ifExp (pt_cmpR (kEq (K := K) rfl hr.units) (pv 0) (pe_globE rfl T.g_TRUTH) (nomark _)) (pe_own G_is_truth pb_is_truth (hr.mono (by first | decide | exact Nat.le_refl _)) rfl pass0 (pa_cons (pv 1) pa_nil)) (pe_own G_is_within pb_is_within (hr.mono (by first | decide | exact Nat.le_refl _)) rfl pass0 (pa_cons (pv 1) (pa_cons (pe_ix (kIx (K := K) rfl) (pv 0) pe_int (fun _ _ => rfl)) (pa_cons (pe_ix (kIx (K := K) rfl) (pv 0) pe_int (fun _ _ => rfl)) pa_nil)))))))), ?_⟩
    have vs : ∀ {G'}, Ex G G' → Ev none (tVar 0) (start ["sort", "value"] [x, y]) G' (tV K s.d) := fun e => ev_v rfl (hs.up e)
    have vv : ∀ {G'}, Ex G G' → Ev none (tVar 1) (start ["sort", "value"] [x, y]) G' (tV K v) := fun e => ev_v rfl (hv.up e)
    refine q_when (Go.refl kn) (et_test (ev_eqV (vs (Ex.refl _)) (ev_c (vl_none T).toU) (sk_sh s) shN (eqN s))) (fun h1 G2 H2 g2 _ => ?_) fun h1 G2 H2 g2 _ => ?_
    · cases s with
      | none => exact s_ret g2 (ev_isNV (vv g2.gg)) k
      | _ => cases h1
    · refine s_ret g2 (ev_if (et_test (ev_eqV (vs g2.gg) (ev_c (vl_truth T).toU) (sk_sh s) shT (eqT s))) (fun h2 => ?_) fun h2 => ?_) k
      · cases s with
        | truth => exact ev_callV1 (vv g2.gg)
        | _ => cases h2
      · cases s with
        | int a b => exact ev_callV3 (vv g2.gg) (ev_ixT (vs g2.gg) ev_k rfl).isInt (ev_ixT (vs g2.gg) ev_k rfl).isInt
        | none => cases h1
        | truth => cases h2)
theorem ev_callVO {o : Option Addr} {σ : L2.St} {G : Hp} {te tl : TE} {E : XK} {v : PyData} {s : SK} (hok : s.ok) (h : Ev o te σ G (tV K s.d)) (hl : Ev o tl σ G (tV K v)) :
    Ev o (tCall (spC (cVO K)) [] E (tCons te (tCons tl tNil))) σ G (tIs (.bl (s.has v))) :=
  ev_call (ea_cons h (ea_cons hl ea_nil)) fun G' vs e al => by
    cases al with
    | cons a1 al => cases al with
      | cons a2 al =>
        cases al
        exact ⟨none, _, .inr rfl, ⟨rfl, _, _, v, s, rfl, ⟨a1.now, hok⟩, a2.now, rfl⟩, fun _ _ _ w => w⟩
theorem calls_check {o : Option Addr} {G : Hp} {x : V} {d : PyData} (hv : Vl K G x d) (hsh : shD d = true) : CallsR (cCheck K CS) o G [tIs x] (fun _ v => isS d = true ∧ v = .non) (Er1 (isS d) CS x) id := fun G' vs e al => by
  cases al with
  | cons a1 al =>
    cases al
    rw [a1.eq]
    exact ⟨none, _, _, .inr rfl, ⟨rfl, x, d, rfl, ⟨hv.up e, hsh⟩, rfl, rfl⟩, fun _ _ _ w => w, fun _ _ h => h⟩
def cIsValue (K : PySem.W.Frag) (CS : Addr) (o : Option Addr) (G : Hp) (vs : List V) (t : T) (B : Er) : Prop := o = none ∧ ∃ x y d v, vs = [x, y] ∧ (Vl K G x d ∧ shD d = true) ∧ Vl K G y v ∧ t = (fun _ r => ∃ s : SK, d = s.d ∧ s.ok ∧ r = .bl (s.has v)) ∧ B = Er1 (isS d) CS x
theorem ok_is_value (T : Txt2 K mg na ta) (d : Df K mg "is_value" s_is_value) (G_check_sort : Own P w K mg base (CXo P w) 4 "check_sort" s_check_sort ["sort"] (spR (cCheck K CS))) (G_is_value_of : Own P w K mg base CX0 3 "is_value_of" s_is_value_of ["sort", "value"] (spC (cVO K))) :
    Own P w K mg base (CXo P w) 5 "is_value" s_is_value ["sort", "value"] (spR (cIsValue K CS)) :=
  d.own fun f fd F => F.okX sc_is_value (fun vs H Q E h => by obtain ⟨o, G, t, B, kn, ⟨_, x, y, d, v, rfl, _⟩, _⟩ := h; rfl) (fun cdv A outer s H vs Q E hr h => by
    obtain ⟨o, G, t, B, kn, ⟨rfl, x, y, d, v, rfl, ⟨hd, hsh⟩, hv, rfl, rfl⟩, k, kE⟩ := h
    refine ⟨_, (pss_cons (ps_expr (pe_ownW G_check_sort pb_check_sort (hr.mono (by first | decide | exact Nat.le_refl _)) rfl (takes_of rfl rfl rfl rfl) (pa_cons (pv 0) pa_nil)))
   (pss_one (ps_ret (pe_own G_is_value_of pb_is_value_of (hr.mono (by first | decide | exact Nat.le_refl _)) rfl pass0 (pa_cons (pv 0) (pa_cons (pv 1) pa_nil)))))), ?_⟩
    refine q_dropX (Go.refl kn) (ex_call (fun c dd g G2 H2 g2 e b => kE c dd g G2 H2 g2 e b) (ea_cons (ev_x rfl) ea_nil) (calls_check hd hsh)) fun r G2 H2 g2 _ w2 => ?_
    obtain ⟨s, rfl, hok⟩ := sk_of w2.now.1
    exact s_ret g2 (ev_callVO hok (ev_v rfl (hd.up g2.gg)) (ev_v rfl (hv.up g2.gg))) fun r G3 H3 g3 w3 => k r G3 H3 g3 fun _ _ => ⟨s, rfl, hok, w3.eq⟩)
/-! ### kept -/
def cKeep (K : PySem.W.Frag) (o : Option Addr) (G : Hp) (vs : List V) (t : T) : Prop := o = none ∧ ∃ i : Int, vs = [.int i] ∧ t = tIs (.int (keep i))
theorem ok_kept_in (T : Txt2 K mg na ta) (d : Df K mg "kept_in" s_kept_in) : Own P w K mg base CX0 1 "kept_in" s_kept_in ["number"] (spC (cKeep K)) :=
  d.own fun f fd F => F.ok sc_kept_in (fun vs H Q E h => by obtain ⟨o, G, t, kn, ⟨_, i, rfl, _⟩, _⟩ := h; rfl) (fun cdv A outer s H vs Q E hr h => by
    obtain ⟨o, G, t, kn, ⟨rfl, i, rfl, rfl⟩, k⟩ := h
    refine ⟨_, (pss_one (ps_ret (pe_op (kAdd (K := K) rfl) (pe_op op_mod (pe_op op_sub (pv 0) (pe_globE rfl T.g_LOW)) (pe_op (kAdd (K := K) rfl) (pe_op op_sub (pe_globE rfl T.g_HIGH) (pe_globE rfl T.g_LOW)) pe_int)) (pe_globE rfl T.g_LOW)))), ?_⟩
    exact s_ret (Go.refl kn) (ev_addI (ev_iC (C := fun _ j => 0 < j) (ev_i0 (ev_x rfl) ev_k) (ev_addI (ev_i0 ev_k ev_k) ev_k) (by decide)) ev_k) k)
def cKept (K : PySem.W.Frag) (CN : Addr) (o : Option Addr) (G : Hp) (vs : List V) (t : T) (B : Er) : Prop := o = none ∧ ∃ x d, vs = [x] ∧ Vl K G x d ∧ t = (fun _ r => ∃ i, d = .int i ∧ r = .int (keep i)) ∧ B = Er1 (wh d) CN x
theorem ok_kept (T : Txt2 K mg na ta) (d : Df K mg "kept" s_kept) (E_InvalidNumber : OwnE P w K mg base 1 "InvalidNumber" CN D) (G_is_integer : Own P w K mg base CX0 1 "is_integer" s_is_integer ["value"] (spC (cV1 K wh))) (G_kept_in : Own P w K mg base CX0 1 "kept_in" s_kept_in ["number"] (spC (cKeep K))) :
    Own P w K mg base (CXo P w) 3 "kept" s_kept ["number"] (spR (cKept K CN)) :=
  d.own fun f fd F => F.okX sc_kept (fun vs H Q E h => by obtain ⟨o, G, t, B, kn, ⟨_, x, d, rfl, _⟩, _⟩ := h; rfl) (fun cdv A outer s H vs Q E hr h => by
    obtain ⟨o, G, t, B, kn, ⟨rfl, x, d, rfl, hv, rfl, rfl⟩, k, kE⟩ := h
    refine ⟨_, (pss_cons (ps_if (pt_not (pt_val (pe_own G_is_integer pb_is_integer (hr.mono (by first | decide | exact Nat.le_refl _)) rfl pass0 (pa_cons (pv 0) pa_nil)))) (pss_one (ps_raiseE E_InvalidNumber rfl (takes_of rfl rfl rfl rfl) (hr.mono (by first | decide | exact Nat.le_refl _)) rfl (pv 0))) pss_nil)
   (pss_one (ps_ret (pe_own G_kept_in pb_kept_in (hr.mono (by first | decide | exact Nat.le_refl _)) rfl pass0 (pa_cons (pv 0) pa_nil))))), ?_⟩
    refine q_when (Go.refl kn) (et_not (et_b (ev_callV1 (ev_v rfl hv)))) (fun hb G2 H2 g2 _ => ?_) fun hb G2 H2 g2 _ => ?_
    · have hf : wh d = false := by
        have hb' : true = !wh d := hb
        revert hb'
        cases wh d <;> decide
      exact s_raise g2 E_InvalidNumber.sup (ev_x rfl) fun dd G3 H3 g3 _ e => kE _ dd x G3 H3 g3 e ⟨hf, rfl, rfl⟩
    · have hf : wh d = true := by
        have hb' : false = !wh d := hb
        revert hb'
        cases wh d <;> decide
      obtain ⟨i, rfl⟩ := wh_int hf
      refine s_ret g2 (ev_call (t := tIs (.int (keep i))) (ea_cons (ev_v rfl (hv.up g2.gg)).isInt ea_nil) fun G' vs e al => ?_) fun r G3 H3 g3 w3 => k r G3 H3 g3 fun _ _ => ⟨i, rfl, w3.eq⟩
      cases al with
      | cons a1 al =>
        cases al
        rw [a1.eq]
        exact ⟨none, _, .inr rfl, ⟨rfl, i, rfl, rfl⟩, fun _ _ _ w => w⟩)
/-! ### fitted -/
def cFI (K : PySem.W.Frag) (o : Option Addr) (G : Hp) (vs : List V) (t : T) : Prop := o = none ∧ ∃ x y v, ∃ s : SK, vs = [x, y] ∧ (Vl K G x s.d ∧ s.ok) ∧ (Vl K G y v ∧ s.may v = true) ∧ t = tV K (s.fit v)
theorem in_int {v : PyData} {lo hi : Int} (h : inR v lo hi = true) : ∃ i, v = .int i ∧ lo ≤ i ∧ i ≤ hi := by
  cases v with
  | int i =>
    obtain ⟨h1, h2⟩ := Bool.and_eq_true_iff.mp h
    exact ⟨i, rfl, of_decide_eq_true h1, of_decide_eq_true h2⟩
  | _ => cases h
theorem ix0I {s : SK} {o : Option Addr} {σ : L2.St} {G : Hp} {te : TE} (h : Ev o te σ G (tV K s.d)) : Ev o (tOp (rEqG K) (tOp (rIx K) te (tC (.int 0))) (tC (.str "integer"))) σ G (tIs (.bl s.isI)) := by
  cases s with
  | none => exact ev_op2 (ev_ixT (ds := [.str "none"]) (i := 0) h ev_k rfl).isStr ev_k (ro_eqS rfl (show _ = false by decide +kernel))
  | truth => exact ev_op2 (ev_ixT (ds := [.str "truth"]) (i := 0) h ev_k rfl).isStr ev_k (ro_eqS rfl (show _ = false by decide +kernel))
  | int a b => exact ev_op2 (ev_ixT (ds := [.str "integer", .int a, .int b]) (i := 0) h ev_k rfl).isStr ev_k (ro_eqS rfl (show _ = true by decide +kernel))
theorem ok_fitted_in (T : Txt2 K mg na ta) (d : Df K mg "fitted_in" s_fitted_in) : Own P w K mg base CX0 1 "fitted_in" s_fitted_in ["sort", "value"] (spC (cFI K)) :=
  d.own fun f fd F => F.ok sc_fitted_in (fun vs H Q E h => by obtain ⟨o, G, t, kn, ⟨_, x, y, v, s, rfl, _⟩, _⟩ := h; rfl) (fun cdv A outer s H vs Q E hr h => by
    obtain ⟨o, G, t, kn, ⟨rfl, x, y, v, s, rfl, ⟨hs, hok⟩, ⟨hv, hm⟩, rfl⟩, k⟩ := h
    refine ⟨_, (pss_one (ps_ret (pe_ifExp (pt_cmpR (kEq (K := K) rfl hr.units) (pe_ix (kIx (K := K) rfl) (pv 0) pe_int (fun _ _ => rfl)) (pe_globE rfl T.g_INTEGER) (nomark _)) (pe_op (kAdd (K := K) rfl) (pe_ix (kIx (K := K) rfl) (pv 0) pe_int (fun _ _ => rfl)) (pe_op op_mod (pe_op op_sub (pv 1) (pe_ix (kIx (K := K) rfl) (pv 0) pe_int (fun _ _ => rfl))) (pe_op (kAdd (K := K) rfl) (pe_op op_sub (pe_ix (kIx (K := K) rfl) (pv 0) pe_int (fun _ _ => rfl)) (pe_ix (kIx (K := K) rfl) (pv 0) pe_int (fun _ _ => rfl))) pe_int))) (pv 1)))), ?_⟩
    have vs : Ev none (tVar 0) (start ["sort", "value"] [x, y]) G (tV K s.d) := ev_v rfl hs
    refine s_ret (Go.refl kn) (ev_if (et_test (ix0I vs)) (fun h1 => ?_) fun h1 => ?_) k
    · cases s with
      | int a b =>
        obtain ⟨i, rfl, _, _⟩ := in_int hm
        have hw : 0 < b - a + 1 := by have := hok.2.1; omega
        have va : Ev none (tOp (rIx K) (tVar 0) (tC (.int 1))) (start ["sort", "value"] [x, y]) G (tIs (.int a)) := (ev_ixT (ds := [.str "integer", .int a, .int b]) (i := 1) vs ev_k rfl).isInt
        have vb : Ev none (tOp (rIx K) (tVar 0) (tC (.int 2))) (start ["sort", "value"] [x, y]) G (tIs (.int b)) := (ev_ixT (ds := [.str "integer", .int a, .int b]) (i := 2) vs ev_k rfl).isInt
        exact (ev_addI va (ev_iC (C := fun _ j => 0 < j) (ev_i0 (ev_v rfl hv).isInt va) (ev_addI (ev_i0 vb va) ev_k) hw)).vInt
      | _ => cases h1
    · have e : s.fit v = v := by
        cases s with
        | int a b => cases h1
        | _ => rfl
      rw [e]
      exact ev_v rfl hv)
def cOK (K : PySem.W.Frag) (o : Option Addr) (G : Hp) (vs : List V) (t : T) : Prop := o = none ∧ ∃ x y v, ∃ s : SK, vs = [x, y] ∧ (Vl K G x s.d ∧ s.ok) ∧ Vl K G y v ∧ t = tIs (.bl (s.may v))
theorem ok_of_kind (T : Txt2 K mg na ta) (d : Df K mg "is_of_kind" s_is_of_kind) (G_is_within : Own P w K mg base CX0 2 "is_within" s_is_within ["value", "low", "high"] (spC (cV3 K))) (G_is_value_of : Own P w K mg base CX0 3 "is_value_of" s_is_value_of ["sort", "value"] (spC (cVO K))) :
    Own P w K mg base CX0 4 "is_of_kind" s_is_of_kind ["sort", "value"] (spC (cOK K)) :=
  d.own fun f fd F => F.ok sc_is_of_kind (fun vs H Q E h => by obtain ⟨o, G, t, kn, ⟨_, x, y, v, s, rfl, _⟩, _⟩ := h; rfl) (fun cdv A outer s H vs Q E hr h => by
    obtain ⟨o, G, t, kn, ⟨rfl, x, y, v, s, rfl, ⟨hs, hok⟩, hv, rfl⟩, k⟩ := h
    refine ⟨_, (pss_one (ps_ret (pe_ifExp (pt_cmpR (kEq (K := K) rfl hr.units) (pe_ix (kIx (K := K) rfl) (pv 0) pe_int (fun _ _ => rfl)) (pe_globE rfl T.g_INTEGER) (nomark _)) (pe_own G_is_within pb_is_within (hr.mono (by first | decide | exact Nat.le_refl _)) rfl pass0 (pa_cons (pv 1) (pa_cons (pe_globE rfl T.g_LOW) (pa_cons (pe_globE rfl T.g_HIGH) pa_nil)))) (pe_own G_is_value_of pb_is_value_of (hr.mono (by first | decide | exact Nat.le_refl _)) rfl pass0 (pa_cons (pv 0) (pa_cons (pv 1) pa_nil)))))), ?_⟩
    refine s_ret (Go.refl kn) (ev_if (et_test (ix0I (s := s) (ev_v rfl hs))) (fun h1 => ?_) fun h1 => ?_) k
    · cases s with
      | int a b => exact ev_callV3 (ev_v rfl hv) ev_k ev_k
      | _ => cases h1
    · have e : s.may v = s.has v := by
        cases s with
        | int a b => cases h1
        | _ => rfl
      rw [e]
      exact ev_callVO hok (ev_v rfl hs) (ev_v rfl hv))
def cFitted (K : PySem.W.Frag) (CS CV : Addr) (o : Option Addr) (G : Hp) (vs : List V) (t : T) (B : Er) : Prop := o = none ∧ ∃ x y d v, vs = [x, y] ∧ (Vl K G x d ∧ shD d = true) ∧ Vl K G y v ∧ t = (fun G r => ∃ s : SK, d = s.d ∧ s.ok ∧ s.may v = true ∧ Vl K G r (s.fit v)) ∧
  B = fun c g => Er1 (isS d) CS x c g ∨ ∃ s : SK, d = s.d ∧ s.ok ∧ Er1 (s.may v) CV y c g
theorem ok_fitted (T : Txt2 K mg na ta) (d : Df K mg "fitted" s_fitted) (E_InvalidValue : OwnE P w K mg base 1 "InvalidValue" CV D) (G_check_sort : Own P w K mg base (CXo P w) 4 "check_sort" s_check_sort ["sort"] (spR (cCheck K CS)))
    (G_is_of_kind : Own P w K mg base CX0 4 "is_of_kind" s_is_of_kind ["sort", "value"] (spC (cOK K))) (G_fitted_in : Own P w K mg base CX0 1 "fitted_in" s_fitted_in ["sort", "value"] (spC (cFI K))) :
    Own P w K mg base (CXo P w) 5 "fitted" s_fitted ["sort", "value"] (spR (cFitted K CS CV)) :=
  d.own fun f fd F => F.okX sc_fitted (fun vs H Q E h => by obtain ⟨o, G, t, B, kn, ⟨_, x, y, d, v, rfl, _⟩, _⟩ := h; rfl) (fun cdv A outer s H vs Q E hr h => by
    obtain ⟨o, G, t, B, kn, ⟨rfl, x, y, d, v, rfl, ⟨hd, hsh⟩, hv, rfl, rfl⟩, k, kE⟩ := h
    refine ⟨_, (pss_cons (ps_expr (pe_ownW G_check_sort pb_check_sort (hr.mono (by first | decide | exact Nat.le_refl _)) rfl (takes_of rfl rfl rfl rfl) (pa_cons (pv 0) pa_nil)))
   (pss_cons (ps_if (pt_not (pt_val (pe_own G_is_of_kind pb_is_of_kind (hr.mono (by first | decide | exact Nat.le_refl _)) rfl pass0 (pa_cons (pv 0) (pa_cons (pv 1) pa_nil))))) (pss_one (ps_raiseE E_InvalidValue rfl (takes_of rfl rfl rfl rfl) (hr.mono (by first | decide | exact Nat.le_refl _)) rfl (pv 1))) pss_nil)
   (pss_one (ps_ret (pe_own G_fitted_in pb_fitted_in (hr.mono (by first | decide | exact Nat.le_refl _)) rfl pass0 (pa_cons (pv 0) (pa_cons (pv 1) pa_nil))))))), ?_⟩
    refine q_dropX (Go.refl kn) (ex_call (fun c dd g G2 H2 g2 e b => kE c dd g G2 H2 g2 e (.inl b)) (ea_cons (ev_x rfl) ea_nil) (calls_check hd hsh)) fun r G2 H2 g2 _ w2 => ?_
    obtain ⟨s, rfl, hok⟩ := sk_of w2.now.1
    have two : ∀ {G3 : Hp}, Ex G G3 → EvA none (tCons (tVar 0) (tCons (tVar 1) tNil)) (start ["sort", "value"] [x, y]) G3 [tV K s.d, tV K v] := fun e => ea_cons (ev_v rfl (hd.up e)) (ea_cons (ev_v rfl (hv.up e)) ea_nil)
    refine q_when g2 (p := (· = !s.may v)) (et_not (et_b (ev_call (two g2.gg) fun G' vs e al => ?_))) (fun hb G3 H3 g3 _ => ?_) fun hb G3 H3 g3 _ => ?_
    · cases al with
      | cons a1 al => cases al with
        | cons a2 al =>
          cases al
          exact ⟨none, _, .inr rfl, ⟨rfl, _, _, v, s, rfl, ⟨a1.now, hok⟩, a2.now, rfl⟩, fun _ _ _ w => w⟩
    · have hf : s.may v = false := by
        have hb' : true = !s.may v := hb
        revert hb'
        cases s.may v <;> decide
      exact s_raise g3 E_InvalidValue.sup (ev_x rfl) fun dd G4 H4 g4 _ e => kE _ dd y G4 H4 g4 e (.inr ⟨s, rfl, hok, hf, rfl, rfl⟩)
    · have hf : s.may v = true := by
        have hb' : false = !s.may v := hb
        revert hb'
        cases s.may v <;> decide
      refine s_ret g3 (ev_call (t := tV K (s.fit v)) (two g3.gg) fun G' vs e al => ?_) fun r G4 H4 g4 w4 => k r G4 H4 g4 fun G' e' => ⟨s, rfl, hok, hf, w4 G' e'⟩
      cases al with
      | cons a1 al => cases al with
        | cons a2 al =>
          cases al
          exact ⟨none, _, .inr rfl, ⟨rfl, _, _, v, s, rfl, ⟨a1.now, hok⟩, ⟨a2.now, hf⟩, rfl⟩, fun _ _ _ w => w⟩)
end
end K12
set_option Elab.async false
set_option linter.all false
set_option maxRecDepth 100000
set_option maxHeartbeats 4000000
namespace K12
open PySem L2 Ty
open Evl (Ex ex_l ex_t)
abbrev s__law_asked : Stmt := top 36
theorem sc__law_asked : FnScope ["word", "args", "by_name", "e"] ["word", "args", "by_name"] (defScope s__law_asked) := ⟨rfl, rfl, rfl, by decide +kernel, rfl, by decide +kernel, by decide +kernel⟩
theorem pb__law_asked : PosB "_law_asked" s__law_asked ["word", "args", "by_name"] := fun _ _ _ _ _ _ us hl => match us, hl with | [_, _, _], _ => rfl
structure Txt3 (K : PySem.W.Frag) (mg : Str → Option Value) (na ta CS CN CV D : Addr) : Prop extends Txt2 K mg na ta where
  g_TalkError : ∃ u, mg "TalkError" = some u ∧ RelV (.ref D) u
  c_InvalidSort : mg "InvalidSort" = some (.ref CS)
  c_InvalidNumber : mg "InvalidNumber" = some (.ref CN)
  c_InvalidValue : mg "InvalidValue" = some (.ref CV)
  xf_InvalidSort : XfC K CS
  xf_InvalidNumber : XfC K CN
  xf_InvalidValue : XfC K CV
  no_InvalidSort_given : PySem.W.findIn K (.ref CS) "given" = some none
  no_InvalidNumber_given : PySem.W.findIn K (.ref CN) "given" = some none
  no_InvalidValue_given : PySem.W.findIn K (.ref CV) "given" = some none
  ex_InvalidSort : ExcC K CS
  ex_InvalidNumber : ExcC K CN
  ex_InvalidValue : ExcC K CV
  kS : PySem.W.kitOne K (.ref CS) (.ref D) = some true
  kN : PySem.W.kitOne K (.ref CN) (.ref D) = some true
  kV : PySem.W.kitOne K (.ref CV) (.ref D) = some true
  mSS : PySem.W.exmOne K (.ref CS) (.ref CS) = some true
  mNS : PySem.W.exmOne K (.ref CN) (.ref CS) = some false
  mNN : PySem.W.exmOne K (.ref CN) (.ref CN) = some true
  mVS : PySem.W.exmOne K (.ref CV) (.ref CS) = some false
  mVN : PySem.W.exmOne K (.ref CV) (.ref CN) = some false
  mVV : PySem.W.exmOne K (.ref CV) (.ref CV) = some true
inductive Out
  | told (p : PyData) | bad (w : Str) (x : V)
section
variable {P : Program} {w : World} {K : PySem.W.Frag} {mg : Str → Option Value} {base : Heap} {na ta CS CN CV D : Addr}
def outP (K : PySem.W.Frag) : Out → PL
  | .told p => fun G xs => ∃ v, xs = [.str "told", v] ∧ Vl K G v p
  | .bad w x => fun _ xs => xs = [.str w, x]
inductive Ask (K : PySem.W.Frag) (G : Hp) : Str → List V → Out → Prop
  | value {x y : V} {d v : PyData} {out : Out} : Vl K G x d → shD d = true → Vl K G y v → (∀ s : SK, d = s.d → s.ok → out = .told (.bool (s.has v))) → (isS d = false → out = .bad "sort" x) → Ask K G "value" [x, y] out
  | kept {x : V} {d : PyData} {out : Out} : Vl K G x d → (∀ i, d = .int i → out = .told (.int (keep i))) → (wh d = false → out = .bad "number" x) → Ask K G "kept" [x] out
  | fitted {x y : V} {d v : PyData} {out : Out} : Vl K G x d → shD d = true → Vl K G y v → (∀ s : SK, d = s.d → s.ok → s.may v = true → out = .told (s.fit v)) → (isS d = false → out = .bad "sort" x) →
      (∀ s : SK, d = s.d → s.ok → s.may v = false → out = .bad "value" y) → Ask K G "fitted" [x, y] out
def cAsked (K : PySem.W.Frag) (o : Option Addr) (G : Hp) (vs : List V) (p : PL) : Prop := o = none ∧ ∃ (word : Str) (la : Addr) (args : List V) (bn : Bool) (out : Out), vs = [.str word, .ref la, .bl bn] ∧ SqL K G la args ∧ Ask K G word args out ∧ p = outP K out
theorem calls_value {o : Option Addr} {G : Hp} {x y : V} {d v : PyData} {ts : List T} {gV : List V → List V} (hd : Vl K G x d) (hsh : shD d = true) (hv : Vl K G y v) (hg : ∀ G' vs, AllU G' ts vs → gV vs = [x, y]) :
    CallsR (cIsValue K CS) o G ts (fun _ r => ∃ s : SK, d = s.d ∧ s.ok ∧ r = .bl (s.has v)) (Er1 (isS d) CS x) gV := fun G' vs e al => by
  rw [hg G' vs al]
  exact ⟨none, _, _, .inr rfl, ⟨rfl, x, y, d, v, rfl, ⟨hd.up e, hsh⟩, hv.up e, rfl, rfl⟩, fun _ _ _ w => w, fun _ _ h => h⟩
theorem calls_kept {o : Option Addr} {G : Hp} {x : V} {d : PyData} {ts : List T} {gV : List V → List V} (hd : Vl K G x d) (hg : ∀ G' vs, AllU G' ts vs → gV vs = [x]) :
    CallsR (cKept K CN) o G ts (fun _ r => ∃ i, d = .int i ∧ r = .int (keep i)) (Er1 (wh d) CN x) gV := fun G' vs e al => by
  rw [hg G' vs al]
  exact ⟨none, _, _, .inr rfl, ⟨rfl, x, d, rfl, hd.up e, rfl, rfl⟩, fun _ _ _ w => w, fun _ _ h => h⟩
theorem calls_fitted {o : Option Addr} {G : Hp} {x y : V} {d v : PyData} {ts : List T} {gV : List V → List V} (hd : Vl K G x d) (hsh : shD d = true) (hv : Vl K G y v) (hg : ∀ G' vs, AllU G' ts vs → gV vs = [x, y]) :
    CallsR (cFitted K CS CV) o G ts (fun G r => ∃ s : SK, d = s.d ∧ s.ok ∧ s.may v = true ∧ Vl K G r (s.fit v)) (fun c g => Er1 (isS d) CS x c g ∨ ∃ s : SK, d = s.d ∧ s.ok ∧ Er1 (s.may v) CV y c g) gV := fun G' vs e al => by
  rw [hg G' vs al]
  exact ⟨none, _, _, .inr rfl, ⟨rfl, x, y, d, v, rfl, ⟨hd.up e, hsh⟩, hv.up e, rfl, rfl⟩, fun _ _ _ w => w, fun _ _ h => h⟩
theorem ok_asked (T : Txt3 K mg na ta CS CN CV D) (d : Df K mg "_law_asked" s__law_asked) (G_is_value : Own P w K mg base (CXo P w) 5 "is_value" s_is_value ["sort", "value"] (spR (cIsValue K CS)))
    (G_kept : Own P w K mg base (CXo P w) 3 "kept" s_kept ["number"] (spR (cKept K CN))) (G_fitted : Own P w K mg base (CXo P w) 5 "fitted" s_fitted ["sort", "value"] (spR (cFitted K CS CV))) :
    Own P w K mg base CX0 6 "_law_asked" s__law_asked ["word", "args", "by_name"] (spN (cAsked K)) :=
  d.own fun f fd F => F.ok sc__law_asked (fun vs H Q E h => by obtain ⟨o, G, t, kn, ⟨_, word, la, args, bn, out, rfl, _⟩, _⟩ := h; rfl) (fun cdv A outer s H vs Q E hr h => by
    obtain ⟨o, G, t, kn, ⟨rfl, word, la, args, bn, out, rfl, hs, ask, rfl⟩, k⟩ := h
    refine ⟨_, (pss_one (ps_try_manyAs (i := 3) rfl rfl sc__law_asked.nd rfl (by rfl) takes0 (fun W pn xe tk po => (pss_cons (ps_if (pt_cmpR (kEq (K := K) rfl hr.units) (pv 0) pe_str (nomark _)) (pss_one (ps_ret (pe_lst (pa_cons pe_str (pa_cons (pe_ifExp (pt_val (pv 2)) (pe_ownKW (ks := ["value", "sort"]) (g := (fun (zs : List Value) => match zs with | [w0, w1] => [w1, w0] | _ => [])) (gV := (fun (zs : List V) => match zs with | [w0, w1] => [w1, w0] | _ => [])) G_is_value (fun _ _ _ _ _ _ ws hl => match ws, hl with | [_, _], _ => rfl) (fun {zs ws} hl r => match zs, ws, hl, r with | [_, _], _, _, .cons r0 (.cons r1 (Paired.nil)) => .cons r1 (.cons r0 (.nil))) (hr.mono (by first | decide | exact Nat.le_refl _)) rfl tk (pk_cons (pe_ix (kIx (K := K) rfl) (pv 1) pe_int (fun _ _ => rfl)) (pk_cons (pe_ix (kIx (K := K) rfl) (pv 1) pe_int (fun _ _ => rfl)) pk_nil))) (pe_ownW G_is_value pb_is_value (hr.mono (by first | decide | exact Nat.le_refl _)) rfl tk (pa_cons (pe_ix (kIx (K := K) rfl) (pv 1) pe_int (fun _ _ => rfl)) (pa_cons (pe_ix (kIx (K := K) rfl) (pv 1) pe_int (fun _ _ => rfl)) pa_nil)))) pa_nil))))) pss_nil)
   (pss_cons (ps_if (pt_cmpR (kEq (K := K) rfl hr.units) (pv 0) pe_str (nomark _)) (pss_one (ps_ret (pe_lst (pa_cons pe_str (pa_cons (pe_ifExp (pt_val (pv 2)) (pe_ownKW (ks := ["number"]) (g := (fun (zs : List Value) => match zs with | [w0] => [w0] | _ => [])) (gV := (fun (zs : List V) => match zs with | [w0] => [w0] | _ => [])) G_kept (fun _ _ _ _ _ _ ws hl => match ws, hl with | [_], _ => rfl) (fun {zs ws} hl r => match zs, ws, hl, r with | [_], _, _, .cons r0 (Paired.nil) => .cons r0 (.nil)) (hr.mono (by first | decide | exact Nat.le_refl _)) rfl tk (pk_cons (pe_ix (kIx (K := K) rfl) (pv 1) pe_int (fun _ _ => rfl)) pk_nil)) (pe_ownW G_kept pb_kept (hr.mono (by first | decide | exact Nat.le_refl _)) rfl tk (pa_cons (pe_ix (kIx (K := K) rfl) (pv 1) pe_int (fun _ _ => rfl)) pa_nil))) pa_nil))))) pss_nil)
   (pss_one (ps_ret (pe_lst (pa_cons pe_str (pa_cons (pe_ifExp (pt_val (pv 2)) (pe_ownKW (ks := ["value", "sort"]) (g := (fun (zs : List Value) => match zs with | [w0, w1] => [w1, w0] | _ => [])) (gV := (fun (zs : List V) => match zs with | [w0, w1] => [w1, w0] | _ => [])) G_fitted (fun _ _ _ _ _ _ ws hl => match ws, hl with | [_, _], _ => rfl) (fun {zs ws} hl r => match zs, ws, hl, r with | [_, _], _, _, .cons r0 (.cons r1 (Paired.nil)) => .cons r1 (.cons r0 (.nil))) (hr.mono (by first | decide | exact Nat.le_refl _)) rfl tk (pk_cons (pe_ix (kIx (K := K) rfl) (pv 1) pe_int (fun _ _ => rfl)) (pk_cons (pe_ix (kIx (K := K) rfl) (pv 1) pe_int (fun _ _ => rfl)) pk_nil))) (pe_ownW G_fitted pb_fitted (hr.mono (by first | decide | exact Nat.le_refl _)) rfl tk (pa_cons (pe_ix (kIx (K := K) rfl) (pv 1) pe_int (fun _ _ => rfl)) (pa_cons (pe_ix (kIx (K := K) rfl) (pv 1) pe_int (fun _ _ => rfl)) pa_nil)))) pa_nil)))))))) (HdsAs.cons ⟨rfl, by decide, .inl T.c_InvalidSort⟩ (fun a oe cls d pn hz hf => (pss_one (ps_ret (pe_lst (pa_cons (pe_ifExp (pt_val (pe_callB (call_isD hz hf) (by rfl) T.n_isinstance (by decide +kernel) (pa_cons (pv 3) (pa_cons (pe_globE rfl T.g_TalkError) pa_nil)))) pe_str pe_str) (pa_cons (pe_xf T.xf_InvalidSort T.no_InvalidSort_given hz hf (pv 3)) pa_nil)))))) (HdsAs.cons ⟨rfl, by decide, .inl T.c_InvalidNumber⟩ (fun a oe cls d pn hz hf => (pss_one (ps_ret (pe_lst (pa_cons (pe_ifExp (pt_val (pe_callB (call_isD hz hf) (by rfl) T.n_isinstance (by decide +kernel) (pa_cons (pv 3) (pa_cons (pe_globE rfl T.g_TalkError) pa_nil)))) pe_str pe_str) (pa_cons (pe_xf T.xf_InvalidNumber T.no_InvalidNumber_given hz hf (pv 3)) pa_nil)))))) (HdsAs.cons ⟨rfl, by decide, .inl T.c_InvalidValue⟩ (fun a oe cls d pn hz hf => (pss_one (ps_ret (pe_lst (pa_cons (pe_ifExp (pt_val (pe_callB (call_isD hz hf) (by rfl) T.n_isinstance (by decide +kernel) (pa_cons (pv 3) (pa_cons (pe_globE rfl T.g_TalkError) pa_nil)))) pe_str pe_str) (pa_cons (pe_xf T.xf_InvalidValue T.no_InvalidValue_given hz hf (pv 3)) pa_nil)))))) HdsAs.nil))))), ?_⟩
    have tk : Tk none G H (wManyAs K 3 (fun _ _ _ _ => False) { nx := fun _ H' => Q .non H', rt := Q } (clauses K 3 D [("sort", CS), ("number", CN), ("value", CV)])) (start ["word", "args", "by_name", "e"] [.str word, .ref la, .bl bn])
        (fun c x => ∃ p ∈ [(("sort" : Str), CS), ("number", CN), ("value", CV)], c = .ref p.2 ∧ out = .bad p.1 x) :=
      tk_many (good := fun w x => out = .bad w x) (show 3 < 4 by decide) (fun p hp => by
        rcases List.mem_cons.mp hp with rfl | hp
        · exact ⟨T.ex_InvalidSort, T.kS⟩
        · rcases List.mem_cons.mp hp with rfl | hp
          · exact ⟨T.ex_InvalidNumber, T.kN⟩
          · rw [List.mem_singleton.mp hp]; exact ⟨T.ex_InvalidValue, T.kV⟩)
        ⟨T.mSS, (fun p hp => by
          rcases List.mem_cons.mp hp with rfl | hp
          · exact T.mNS
          · rw [List.mem_singleton.mp hp]; exact T.mVS), T.mNN, (fun p hp => by rw [List.mem_singleton.mp hp]; exact T.mVN), T.mVV, (fun p hp => nomatch hp), trivial⟩
        fun w x p xs G3 H3 ho g3 hp h3 n3 hx => k p xs G3 H3 g3 hp h3 n3 (by rw [ho, hx]; exact fun _ _ => rfl)
    have eS : ∀ {b : Bool} {c x y}, Er1 b CS y c x → (b = false → out = .bad "sort" y) → ∃ p ∈ [(("sort" : Str), CS), ("number", CN), ("value", CV)], c = .ref p.2 ∧ out = .bad p.1 x := fun h ho => ⟨_, List.mem_cons_self .., h.2.1, by rw [h.2.2]; exact ho h.1⟩
    have eN : ∀ {b : Bool} {c x y}, Er1 b CN y c x → (b = false → out = .bad "number" y) → ∃ p ∈ [(("sort" : Str), CS), ("number", CN), ("value", CV)], c = .ref p.2 ∧ out = .bad p.1 x := fun h ho => ⟨_, List.mem_cons_of_mem _ (List.mem_cons_self ..), h.2.1, by rw [h.2.2]; exact ho h.1⟩
    have eV : ∀ {b : Bool} {c x y}, Er1 b CV y c x → (b = false → out = .bad "value" y) → ∃ p ∈ [(("sort" : Str), CS), ("number", CN), ("value", CV)], c = .ref p.2 ∧ out = .bad p.1 x := fun h ho => ⟨_, List.mem_cons_of_mem _ (List.mem_cons_of_mem _ (List.mem_cons_self ..)), h.2.1, by rw [h.2.2]; exact ho h.1⟩
    have g0 := Go.refl kn
    have ix0 : ∀ {G' : Hp} {x : V}, Ex G G' → args[0]? = some x → Ev none (tOp (rIx K) (tVar 1) (tC (.int 0))) (start ["word", "args", "by_name", "e"] [.str word, .ref la, .bl bn]) G' (tIs x) := fun e h => ev_op2 (ev_x rfl) ev_k (ro_ixL (ex_l e hs) (at_of (j := 0) rfl h))
    have ix1 : ∀ {G' : Hp} {x : V}, Ex G G' → args[1]? = some x → Ev none (tOp (rIx K) (tVar 1) (tC (.int 1))) (start ["word", "args", "by_name", "e"] [.str word, .ref la, .bl bn]) G' (tIs x) := fun e h => ev_op2 (ev_x rfl) ev_k (ro_ixL (ex_l e hs) (at_of (j := 1) rfl h))
    have by_ : ∀ {G' : Hp}, EvT none (tB (tVar 2)) (start ["word", "args", "by_name", "e"] [.str word, .ref la, .bl bn]) G' (· = bn) := et_b (ev_x rfl)
    have fin : ∀ {t : Ty.T} {xs : List V} {G2 : Hp}, (∀ G' v, U t G' v → UP (outP K out) G' [.str "told", v]) → (∀ G', Ex G2 G' → AllU G' [tIs (.str "told"), t] xs) → UP (outP K out) G2 xs := fun {t xs G2} hk h => by
      have h' := h G2 (Ex.refl _)
      cases h' with
      | cons a1 h' => cases h' with
        | cons a2 h' =>
          cases h'
          rw [a1.eq]
          exact hk _ _ a2
    cases ask with
    | @value x y d v _ hd hsh hv ho hb =>
      refine q_when g0 (p := (· = true)) (et_test (ev_op2 (ev_x rfl) ev_k (ro_eqS rfl (show _ = true by decide +kernel)))) (fun _ G2 H2 g2 _ => ?_) fun z => nomatch z
      refine s_retLX g2 (eax_cons (s := tIs (.str "told")) ev_k.toX (eax_cons (s := fun _ r => ∃ s : SK, d = s.d ∧ s.ok ∧ r = .bl (s.has v)) (ex_if by_ (fun _ => ?_) fun _ => ?_) eax_nil)) (by show 2 ≤ 100000; decide) fun p xs G3 H3 g3 hp h3 n3 w3 => k p xs G3 H3 g3 hp h3 n3 (fin (fun G' r u => ?_) w3)
      · exact ex_kw rfl tk (ea_cons (ix1 g2.gg rfl) (ea_cons (ix0 g2.gg rfl) ea_nil)) fun G' vs e al => by
          obtain ⟨o', t', B', h1, h2, h3, h4⟩ := calls_value (CS := CS) (o := none) (gV := fun (zs : List V) => match zs with | [w0, w1] => [w1, w0] | _ => []) (hd.up g2.gg) hsh (hv.up g2.gg) (fun G' vs al => by rw [all2 al]) G' vs e al
          exact ⟨o', t', B', h1, h2, h3, fun c x b => eS (h4 c x b) hb⟩
      · exact ex_call tk (ea_cons (ix0 g2.gg rfl) (ea_cons (ix1 g2.gg rfl) ea_nil)) fun G' vs e al => by
          obtain ⟨o', t', B', h1, h2, h3, h4⟩ := calls_value (CS := CS) (o := none) (gV := id) (hd.up g2.gg) hsh (hv.up g2.gg) (fun G' vs al => all2 al) G' vs e al
          exact ⟨o', t', B', h1, h2, h3, fun c x b => eS (h4 c x b) hb⟩
      · obtain ⟨s, e1, e2, e3⟩ := u.now
        rw [ho s e1 e2, e3]
        exact fun _ _ => ⟨_, rfl, vl_bl⟩
    | @kept x d _ hd ho hb =>
      refine q_when g0 (p := (· = false)) (et_test (ev_op2 (ev_x rfl) ev_k (ro_eqS rfl (show _ = false by decide +kernel)))) (fun z => nomatch z) fun _ G2 H2 g2 _ => ?_
      refine q_when g2 (p := (· = true)) (et_test (ev_op2 (ev_x rfl) ev_k (ro_eqS rfl (show _ = true by decide +kernel)))) (fun _ G2 H2 g2 _ => ?_) fun z => nomatch z
      refine s_retLX g2 (eax_cons (s := tIs (.str "told")) ev_k.toX (eax_cons (s := fun _ r => ∃ i, d = .int i ∧ r = .int (keep i)) (ex_if by_ (fun _ => ?_) fun _ => ?_) eax_nil)) (by show 2 ≤ 100000; decide) fun p xs G3 H3 g3 hp h3 n3 w3 => k p xs G3 H3 g3 hp h3 n3 (fin (fun G' r u => ?_) w3)
      · exact ex_kw rfl tk (ea_cons (ix0 g2.gg rfl) ea_nil) fun G' vs e al => by
          obtain ⟨o', t', B', h1, h2, h3, h4⟩ := calls_kept (CN := CN) (o := none) (gV := fun (zs : List V) => match zs with | [w0] => [w0] | _ => []) (hd.up g2.gg) (fun G' vs al => by rw [all1 al]) G' vs e al
          exact ⟨o', t', B', h1, h2, h3, fun c x b => eN (h4 c x b) hb⟩
      · exact ex_call tk (ea_cons (ix0 g2.gg rfl) ea_nil) fun G' vs e al => by
          obtain ⟨o', t', B', h1, h2, h3, h4⟩ := calls_kept (CN := CN) (o := none) (gV := id) (hd.up g2.gg) (fun G' vs al => all1 al) G' vs e al
          exact ⟨o', t', B', h1, h2, h3, fun c x b => eN (h4 c x b) hb⟩
      · obtain ⟨i, e1, e3⟩ := u.now
        rw [ho i e1, e3]
        exact fun _ _ => ⟨_, rfl, vl_int⟩
    | @fitted x y d v _ hd hsh hv ho hb hb2 =>
      refine q_when g0 (p := (· = false)) (et_test (ev_op2 (ev_x rfl) ev_k (ro_eqS rfl (show _ = false by decide +kernel)))) (fun z => nomatch z) fun _ G2 H2 g2 _ => ?_
      refine q_when g2 (p := (· = false)) (et_test (ev_op2 (ev_x rfl) ev_k (ro_eqS rfl (show _ = false by decide +kernel)))) (fun z => nomatch z) fun _ G2 H2 g2 _ => ?_
      refine s_retLX g2 (eax_cons (s := tIs (.str "told")) ev_k.toX (eax_cons (s := fun G r => ∃ s : SK, d = s.d ∧ s.ok ∧ s.may v = true ∧ Vl K G r (s.fit v)) (ex_if by_ (fun _ => ?_) fun _ => ?_) eax_nil)) (by show 2 ≤ 100000; decide) fun p xs G3 H3 g3 hp h3 n3 w3 => k p xs G3 H3 g3 hp h3 n3 (fin (fun G' r u => ?_) w3)
      · exact ex_kw rfl tk (ea_cons (ix1 g2.gg rfl) (ea_cons (ix0 g2.gg rfl) ea_nil)) fun G' vs e al => by
          obtain ⟨o', t', B', h1, h2, h3, h4⟩ := calls_fitted (CS := CS) (CV := CV) (o := none) (gV := fun (zs : List V) => match zs with | [w0, w1] => [w1, w0] | _ => []) (hd.up g2.gg) hsh (hv.up g2.gg) (fun G' vs al => by rw [all2 al]) G' vs e al
          exact ⟨o', t', B', h1, h2, h3, fun c x b => (h4 c x b).elim (fun b => eS b hb) fun ⟨s, e1, e2, b⟩ => eV b (hb2 s e1 e2)⟩
      · exact ex_call tk (ea_cons (ix0 g2.gg rfl) (ea_cons (ix1 g2.gg rfl) ea_nil)) fun G' vs e al => by
          obtain ⟨o', t', B', h1, h2, h3, h4⟩ := calls_fitted (CS := CS) (CV := CV) (o := none) (gV := id) (hd.up g2.gg) hsh (hv.up g2.gg) (fun G' vs al => all2 al) G' vs e al
          exact ⟨o', t', B', h1, h2, h3, fun c x b => (h4 c x b).elim (fun b => eS b hb) fun ⟨s, e1, e2, b⟩ => eV b (hb2 s e1 e2)⟩
      · obtain ⟨s, e1, e2, e3, e4⟩ := u.now
        rw [ho s e1 e2 e3]
        exact fun G' e' => ⟨_, rfl, e4.up e'⟩)
end
end K12
set_option Elab.async false
set_option linter.all false
set_option maxRecDepth 100000
set_option maxHeartbeats 4000000
namespace K12
open PySem L2 Ty
open Evl (Ex ex_l ex_t)
abbrev s__law_fitted : Stmt := top 41
theorem sc__law_fitted : FnScope ["sort", "value", "found", "wide"] ["sort", "value"] (defScope s__law_fitted) := ⟨rfl, rfl, rfl, by decide +kernel, rfl, by decide +kernel, by decide +kernel⟩
theorem pb__law_fitted : PosB "_law_fitted" s__law_fitted ["sort", "value"] := fun _ _ _ _ _ _ us hl => match us, hl with | [_, _], _ => rfl
abbrev s__law_twice : Stmt := top 37
theorem sc__law_twice : FnScope ["word", "args", "due", "by_name"] ["word", "args", "due", "by_name"] (defScope s__law_twice) := ⟨rfl, rfl, rfl, by decide +kernel, rfl, by decide +kernel, by decide +kernel⟩
theorem pb__law_twice : PosB "_law_twice" s__law_twice ["word", "args", "due", "by_name"] := fun _ _ _ _ _ _ us hl => match us, hl with | [_, _, _, _], _ => rfl
theorem allIs {G : Hp} : ∀ {xs vs : List V}, AllU G (xs.map tIs) vs → vs = xs
  | [], _, h => by cases h; rfl
  | x :: xs, _, h => by
    cases h with
    | cons a1 h => rw [a1.eq, allIs h]
def in4 (a b : PyData) : Bool := match a, b with
  | .int i, .int j => decide (-1000 ≤ i) && (decide (i ≤ j) && decide (j ≤ 1000))
  | _, _ => false
section
variable {P : Program} {w : World} {K : PySem.W.Frag} {mg : Str → Option Value} {base : Heap} {na ta CS CN CV D : Addr}
variable {o : Option Addr} {σ : L2.St} {G : Hp} {tl tr te : TE} {x : V}
theorem ev_inFT {xs : List V} {neg b : Bool} {tt : TA} (h : Ev o te σ G (tIs x)) (ht : EvA o tt σ G (xs.map tIs)) (hx : flatV x = true) (hf : xs.all flatV = true) (hl : xs.length ≤ 100000) (hb : (if neg then !inV x xs else inV x xs) = b) :
    Ev o (tOp (rInG K neg) te (tTup tt)) σ G (tIs (.bl b)) :=
  ev_op h (ev_tup (K := K) ht (by rw [List.length_map]; exact hl)) fun G' y z e hy hz => by
    obtain ⟨a, vs, rfl, hs, hu⟩ := hz.now
    rw [allIs hu] at hs
    rw [hy.eq, ← hb]
    exact ro_inT hs hx hf
theorem en_if {tt : TT} {p : Bool → Prop} {Pp : PL} (h : EvT o tt σ G p) (h1 : p true → EvN o tl σ G Pp) (h2 : p false → EvN o tr σ G Pp) : EvN o (tIf tt tl tr) σ G Pp := fun G1 H1 e kn Q q => h G1 H1 e kn _ fun c G2 H2 g2 w2 => by
  cases c with
  | true => exact h1 w2 G2 H2 (e.trans g2.gg) g2.kn Q fun p xs G3 H3 g3 hp h3 n3 w3 => q p xs G3 H3 (g2.trans g3) (g2.fresh hp) h3 n3 w3
  | false => exact h2 w2 G2 H2 (e.trans g2.gg) g2.kn Q fun p xs G3 H3 g3 hp h3 n3 w3 => q p xs G3 H3 (g2.trans g3) (g2.fresh hp) h3 n3 w3
theorem in13 {n : Nat} : inV (.int n) [.int 1, .int 3] = (decide (n = 1) || decide (n = 3)) := by
  show (((1 : Int) == (n : Int)) || (((3 : Int) == (n : Int)) || false)) = _
  rw [Bool.or_false]
  have e1 : ((1 : Int) == (n : Int)) = decide (n = 1) := by
    by_cases h : n = 1
    · subst h; rfl
    · rw [decide_eq_false h]; exact beq_eq_false_iff_ne.mpr (by omega)
  have e3 : ((3 : Int) == (n : Int)) = decide (n = 3) := by
    by_cases h : n = 3
    · subst h; rfl
    · rw [decide_eq_false h]; exact beq_eq_false_iff_ne.mpr (by omega)
  rw [e1, e3]
theorem inNT {z : Str} : inV (.str z) [.str "none", .str "truth"] = (decide (z = "none") || decide (z = "truth")) := by
  show ((("none" : Str) == z) || ((("truth" : Str) == z) || false)) = _
  rw [Bool.or_false]
  have e : ∀ a : Str, (a == z) = decide (z = a) := fun a => by
    by_cases h : z = a
    · subst h; simp
    · rw [decide_eq_false h]; exact beq_eq_false_iff_ne.mpr fun q => h q.symm
  rw [e, e]
theorem ok_lsort (T : Txt2 K mg na ta) (d : Df K mg "_law_is_sort" s__law_is_sort) (G__law_whole : Own P w K mg base CX0 1 "_law_whole" s__law_whole ["value"] (spC (cV1 K wh))) :
    Own P w K mg base CX0 2 "_law_is_sort" s__law_is_sort ["value"] (spC (cV1 K isS)) :=
  d.own fun f fd F => F.ok sc__law_is_sort (fun vs H Q E h => by obtain ⟨o, G, t, kn, ⟨_, x, d, rfl, _⟩, _⟩ := h; rfl) (fun cdv A outer s H vs Q E hr h => by
    obtain ⟨o, G, t, kn, ⟨rfl, x, d, rfl, hv, rfl⟩, k⟩ := h
    refine ⟨_, (pss_cons (ps_if (PW.pt (pw_or (pt_not (pt_val (pe_callB (kIsi (K := K) rfl) (by rfl) T.n_isinstance (by decide +kernel) (pa_cons (pv 0) (pa_cons (pe_bltn (v := .ty "tuple") (by rfl) T.n_tuple (by decide +kernel) rfl) pa_nil))))) (pw_or (pt_cmpR (kNotIn (K := K) rfl) (pe_callB (kLen (K := K) rfl) (by rfl) T.n_len (by decide +kernel) (pa_cons (pv 0) pa_nil)) (pe_tup (pa_cons pe_int (pa_cons pe_int pa_nil))) (by rfl)) (pw_or1 (pt_not (pt_val (pe_callB (kIsi (K := K) rfl) (by rfl) T.n_isinstance (by decide +kernel) (pa_cons (pe_ix (kIx (K := K) rfl) (pv 0) pe_int (fun _ _ => rfl)) (pa_cons (pe_bltn (v := .ty "str") (by rfl) T.n_str (by decide +kernel) rfl) pa_nil))))))))) (pss_one (ps_ret pe_bl)) pss_nil)
   (pss_cons (ps_if (pt_cmpR (kEq (K := K) rfl hr.units) (pe_callB (kLen (K := K) rfl) (by rfl) T.n_len (by decide +kernel) (pa_cons (pv 0) pa_nil)) pe_int (nomark _)) (pss_one (ps_ret (pe_cmpR (kIn (K := K) rfl) (pe_ix (kIx (K := K) rfl) (pv 0) pe_int (fun _ _ => rfl)) (pe_tup (pa_cons pe_str (pa_cons pe_str pa_nil))) (by rfl)))) pss_nil)
   (pss_one (ps_ret (pe_and (pe_cmpR (kEq (K := K) rfl hr.units) (pe_ix (kIx (K := K) rfl) (pv 0) pe_int (fun _ _ => rfl)) pe_str (nomark _)) (pe_and (pe_own G__law_whole pb__law_whole (hr.mono (by first | decide | exact Nat.le_refl _)) rfl pass0 (pa_cons (pe_ix (kIx (K := K) rfl) (pv 0) pe_int (fun _ _ => rfl)) pa_nil)) (pe_and (pe_own G__law_whole pb__law_whole (hr.mono (by first | decide | exact Nat.le_refl _)) rfl pass0 (pa_cons (pe_ix (kIx (K := K) rfl) (pv 0) pe_int (fun _ _ => rfl)) pa_nil)) (pe_one (pe_chain3 op_le op_le op_le (pe_un un_neg pe_int) (pe_ix (kIx (K := K) rfl) (pv 0) pe_int (fun _ _ => rfl)) (pe_ix (kIx (K := K) rfl) (pv 0) pe_int (fun _ _ => rfl)) pe_int))))))))), ?_⟩
    have vx : ∀ {G'}, Ex G G' → Ev none (tVar 0) (start ["value"] [x]) G' (tV K d) := fun e => ev_v rfl (hv.up e)
    have g0 := Go.refl kn
    cases et : isTup d with
    | false =>
      have e0 : isS d = false := by
        cases d with
        | tuple ds => cases et
        | _ => rfl
      rw [e0] at k
      exact q_when g0 (p := (· = (!false || true))) (et_or (et_not (et_b (ev_isiV (vx (Ex.refl _)) (by rw [ki_tup, et])))) fun z => nomatch z) (fun _ G2 H2 g2 _ => s_ret g2 ev_k k) fun z => nomatch z
    | true =>
      cases d with
      | tuple ds =>
        have c2 : Ev none (tOp (rInG K true) (tCB (rLen K) (tCons (tVar 0) tNil)) (tTup (tCons (tC (.int 1)) (tCons (tC (.int 3)) tNil)))) (start ["value"] [x]) G (tIs (.bl (!(decide (ds.length = 1) || decide (ds.length = 3))))) :=
          ev_inFT (xs := [.int 1, .int 3]) (neg := true) (ev_lenT (vx (Ex.refl _))) (ea_cons ev_k (ea_cons ev_k ea_nil)) rfl rfl (by decide) (by rw [if_pos rfl, in13])
        by_cases h1 : ds.length = 1
        · obtain ⟨a, rfl⟩ : ∃ a, ds = [a] := by
            match ds, h1 with
            | [a], _ => exact ⟨a, rfl⟩
          rw [show (!(decide ([a].length = 1) || decide ([a].length = 3))) = false from rfl] at c2
          cases e : isStr a with
          | false =>
            rw [isS1 e] at k
            exact q_when g0 (p := (· = (!true || (false || !false)))) (et_or (et_not (et_b (ev_isiV (vx (Ex.refl _)) ki_tup))) fun _ => et_or (et_test c2) fun _ => et_not (et_b (ev_isiV (ev_ixT (vx (Ex.refl _)) ev_k rfl) (by rw [ki_str, e])))) (fun _ G2 H2 g2 _ => s_ret g2 ev_k k) fun z => nomatch z
          | true =>
            obtain ⟨z, rfl⟩ := str_of e
            refine q_when g0 (p := (· = (!true || (false || !true)))) (et_or (et_not (et_b (ev_isiV (vx (Ex.refl _)) ki_tup))) fun _ => et_or (et_test c2) fun _ => et_not (et_b (ev_isiV (ev_ixT (vx (Ex.refl _)) ev_k rfl) ki_str))) (fun z => nomatch z) fun _ G2 H2 g2 _ => ?_
            refine q_when g2 (p := (· = true)) (et_test (ev_op2 (ev_lenT (vx g2.gg)) ev_k (ro_eqS rfl (by simp)))) (fun _ G3 H3 g3 _ => ?_) fun z => nomatch z
            exact s_ret g3 (ev_inFT (xs := [.str "none", .str "truth"]) (neg := false) (ev_ixT (vx g3.gg) ev_k rfl).isStr (ea_cons ev_k (ea_cons ev_k ea_nil)) rfl rfl (by decide) (by rw [if_neg (by decide), inNT]; rfl)) k
        · by_cases h3 : ds.length = 3
          · obtain ⟨a, b, c, rfl⟩ : ∃ a b c, ds = [a, b, c] := by
              match ds, h3 with
              | [a, b, c], _ => exact ⟨a, b, c, rfl⟩
            rw [show (!(decide ([a, b, c].length = 1) || decide ([a, b, c].length = 3))) = false from rfl] at c2
            cases e : isStr a with
            | false =>
              rw [isS3n e] at k
              exact q_when g0 (p := (· = (!true || (false || !false)))) (et_or (et_not (et_b (ev_isiV (vx (Ex.refl _)) ki_tup))) fun _ => et_or (et_test c2) fun _ => et_not (et_b (ev_isiV (ev_ixT (vx (Ex.refl _)) ev_k rfl) (by rw [ki_str, e])))) (fun _ G2 H2 g2 _ => s_ret g2 ev_k k) fun z => nomatch z
            | true =>
              obtain ⟨z, rfl⟩ := str_of e
              refine q_when g0 (p := (· = (!true || (false || !true)))) (et_or (et_not (et_b (ev_isiV (vx (Ex.refl _)) ki_tup))) fun _ => et_or (et_test c2) fun _ => et_not (et_b (ev_isiV (ev_ixT (vx (Ex.refl _)) ev_k rfl) ki_str))) (fun z => nomatch z) fun _ G2 H2 g2 _ => ?_
              refine q_when g2 (p := (· = false)) (et_test (ev_op2 (ev_lenT (vx g2.gg)) ev_k (ro_eqS rfl (by simp)))) (fun z => nomatch z) fun _ G3 H3 g3 _ => ?_
              have hz : Ev none (tOp (rEqG K) (tOp (rIx K) (tVar 0) (tC (.int 0))) (tC (.str "integer"))) (start ["value"] [x]) G3 (tIs (.bl (decide (z = "integer")))) := ev_op2 (ev_ixT (vx g3.gg) ev_k rfl).isStr ev_k (ro_eqS rfl (by simp only [vSt]))
              have e3 : isS (.tuple [.str z, b, c]) = (decide (z = "integer") && (wh b && (wh c && in4 b c))) := by
                rw [isS3]
                cases b with
                | int i =>
                  cases c with
                  | int j =>
                    show _ = (decide (z = "integer") && (true && (true && (decide (-1000 ≤ i) && (decide (i ≤ j) && decide (j ≤ 1000))))))
                    rw [Bool.true_and, Bool.true_and]
                    show (_ && ((decide (-1000 ≤ i) && decide (i ≤ 1000)) && (decide (i ≤ j) && decide (j ≤ 1000)))) = _
                    congr 1
                    by_cases q1 : -1000 ≤ i <;> by_cases q2 : i ≤ 1000 <;> by_cases q3 : i ≤ j <;> by_cases q4 : j ≤ 1000 <;> simp [q1, q2, q3, q4] <;> omega
                  | _ => simp [inR, in3, wh, isInt, isBool]
                | _ => simp [inR, in3, wh, isInt, isBool]
              rw [e3] at k
              refine s_ret g3 (ev_and hz fun _ => ev_and (ev_callV1 (ev_ixT (vx g3.gg) ev_k rfl)) fun hb => ev_and (ev_callV1 (ev_ixT (vx g3.gg) ev_k rfl)) fun hc => ?_) k
              obtain ⟨i, rfl⟩ := wh_int hb
              obtain ⟨j, rfl⟩ := wh_int hc
              exact ev_chain3 (f := fun i j => decide (i ≤ j)) (f' := fun i j => decide (i ≤ j)) (f2 := fun i j => decide (i ≤ j)) (ev_neg ev_k) (ev_ixT (vx g3.gg) ev_k rfl).isInt (ev_ixT (vx g3.gg) ev_k rfl).isInt ev_k
          · have e0 : isS (.tuple ds) = false := isS_no (by show decide _ = false; exact decide_eq_false (by omega)) (by show decide _ = false; exact decide_eq_false (by omega))
            rw [e0] at k
            rw [decide_eq_false h1, decide_eq_false h3] at c2
            exact q_when g0 (p := (· = (!true || (true || true)))) (et_or (et_not (et_b (ev_isiV (vx (Ex.refl _)) ki_tup))) fun _ => et_or (et_test c2) fun z => nomatch z) (fun _ G2 H2 g2 _ => s_ret g2 ev_k k) fun z => nomatch z
      | _ => cases et)
theorem ok_lvalue (T : Txt2 K mg na ta) (d : Df K mg "_law_is_value" s__law_is_value) (G__law_whole : Own P w K mg base CX0 1 "_law_whole" s__law_whole ["value"] (spC (cV1 K wh))) :
    Own P w K mg base CX0 2 "_law_is_value" s__law_is_value ["sort", "value"] (spC (cVO K)) :=
  d.own fun f fd F => F.ok sc__law_is_value (fun vs H Q E h => by obtain ⟨o, G, t, kn, ⟨_, x, y, v, s, rfl, _⟩, _⟩ := h; rfl) (fun cdv A outer s H vs Q E hr h => by
    obtain ⟨o, G, t, kn, ⟨rfl, x, y, v, s, rfl, ⟨hs, hok⟩, hv, rfl⟩, k⟩ := h
    refine ⟨_, (pss_cons (ps_if (pt_cmpR (kEq (K := K) rfl hr.units) (pv 0) (pe_tup (pa_cons pe_str pa_nil)) (nomark _)) (pss_one (ps_ret (pe_cmpR op_isN (pv 1) pe_non (nomark _)))) pss_nil)
   (pss_cons (ps_if (pt_cmpR (kEq (K := K) rfl hr.units) (pv 0) (pe_tup (pa_cons pe_str pa_nil)) (nomark _)) (pss_one (ps_ret (pe_callB (kIsi (K := K) rfl) (by rfl) T.n_isinstance (by decide +kernel) (pa_cons (pv 1) (pa_cons (pe_bltn (v := .ty "bool") (by rfl) T.n_bool (by decide +kernel) rfl) pa_nil))))) pss_nil)
   (pss_one (ps_ret (pe_and (pe_own G__law_whole pb__law_whole (hr.mono (by first | decide | exact Nat.le_refl _)) rfl pass0 (pa_cons (pv 1) pa_nil)) (pe_one (pe_chain op_le op_le (pe_ix (kIx (K := K) rfl) (pv 0) pe_int (fun _ _ => rfl)) (pv 1) (pe_ix (kIx (K := K) rfl) (pv 0) pe_int (fun _ _ => rfl))))))))), ?_⟩
    have vs : ∀ {G'}, Ex G G' → Ev none (tVar 0) (start ["sort", "value"] [x, y]) G' (tV K s.d) := fun e => ev_v rfl (hs.up e)
    have vv : ∀ {G'}, Ex G G' → Ev none (tVar 1) (start ["sort", "value"] [x, y]) G' (tV K v) := fun e => ev_v rfl (hv.up e)
    have one : ∀ {G'} {z : Str}, Ev none (tTup (tCons (tC (.str z)) tNil)) (start ["sort", "value"] [x, y]) G' (tV K (.tuple [.str z])) := fun {G' z} => (ev_tup (K := K) (ts := [tIs (.str z)]) (ea_cons ev_k ea_nil) (by show 1 ≤ 100000; decide)).imp fun G2 r e u => by
      obtain ⟨a, vs, rfl, hs, hu⟩ := u.now
      rw [all1 hu] at hs
      exact Vl.toU (.inl (.tup hs (.cons (.str z) .nil)))
    refine q_when (Go.refl kn) (et_test (ev_eqV (vs (Ex.refl _)) one (sk_sh s) shN (eqN s))) (fun h1 G2 H2 g2 _ => ?_) fun h1 G2 H2 g2 _ => ?_
    · cases s with
      | none => exact s_ret g2 (ev_isNV (vv g2.gg)) k
      | _ => cases h1
    · refine q_when g2 (et_test (ev_eqV (vs g2.gg) one (sk_sh s) shT (eqT s))) (fun h2 G3 H3 g3 _ => ?_) fun h2 G3 H3 g3 _ => ?_
      · cases s with
        | truth => exact s_ret g3 (ev_isiV (vv g3.gg) ki_bool) k
        | _ => cases h2
      · cases s with
        | int a b =>
          cases e : wh v with
          | false =>
            have e2 : (SK.int a b).has v = false := wh_not e a b
            rw [e2] at k
            have c := ev_callV1 (E := E0) (f := wh) (vv g3.gg)
            rw [e] at c
            exact s_ret g3 (ev_and (b := true) c fun z => nomatch z) k
          | true =>
            obtain ⟨i, rfl⟩ := wh_int e
            exact s_ret g3 (ev_and (a := true) (ev_callV1 (f := wh) (vv g3.gg)) fun _ => ev_chain2 (f := fun i j => decide (i ≤ j)) (f' := fun i j => decide (i ≤ j)) (ev_ixT (vs g3.gg) ev_k rfl).isInt (vv g3.gg).isInt (ev_ixT (vs g3.gg) ev_k rfl).isInt) k
        | none => cases h1
        | truth => cases h2)
def cLF (K : PySem.W.Frag) (o : Option Addr) (G : Hp) (vs : List V) (p : PL) : Prop := o = none ∧ ∃ x y v, ∃ s : SK, vs = [x, y] ∧ (Vl K G x s.d ∧ s.ok) ∧ Vl K G y v ∧ p = fun G xs => if s.may v = true then ∃ r, xs = [r] ∧ Vl K G r (s.fit v) else xs = []
theorem may_has {s : SK} {v : PyData} (h : s.isI = false) : s.may v = s.has v := by
  cases s with
  | int a b => cases h
  | _ => rfl
theorem ok_lfitted (T : Txt2 K mg na ta) (d : Df K mg "_law_fitted" s__law_fitted) (G__law_whole : Own P w K mg base CX0 1 "_law_whole" s__law_whole ["value"] (spC (cV1 K wh)))
    (G__law_is_value : Own P w K mg base CX0 2 "_law_is_value" s__law_is_value ["sort", "value"] (spC (cVO K))) : Own P w K mg base CX0 3 "_law_fitted" s__law_fitted ["sort", "value"] (spN (cLF K)) :=
  d.own fun f fd F => F.ok sc__law_fitted (fun vs H Q E h => by obtain ⟨o, G, t, kn, ⟨_, x, y, v, s, rfl, _⟩, _⟩ := h; rfl) (fun cdv A outer s H vs Q E hr h => by
    obtain ⟨o, G, t, kn, ⟨rfl, x, y, v, s, rfl, ⟨hs, hok⟩, hv, rfl⟩, k⟩ := h
    refine ⟨_, (pss_cons (ps_if (pt_cmpR (kEq (K := K) rfl hr.units) (pe_callB (kLen (K := K) rfl) (by rfl) T.n_len (by decide +kernel) (pa_cons (pv 0) pa_nil)) pe_int (nomark _)) (pss_one (ps_ret (pe_ifExp (pt_val (pe_own G__law_is_value pb__law_is_value (hr.mono (by first | decide | exact Nat.le_refl _)) rfl pass0 (pa_cons (pv 0) (pa_cons (pv 1) pa_nil)))) (pe_lst (pa_cons (pv 1) pa_nil)) (pe_lst pa_nil)))) pss_nil)
   (pss_cons (ps_if (PW.pt (pw_or (pt_not (pt_val (pe_own G__law_whole pb__law_whole (hr.mono (by first | decide | exact Nat.le_refl _)) rfl pass0 (pa_cons (pv 1) pa_nil)))) (pw_or1 (pt_not (pt_chain op_le op_le (pe_un un_neg pe_int) (pv 1) pe_int))))) (pss_one (ps_ret (pe_lst pa_nil))) pss_nil)
   (pss_cons (ps_set (i := 2) sc__law_fitted.nd rfl (Or.inl rfl) (pv 1))
   (pss_cons (ps_set (i := 3) sc__law_fitted.nd rfl (Or.inl rfl) (pe_op (kAdd (K := K) rfl) (pe_op op_sub (pe_ix (kIx (K := K) rfl) (pv 0) pe_int (fun _ _ => rfl)) (pe_ix (kIx (K := K) rfl) (pv 0) pe_int (fun _ _ => rfl))) pe_int))
   (pss_cons (ps_set (i := 2) sc__law_fitted.nd rfl (Or.inl rfl) (pe_op op_sub (pv 2) (pe_ix (kIx (K := K) rfl) (pv 0) pe_int (fun _ _ => rfl))))
   (pss_one (ps_ret (pe_lst (pa_cons (pe_op op_sub (pe_op (kAdd (K := K) rfl) (pe_ix (kIx (K := K) rfl) (pv 0) pe_int (fun _ _ => rfl)) (pv 2)) (pe_op gMul (pv 3) (pe_op op_fdiv (pv 2) (pv 3)))) pa_nil))))))))), ?_⟩
    have vs : ∀ {G' σ'}, σ'[0]? = some (some x) → Ex G G' → Ev none (tVar 0) σ' G' (tV K s.d) := fun h e => ev_v h (hs.up e)
    have vv : ∀ {G' σ'}, σ'[1]? = some (some y) → Ex G G' → Ev none (tVar 1) σ' G' (tV K v) := fun h e => ev_v h (hv.up e)
    have g0 := Go.refl kn
    have nil : ∀ {G' σ'} {Pq : PL}, (∀ G'', Pq G'' []) → EvN none (tLst tNil) σ' G' Pq := fun h => (en_lst ea_nil (by show 0 ≤ 100000; decide)).impN fun G2 xs u => by
      cases u
      exact h _
    cases e : s.isI with
    | false =>
      have e1 : ∃ z, s.d = .tuple [.str z] := by
        cases s with
        | none => exact ⟨_, rfl⟩
        | truth => exact ⟨_, rfl⟩
        | int a b => cases e
      obtain ⟨z, hz⟩ := e1
      have fv : s.fit v = v := by
        cases s with
        | int a b => cases e
        | _ => rfl
      have vl : ∀ {G'}, Ex G G' → Ev none (tVar 0) (start ["sort", "value", "found", "wide"] [x, y]) G' (tV K (.tuple [.str z])) := fun e => by rw [← hz]; exact vs rfl e
      refine q_when g0 (p := (· = true)) (et_test (ev_op2 (ev_lenT (vl (Ex.refl _))) ev_k (ro_eqS rfl (by simp)))) (fun _ G2 H2 g2 _ => ?_) fun z => nomatch z
      refine s_retN g2 (en_if (et_b (ev_callVO hok (vs rfl g2.gg) (vv rfl g2.gg))) (fun hb => ?_) fun hb => ?_) k
      · rw [← may_has e] at hb
        exact (en_lst (ea_cons (vv rfl g2.gg) ea_nil) (by show 1 ≤ 100000; decide)).impN fun G3 xs u => by
          show (if s.may v = true then _ else _)
          rw [if_pos hb.symm, fv]
          cases u with
          | cons a1 u =>
            cases u
            exact ⟨_, rfl, a1.now⟩
      · rw [← may_has e] at hb
        exact nil fun G3 => by
          show (if s.may v = true then _ else _)
          rw [if_neg (by rw [← hb]; decide)]
    | true =>
      cases s with
      | none => cases e
      | truth => cases e
      | int a b =>
        have vl : ∀ {G' σ'}, σ'[0]? = some (some x) → Ex G G' → Ev none (tVar 0) σ' G' (tV K (.tuple [.str "integer", .int a, .int b])) := fun h e => vs h e
        refine q_when g0 (p := (· = false)) (et_test (ev_op2 (ev_lenT (vl rfl (Ex.refl _))) ev_k (ro_eqS rfl (by simp)))) (fun z => nomatch z) fun _ G2 H2 g2 _ => ?_
        cases ew : wh v with
        | false =>
          have em : (SK.int a b).may v = false := wh_not ew _ _
          simp only [em, Bool.false_eq_true, if_false] at k
          have c := ev_callV1 (E := E0) (f := wh) (vv (σ' := start ["sort", "value", "found", "wide"] [x, y]) rfl g2.gg)
          rw [ew] at c
          exact q_when g2 (p := (· = (!false || true))) (et_or (et_not (et_b c)) fun z => nomatch z) (fun _ G3 H3 g3 _ => s_retN g3 (nil (Pq := fun _ xs => xs = []) fun _ => rfl) k) fun z => nomatch z
        | true =>
          obtain ⟨i, rfl⟩ := wh_int ew
          refine q_when g2 (p := (· = (!true || !(decide (-1000 ≤ i) && decide (i ≤ 1000))))) (et_or (et_not (et_b (ev_callV1 (f := wh) (vv rfl g2.gg)))) fun _ => et_not (et_test (ev_chain2 (f := fun i j => decide (i ≤ j)) (f' := fun i j => decide (i ≤ j)) (ev_neg ev_k) (vv rfl g2.gg).isInt ev_k))) (fun hb G3 H3 g3 _ => ?_) fun hb G3 H3 g3 _ => ?_
          · have em : (SK.int a b).may (.int i) = false := by
              have hb' : true = (false || !(decide (-1000 ≤ i) && decide (i ≤ 1000))) := hb
              show (decide (-1000 ≤ i) && decide (i ≤ 1000)) = false
              revert hb'
              cases (decide (-1000 ≤ i) && decide (i ≤ 1000)) <;> decide
            simp only [em, Bool.false_eq_true, if_false] at k
            exact s_retN g3 (nil (Pq := fun _ xs => xs = []) fun _ => rfl) k
          · have em : (SK.int a b).may (.int i) = true := by
              have hb' : false = (false || !(decide (-1000 ≤ i) && decide (i ≤ 1000))) := hb
              show (decide (-1000 ≤ i) && decide (i ≤ 1000)) = true
              revert hb'
              cases (decide (-1000 ≤ i) && decide (i ≤ 1000)) <;> decide
            simp only [em, if_true] at k
            obtain ⟨j, ej, i1, i2⟩ := in_int (v := .int i) (lo := -1000) (hi := 1000) em
            cases ej
            refine q_asg g3 (vv rfl g3.gg).isInt fun r G4 H4 g4 _ w4 => ?_
            rw [w4.eq]
            have s1 : ∀ {G' σ'}, σ'[0]? = some (some x) → Ex G G' → Ev none (tOp (rIx K) (tVar 0) (tC (.int 1))) σ' G' (tIs (.int a)) := fun h e => (ev_ixT (ds := [.str "integer", .int a, .int b]) (i := 1) (vl h e) ev_k rfl).isInt
            have s2 : ∀ {G' σ'}, σ'[0]? = some (some x) → Ex G G' → Ev none (tOp (rIx K) (tVar 0) (tC (.int 2))) σ' G' (tIs (.int b)) := fun h e => (ev_ixT (ds := [.str "integer", .int a, .int b]) (i := 2) (vl h e) ev_k rfl).isInt
            refine q_asg g4 (ev_addI (ev_i0 (s2 rfl g4.gg) (s1 rfl g4.gg)) ev_k) fun r G5 H5 g5 _ w5 => ?_
            rw [w5.eq]
            refine q_asg g5 (ev_i0 (ev_x rfl) (s1 rfl g5.gg)) fun r G6 H6 g6 _ w6 => ?_
            rw [w6.eq]
            obtain ⟨o1, o2, o3⟩ := hok
            have dv : CDiv (i - a) (b - a + 1) := ⟨by omega, by omega⟩
            have ml : CMul (b - a + 1) ((i - a) / (b - a + 1)) := .inl ⟨by omega, by omega⟩
            refine s_retN g6 ((en_lst (ea_cons (ev_i0 (ev_addI (s1 rfl g6.gg) (ev_x rfl)) (ev_op2 (ev_x rfl) (ev_iC (ev_x rfl) (ev_x rfl) dv) (ro_mulI ml))) ea_nil) (by show 1 ≤ 100000; decide)).impN fun G7 xs u => ?_) k
            cases u with
            | cons a1 u =>
              cases u
              refine ⟨_, rfl, ?_⟩
              rw [a1.eq]
              show Vl K G7 _ (.int (a + (i - a) % (b - a + 1)))
              have em : a + (i - a) - (b - a + 1) * ((i - a) / (b - a + 1)) = a + (i - a) % (b - a + 1) := by rw [Int.emod_def]; omega
              rw [em]
              exact vl_int)
end
end K12
set_option Elab.async false
set_option linter.all false
set_option maxRecDepth 100000
set_option maxHeartbeats 4000000
namespace K12
open PySem L2 Ty
open Evl (Ex ex_l ex_t)
abbrev s__law_sort : Stmt := top 33
theorem sc__law_sort : FnScope ["box", "way", "low"] ["box"] (defScope s__law_sort) := ⟨rfl, rfl, rfl, by decide +kernel, rfl, by decide +kernel, by decide +kernel⟩
theorem pb__law_sort : PosB "_law_sort" s__law_sort ["box"] := fun _ _ _ _ _ _ us hl => match us, hl with | [_], _ => rfl
def flatP : PyData → Bool
  | .none => true
  | .bool _ => true
  | .int _ => true
  | .str _ => true
  | _ => false
section
variable {P : Program} {w : World} {K : PySem.W.Frag} {mg : Str → Option Value} {base : Heap} {na ta CS CN CV D : Addr}
variable {o : Option Addr} {σ : L2.St} {G Ge He H : Hp} {tl ti te tb : TE} {x : V}
theorem vl_flat {v x : V} {p : PyData} {G' : Hp} (h : flatP p = true) (a : Vl K G v p) (b : Vl K G' x p) : v = x ∧ fl x = true := by
  cases p with
  | none => exact ⟨a.non.trans b.non.symm, by rw [b.non]; rfl⟩
  | bool c => exact ⟨a.bl.trans b.bl.symm, by rw [b.bl]; rfl⟩
  | int c => exact ⟨a.int.trans b.int.symm, by rw [b.int]; rfl⟩
  | str c => exact ⟨a.str.trans b.str.symm, by rw [b.str]; rfl⟩
  | _ => cases h
theorem Ask.up {G' : Hp} {word : Str} {args : List V} {out : Out} (a : Ask K G word args out) (e : Ex G G') : Ask K G' word args out := by
  cases a with
  | value h1 h2 h3 h4 h5 => exact .value (h1.up e) h2 (h3.up e) h4 h5
  | kept h1 h2 h3 => exact .kept (h1.up e) h2 h3
  | fitted h1 h2 h3 h4 h5 h6 => exact .fitted (h1.up e) h2 (h3.up e) h4 h5 h6
def cTwice (K : PySem.W.Frag) (o : Option Addr) (G : Hp) (vs : List V) (t : T) : Prop := o = none ∧ ∃ (word : Str) (la : Addr) (args : List V) (x : V) (p : PyData) (bn : Bool), vs = [.str word, .ref la, x, .bl bn] ∧ SqL K G la args ∧ Ask K G word args (.told p) ∧ Vl K G x p ∧ flatP p = true ∧ t = tIs (.bl true)
def tLT (x : V) : T := fun G v => ∃ a, v = .ref a ∧ G a = some (.lst [.str "told", x])
theorem ok_twice (T : Txt3 K mg na ta CS CN CV D) (d : Df K mg "_law_twice" s__law_twice) (G__law_same : Own P w K mg base CX0 3 "_law_same" s__law_same ["told", "due"] (spC (cSame K 3)))
    (G__law_asked : Own P w K mg base CX0 6 "_law_asked" s__law_asked ["word", "args", "by_name"] (spN (cAsked K))) : Own P w K mg base CX0 7 "_law_twice" s__law_twice ["word", "args", "due", "by_name"] (spC (cTwice K)) :=
  d.own fun f fd F => F.ok sc__law_twice (fun vs H Q E h => by obtain ⟨o, G, t, kn, ⟨_, word, la, args, x, p, bn, rfl, _⟩, _⟩ := h; rfl) (fun cdv A outer s H vs Q E hr h => by
    obtain ⟨o, G, t, kn, ⟨rfl, word, la, args, x, p, bn, rfl, hs, ask, hx, hf, rfl⟩, k⟩ := h
    refine ⟨_, (pss_one (ps_ret (pe_own G__law_same pb__law_same (hr.mono (by first | decide | exact Nat.le_refl _)) rfl pass0 (pa_cons (pe_lst (pa_cons (pe_own G__law_asked pb__law_asked (hr.mono (by first | decide | exact Nat.le_refl _)) rfl pass0 (pa_cons (pv 0) (pa_cons (pv 1) (pa_cons (pv 3) pa_nil)))) (pa_cons (pe_own G__law_asked pb__law_asked (hr.mono (by first | decide | exact Nat.le_refl _)) rfl pass0 (pa_cons (pv 0) (pa_cons (pv 1) (pa_cons (pe_not (pv 3)) pa_nil)))) pa_nil))) (pa_cons (pe_op gMul (pe_lst (pa_cons (pe_lst (pa_cons pe_str (pa_cons (pv 2) pa_nil))) pa_nil)) pe_int) pa_nil))))), ?_⟩
    have one : ∀ {te : TE} {b : Bool} {E : XK}, (∀ G', Ev none te (start ["word", "args", "due", "by_name"] [.str word, .ref la, x, .bl bn]) G' (tIs (.bl b))) →
        Ev none (tCall (spN (cAsked K)) [] E (tCons (tVar 0) (tCons (tVar 1) (tCons te tNil)))) (start ["word", "args", "due", "by_name"] [.str word, .ref la, x, .bl bn]) G (tLT x) := fun {te b E} ht =>
      (en_call (P := fun _ xs => xs = [.str "told", x]) (ea_cons (ev_x rfl) (ea_cons (ev_x rfl) (ea_cons (ht _) ea_nil))) fun G' vs e al => by
        rw [all3 al]
        refine ⟨none, _, .inl rfl, ⟨rfl, word, la, args, b, .told p, rfl, ex_l e hs, ask.up e, rfl⟩, fun G'' xs e2 u => fun G3 e3 => ?_⟩
        obtain ⟨v, h1, h2⟩ := u G3 e3
        rw [h1, (vl_flat hf h2 hx).1]).ev fun G' a xs e ha hp => ⟨a, rfl, by rw [ha, hp.now]⟩
    refine s_ret (Go.refl kn) (ev_call (t := tIs (.bl true)) (ea_cons (s := fun G v => ∃ a r1 r2, v = .ref a ∧ G a = some (.lst [.ref r1, .ref r2]) ∧ G r1 = some (.lst [.str "told", x]) ∧ G r2 = some (.lst [.str "told", x])) ((en_lst (ea_cons (one (b := bn) fun _ => ev_x rfl) (ea_cons (one (b := !bn) fun _ => ev_not (ev_x rfl)) ea_nil)) (by show 2 ≤ 100000; decide)).ev fun G' a xs e ha hp => ?_)
      (ea_cons (s := fun G v => ∃ a r, v = .ref a ∧ G a = some (.lst [.ref r, .ref r]) ∧ G r = some (.lst [.str "told", x])) ((en_rep (P := fun G xs => ∃ r, xs = [.ref r] ∧ G r = some (.lst [.str "told", x])) (P2 := fun G xs => ∃ r, xs = [.ref r, .ref r] ∧ G r = some (.lst [.str "told", x])) (n := 2)
        ((en_lst (ts := [tLT x]) (ea_cons ((en_lst (ts := [tIs (.str "told"), tIs x]) (ea_cons ev_k (ea_cons (ev_x rfl) ea_nil)) (by show 2 ≤ 100000; decide)).ev fun G' a xs e ha hp => ⟨a, rfl, by rw [ha, all2 hp.now]⟩) ea_nil) (by show 1 ≤ 100000; decide)).impN fun G' xs u => ?_) ev_k ⟨by decide, by decide⟩ (fun G' xs u => ?_) fun G' xs u => ?_).ev fun G' a xs e ha hp => ?_) ea_nil)) fun G' vs e al => ?_) k
    · have hp' := hp.now
      cases hp' with
      | cons a1 hp' => cases hp' with
        | cons a2 hp' =>
          cases hp'
          obtain ⟨r1, rfl, h1⟩ := a1.now
          obtain ⟨r2, rfl, h2⟩ := a2.now
          exact ⟨a, r1, r2, rfl, ha, h1, h2⟩
    · cases u with
      | cons a1 u =>
        cases u
        obtain ⟨r, rfl, h⟩ := a1.now
        exact ⟨r, rfl, h⟩
    · obtain ⟨r, rfl, _⟩ := u.now
      exact (show 1 ≤ 100 by decide)
    · intro G2 e2
      obtain ⟨r, rfl, h⟩ := u G2 e2
      exact ⟨r, rfl, h⟩
    · obtain ⟨r, rfl, h⟩ := hp.now
      exact ⟨a, r, rfl, ha, h⟩
    · cases al with
      | cons a1 al => cases al with
        | cons a2 al =>
          cases al
          obtain ⟨a, r1, r2, rfl, h1, h2, h3⟩ := a1.now
          obtain ⟨b, r, rfl, h4, h5⟩ := a2.now
          have fx := (vl_flat hf hx hx).2
          have inner : ∀ {r1 : Addr}, G' r1 = some (.lst [.str "told", x]) → Sm K 2 G' (.ref r1) (.ref r) := fun {r1} q => .inr (.inl ⟨r1, r, _, _, rfl, rfl, .of q, .of h5, (by show 2 ≤ 1000; decide), .cons (.flat rfl) (.cons (.flat fx) .nil)⟩)
          exact ⟨none, _, .inl rfl, ⟨rfl, _, _, rfl, .inr (.inl ⟨a, b, _, _, rfl, rfl, .of h1, .of h4, (by show 2 ≤ 1000; decide), .cons (inner h2) (.cons (inner h3) .nil)⟩), rfl⟩, fun _ _ _ w => w⟩)
/-! ### sorts drawn -/
theorem q_par {Db : Ends} {tz : TS} {i j : Nat} {s t : T} (g : Go o Ge He G H) (h1 : Ev o te σ G s) (h2 : Ev o tb σ G t)
    (k : ∀ v u G2 H2, Go o Ge He G2 H2 → Go o G H G2 H2 → U s G2 v → U t G2 u → tz Db ((σ.set i (some v)).set j (some u)) H2) : tSeq (tPar i j (tCons te (tCons tb tNil))) tz Db σ H :=
  h1 G H (Ex.refl _) g.kn _ fun v G2 H2 g2 w2 => h2 G2 H2 g2.gg g2.kn _ fun u G3 H3 g3 w3 => ⟨v, u, rfl, k v u G3 H3 (g.trans (g2.trans g3)) (g2.trans g3) (w2.up g3.gg) w3⟩
theorem allU_at : ∀ {ts : List T} {vs : List V} {i : Nat}, AllU G ts vs → i < ts.length → ∃ v s, vs[i]? = some v ∧ s ∈ ts ∧ U s G v
  | [], _, _, .nil, h => absurd h (Nat.not_lt_zero _)
  | s :: ts, _, 0, .cons a _, _ => ⟨_, s, rfl, List.mem_cons_self .., a⟩
  | s :: ts, _, i + 1, .cons _ r, h => by
    obtain ⟨v, s', h1, h2, h3⟩ := allU_at (i := i) r (Nat.lt_of_succ_lt_succ h)
    exact ⟨v, s', h1, List.mem_cons_of_mem _ h2, h3⟩
/-- one of a written list's items -/
theorem ev_pick {ta : TA} {ts : List T} {n : Int} (h : EvA o ta σ G ts) (hi : Ev o ti σ G (tRng 0 n)) (hn : n = ts.length) (hl : ts.length ≤ 100000) : Ev o (tOp (rIx K) (tLst ta) ti) σ G (fun G v => ∃ s ∈ ts, U s G v) :=
  ev_op ((en_lst h hl).ev (t := fun G v => ∃ a vs, v = .ref a ∧ G a = some (.lst vs) ∧ UP (fun G xs => AllU G ts xs) G vs) fun G' a xs e ha hp => ⟨a, xs, rfl, ha, hp⟩) hi fun G' x y e hx hy => by
    obtain ⟨a, vs, rfl, ha, hp⟩ := hx.now
    obtain ⟨i, rfl, i0, i1⟩ := hy.now
    obtain ⟨v, s, h1, h2, h3⟩ := allU_at (i := i.toNat) hp.now (by omega)
    exact fun G1 H1 e1 kn1 Q q => ro_ixL (.of ha) (at_of (v := v) (by omega) h1) G1 H1 e1 kn1 Q fun v' G3 H3 g3 w3 => q v' G3 H3 g3 (by rw [w3.eq]; exact fun G4 e4 => ⟨s, h2, (h3.up (e1.trans g3.gg)).up e4⟩)
def tSort (K : PySem.W.Frag) : T := fun G v => ∃ s : SK, s.ok ∧ Vl K G v s.d
def cSort (K : PySem.W.Frag) (o : Option Addr) (G : Hp) (vs : List V) (t : T) : Prop := ∃ b : Addr, o = some b ∧ vs = [.ref b] ∧ t = tSort K
theorem take_at {b : Addr} {E : XK} {n : Int} {tn : TE} (h : σ[0]? = some (some (.ref b))) (hn : Ev (some b) tn σ G (tIs (.int n))) (h0 : 0 < n ∧ n < 1000000) : Ev (some b) (tCall (spC cTake) [] E (tCons (tVar 0) (tCons tn tNil))) σ G (tRng 0 n) :=
  ev_call (ea_cons (ev_x h) (ea_cons hn ea_nil)) fun G' vs e a => by
    rw [all2 a]
    exact ⟨some b, _, .inl rfl, ⟨b, _, rfl, rfl, ⟨h0.1, by omega⟩, rfl⟩, fun _ _ _ w => w⟩
theorem take_at2 {b : Addr} {E : XK} {n : Int} {tn : TE} {j : Nat} (h : σ[j]? = some (some (.ref b))) (hn : Ev (some b) tn σ G (tIs (.int n))) (h0 : 0 < n ∧ n < 1000000) : Ev (some b) (tCall (spC cTake) [] E (tCons (tVar j) (tCons tn tNil))) σ G (tRng 0 n) :=
  ev_call (ea_cons (ev_x h) (ea_cons hn ea_nil)) fun G' vs e a => by
    rw [all2 a]
    exact ⟨some b, _, .inl rfl, ⟨b, _, rfl, rfl, ⟨h0.1, by omega⟩, rfl⟩, fun _ _ _ w => w⟩
theorem ok_lsort_drawn (T : Txt3 K mg na ta CS CN CV D) (d : Df K mg "_law_sort" s__law_sort) (G__law_take : Own P w K mg base CX0 1 "_law_take" s__law_take ["box", "many"] (spC cTake)) : Own P w K mg base CX0 2 "_law_sort" s__law_sort ["box"] (spC (cSort K)) :=
  d.own fun f fd F => F.ok sc__law_sort (fun vs H Q E h => by obtain ⟨o, G, t, kn, ⟨b, _, rfl, _⟩, _⟩ := h; rfl) (fun cdv A outer s H vs Q E hr h => by
    obtain ⟨o, G, t, kn, ⟨b, rfl, rfl, rfl⟩, k⟩ := h
    refine ⟨_, (pss_cons (ps_par (i := 1) (j := 2) (by rfl) sc__law_sort.nd rfl rfl (by decide) rfl rfl (pa_cons (pe_own G__law_take pb__law_take (hr.mono (by first | decide | exact Nat.le_refl _)) rfl pass0 (pa_cons (pv 0) (pa_cons pe_int pa_nil))) (pa_cons (pe_op op_sub (pe_own G__law_take pb__law_take (hr.mono (by first | decide | exact Nat.le_refl _)) rfl pass0 (pa_cons (pv 0) (pa_cons pe_int pa_nil))) pe_int) pa_nil)) (by rfl))
   (pss_cons (ps_if (pt_cmpR gLt (pv 1) pe_int (nomark _)) (pss_one (ps_ret (pe_tup (pa_cons pe_str pa_nil)))) pss_nil)
   (pss_cons (ps_if (pt_cmpR (kEq (K := K) rfl hr.units) (pv 1) pe_int (nomark _)) (pss_one (ps_ret (pe_tup (pa_cons pe_str pa_nil)))) pss_nil)
   (pss_one (ps_ret (pe_ifExp (pt_cmpR (kEq (K := K) rfl hr.units) (pv 1) pe_int (nomark _)) (pe_tup (pa_cons pe_str (pa_cons (pv 2) (pa_cons (pe_op (kAdd (K := K) rfl) (pv 2) (pe_ix (kIx (K := K) rfl) (pe_lst (pa_cons pe_int (pa_cons pe_int (pa_cons pe_int (pa_cons pe_int pa_nil))))) (pe_own G__law_take pb__law_take (hr.mono (by first | decide | exact Nat.le_refl _)) rfl pass0 (pa_cons (pv 0) (pa_cons pe_int pa_nil))) (fun _ _ => rfl))) pa_nil)))) (pe_ix (kIx (K := K) rfl) (pe_lst (pa_cons (pe_tup (pa_cons pe_str (pa_cons (pe_un un_neg pe_int) (pa_cons pe_int pa_nil)))) (pa_cons (pe_tup (pa_cons pe_str (pa_cons pe_int (pa_cons pe_int pa_nil)))) (pa_cons (pe_tup (pa_cons pe_str (pa_cons pe_int (pa_cons pe_int pa_nil)))) pa_nil)))) (pe_own G__law_take pb__law_take (hr.mono (by first | decide | exact Nat.le_refl _)) rfl pass0 (pa_cons (pv 0) (pa_cons pe_int pa_nil))) (fun _ _ => rfl)))))))), ?_⟩
    have one : ∀ {G' σ'} {z : Str} {s : SK}, s.d = .tuple [.str z] → s.ok → Ev (some b) (tTup (tCons (tC (.str z)) tNil)) σ' G' (tSort K) := fun {G' σ' z s} e ok => (ev_tup (K := K) (ts := [tIs (.str z)]) (ea_cons ev_k ea_nil) (by show 1 ≤ 100000; decide)).imp fun G2 r _ u => by
      obtain ⟨a, vs, rfl, hs, hu⟩ := u.now
      rw [all1 hu] at hs
      exact fun G3 e3 => ⟨s, ok, by rw [e]; exact .inl (.tup (ex_t e3 hs) (.cons (.str z) .nil))⟩
    have tri : ∀ {G' σ'} {ta tb : TE} {i j : Int}, (-1000 ≤ i ∧ i ≤ j ∧ j ≤ 1000) → Ev (some b) ta σ' G' (tIs (.int i)) → Ev (some b) tb σ' G' (tIs (.int j)) → Ev (some b) (tTup (tCons (tC (.str "integer")) (tCons ta (tCons tb tNil)))) σ' G' (tSort K) := fun {G' σ' ta tb i j} ok ha hb =>
      (ev_tup (K := K) (ts := [tIs (.str "integer"), tIs (.int i), tIs (.int j)]) (ea_cons ev_k (ea_cons ha (ea_cons hb ea_nil))) (by show 3 ≤ 100000; decide)).imp fun G2 r _ u => by
      obtain ⟨a, vs, rfl, hs, hu⟩ := u.now
      rw [all3 hu] at hs
      exact fun G3 e3 => ⟨.int i j, ok, .inl (.tup (ex_t e3 hs) (.cons (.str _) (.cons (.int i) (.cons (.int j) .nil))))⟩
    refine q_par (Go.refl kn) (take_at rfl ev_k ⟨by decide, by decide⟩) (ev_op (s := tRng 0 40) (u := tIs (.int 20)) (t := tRng (-20) 20) (take_at rfl ev_k ⟨by decide, by decide⟩) ev_k fun G' x y e hx hy => ?_) fun v u G2 H2 g2 _ hv hu => ?_
    · obtain ⟨i, rfl, i0, i1⟩ := hx.now
      rw [hy.eq]
      exact ro_q (z := .int (i - 20)) (fun _ _ => ⟨_, rfl, by omega, by omega⟩) fun _ _ _ _ _ q => ⟨i, 20, rfl, rfl, q⟩
    · obtain ⟨way, rfl, w0, w1⟩ := hv.now
      obtain ⟨low, rfl, l0, l1⟩ := hu.now
      refine q_when g2 (p := (· = decide (way < 3))) (et_test (ev_i0 (ev_x rfl) ev_k)) (fun _ G3 H3 g3 _ => s_ret g3 (one (s := .none) rfl trivial) k) fun _ G3 H3 g3 _ => ?_
      refine q_when g3 (p := (· = decide (way = 3))) (et_test (ev_op2 (ev_x rfl) ev_k (ro_eqS rfl (by simp)))) (fun _ G4 H4 g4 _ => s_ret g4 (one (s := .truth) rfl trivial) k) fun _ G4 H4 g4 _ => ?_
      refine s_ret g4 (ev_if (p := (· = decide (way = 4))) (et_test (ev_op2 (ev_x rfl) ev_k (ro_eqS rfl (by simp)))) (fun _ => ?_) fun _ => ?_) k
      · refine (ev_tup (K := K) (ts := [tIs (.str "integer"), tIs (.int low), tRng low (low + 31)]) (ea_cons ev_k (ea_cons (ev_x rfl) (ea_cons (ev_op (s := tIs (.int low)) (u := tRng 0 31) (ev_x rfl) ((ev_pick (ts := [tIs (.int 0), tIs (.int 1), tIs (.int 9), tIs (.int 30)]) (ea_cons ev_k (ea_cons ev_k (ea_cons ev_k (ea_cons ev_k ea_nil)))) (take_at rfl ev_k ⟨by decide, by decide⟩) rfl (by show 4 ≤ 100000; decide)).imp fun G' v _ u G3 e3 => ?_) fun G' x y e hx hy => ?_) ea_nil))) (by show 3 ≤ 100000; decide)).imp fun G' v e u G3 e3 => ?_
        · obtain ⟨s, hs, hu⟩ := u G3 e3
          simp only [List.mem_cons, List.not_mem_nil, or_false] at hs
          rcases hs with rfl | rfl | rfl | rfl <;> exact ⟨_, hu.now, by decide, by decide⟩
        · obtain ⟨i, rfl, i0, i1⟩ := hy.now
          rw [hx.eq]
          exact fun G1 H1 e1 kn1 Q q => ro_addI G1 H1 e1 kn1 Q fun v' G3 H3 g3 w3 => q v' G3 H3 g3 (by rw [w3.eq]; exact fun _ _ => ⟨_, rfl, by omega, by omega⟩)
        · obtain ⟨a, vs, rfl, hs, hu⟩ := u G3 e3
          cases hu with
          | cons a1 hu => cases hu with
            | cons a2 hu => cases hu with
              | cons a3 hu =>
                cases hu
                obtain ⟨j, rfl, j0, j1⟩ := a3.now
                rw [a1.eq, a2.eq] at hs
                exact ⟨.int low j, ⟨by omega, by omega, by omega⟩, .inl (.tup hs (.cons (.str _) (.cons (.int low) (.cons (.int j) .nil))))⟩
      · refine (ev_pick (ts := [tSort K, tSort K, tSort K]) (ea_cons (tri (i := -1000) (j := 1000) (by decide) (ev_neg ev_k) ev_k) (ea_cons (tri (i := 0) (j := 9) (by decide) ev_k ev_k) (ea_cons (tri (i := 5) (j := 5) (by decide) ev_k ev_k) ea_nil))) (take_at (n := 3) rfl ev_k ⟨by decide, by decide⟩) rfl (by show 3 ≤ 100000; decide)).imp fun G' v _ u G3 e3 => ?_
        obtain ⟨s, hs, hu⟩ := u G3 e3
        simp only [List.mem_cons, List.not_mem_nil, or_false, or_self] at hs
        rw [hs] at hu
        exact hu.now)
end
end K12
set_option Elab.async false
set_option linter.all false
set_option maxRecDepth 100000
set_option maxHeartbeats 4000000
namespace K12
open PySem L2 Ty
open Evl (Ex ex_l ex_t)
abbrev s__law_near_sorts : Stmt := top 38
theorem sc__law_near_sorts : FnScope ["box", "sort", "low", "found", "k"] ["box", "sort"] (defScope s__law_near_sorts) := ⟨rfl, rfl, rfl, by decide +kernel, rfl, by decide +kernel, by decide +kernel⟩
theorem pb__law_near_sorts : PosB "_law_near_sorts" s__law_near_sorts ["box", "sort"] := fun _ _ _ _ _ _ us hl => match us, hl with | [_, _], _ => rfl
abbrev s__law_values : Stmt := top 39
theorem sc__law_values : FnScope ["box", "sort", "low", "high", "found", "k"] ["box", "sort"] (defScope s__law_values) := ⟨rfl, rfl, rfl, by decide +kernel, rfl, by decide +kernel, by decide +kernel⟩
theorem pb__law_values : PosB "_law_values" s__law_values ["box", "sort"] := fun _ _ _ _ _ _ us hl => match us, hl with | [_, _], _ => rfl
def SK.ds : SK → List PyData
  | .none => [.str "none"]
  | .truth => [.str "truth"]
  | .int a b => [.str "integer", .int a, .int b]
theorem SK.dds (s : SK) : s.d = .tuple s.ds := by cases s <;> rfl
theorem SK.okn (s : SK) : Ty.okn 3 s.d = true := by cases s <;> rfl
theorem SK.oknL (s : SK) : Ty.okn 3 (.list s.ds) = true := by cases s <;> rfl
theorem SK.oknT (s : SK) : Ty.okn 3 (.tuple (s.ds ++ s.ds)) = true := by cases s <;> rfl
theorem stI : PyData.strOk ("integer" : Str) = true := by decide +kernel
theorem sh_tup3 {a b : Int} : SeqAt.shaped (.tuple [.str "integer", .int a, .int b]) = true := sh3
theorem sh_l1 {a : Int} : SeqAt.shaped (.list [.int a]) = true := by simp [SeqAt.shaped, PyData.canLay0, PyData.canLayAll0, PyData.depth, PyData.depthAll]
theorem SK.sh (s : SK) : shD s.d = true := by
  unfold shD
  rw [sk_sh, Bool.or_true]
theorem SK.shL (s : SK) : shD (.list s.ds) = true := by
  unfold shD
  have : SeqAt.shaped (.list s.ds) = true := by
    cases s with
    | none => decide +kernel
    | truth => decide +kernel
    | int a b => simp [SK.ds, SeqAt.shaped, PyData.canLay0, PyData.canLayAll0, PyData.depth, PyData.depthAll, stI]
  rw [this, Bool.or_true]
theorem SK.shT (s : SK) : shD (.tuple (s.ds ++ s.ds)) = true := by
  unfold shD
  have : SeqAt.shaped (.tuple (s.ds ++ s.ds)) = true := by
    cases s with
    | none => decide +kernel
    | truth => decide +kernel
    | int a b => simp [SK.ds, SeqAt.shaped, PyData.canLay0, PyData.canLayAll0, PyData.depth, PyData.depthAll, stI]
  rw [this, Bool.or_true]
def SK.lo : SK → Int
  | .int a _ => a
  | _ => 0
def SK.hi : SK → Int
  | .int _ b => b
  | _ => 9
section
variable {P : Program} {w : World} {K : PySem.W.Frag} {mg : Str → Option Value} {base : Heap} {na ta CS CN CV D : Addr}
variable {o : Option Addr} {σ : L2.St} {G Ge He H : Hp} {tl ti te tb : TE} {x : V}
/-- sort + sort -/
theorem ev_catT {ds es : List PyData} (ha : Ev o te σ G (tV K (.tuple ds))) (hb : Ev o tb σ G (tV K (.tuple es))) (hn : ds ≠ []) (hm : es ≠ []) (hl : ds.length + es.length ≤ 1000) : Ev o (tOp (rAddG K) te tb) σ G (tV K (.tuple (ds ++ es))) := fun G1 H1 e kn Q q =>
  ha G1 H1 e kn _ fun v G2 H2 g2 w2 => hb G2 H2 (e.trans g2.gg) g2.kn _ fun v' G3 H3 g3 w3 => by
    obtain ⟨a, xs, rfl, hs, hd⟩ := (w2.up g3.gg).now.tup
    obtain ⟨b, ys, rfl, hs', hd'⟩ := w3.now.tup
    have l1 := dps_len hd
    have l2 := dps_len hd'
    refine .inr (.inr (.inr ⟨a, b, xs, ys, rfl, rfl, ex_t g3.kn.sub hs, ex_t g3.kn.sub hs', fun z => hn (List.eq_nil_of_length_eq_zero (by rw [← l1, z]; rfl)), Evl.sz_of (by omega), fun z => (hm (List.eq_nil_of_length_eq_zero (by rw [← l2, z]; rfl))).elim, fun _ p hp => ?_⟩))
    have eN := Ex.new (o := HO.tup (xs ++ ys)) (Evl.fresh_back g3.kn.sub hp)
    exact q (.ref p) _ _ ((g2.trans g3).trans (.new g3.kn hp)) (Vl.toU (.inl (.tup (.of upd_same) (dps_app (dps_up eN _ hd) (dps_up eN _ hd')))))
/-- [found[k] for k in mixed(box, list(range(len(found))))] -/
theorem en_shuf {b a : Addr} {j m n : Nat} {E : XK} {os : List V} {t : T} (h0 : σ[0]? = some (some (.ref b))) (hj : σ[j]? = some (some (.ref a))) (hw : ∀ x, wipe ((wipe σ [m]).set m (some x)) [m] = wipe σ [m])
    (hjm : ∀ x, ((wipe σ [m]).set m (some x))[j]? = some (some (.ref a))) (hm : ∀ x, ((wipe σ [m]).set m (some x))[m]? = some (some x)) (ha : G a = some (.lst os)) (hl : os.length ≤ n) (hn : n ≤ 900) (hx : ∀ x ∈ os, U t G x) :
    EvN (some b) (tLc (iList K (tCall (spN (cMixed K)) [] E (tCons (tVar 0) (tCons (tLstRg (tRg1 (tCB (rLen K) (tCons (tVar j) tNil)))) tNil)))) (gName m) tYes (tOp (rIx K) (tVar j) (tVar m)) [m]) σ G (pAll n t) := by
  refine (en_all (t := t) (P := fun _ xs => xs.length ≤ n ∧ ∀ x ∈ xs, ∃ i : Int, x = .int i ∧ 0 ≤ i ∧ i < os.length) (ei_listN (en_call (ea_cons (ev_x h0) (ea_cons (s := fun G v => ∃ l, v = .ref l ∧ G l = some (.lst (rgV 0 os.length))) ((en_listRg (n := os.length) (ev_cb1 (ev_x hj) fun G' e => rc_lenL (.of (e _ _ ha))) ⟨by omega, by omega⟩).ev fun G' l xs e hl hp => ⟨l, rfl, by rw [hl, hp.now]⟩) ea_nil)) fun G' vs e al => ?_) fun _ _ _ h => h) hw
    (fun _ xs _ h => by have := h.now.1; omega) (fun _ _ _ _ _ _ _ => et_yes) fun G2 xs i x e hP hi => ?_).impN fun G2 xs h => ?_
  · cases al with
    | cons a1 al => cases al with
      | cons a2 al =>
        cases al
        obtain ⟨l, rfl, hl'⟩ := a2.now
        rw [a1.eq]
        refine ⟨some b, _, .inl rfl, ⟨b, l, _, rfl, rfl, .of hl', by rw [rgV_length]; omega, rfl⟩, fun G3 xs _ h G4 e4 => ?_⟩
        have pm := h G4 e4
        exact ⟨by rw [pm.length_eq, rgV_length]; omega, fun x hx => rgV_mem (pm.mem_iff.mp hx)⟩
  · obtain ⟨k, rfl, k0, k1⟩ := hP.now.2 x (List.mem_of_getElem? hi)
    exact ev_ixA (n := n) (ev_x (hjm _)) (ev_x (hm _)) (e _ _ ha) (fun x hx' => (hx x hx').up e) ⟨k0, k1⟩
  · obtain ⟨ys, hy, hl', hx'⟩ := h
    exact ⟨by have := hy.now.1; omega, hx'⟩
def cNear (K : PySem.W.Frag) (o : Option Addr) (G : Hp) (vs : List V) (p : PL) : Prop := ∃ (b : Addr) (x : V) (s : SK), o = some b ∧ vs = [.ref b, x] ∧ Vl K G x s.d ∧ s.ok ∧ p = pAll 60 (tOk K)
theorem lo_at {s : SK} (h : Ev o te σ G (tV K s.d)) : Ev o (tIf (tTest (tOp (rEqG K) (tCB (rLen K) (tCons te tNil)) (tC (.int 3)))) (tOp (rIx K) te (tC (.int 1))) (tC (.int 0))) σ G (tIs (.int s.lo)) := by
  have hl : EvT o (tTest (tOp (rEqG K) (tCB (rLen K) (tCons te tNil)) (tC (.int 3)))) σ G (· = s.isI) := by
    have h' := h
    rw [s.dds] at h'
    refine et_test (ev_op2 (ev_lenT h') ev_k (ro_eqS rfl ?_))
    cases s <;> rfl
  refine ev_if hl (fun z => ?_) fun z => ?_
  · cases s with
    | int a b => exact (ev_ixT (ds := [.str "integer", .int a, .int b]) (i := 1) h ev_k rfl).isInt
    | _ => cases z
  · cases s with
    | int a b => cases z
    | _ => exact ev_k
theorem ok_near (T : Txt3 K mg na ta CS CN CV D) (d : Df K mg "_law_near_sorts" s__law_near_sorts) (G__law_mixed : Own P w K mg base CX0 2 "_law_mixed" s__law_mixed ["box", "items"] (spN (cMixed K))) :
    Own P w K mg base CX0 3 "_law_near_sorts" s__law_near_sorts ["box", "sort"] (spN (cNear K)) :=
  d.own fun f fd F => F.ok sc__law_near_sorts (fun vs H Q E h => by obtain ⟨o, G, t, kn, ⟨b, x, s, _, rfl, _⟩, _⟩ := h; rfl) (fun cdv A outer s H vs Q E hr h => by
    obtain ⟨o, G, p, kn, ⟨b, x, s, rfl, rfl, hs, hok, rfl⟩, k⟩ := h
    refine ⟨_, (pss_cons (ps_set (i := 2) sc__law_near_sorts.nd rfl (Or.inl rfl) (pe_ifExp (pt_cmpR (kEq (K := K) rfl hr.units) (pe_callB (kLen (K := K) rfl) (by rfl) T.n_len (by decide +kernel) (pa_cons (pv 1) pa_nil)) pe_int (nomark _)) (pe_ix (kIx (K := K) rfl) (pv 1) pe_int (fun _ _ => rfl)) pe_int))
   (pss_cons (ps_set (i := 3) sc__law_near_sorts.nd rfl (Or.inr rfl) (pe_lst (pa_cons pe_non (pa_cons pe_int (pa_cons pe_str (pa_cons pe_dnewK (pa_cons pe_bl (pa_cons (pe_tup pa_nil) (pa_cons (pe_lst (pa_cons pe_str pa_nil)) (pa_cons (pe_tup (pa_cons pe_str (pa_cons pe_non pa_nil))) (pa_cons (pe_tup (pa_cons pe_str (pa_cons pe_int pa_nil))) (pa_cons (pe_tup (pa_cons pe_str pa_nil)) (pa_cons (pe_tup (pa_cons pe_str pa_nil)) (pa_cons (pe_tup (pa_cons pe_str (pa_cons pe_int pa_nil))) (pa_cons (pe_tup (pa_cons pe_str (pa_cons pe_int (pa_cons pe_int pa_nil)))) (pa_cons (pe_tup (pa_cons pe_str (pa_cons (pe_un un_neg pe_int) (pa_cons pe_int pa_nil)))) (pa_cons (pe_tup (pa_cons pe_str (pa_cons pe_int (pa_cons pe_int pa_nil)))) (pa_cons (pe_tup (pa_cons pe_str (pa_cons (pv 2) (pa_cons (pv 2) pa_nil)))) (pa_cons (pe_tup (pa_cons pe_str (pa_cons (pe_un un_neg pe_int) (pa_cons pe_int pa_nil)))) (pa_cons (pe_tup (pa_cons pe_str (pa_cons pe_int (pa_cons pe_int pa_nil)))) (pa_cons (pe_tup (pa_cons pe_str (pa_cons (pe_un un_neg pe_int) (pa_cons (pe_un un_neg pe_int) pa_nil)))) pa_nil)))))))))))))))))))))
   (pss_cons (ps_set (i := 3) sc__law_near_sorts.nd rfl (Or.inr rfl) (pe_op (kAdd (K := K) rfl) (pv 3) (pe_lst (pa_cons (pe_tup (pa_cons pe_str (pa_cons pe_bl (pa_cons pe_int pa_nil)))) (pa_cons (pe_tup (pa_cons pe_str (pa_cons pe_int (pa_cons pe_bl pa_nil)))) (pa_cons (pe_tup (pa_cons pe_str (pa_cons pe_non (pa_cons pe_int pa_nil)))) (pa_cons (pe_tup (pa_cons pe_str (pa_cons pe_str (pa_cons pe_str pa_nil)))) (pa_cons (pe_lst (pa_cons pe_str (pa_cons pe_int (pa_cons pe_int pa_nil)))) (pa_cons (pe_tup (pa_cons pe_str (pa_cons pe_int (pa_cons pe_int (pa_cons pe_int pa_nil))))) (pa_cons (pe_tup (pa_cons pe_str (pa_cons pe_int (pa_cons pe_int pa_nil)))) (pa_cons (pe_tup (pa_cons pe_non (pa_cons pe_int (pa_cons pe_int pa_nil)))) (pa_cons (pe_tup (pa_cons pe_non pa_nil)) (pa_cons (pe_tup (pa_cons (pe_tup (pa_cons pe_str pa_nil)) pa_nil)) (pa_cons (pe_tup (pa_cons pe_str (pa_cons (pe_op op_pow pe_int pe_int) (pa_cons (pe_op op_pow pe_int pe_int) pa_nil)))) (pa_cons (pe_callTy (kList (K := K) rfl) (by rfl) T.n_list (by decide +kernel) (pa_cons (pv 1) pa_nil)) (pa_cons (pe_op (kAdd (K := K) rfl) (pv 1) (pv 1)) (pa_cons (pv 1) pa_nil)))))))))))))))))
   (pss_one (ps_ret (pe_lc (own := [("k", 4)]) rfl sc__law_near_sorts.nd (pi_listK (K := K) rfl (pe_own G__law_mixed pb__law_mixed (hr.mono (by first | decide | exact Nat.le_refl _)) rfl pass0 (pa_cons (pv 0) (pa_cons (pe_listRg rfl (by rfl) T.n_list (prg_1 (by rfl) T.n_range (pe_callB (kLen (K := K) rfl) (by rfl) T.n_len (by decide +kernel) (pa_cons (pv 3) pa_nil)))) pa_nil)))) (blkOk_by (own := [("k", 4)]) (N := ["box", "sort", "low", "found", "k"]) (sc := defScope s__law_near_sorts) (by decide +kernel)) (fun _ _ _ _ _ => (pg_name (i := 4) sc__law_near_sorts.nd rfl (Or.inl rfl))) (fun _ _ _ _ _ => pts_nil) (fun _ _ _ _ _ => (pe_ix (kIx (K := K) rfl) (pv 3) (pv 4) (fun _ _ => rfl))))))))), ?_⟩
    refine q_asg (Go.refl kn) (lo_at (ev_v rfl hs)) fun v G2 H2 g2 _ w2 => ?_
    rw [w2.eq]
    generalize s.lo = low
    refine q_asg g2 (en_items (n := 19) (t := tOk K) ?_ (by decide)).list fun v G3 H3 g3 _ w3 => ?_
    · exact (ea_cons (okd (d := .none) (Ev.vNon ev_k) (by decide +kernel) (by decide +kernel)) (ea_cons (okd (d := (.int 7)) (Ev.vInt ev_k) (by decide +kernel) (by decide +kernel)) (ea_cons (okd (d := (.str "truth")) (Ev.vStr ev_k) (by decide +kernel) (by decide +kernel)) (ea_cons (okd (d := (.dict [])) ev_dnewV (by decide +kernel) (by decide +kernel)) (ea_cons (okd (d := (.bool true)) (Ev.vBl ev_k) (by decide +kernel) (by decide +kernel)) (ea_cons (okd (d := (.tuple [])) (ev_tupV (ds := []) ea_nil (sh_all (by decide +kernel)) (by decide)) (by decide +kernel) (by decide +kernel)) (ea_cons (okd (d := (.list [(.str "truth")])) (ev_lstV (ds := [(.str "truth")]) (ea_cons (Ev.vStr ev_k) ea_nil) (sh_all (by decide +kernel)) (by decide)) (by decide +kernel) (by decide +kernel)) (ea_cons (okd (d := (.tuple [(.str "truth"), .none])) (ev_tupV (ds := [(.str "truth"), .none]) (ea_cons (Ev.vStr ev_k) (ea_cons (Ev.vNon ev_k) ea_nil)) (sh_all (by decide +kernel)) (by decide)) (by decide +kernel) (by decide +kernel)) (ea_cons (okd (d := (.tuple [(.str "none"), (.int 0)])) (ev_tupV (ds := [(.str "none"), (.int 0)]) (ea_cons (Ev.vStr ev_k) (ea_cons (Ev.vInt ev_k) ea_nil)) (sh_all (by decide +kernel)) (by decide)) (by decide +kernel) (by decide +kernel)) (ea_cons (okd (d := (.tuple [(.str "None")])) (ev_tupV (ds := [(.str "None")]) (ea_cons (Ev.vStr ev_k) ea_nil) (sh_all (by decide +kernel)) (by decide)) (by decide +kernel) (by decide +kernel)) (ea_cons (okd (d := (.tuple [(.str "integer")])) (ev_tupV (ds := [(.str "integer")]) (ea_cons (Ev.vStr ev_k) ea_nil) (sh_all (by decide +kernel)) (by decide)) (by decide +kernel) (by decide +kernel)) (ea_cons (okd (d := (.tuple [(.str "integer"), (.int 0)])) (ev_tupV (ds := [(.str "integer"), (.int 0)]) (ea_cons (Ev.vStr ev_k) (ea_cons (Ev.vInt ev_k) ea_nil)) (sh_all (by decide +kernel)) (by decide)) (by decide +kernel) (by decide +kernel)) (ea_cons (okd (d := (.tuple [(.str "integer"), (.int 5), (.int 4)])) (ev_tupV (ds := [(.str "integer"), (.int 5), (.int 4)]) (ea_cons (Ev.vStr ev_k) (ea_cons (Ev.vInt ev_k) (ea_cons (Ev.vInt ev_k) ea_nil))) (sh_all (by decide +kernel)) (by decide)) (by decide +kernel) (by decide +kernel)) (ea_cons (okd (d := (.tuple [(.str "integer"), (.int (-1001)), (.int 0)])) (ev_tupV (ds := [(.str "integer"), (.int (-1001)), (.int 0)]) (ea_cons (Ev.vStr ev_k) (ea_cons (Ev.vInt (ev_neg (Ev.isInt (K := K) (Ev.vInt ev_k)))) (ea_cons (Ev.vInt ev_k) ea_nil))) (sh_all (by decide +kernel)) (by decide)) (by decide +kernel) (by decide +kernel)) (ea_cons (okd (d := (.tuple [(.str "integer"), (.int 0), (.int 1001)])) (ev_tupV (ds := [(.str "integer"), (.int 0), (.int 1001)]) (ea_cons (Ev.vStr ev_k) (ea_cons (Ev.vInt ev_k) (ea_cons (Ev.vInt ev_k) ea_nil))) (sh_all (by decide +kernel)) (by decide)) (by decide +kernel) (by decide +kernel)) (ea_cons (okd (d := (.tuple [(.str "integer"), (.int low), (.int low)])) (ev_tupV (ds := [(.str "integer"), (.int low), (.int low)]) (ea_cons (Ev.vStr ev_k) (ea_cons (Ev.vInt (ev_x rfl)) (ea_cons (Ev.vInt (ev_x rfl)) ea_nil))) (sh_cons (by decide +kernel) (sh_cons sh_int (sh_cons sh_int sh_nil))) (by show 3 ≤ 100000; decide)) (by rfl) (by simp [shD, isDict, sh_tup3, sh_int, sh_l1])) (ea_cons (okd (d := (.tuple [(.str "integer"), (.int (-1000)), (.int 1000)])) (ev_tupV (ds := [(.str "integer"), (.int (-1000)), (.int 1000)]) (ea_cons (Ev.vStr ev_k) (ea_cons (Ev.vInt (ev_neg (Ev.isInt (K := K) (Ev.vInt ev_k)))) (ea_cons (Ev.vInt ev_k) ea_nil))) (sh_all (by decide +kernel)) (by decide)) (by decide +kernel) (by decide +kernel)) (ea_cons (okd (d := (.tuple [(.str "integer"), (.int 1000), (.int 1000)])) (ev_tupV (ds := [(.str "integer"), (.int 1000), (.int 1000)]) (ea_cons (Ev.vStr ev_k) (ea_cons (Ev.vInt ev_k) (ea_cons (Ev.vInt ev_k) ea_nil))) (sh_all (by decide +kernel)) (by decide)) (by decide +kernel) (by decide +kernel)) (ea_cons (okd (d := (.tuple [(.str "integer"), (.int (-1000)), (.int (-1000))])) (ev_tupV (ds := [(.str "integer"), (.int (-1000)), (.int (-1000))]) (ea_cons (Ev.vStr ev_k) (ea_cons (Ev.vInt (ev_neg (Ev.isInt (K := K) (Ev.vInt ev_k)))) (ea_cons (Ev.vInt (ev_neg (Ev.isInt (K := K) (Ev.vInt ev_k)))) ea_nil))) (sh_all (by decide +kernel)) (by decide)) (by decide +kernel) (by decide +kernel)) ea_nil)))))))))))))))))))
    obtain ⟨a, xs, rfl, ha, hl, hx⟩ := w3.now
    have vs : ∀ {G' σ'}, σ'[1]? = some (some x) → Ex G G' → Ev (some b) (tVar 1) σ' G' (tV K (.tuple s.ds)) := fun h e => by rw [← s.dds]; exact ev_v h (hs.up e)
    have dn : s.ds ≠ [] := by cases s <;> exact fun z => nomatch z
    have dl : s.ds.length + s.ds.length ≤ 1000 := by
      cases s with
      | none => exact (show 1 + 1 ≤ 1000 by decide)
      | truth => exact (show 1 + 1 ≤ 1000 by decide)
      | int a b => exact (show 3 + 3 ≤ 1000 by decide)
    refine q_asg g3 (en_catL (n := 19) (m := 14) (ev_var rfl (tList.u ha hl hx)) (en_items (n := 14) (t := tOk K) ?_ (by decide)) (by decide) (by decide)).list fun v G4 H4 g4 _ w4 => ?_
    · exact (ea_cons (okd (d := (.tuple [(.str "integer"), (.bool true), (.int 5)])) (ev_tupV (ds := [(.str "integer"), (.bool true), (.int 5)]) (ea_cons (Ev.vStr ev_k) (ea_cons (Ev.vBl ev_k) (ea_cons (Ev.vInt ev_k) ea_nil))) (sh_all (by decide +kernel)) (by decide)) (by decide +kernel) (by decide +kernel)) (ea_cons (okd (d := (.tuple [(.str "integer"), (.int 0), (.bool true)])) (ev_tupV (ds := [(.str "integer"), (.int 0), (.bool true)]) (ea_cons (Ev.vStr ev_k) (ea_cons (Ev.vInt ev_k) (ea_cons (Ev.vBl ev_k) ea_nil))) (sh_all (by decide +kernel)) (by decide)) (by decide +kernel) (by decide +kernel)) (ea_cons (okd (d := (.tuple [(.str "integer"), .none, (.int 5)])) (ev_tupV (ds := [(.str "integer"), .none, (.int 5)]) (ea_cons (Ev.vStr ev_k) (ea_cons (Ev.vNon ev_k) (ea_cons (Ev.vInt ev_k) ea_nil))) (sh_all (by decide +kernel)) (by decide)) (by decide +kernel) (by decide +kernel)) (ea_cons (okd (d := (.tuple [(.str "integer"), (.str "0"), (.str "5")])) (ev_tupV (ds := [(.str "integer"), (.str "0"), (.str "5")]) (ea_cons (Ev.vStr ev_k) (ea_cons (Ev.vStr ev_k) (ea_cons (Ev.vStr ev_k) ea_nil))) (sh_all (by decide +kernel)) (by decide)) (by decide +kernel) (by decide +kernel)) (ea_cons (okd (d := (.list [(.str "integer"), (.int 0), (.int 5)])) (ev_lstV (ds := [(.str "integer"), (.int 0), (.int 5)]) (ea_cons (Ev.vStr ev_k) (ea_cons (Ev.vInt ev_k) (ea_cons (Ev.vInt ev_k) ea_nil))) (sh_all (by decide +kernel)) (by decide)) (by decide +kernel) (by decide +kernel)) (ea_cons (okd (d := (.tuple [(.str "integer"), (.int 0), (.int 5), (.int 9)])) (ev_tupV (ds := [(.str "integer"), (.int 0), (.int 5), (.int 9)]) (ea_cons (Ev.vStr ev_k) (ea_cons (Ev.vInt ev_k) (ea_cons (Ev.vInt ev_k) (ea_cons (Ev.vInt ev_k) ea_nil)))) (sh_all (by decide +kernel)) (by decide)) (by decide +kernel) (by decide +kernel)) (ea_cons (okd (d := (.tuple [(.str "integers"), (.int 0), (.int 5)])) (ev_tupV (ds := [(.str "integers"), (.int 0), (.int 5)]) (ea_cons (Ev.vStr ev_k) (ea_cons (Ev.vInt ev_k) (ea_cons (Ev.vInt ev_k) ea_nil))) (sh_all (by decide +kernel)) (by decide)) (by decide +kernel) (by decide +kernel)) (ea_cons (okd (d := (.tuple [.none, (.int 0), (.int 5)])) (ev_tupV (ds := [.none, (.int 0), (.int 5)]) (ea_cons (Ev.vNon ev_k) (ea_cons (Ev.vInt ev_k) (ea_cons (Ev.vInt ev_k) ea_nil))) (sh_all (by decide +kernel)) (by decide)) (by decide +kernel) (by decide +kernel)) (ea_cons (okd (d := (.tuple [.none])) (ev_tupV (ds := [.none]) (ea_cons (Ev.vNon ev_k) ea_nil) (sh_all (by decide +kernel)) (by decide)) (by decide +kernel) (by decide +kernel)) (ea_cons (okd (d := (.tuple [(.tuple [(.str "none")])])) (ev_tupV (ds := [(.tuple [(.str "none")])]) (ea_cons (ev_tupV (ds := [(.str "none")]) (ea_cons (Ev.vStr ev_k) ea_nil) (sh_all (by decide +kernel)) (by decide)) ea_nil) (sh_all (by decide +kernel)) (by decide)) (by decide +kernel) (by decide +kernel)) (ea_cons (okd (d := (.tuple [(.str "integer"), (.int (10 ^ (20 : Int).toNat)), (.int (10 ^ (21 : Int).toNat))])) (ev_tupV (ds := [(.str "integer"), (.int (10 ^ (20 : Int).toNat)), (.int (10 ^ (21 : Int).toNat))]) (ea_cons (Ev.vStr ev_k) (ea_cons (Ev.vInt (ev_iC (C := CPow) ev_k ev_k ⟨by decide, by decide, by decide⟩)) (ea_cons (Ev.vInt (ev_iC (C := CPow) ev_k ev_k ⟨by decide, by decide, by decide⟩)) ea_nil))) (sh_all (by decide +kernel)) (by decide)) (by decide +kernel) (by decide +kernel)) (ea_cons (okd (ev_listOfT (vs rfl g3.gg)) s.oknL s.shL) (ea_cons (okd (ev_catT (vs rfl g3.gg) (vs rfl g3.gg) dn dn dl) s.oknT s.shT) (ea_cons (okd (vs rfl g3.gg) (s.dds ▸ s.okn) (s.dds ▸ s.sh)) ea_nil))))))))))))))
    obtain ⟨a4, xs4, rfl, ha4, hl4, hx4⟩ := w4.now
    exact s_retN g4 (en_shuf (n := 60) rfl rfl (fun _ => rfl) (fun _ => rfl) (fun _ => rfl) ha4 (by omega) (by decide) hx4) k)
theorem okI (h : Ev o te σ G tInt) : Ev o te σ G (tOk K) := h.imp fun G' v _ w => by
  obtain ⟨i, rfl⟩ := w.now
  exact tOk.u (d := .int i) vl_int rfl (by unfold shD; rw [sh_int, Bool.or_true])
theorem ev_xI {i : Nat} {j : Int} (h : σ[i]? = some (some (.int j))) : Ev o (tVar i) σ G tInt := (ev_x h).imp fun _ _ _ w => by rw [w.eq]; exact fun _ _ => ⟨_, rfl⟩
theorem ev_kI {j : Int} : Ev o (tC (.int j)) σ G tInt := ev_c fun _ _ => ⟨_, rfl⟩
theorem rngI {lo hi : Int} (h : Ev o te σ G (tRng lo hi)) : Ev o te σ G tInt := h.imp fun _ _ _ w G' e => by
  obtain ⟨i, h, _⟩ := w G' e
  exact ⟨i, h⟩
theorem ev_addII (ha : Ev o te σ G tInt) (hb : Ev o tb σ G tInt) : Ev o (tOp (rAddG K) te tb) σ G tInt := ev_op ha hb fun G' x y e hx hy => by
  obtain ⟨i, rfl⟩ := hx.now
  obtain ⟨j, rfl⟩ := hy.now
  exact ro_q (z := .int (i + j)) (fun _ _ => ⟨_, rfl⟩) fun _ _ _ _ _ q => .inl ⟨i, j, rfl, rfl, q⟩
theorem ev_subII (ha : Ev o te σ G tInt) (hb : Ev o tb σ G tInt) : Ev o (tOp (rI0 fun i j => .int (i - j)) te tb) σ G tInt := ev_op ha hb fun G' x y e hx hy => by
  obtain ⟨i, rfl⟩ := hx.now
  obtain ⟨j, rfl⟩ := hy.now
  exact ro_q (z := .int (i - j)) (fun _ _ => ⟨_, rfl⟩) fun _ _ _ _ _ q => ⟨i, j, rfl, rfl, q⟩
def cVals (K : PySem.W.Frag) (o : Option Addr) (G : Hp) (vs : List V) (p : PL) : Prop := ∃ (b : Addr) (x : V) (s : SK), o = some b ∧ vs = [.ref b, x] ∧ Vl K G x s.d ∧ s.ok ∧ p = pAll 60 (tOk K)
theorem ok_values (T : Txt3 K mg na ta CS CN CV D) (d : Df K mg "_law_values" s__law_values) (G__law_take : Own P w K mg base CX0 1 "_law_take" s__law_take ["box", "many"] (spC cTake)) (G__law_mixed : Own P w K mg base CX0 2 "_law_mixed" s__law_mixed ["box", "items"] (spN (cMixed K))) :
    Own P w K mg base CX0 3 "_law_values" s__law_values ["box", "sort"] (spN (cVals K)) :=
  d.own fun f fd F => F.ok sc__law_values (fun vs H Q E h => by obtain ⟨o, G, t, kn, ⟨b, x, s, _, rfl, _⟩, _⟩ := h; rfl) (fun cdv A outer s H vs Q E hr h => by
    obtain ⟨o, G, p, kn, ⟨b, x, s, rfl, rfl, hs, hok, rfl⟩, k⟩ := h
    refine ⟨_, (pss_cons (ps_asg (pe_ifExp (pt_cmpR (kEq (K := K) rfl hr.units) (pe_callB (kLen (K := K) rfl) (by rfl) T.n_len (by decide +kernel) (pa_cons (pv 1) pa_nil)) pe_int (nomark _)) (pe_tup (pa_cons (pe_ix (kIx (K := K) rfl) (pv 1) pe_int (fun _ _ => rfl)) (pa_cons (pe_ix (kIx (K := K) rfl) (pv 1) pe_int (fun _ _ => rfl)) pa_nil))) (pe_tup (pa_cons pe_int (pa_cons pe_int pa_nil)))) (pg_tup rfl (pgs_cons (pg_name (i := 2) sc__law_values.nd rfl (Or.inl rfl)) (pgs_cons (pg_name (i := 3) sc__law_values.nd rfl (Or.inl rfl)) pgs_nil))))
   (pss_cons (ps_set (i := 4) sc__law_values.nd rfl (Or.inr rfl) (pe_lst (pa_cons pe_non (pa_cons pe_bl (pa_cons pe_bl (pa_cons pe_int (pa_cons pe_int (pa_cons (pv 2) (pa_cons (pv 3) (pa_cons (pe_op op_sub (pv 2) pe_int) (pa_cons (pe_op (kAdd (K := K) rfl) (pv 3) pe_int) (pa_cons (pe_un un_neg pe_int) (pa_cons pe_int (pa_cons (pe_un un_neg pe_int) (pa_cons pe_int (pa_cons pe_str (pa_cons (pe_tup (pa_cons pe_int pa_nil)) (pa_cons (pe_lst (pa_cons (pv 2) pa_nil)) (pa_cons pe_dnewK (pa_cons (pe_op op_pow pe_int pe_int) (pa_cons (pe_op (kAdd (K := K) rfl) (pv 2) (pe_own G__law_take pb__law_take (hr.mono (by first | decide | exact Nat.le_refl _)) rfl pass0 (pa_cons (pv 0) (pa_cons (pe_op (kAdd (K := K) rfl) (pe_op op_sub (pv 3) (pv 2)) pe_int) pa_nil)))) (pa_cons (pe_op op_sub (pe_own G__law_take pb__law_take (hr.mono (by first | decide | exact Nat.le_refl _)) rfl pass0 (pa_cons (pv 0) (pa_cons pe_int pa_nil))) pe_int) (pa_cons (pe_tup (pa_cons pe_str pa_nil)) (pa_cons pe_str (pa_cons pe_str pa_nil)))))))))))))))))))))))))
   (pss_one (ps_ret (pe_lc (own := [("k", 5)]) rfl sc__law_values.nd (pi_listK (K := K) rfl (pe_own G__law_mixed pb__law_mixed (hr.mono (by first | decide | exact Nat.le_refl _)) rfl pass0 (pa_cons (pv 0) (pa_cons (pe_listRg rfl (by rfl) T.n_list (prg_1 (by rfl) T.n_range (pe_callB (kLen (K := K) rfl) (by rfl) T.n_len (by decide +kernel) (pa_cons (pv 4) pa_nil)))) pa_nil)))) (blkOk_by (own := [("k", 5)]) (N := ["box", "sort", "low", "high", "found", "k"]) (sc := defScope s__law_values) (by decide +kernel)) (fun _ _ _ _ _ => (pg_name (i := 5) sc__law_values.nd rfl (Or.inl rfl))) (fun _ _ _ _ _ => pts_nil) (fun _ _ _ _ _ => (pe_ix (kIx (K := K) rfl) (pv 4) (pv 5) (fun _ _ => rfl)))))))), ?_⟩
    have vs : ∀ {G' σ'}, σ'[1]? = some (some x) → Ex G G' → Ev (some b) (tVar 1) σ' G' (tV K (.tuple s.ds)) := fun h e => by rw [← s.dds]; exact ev_v h (hs.up e)
    have hlo : s.lo ≤ s.hi ∧ -1000 ≤ s.lo ∧ s.hi ≤ 1000 := by
      cases s with
      | int a b => exact ⟨hok.2.1, hok.1, hok.2.2⟩
      | _ => exact ⟨by decide, by decide, by decide⟩
    have hl : ∀ {σ'}, σ'[1]? = some (some x) → EvT (some b) (tTest (tOp (rEqG K) (tCB (rLen K) (tCons (tVar 1) tNil)) (tC (.int 3)))) σ' G (· = s.isI) := fun h => by
      refine et_test (ev_op2 (ev_lenT (vs h (Ex.refl _))) ev_k (ro_eqS rfl ?_))
      cases s <;> rfl
    have pr : Ev (some b) (tIf (tTest (tOp (rEqG K) (tCB (rLen K) (tCons (tVar 1) tNil)) (tC (.int 3)))) (tTup (tCons (tOp (rIx K) (tVar 1) (tC (.int 1))) (tCons (tOp (rIx K) (tVar 1) (tC (.int 2))) tNil))) (tTup (tCons (tC (.int 0)) (tCons (tC (.int 9)) tNil))))
        (start ["box", "sort", "low", "high", "found", "k"] [.ref b, x]) G (tTupU K [tIs (.int s.lo), tIs (.int s.hi)]) := by
      refine ev_if (hl rfl) (fun z => ?_) fun z => ?_
      · cases s with
        | int a c => exact ev_tup (ea_cons (ev_ixT (ds := [.str "integer", .int a, .int c]) (i := 1) (vs rfl (Ex.refl _)) ev_k rfl).isInt (ea_cons (ev_ixT (ds := [.str "integer", .int a, .int c]) (i := 2) (vs rfl (Ex.refl _)) ev_k rfl).isInt ea_nil)) (by show 2 ≤ 100000; decide)
        | _ => cases z
      · cases s with
        | int a c => cases z
        | _ => exact ev_tup (ea_cons ev_k (ea_cons ev_k ea_nil)) (by show 2 ≤ 100000; decide)
    refine pr G H (Ex.refl _) kn _ fun v G2 H2 g2 w2 => ?_
    obtain ⟨a, xs, rfl, hs2, hu⟩ := w2.now
    have exs := all2 hu
    subst exs
    refine ⟨a, _, rfl, ex_t g2.kn.sub hs2, rfl, _, _, rfl, _, _, rfl, rfl, ?_⟩
    dsimp only
    refine q_asg g2 (en_items (n := 23) (t := tOk K) ?_ (by decide)).list fun v G3 H3 g3 _ w3 => ?_
    · exact (ea_cons (okd (d := .none) (Ev.vNon ev_k) (by decide +kernel) (by decide +kernel)) (ea_cons (okd (d := (.bool true)) (Ev.vBl ev_k) (by decide +kernel) (by decide +kernel)) (ea_cons (okd (d := (.bool false)) (Ev.vBl ev_k) (by decide +kernel) (by decide +kernel)) (ea_cons (okd (d := (.int 0)) (Ev.vInt ev_k) (by decide +kernel) (by decide +kernel)) (ea_cons (okd (d := (.int 1)) (Ev.vInt ev_k) (by decide +kernel) (by decide +kernel)) (ea_cons (okd (d := (.int s.lo)) (Ev.vInt (ev_x rfl)) (by rfl) (by simp [shD, isDict, sh_tup3, sh_int, sh_l1])) (ea_cons (okd (d := (.int s.hi)) (Ev.vInt (ev_x rfl)) (by rfl) (by simp [shD, isDict, sh_tup3, sh_int, sh_l1])) (ea_cons (okd (d := (.int (s.lo - 1))) (Ev.vInt (ev_i0 (g := fun i j => .int (i - j)) (ev_x rfl) ev_k)) (by rfl) (by simp [shD, isDict, sh_tup3, sh_int, sh_l1])) (ea_cons (okd (d := (.int (s.hi + 1))) (Ev.vInt (ev_addI (ev_x rfl) ev_k)) (by rfl) (by simp [shD, isDict, sh_tup3, sh_int, sh_l1])) (ea_cons (okd (d := (.int (-1000))) (Ev.vInt (ev_neg (Ev.isInt (K := K) (Ev.vInt ev_k)))) (by decide +kernel) (by decide +kernel)) (ea_cons (okd (d := (.int 1000)) (Ev.vInt ev_k) (by decide +kernel) (by decide +kernel)) (ea_cons (okd (d := (.int (-1001))) (Ev.vInt (ev_neg (Ev.isInt (K := K) (Ev.vInt ev_k)))) (by decide +kernel) (by decide +kernel)) (ea_cons (okd (d := (.int 1001)) (Ev.vInt ev_k) (by decide +kernel) (by decide +kernel)) (ea_cons (okd (d := (.str "0")) (Ev.vStr ev_k) (by decide +kernel) (by decide +kernel)) (ea_cons (okd (d := (.tuple [(.int 0)])) (ev_tupV (ds := [(.int 0)]) (ea_cons (Ev.vInt ev_k) ea_nil) (sh_all (by decide +kernel)) (by decide)) (by decide +kernel) (by decide +kernel)) (ea_cons (okd (d := (.list [.int s.lo])) (ev_lstV (ds := [.int s.lo]) (ea_cons (Ev.vInt (ev_x rfl)) ea_nil) (sh_cons sh_int sh_nil) (by show 1 ≤ 100000; decide)) (by rfl) (by simp [shD, isDict, sh_tup3, sh_int, sh_l1])) (ea_cons (okd (d := (.dict [])) ev_dnewV (by decide +kernel) (by decide +kernel)) (ea_cons (okd (d := (.int (10 ^ (20 : Int).toNat))) (Ev.vInt (ev_iC (C := CPow) ev_k ev_k ⟨by decide, by decide, by decide⟩)) (by decide +kernel) (by decide +kernel)) (ea_cons (okI (ev_addII (ev_xI rfl) (rngI (take_at (n := s.hi - s.lo + 1) rfl (ev_addI (ev_i0 (g := fun i j => .int (i - j)) (ev_x rfl) (ev_x rfl)) ev_k) ⟨by omega, by omega⟩)))) (ea_cons (okI (ev_subII (rngI (take_at rfl ev_k ⟨by decide, by decide⟩)) ev_kI)) (ea_cons (okd (d := (.tuple [(.str "none")])) (ev_tupV (ds := [(.str "none")]) (ea_cons (Ev.vStr ev_k) ea_nil) (sh_all (by decide +kernel)) (by decide)) (by decide +kernel) (by decide +kernel)) (ea_cons (okd (d := (.str "truth")) (Ev.vStr ev_k) (by decide +kernel) (by decide +kernel)) (ea_cons (okd (d := (.str "")) (Ev.vStr ev_k) (by decide +kernel) (by decide +kernel)) ea_nil)))))))))))))))))))))))
    obtain ⟨a3, xs3, rfl, ha3, hl3, hx3⟩ := w3.now
    exact s_retN g3 (en_shuf (n := 60) rfl rfl (fun _ => rfl) (fun _ => rfl) (fun _ => rfl) ha3 (by omega) (by decide) hx3) k)
end
end K12
set_option Elab.async false
set_option linter.all false
set_option maxRecDepth 100000
set_option maxHeartbeats 4000000
namespace K12
open PySem L2 Ty
open Evl (Ex ex_l ex_t)
abbrev s__law_sort_right : Stmt := top 42
theorem sc__law_sort_right : FnScope ["box", "sort", "by_name", "value", "due", "given", "told"] ["box", "sort", "by_name"] (defScope s__law_sort_right) := ⟨rfl, rfl, rfl, by decide +kernel, rfl, by decide +kernel, by decide +kernel⟩
theorem pb__law_sort_right : PosB "_law_sort_right" s__law_sort_right ["box", "sort", "by_name"] := fun _ _ _ _ _ _ us hl => match us, hl with | [_, _, _], _ => rfl
theorem SK.d_inj {s s' : SK} (h : s.d = s'.d) : s = s' := by
  cases s with
  | none =>
    cases s' with
    | none => rfl
    | truth => exact absurd (show ("none" : Str) = "truth" by cases h) (by decide +kernel)
    | int a b => cases h
  | truth =>
    cases s' with
    | none => exact absurd (show ("truth" : Str) = "none" by cases h) (by decide +kernel)
    | truth => rfl
    | int a b => cases h
  | int a b =>
    cases s' with
    | int c e => cases h; rfl
    | none => cases h
    | truth => cases h
theorem isS_sk {s : SK} (h : s.ok) : isS s.d = true := by
  cases s with
  | none => decide +kernel
  | truth => decide +kernel
  | int a b =>
    obtain ⟨h1, h2, h3⟩ := h
    show (decide (("integer" : Str) = "integer") && ((decide (-1000 ≤ a) && decide (a ≤ 1000)) && (decide (a ≤ b) && decide (b ≤ 1000)))) = true
    simp only [Bool.and_eq_true, decide_eq_true_eq]
    exact ⟨trivial, ⟨h1, by omega⟩, h2, h3⟩
theorem fit_flat {s : SK} {v : PyData} (h : s.may v = true) : flatP (s.fit v) = true := by
  cases s with
  | none => cases v <;> first | rfl | cases h
  | truth => cases v <;> first | rfl | cases h
  | int a b => cases v <;> first | rfl | cases h
theorem cut_sub {xs : List V} {lo hi : Option Int} {x : V} (h : x ∈ cutV xs lo hi) : x ∈ xs := List.mem_of_mem_drop (List.mem_of_mem_take h)
theorem pAll_cut {n : Nat} {t : T} {G : Hp} {xs : List V} {lo hi : Option Int} (h : pAll n t G xs) : pAll n t G (cutV xs lo hi) := ⟨Nat.le_trans (cutV_length xs _ _) h.1, fun x hx => h.2 x (cut_sub hx)⟩
section
variable {P : Program} {w : World} {K : PySem.W.Frag} {mg : Str → Option Value} {base : Heap} {na ta CS CN CV D : Addr}
variable {o : Option Addr} {σ : L2.St} {G Ge He H : Hp} {tl ti te tb tn tw : TE} {x : V} {E : XK}
theorem ev_twice {word : Str} {l : List V} {p : PyData} {bn : Bool} (hw : Ev o tw σ G (tIs (.str word))) (hl : Ev o tl σ G (tKL l)) (hd : Ev o te σ G (tIs x)) (hn : Ev o tn σ G (tIs (.bl bn))) (ask : Ask K G word l (.told p)) (hx : Vl K G x p) (hf : flatP p = true) :
    Ev o (tCall (spC (cTwice K)) [] E (tCons tw (tCons tl (tCons te (tCons tn tNil))))) σ G (tIs (.bl true)) :=
  ev_call (ea_cons hw (ea_cons hl (ea_cons hd (ea_cons hn ea_nil)))) fun G' vs e al => by
    cases al with
    | cons a1 al => cases al with
      | cons a2 al => cases al with
        | cons a3 al => cases al with
          | cons a4 al =>
            cases al
            obtain ⟨la, rfl, hla⟩ := a2.now
            rw [a1.eq, a3.eq, a4.eq]
            exact ⟨none, _, .inr rfl, ⟨rfl, word, la, l, x, p, bn, rfl, .of hla, ask.up e, hx.up e, hf, rfl⟩, fun _ _ _ w => w⟩
/-- asked, its outcome told -/
theorem en_asked {word : Str} {l : List V} {bn : Bool} {w' : Str} (hw : Ev o tw σ G (tIs (.str word))) (hl : Ev o tl σ G (tKL l)) (hn : Ev o tn σ G (tIs (.bl bn))) (ask : Ask K G word l (.bad w' x)) :
    Ev o (tCall (spN (cAsked K)) [] E (tCons tw (tCons tl (tCons tn tNil)))) σ G (tKL [.str w', x]) :=
  (en_call (P := fun _ xs => xs = [.str w', x]) (ea_cons hw (ea_cons hl (ea_cons hn ea_nil))) fun G' vs e al => by
    cases al with
    | cons a1 al => cases al with
      | cons a2 al => cases al with
        | cons a3 al =>
          cases al
          obtain ⟨la, rfl, hla⟩ := a2.now
          rw [a1.eq, a3.eq]
          exact ⟨none, _, .inr rfl, ⟨rfl, word, la, l, bn, _, rfl, .of hla, ask.up e, rfl⟩, fun _ _ _ h => h⟩).ev fun G' a xs e ha hp => ⟨a, rfl, by rw [ha, hp.now]⟩
def cSR (K : PySem.W.Frag) (o : Option Addr) (G : Hp) (vs : List V) (t : T) : Prop := ∃ (b : Addr) (x : V) (s : SK) (bn : Bool), o = some b ∧ vs = [.ref b, x, .bl bn] ∧ Vl K G x s.d ∧ s.ok ∧ t = tIs (.bl true)
theorem ok_sort_right (T : Txt3 K mg na ta CS CN CV D) (d : Df K mg "_law_sort_right" s__law_sort_right) (G__law_values : Own P w K mg base CX0 3 "_law_values" s__law_values ["box", "sort"] (spN (cVals K)))
    (G__law_twice : Own P w K mg base CX0 7 "_law_twice" s__law_twice ["word", "args", "due", "by_name"] (spC (cTwice K))) (G__law_is_value : Own P w K mg base CX0 2 "_law_is_value" s__law_is_value ["sort", "value"] (spC (cVO K)))
    (G__law_fitted : Own P w K mg base CX0 3 "_law_fitted" s__law_fitted ["sort", "value"] (spN (cLF K))) (G__law_copy : Own P w K mg base CX0 1 "_law_copy" s__law_copy ["value"] (spCopy K))
    (G__law_asked : Own P w K mg base CX0 6 "_law_asked" s__law_asked ["word", "args", "by_name"] (spN (cAsked K))) (G__law_blamed : Own P w K mg base CX0 4 "_law_blamed" s__law_blamed ["given", "value"] (spBlame K)) :
    Own P w K mg base CX0 8 "_law_sort_right" s__law_sort_right ["box", "sort", "by_name"] (spC (cSR K)) :=
  d.own fun f fd F => F.ok sc__law_sort_right (fun vs H Q E h => by obtain ⟨o, G, t, kn, ⟨b, x, s, bn, _, rfl, _⟩, _⟩ := h; rfl) (fun cdv A outer s H vs Q E hr h => by
    obtain ⟨o, G, p, kn, ⟨b, x, s, bn, rfl, rfl, hs, hok, rfl⟩, k⟩ := h
    refine ⟨_, (pss_cons (ps_for PassesOwn.never rfl (pi_listK (K := K) rfl (pe_slice (kSl (K := K) rfl) (pe_own G__law_values pb__law_values (hr.mono (by first | decide | exact Nat.le_refl _)) rfl pass0 (pa_cons (pv 0) (pa_cons (pv 1) pa_nil))) po_none (po_some pe_int))) (pg_name (i := 3) sc__law_sort_right.nd rfl (Or.inl rfl)) (pss_cons (ps_if (pt_not (pt_val (pe_own G__law_twice pb__law_twice (hr.mono (by first | decide | exact Nat.le_refl _)) rfl pass0 (pa_cons pe_str (pa_cons (pe_lst (pa_cons (pv 1) (pa_cons (pv 3) pa_nil))) (pa_cons (pe_own G__law_is_value pb__law_is_value (hr.mono (by first | decide | exact Nat.le_refl _)) rfl pass0 (pa_cons (pv 1) (pa_cons (pv 3) pa_nil))) (pa_cons (pv 2) pa_nil))))))) (pss_one (ps_ret pe_bl)) pss_nil)
   (pss_cons (ps_set (i := 4) sc__law_sort_right.nd rfl (Or.inl rfl) (pe_own G__law_fitted pb__law_fitted (hr.mono (by first | decide | exact Nat.le_refl _)) rfl pass0 (pa_cons (pv 1) (pa_cons (pv 3) pa_nil))))
   (pss_cons (ps_if (PW.pt (pw_and (pt_cmpR (kNe (K := K) rfl hr.units) (pv 4) (pe_lst pa_nil) (nomark _)) (pw_and1 (pt_not (pt_val (pe_own G__law_twice pb__law_twice (hr.mono (by first | decide | exact Nat.le_refl _)) rfl pass0 (pa_cons pe_str (pa_cons (pe_lst (pa_cons (pv 1) (pa_cons (pv 3) pa_nil))) (pa_cons (pe_ix (kIx (K := K) rfl) (pv 4) pe_int (fun _ _ => rfl)) (pa_cons (pe_not (pv 2)) pa_nil)))))))))) (pss_one (ps_ret pe_bl)) pss_nil)
   (pss_cons (ps_if (pt_cmpR (kEq (K := K) rfl hr.units) (pv 4) (pe_lst pa_nil) (nomark _)) (pss_cons (ps_set (i := 5) sc__law_sort_right.nd rfl (Or.inl rfl) (pe_own G__law_copy pb__law_copy (hr.mono (by first | decide | exact Nat.le_refl _)) rfl pass0 (pa_cons (pv 3) pa_nil)))
   (pss_cons (ps_set (i := 6) sc__law_sort_right.nd rfl (Or.inl rfl) (pe_own G__law_asked pb__law_asked (hr.mono (by first | decide | exact Nat.le_refl _)) rfl pass0 (pa_cons pe_str (pa_cons (pe_lst (pa_cons (pv 1) (pa_cons (pv 5) pa_nil))) (pa_cons (pv 2) pa_nil)))))
   (pss_one (ps_if (PW.pt (pw_or (pt_cmpR (kNe (K := K) rfl hr.units) (pe_ix (kIx (K := K) rfl) (pv 6) pe_int (fun _ _ => rfl)) pe_str (nomark _)) (pw_or1 (pt_not (pt_val (pe_own G__law_blamed pb__law_blamed (hr.mono (by first | decide | exact Nat.le_refl _)) rfl pass0 (pa_cons (pe_ix (kIx (K := K) rfl) (pv 6) pe_int (fun _ _ => rfl)) (pa_cons (pv 5) pa_nil)))))))) (pss_one (ps_ret pe_bl)) pss_nil)))) pss_nil)
   (pss_one (ps_set (i := 2) sc__law_sort_right.nd rfl (Or.inl rfl) (pe_not (pv 2)))))))))
   (pss_one (ps_ret pe_bl))), ?_⟩
    refine q_for (Go.refl kn) (ei_listN (P := pAll 60 (tOk K)) (en_slN (P' := pAll 60 (tOk K)) (en_call (P := pAll 60 (tOk K)) (ea_cons (ev_x rfl) (ea_cons (ev_x rfl) ea_nil)) fun G' vs e al => ?_) eo_none (eo_some ev_k) fun _ _ h => pAll_cut h) fun _ _ _ h => h)
      (fun zs i σ' G' H' => ∃ (c : Bool) (y3 y4 y5 y6 : Option V), σ' = [some (.ref b), some x, some (.bl c), y3, y4, y5, y6]) (fun zs G' H' g' gl hz => ⟨bn, _, _, _, _, rfl⟩) (fun Gs zs e0 hz i v σ' G1 H1 hv g1 e1 hi => ?_) (fun zs σ' G' H' g' e' hz hi => s_ret g' ev_k k)
    · rw [all2 al]
      exact ⟨some b, _, .inl rfl, ⟨b, x, s, rfl, rfl, hs.up e, hok, rfl⟩, fun _ _ _ h => h⟩
    · obtain ⟨c, y3, y4, y5, y6, rfl⟩ := hi
      obtain ⟨dv, hdv, okv, shv⟩ := ((hz.up e1).now.2 v (List.mem_of_getElem? hv)).now
      have hs1 := hs.up (e0.trans e1)
      have gi := Go.refl g1.kn
      -- what comes behind
      have fin : ∀ {De : Ends} {G2 H2 σ'}, (∀ σ2 H2, (∃ G2, Go (some b) G H G2 H2 ∧ Ex Gs G2 ∧ ∃ (c : Bool) (y3 y4 y5 y6 : Option V), σ2 = [some (.ref b), some x, some (.bl c), y3, y4, y5, y6]) → De.nx σ2 H2) →
          (∃ (y3 y4 y5 y6 : Option V), σ' = [some (.ref b), some x, some (.bl c), y3, y4, y5, y6]) → Go (some b) G1 H1 G2 H2 → tAsg (tNotV (tVar 2)) (gName 2) De σ' H2 := fun {De G2 H2 σ'} hnx hσ g => by
        obtain ⟨y3, y4, y5, y6, rfl⟩ := hσ
        refine s_asg (t := tIs (.bl (!c))) g (ev_not (ev_x rfl)) fun v G7 H7 g7 gl7 w7 => ?_
        rw [w7.eq]
        exact hnx _ _ ⟨G7, g1.trans g7, e1.trans g7.gg, !c, _, _, _, _, rfl⟩
      have askV : ∀ {G'}, Ex G1 G' → Ask K G' "value" [x, v] (.told (.bool (s.has dv))) := fun e => .value (hs1.up e) s.sh (hdv.up e) (fun s' q _ => by rw [SK.d_inj q]) fun z => by rw [isS_sk hok] at z; cases z
      refine q_when gi (p := (· = !true)) (et_not (et_b (ev_twice (p := .bool (s.has dv)) ev_k (ev_lst2 (ev_x rfl) (ev_x rfl)) (ev_callVO hok (ev_v rfl hs1) (ev_v rfl hdv)) (ev_x rfl) (askV (Ex.refl _)) vl_bl rfl))) (fun z => nomatch z) fun _ G2 H2 g2 _ => ?_
      refine q_asg (t := fun G v => ∃ a xs, v = .ref a ∧ G a = some (.lst xs) ∧ (if s.may dv = true then ∃ r, xs = [r] ∧ Vl K G r (s.fit dv) else xs = [])) g2 ((en_call (P := fun G xs => if s.may dv = true then ∃ r, xs = [r] ∧ Vl K G r (s.fit dv) else xs = []) (ea_cons (ev_x rfl) (ea_cons (ev_x rfl) ea_nil)) fun G' vs e al => ?_).ev fun G' a xs e ha hp => ⟨a, xs, rfl, ha, hp.now⟩) fun r G3 H3 g3 _ w3 => ?_
      · rw [all2 al]
        exact ⟨none, _, .inr rfl, ⟨rfl, x, v, dv, s, rfl, ⟨hs1.up (g2.gg.trans e), hok⟩, hdv.up (g2.gg.trans e), rfl⟩, fun _ _ _ h => h⟩
      obtain ⟨a, xs, rfl, ha, hxs⟩ := w3.now
      cases em : s.may dv with
      | true =>
        rw [em, if_pos rfl] at hxs
        obtain ⟨r, rfl, hr⟩ := hxs
        have askF : ∀ {G'}, Ex G1 G' → Ask K G' "fitted" [x, v] (.told (s.fit dv)) := fun e => .fitted (hs1.up e) s.sh (hdv.up e) (fun s' q _ _ => by rw [SK.d_inj q]) (fun z => by rw [isS_sk hok] at z; cases z) fun s' q _ z => by
          rw [← SK.d_inj q, em] at z
          cases z
        have ne : ∀ {σ'}, σ'[4]? = some (some (.ref a)) → Ev (some b) (tOp (rNeG K) (tVar 4) (tLst tNil)) σ' G3 (tIs (.bl true)) := fun h => ev_op (s := tIs (.ref a)) (ev_x h) ev_nil fun G' y z e hy hz => by
          obtain ⟨a2, rfl, ha2⟩ := hz.now
          rw [hy.eq]
          exact ro_neN (xs := [r]) (.of (e _ _ ha)) (.of ha2)
        refine q_when g3 (p := (· = (true && !true))) (et_and (et_test (ne rfl)) fun _ => et_not (et_b (ev_twice (x := r) (p := s.fit dv) ev_k (ev_lst2 (ev_x rfl) (ev_x rfl)) (ev_op2 (ev_x rfl) ev_k (ro_ixL (.of ha) (at_of (j := 0) rfl rfl))) (ev_not (ev_x rfl)) (askF g3.gg) hr (fit_flat em)))) (fun z => nomatch z) fun _ G4 H4 g4 g34 => ?_
        refine q_when g4 (p := (· = false)) (et_test (ev_op (s := tIs (.ref a)) (ev_x rfl) ev_nil fun G' y z e hy hz => ?_)) (fun z => nomatch z) fun _ G5 H5 g5 _ => fin (fun _ _ h => h) ⟨_, _, _, _, rfl⟩ g5
        obtain ⟨a2, rfl, ha2⟩ := hz.now
        rw [hy.eq]
        exact ro_eqN (xs := [r]) (.of (e _ _ (g34.gg _ _ ha))) (.of ha2)
      | false =>
        rw [em, if_neg (by decide)] at hxs
        subst hxs
        refine q_when g3 (p := (· = (false && true))) (et_and (et_test (ev_op (s := tIs (.ref a)) (ev_x rfl) ev_nil fun G' y z e hy hz => ?_)) fun z => nomatch z) (fun z => nomatch z) fun _ G4 H4 g4 g34 => ?_
        · obtain ⟨a2, rfl, ha2⟩ := hz.now
          rw [hy.eq]
          exact ro_neN (xs := []) (.of (e _ _ ha)) (.of ha2)
        refine q_when g4 (p := (· = true)) (et_test (ev_op (s := tIs (.ref a)) (ev_x rfl) ev_nil fun G' y z e hy hz => ?_)) (fun _ G5 H5 g5 _ => ?_) fun z => nomatch z
        · obtain ⟨a2, rfl, ha2⟩ := hz.now
          rw [hy.eq]
          exact ro_eqN (xs := []) (.of (e _ _ (g34.gg _ _ ha))) (.of ha2)
        refine q_asg (t := tCp K G1 dv) g5 ((ev_copy (ev_v rfl (hdv.up g5.gg))).imp fun G' r e u G'' e2 => ?_) fun v' G6 H6 g6 g56 w6 => ?_
        · rcases u G'' e2 with ⟨w, h⟩ | ⟨a, xs, ds, G1', e1, e2, e3, e4, h1, h2, h3⟩ | ⟨a, G1', e1, e2, e3, e4, h1, h2⟩
          · exact .inl ⟨w, h⟩
          · exact .inr (.inl ⟨a, xs, ds, G1', e1, e2, g5.gg.trans e3, e4, h1, h2, h3⟩)
          · exact .inr (.inr ⟨a, G1', e1, e2, g5.gg.trans e3, e4, h1, h2⟩)
        have askB : ∀ {G'}, Ex G6 G' → Ask K G' "fitted" [x, v'] (.bad "value" v') := fun e => .fitted (hs1.up (g6.gg.trans e)) s.sh ((w6.up e).now.vl) (fun s' q _ z => by
          rw [← SK.d_inj q, em] at z
          cases z) (fun z => by rw [isS_sk hok] at z; cases z) fun _ _ _ _ => rfl
        refine q_asg (t := tKL [.str "value", v']) g6 (en_asked ev_k (ev_lst2 (ev_x rfl) (ev_x rfl)) (ev_x rfl) (askB (Ex.refl _))) fun tt G7 H7 g7 g67 w7 => ?_
        obtain ⟨pt, rfl, hpt⟩ := w7.now
        exact s_blame (d := dv) g7 (w6.up g67.gg) okv (ev_op2 (ev_x rfl) ev_k (ro_ixL (.of hpt) (at_of (j := 0) rfl rfl))) (ev_op2 (ev_x rfl) ev_k (ro_ixL (.of hpt) (at_of (j := 1) rfl rfl))) (ev_x rfl) fun G8 H8 g8 => fin (fun _ _ h => h) ⟨_, _, _, _, rfl⟩ g8)
end
end K12
set_option Elab.async false
set_option linter.all false
set_option maxRecDepth 100000
set_option maxHeartbeats 4000000
namespace K12
open PySem L2 Ty
open Evl (Ex ex_l ex_t)
abbrev s__law_sorts_right : Stmt := top 43
theorem sc__law_sorts_right : FnScope ["box", "sort", "by_name", "value", "good", "told", "word", "args", "given", "met", "item"] ["box", "sort", "by_name"] (defScope s__law_sorts_right) := ⟨rfl, rfl, rfl, by decide +kernel, rfl, by decide +kernel, by decide +kernel⟩
theorem pb__law_sorts_right : PosB "_law_sorts_right" s__law_sorts_right ["box", "sort", "by_name"] := fun _ _ _ _ _ _ us hl => match us, hl with | [_, _, _], _ => rfl
section
variable {P : Program} {w : World} {K : PySem.W.Frag} {mg : Str → Option Value} {base : Heap} {na ta CS CN CV D : Addr}
variable {o : Option Addr} {σ : L2.St} {G Ge He H : Hp} {tl ti te tb tn tw : TE} {x : V} {E : XK}
theorem ev_kwS1 {f : PyData → Bool} {d : PyData} (hs : shD d = true) (h : Ev o te σ G (tV K d)) : Ev o (tKw (spC (cS1 K f)) 1 (fun zs => match zs with | [w0] => [w0] | _ => []) E (tCons te tNil)) σ G (tIs (.bl (f d))) :=
  ev_kw rfl (ea_cons h ea_nil) fun G' vs e al => by
    cases al with
    | cons a1 al =>
      cases al
      exact ⟨none, _, .inr rfl, ⟨rfl, _, d, rfl, ⟨a1.now, hs⟩, rfl⟩, fun _ _ _ w => w⟩
/-- two bools told, two due -/
theorem ev_same2 {b : Bool} {ta tb : TE} (h1 : Ev o ta σ G (tKL [.bl b, .bl b])) (h2 : Ev o tb σ G (tKL [.bl b, .bl b])) : Ev o (tCall (spC (cSame K 3)) [] E (tCons ta (tCons tb tNil))) σ G (tIs (.bl true)) :=
  ev_call (ea_cons h1 (ea_cons h2 ea_nil)) fun G' vs e al => by
    cases al with
    | cons a1 al => cases al with
      | cons a2 al =>
        cases al
        obtain ⟨a, rfl, ha⟩ := a1.now
        obtain ⟨c, rfl, hc⟩ := a2.now
        exact ⟨none, _, .inr rfl, ⟨rfl, _, _, rfl, .inr (.inl ⟨a, c, _, _, rfl, rfl, .of ha, .of hc, (by show 2 ≤ 1000; decide), .cons (.flat rfl) (.cons (.flat rfl) .nil)⟩), rfl⟩, fun _ _ _ w => w⟩
/-- [copy(item) for item in args] -/
theorem en_copies {i m l : Nat} {os : List V} {ds : List PyData} (hi : σ[i]? = some (some (.ref l))) (hw : ∀ x, wipe ((wipe σ [m]).set m (some x)) [m] = wipe σ [m]) (hm : ∀ x, ((wipe σ [m]).set m (some x))[m]? = some (some x))
    (hl : G l = some (.lst os)) (hd : Paired (Vl K G) os ds) (hn : os.length ≤ 1000) : EvN o (tLc (iList K (tVar i)) (gName m) tYes (tCall (spCopy K) [] E (tCons (tVar m) tNil)) [m]) σ G
      (fun G' ys => ys.length = ds.length ∧ ∀ (j : Nat) d, ds[j]? = some d → ∃ y, ys[j]? = some y ∧ U (tCp K G d) G' y) := by
  refine (en_lc (P := fun _ xs => xs = os) (fun xs i G' acc => acc.length = i ∧ ∀ (j : Nat) d, j < i → ds[j]? = some d → ∃ y, acc[j]? = some y ∧ U (tCp K G d) G' y) (ei_list (t := tIs (.ref l)) (ev_x hi) fun G' v e u => ⟨l, os, u.eq, .of (e _ _ hl), fun _ _ => rfl⟩) hw
    (fun xs i G' G'' acc e h => ⟨h.1, fun j d hj hd => (h.2 j d hj hd).imp fun y q => ⟨q.1, q.2.up e⟩⟩) (fun G' xs e h => ⟨by rw [h.now]; omega, rfl, fun _ _ hj => absurd hj (Nat.not_lt_zero _)⟩) fun G' xs i x acc e hP hx _ r => ?_).impN fun G' ys h => ?_
  · rw [hP.now] at hx
    obtain ⟨hlt, _⟩ := List.getElem?_eq_some_iff.mp hx
    obtain ⟨x', d, h1, h2, h3⟩ := Ty.Paired.at' hd hlt
    rw [hx] at h1
    cases h1
    refine ⟨(· = true), fun G2 H2 e2 kn2 Q2 q2 => q2 true G2 H2 (.refl kn2) rfl, fun _ G1 eG => ⟨_, ev_copyD (e.trans eG) (ev_v (hm x) (h3.up (e.trans eG))), fun G2 y e2 u => ⟨by rw [List.length_append, r.1]; rfl, fun j d' hj hd' => ?_⟩⟩, fun z => nomatch z⟩
    by_cases q : j = i
    · subst q
      rw [h2] at hd'
      cases hd'
      exact ⟨y, by rw [← r.1]; simp, u⟩
    · obtain ⟨y', h4, h5⟩ := r.2 j d' (by omega) hd'
      have hlt' : j < acc.length := by rw [r.1]; omega
      exact ⟨y', by rw [List.getElem?_append_left hlt']; exact h4, h5.up (eG.trans e2)⟩
  · obtain ⟨xs, hP, _, h1, h2⟩ := h
    have e1 := hP.now
    subst e1
    have e2 := Paired.length hd
    exact ⟨h1.trans e2, fun j d hj => h2 j d (by rw [e2]; exact (List.getElem?_eq_some_iff.mp hj).1) hj⟩
theorem ok_sorts_right (T : Txt3 K mg na ta CS CN CV D) (d : Df K mg "_law_sorts_right" s__law_sorts_right) (G__law_near_sorts : Own P w K mg base CX0 3 "_law_near_sorts" s__law_near_sorts ["box", "sort"] (spN (cNear K)))
    (G__law_is_sort : Own P w K mg base CX0 2 "_law_is_sort" s__law_is_sort ["value"] (spC (cV1 K isS))) (G_is_sort : Own P w K mg base CX0 3 "is_sort" s_is_sort ["value"] (spC (cS1 K isS))) (G__law_same : Own P w K mg base CX0 3 "_law_same" s__law_same ["told", "due"] (spC (cSame K 3)))
    (G__law_copy : Own P w K mg base CX0 1 "_law_copy" s__law_copy ["value"] (spCopy K)) (G__law_asked : Own P w K mg base CX0 6 "_law_asked" s__law_asked ["word", "args", "by_name"] (spN (cAsked K))) (G__law_blamed : Own P w K mg base CX0 4 "_law_blamed" s__law_blamed ["given", "value"] (spBlame K)) :
    Own P w K mg base CX0 7 "_law_sorts_right" s__law_sorts_right ["box", "sort", "by_name"] (spC (cSR K)) :=
  d.own fun f fd F => F.ok sc__law_sorts_right (fun vs H Q E h => by obtain ⟨o, G, t, kn, ⟨b, x, s, bn, _, rfl, _⟩, _⟩ := h; rfl) (fun cdv A outer s H vs Q E hr h => by
    obtain ⟨o, G, p, kn, ⟨b, x, s, bn, rfl, rfl, hs, hok, rfl⟩, k⟩ := h
    refine ⟨_, (pss_cons (ps_for PassesOwn.never rfl (pi_listK (K := K) rfl (pe_slice (kSl (K := K) rfl) (pe_own G__law_near_sorts pb__law_near_sorts (hr.mono (by first | decide | exact Nat.le_refl _)) rfl pass0 (pa_cons (pv 0) (pa_cons (pv 1) pa_nil))) po_none (po_some pe_int))) (pg_name (i := 3) sc__law_sorts_right.nd rfl (Or.inl rfl)) (pss_cons (ps_set (i := 4) sc__law_sorts_right.nd rfl (Or.inl rfl) (pe_own G__law_is_sort pb__law_is_sort (hr.mono (by first | decide | exact Nat.le_refl _)) rfl pass0 (pa_cons (pv 3) pa_nil)))
   (pss_cons (ps_set (i := 5) sc__law_sorts_right.nd rfl (Or.inl rfl) (pe_lst (pa_cons (pe_ifExp (pt_val (pv 2)) (pe_ownK (ks := ["value"]) (g := (fun (zs : List Value) => match zs with | [w0] => [w0] | _ => [])) (gV := (fun (zs : List V) => match zs with | [w0] => [w0] | _ => [])) G_is_sort (fun _ _ _ _ _ _ ws hl => match ws, hl with | [_], _ => rfl) (fun {zs ws} hl r => match zs, ws, hl, r with | [_], _, _, .cons r0 (Paired.nil) => .cons r0 (.nil)) (hr.mono (by first | decide | exact Nat.le_refl _)) rfl pass0 (pk_cons (pv 3) pk_nil)) (pe_own G_is_sort pb_is_sort (hr.mono (by first | decide | exact Nat.le_refl _)) rfl pass0 (pa_cons (pv 3) pa_nil))) (pa_cons (pe_ifExp (pt_val (pv 2)) (pe_own G_is_sort pb_is_sort (hr.mono (by first | decide | exact Nat.le_refl _)) rfl pass0 (pa_cons (pv 3) pa_nil)) (pe_ownK (ks := ["value"]) (g := (fun (zs : List Value) => match zs with | [w0] => [w0] | _ => [])) (gV := (fun (zs : List V) => match zs with | [w0] => [w0] | _ => [])) G_is_sort (fun _ _ _ _ _ _ ws hl => match ws, hl with | [_], _ => rfl) (fun {zs ws} hl r => match zs, ws, hl, r with | [_], _, _, .cons r0 (Paired.nil) => .cons r0 (.nil)) (hr.mono (by first | decide | exact Nat.le_refl _)) rfl pass0 (pk_cons (pv 3) pk_nil))) pa_nil))))
   (pss_cons (ps_if (pt_not (pt_val (pe_own G__law_same pb__law_same (hr.mono (by first | decide | exact Nat.le_refl _)) rfl pass0 (pa_cons (pv 5) (pa_cons (pe_lst (pa_cons (pv 4) (pa_cons (pv 4) pa_nil))) pa_nil))))) (pss_one (ps_ret pe_bl)) pss_nil)
   (pss_cons (ps_if (pt_not (pt_val (pv 4))) (pss_one (ps_for PassesOwn.never rfl (pi_listK (K := K) rfl (pe_lst (pa_cons (pe_tup (pa_cons pe_str (pa_cons (pe_lst (pa_cons (pv 3) (pa_cons pe_non pa_nil))) pa_nil))) (pa_cons (pe_tup (pa_cons pe_str (pa_cons (pe_lst (pa_cons (pv 3) (pa_cons pe_non pa_nil))) pa_nil))) pa_nil)))) (pg_tup rfl (pgs_cons (pg_name (i := 6) sc__law_sorts_right.nd rfl (Or.inl rfl)) (pgs_cons (pg_name (i := 7) sc__law_sorts_right.nd rfl (Or.inl rfl)) pgs_nil))) (pss_cons (ps_setLc (i := 8) (own := [("item", 10)]) rfl sc__law_sorts_right.nd rfl rfl (sw_true rfl rfl rfl (by decide +kernel)) (pi_listK (K := K) rfl (pv 7)) (blkOk_by (own := [("item", 10)]) (N := ["box", "sort", "by_name", "value", "good", "told", "word", "args", "given", "met", "item"]) (sc := defScope s__law_sorts_right) (by decide +kernel)) (fun _ _ _ _ _ => (pg_name (i := 10) sc__law_sorts_right.nd rfl (Or.inl rfl))) (fun _ _ _ _ _ => pts_nil) (fun _ _ _ _ _ => (pe_own G__law_copy pb__law_copy (hr.mono (by first | decide | exact Nat.le_refl _)) rfl pass0 (pa_cons (pv 10) pa_nil))))
   (pss_cons (ps_set (i := 9) sc__law_sorts_right.nd rfl (Or.inl rfl) (pe_own G__law_asked pb__law_asked (hr.mono (by first | decide | exact Nat.le_refl _)) rfl pass0 (pa_cons (pv 6) (pa_cons (pv 8) (pa_cons (pv 2) pa_nil)))))
   (pss_one (ps_if (PW.pt (pw_or (pt_cmpR (kNe (K := K) rfl hr.units) (pe_ix (kIx (K := K) rfl) (pv 9) pe_int (fun _ _ => rfl)) pe_str (nomark _)) (pw_or1 (pt_not (pt_val (pe_own G__law_blamed pb__law_blamed (hr.mono (by first | decide | exact Nat.le_refl _)) rfl pass0 (pa_cons (pe_ix (kIx (K := K) rfl) (pv 9) pe_int (fun _ _ => rfl)) (pa_cons (pe_ix (kIx (K := K) rfl) (pv 8) pe_int (fun _ _ => rfl)) pa_nil)))))))) (pss_one (ps_ret pe_bl)) pss_nil)))))) pss_nil)
   (pss_one (ps_set (i := 2) sc__law_sorts_right.nd rfl (Or.inl rfl) (pe_not (pv 2)))))))))
   (pss_one (ps_ret pe_bl))), ?_⟩
    refine q_for (Go.refl kn) (ei_listN (P := pAll 60 (tOk K)) (en_slN (P' := pAll 60 (tOk K)) (en_call (P := pAll 60 (tOk K)) (ea_cons (ev_x rfl) (ea_cons (ev_x rfl) ea_nil)) fun G' vs e al => ?_) eo_none (eo_some ev_k) fun _ _ h => pAll_cut h) fun _ _ _ h => h)
      (fun zs i σ' G' H' => ∃ (c : Bool) (y3 y4 y5 y6 y7 y8 y9 y10 : Option V), σ' = [some (.ref b), some x, some (.bl c), y3, y4, y5, y6, y7, y8, y9, y10]) (fun zs G' H' g' gl hz => ⟨bn, _, _, _, _, _, _, _, _, rfl⟩) (fun Gs zs e0 hz i v σ' G1 H1 hv g1 e1 hi => ?_) (fun zs σ' G' H' g' e' hz hi => s_ret g' ev_k k)
    · rw [all2 al]
      exact ⟨some b, _, .inl rfl, ⟨b, x, s, rfl, rfl, hs.up e, hok, rfl⟩, fun _ _ _ h => h⟩
    · obtain ⟨c, y3, y4, y5, y6, y7, y8, y9, y10, rfl⟩ := hi
      obtain ⟨dv, hdv, okv, shv⟩ := ((hz.up e1).now.2 v (List.mem_of_getElem? hv)).now
      have gi := Go.refl g1.kn
      have fin : ∀ {De : Ends} {G2 H2 σ'}, (∀ σ2 H2, (∃ G2, Go (some b) G H G2 H2 ∧ Ex Gs G2 ∧ ∃ (c : Bool) (y3 y4 y5 y6 y7 y8 y9 y10 : Option V), σ2 = [some (.ref b), some x, some (.bl c), y3, y4, y5, y6, y7, y8, y9, y10]) → De.nx σ2 H2) →
          (∃ (y3 y4 y5 y6 y7 y8 y9 y10 : Option V), σ' = [some (.ref b), some x, some (.bl c), y3, y4, y5, y6, y7, y8, y9, y10]) → Go (some b) G1 H1 G2 H2 → tAsg (tNotV (tVar 2)) (gName 2) De σ' H2 := fun {De G2 H2 σ'} hnx hσ g => by
        obtain ⟨y3, y4, y5, y6, y7, y8, y9, y10, rfl⟩ := hσ
        refine s_asg (t := tIs (.bl (!c))) g (ev_not (ev_x rfl)) fun v G7 H7 g7 gl7 w7 => ?_
        rw [w7.eq]
        exact hnx _ _ ⟨G7, g1.trans g7, e1.trans g7.gg, !c, _, _, _, _, _, _, _, _, rfl⟩
      refine q_asg gi (ev_callV1 (ev_v rfl hdv)) fun r G2 H2 g2 _ w2 => ?_
      rw [w2.eq]
      have hd2 := hdv.up g2.gg
      have bnT : ∀ {σ' G'}, σ'[2]? = some (some (.bl c)) → EvT (some b) (tB (tVar 2)) σ' G' (· = c) := fun h => et_b (ev_x h)
      refine q_asg (t := tKL [.bl (isS dv), .bl (isS dv)]) g2 (ev_lst2 (ev_if (bnT rfl) (fun _ => ev_kwS1 shv (ev_v rfl hd2)) fun _ => ev_callS1 shv (ev_v rfl hd2)) (ev_if (bnT rfl) (fun _ => ev_callS1 shv (ev_v rfl hd2)) fun _ => ev_kwS1 shv (ev_v rfl hd2))) fun r G3 H3 g3 _ w3 => ?_
      obtain ⟨pt, rfl, hpt⟩ := w3.now
      refine q_when g3 (p := (· = !true)) (et_not (et_b (ev_same2 (b := isS dv) (ev_var rfl w3) (ev_lst2 (ev_x rfl) (ev_x rfl))))) (fun z => nomatch z) fun _ G4 H4 g4 _ => ?_
      refine q_when g4 (p := (· = !isS dv)) (et_not (et_b (ev_x rfl))) (fun hb G5 H5 g5 _ => ?_) fun _ G5 H5 g5 _ => fin (fun _ _ h => h) ⟨_, _, _, _, _, _, _, _, rfl⟩ g5
      have hno : isS dv = false := by
        have hb' : true = !isS dv := hb
        revert hb'
        cases isS dv <;> decide
      -- for word, args in ..
      have pr : ∀ {σ' G'} {wd : Str}, σ'[3]? = some (some v) → Ev (some b) (tTup (tCons (tC (.str wd)) (tCons (tLst (tCons (tVar 3) (tCons (tC .non) tNil))) tNil))) σ' G' (fun G u => ∃ a l, u = .ref a ∧ SqT K G a [.str wd, .ref l] ∧ G l = some (.lst [v, .non])) := fun {σ' G' wd} h =>
        (ev_tup (K := K) (ts := [tIs (.str wd), tKL [v, .non]]) (ea_cons ev_k (ea_cons (ev_lst2 (ev_x h) ev_k) ea_nil)) (by show 2 ≤ 100000; decide)).imp fun G2 u _ w G3 e3 => by
          obtain ⟨a, vs, rfl, hs, hu⟩ := w G3 e3
          cases hu with
          | cons a1 hu => cases hu with
            | cons a2 hu =>
              cases hu
              obtain ⟨l, rfl, hl⟩ := a2.now
              rw [a1.eq] at hs
              exact ⟨a, l, rfl, hs, hl⟩
      refine s_forG (P := fun G xs => ∀ u ∈ xs, ∃ (wd : Str) (a l : Addr), (wd = "value" ∨ wd = "fitted") ∧ u = .ref a ∧ SqT K G a [.str wd, .ref l] ∧ G l = some (.lst [v, .non])) g5 (ei_listN (en_lst (ea_cons (pr (wd := "value") rfl) (ea_cons (pr (wd := "fitted") rfl) ea_nil)) (by show 2 ≤ 100000; decide)) fun G' xs e h G'' e'' => ?_)
        (fun zs i σ' G' H' => ∃ (y4 y5 y6 y7 y8 y9 y10 : Option V), σ' = [some (.ref b), some x, some (.bl c), some v, y4, y5, y6, y7, y8, y9, y10]) (fun zs G' H' g' gl hz => ⟨_, _, _, _, _, _, _, rfl⟩) (fun Gt zt e2 ht j u σ' G6 H6 hu g6 e6 hi => ?_) (fun zs σ' G' H' g' e' hz hi => ?_)
      · have h' := h G'' e''
        cases h' with
        | cons a1 h' => cases h' with
          | cons a2 h' =>
            cases h'
            intro u hu
            rcases List.mem_cons.mp hu with rfl | hu
            · obtain ⟨a, l, h1, h2, h3⟩ := a1.now
              exact ⟨_, a, l, .inl rfl, h1, h2, h3⟩
            · rw [List.mem_singleton.mp hu]
              obtain ⟨a, l, h1, h2, h3⟩ := a2.now
              exact ⟨_, a, l, .inr rfl, h1, h2, h3⟩
      · obtain ⟨y4, y5, y6, y7, y8, y9, y10, rfl⟩ := hi
        obtain ⟨wd, a, l, hwd, rfl, hsa, hla⟩ := (ht.up e6).now u (List.mem_of_getElem? hu)
        refine tg_pair g6.kn hsa ?_
        have gj := Go.refl g6.kn
        have hdv6 := hdv.up g6.gg
        refine q_asg (t := fun G v2 => ∃ a y, v2 = .ref a ∧ G a = some (.lst [y, .non]) ∧ U (tCp K G6 dv) G y) gj ((en_copies (ds := [dv, .none]) rfl (fun _ => rfl) (fun _ => rfl) hla (.cons hdv6 (.cons vl_non .nil)) (by show 2 ≤ 1000; decide)).ev fun G' a ys e ha hp => ?_) fun r G7 H7 g7 _ w7 => ?_
        · obtain ⟨h1, h2⟩ := hp.now
          match ys, h1 with
          | [y, z], _ =>
            obtain ⟨y', h3, h4⟩ := h2 0 dv rfl
            obtain ⟨z', h5, h6⟩ := h2 1 .none rfl
            cases h3
            cases h5
            have hz := h6.now.vl.non
            subst hz
            exact ⟨a, y, rfl, ha, h4⟩
        obtain ⟨pg, y, rfl, hpg, hy⟩ := w7.now
        have ask : ∀ {G'}, Ex G7 G' → Ask K G' wd [y, .non] (.bad "sort" y) := fun e => by
          have hvl := (hy.up e).now.vl
          rcases hwd with rfl | rfl
          · exact .value hvl shv vl_non (fun s' q ok => by rw [q, isS_sk ok] at hno; cases hno) fun _ => rfl
          · exact .fitted hvl shv vl_non (fun s' q ok _ => by rw [q, isS_sk ok] at hno; cases hno) (fun _ => rfl) fun s' q ok _ => by rw [q, isS_sk ok] at hno; cases hno
        refine q_asg (t := tKL [.str "sort", y]) g7 (en_asked (ev_x rfl) (ev_var rfl (t := tKL [y, .non]) fun _ e => ⟨pg, rfl, e _ _ hpg⟩) (ev_x rfl) (ask (Ex.refl _))) fun r G8 H8 g8 g78 w8 => ?_
        obtain ⟨pm, rfl, hpm⟩ := w8.now
        exact s_blame (d := dv) g8 (hy.up g78.gg) okv (ev_op2 (ev_x rfl) ev_k (ro_ixL (.of hpm) (at_of (j := 0) rfl rfl))) (ev_op2 (ev_x rfl) ev_k (ro_ixL (.of hpm) (at_of (j := 1) rfl rfl))) (ev_op2 (ev_x rfl) ev_k (ro_ixL (.of (g78.gg _ _ hpg)) (at_of (j := 0) rfl rfl)))
          fun G9 H9 g9 => ⟨G9, g6.trans g9, e6.trans g9.gg, _, _, _, _, _, _, _, rfl⟩
      · obtain ⟨y4, y5, y6, y7, y8, y9, y10, rfl⟩ := hi
        exact fin (fun _ _ h => h) ⟨_, _, _, _, _, _, _, _, rfl⟩ g')
end
end K12
set_option Elab.async false
set_option linter.all false
set_option maxRecDepth 100000
set_option maxHeartbeats 4000000
namespace K12
open PySem L2 Ty
open Evl (Ex ex_l ex_t)
abbrev s__law_kept_right : Stmt := top 44
theorem sc__law_kept_right : FnScope ["box", "great", "by_name", "numbers", "number", "rest", "value", "given", "told"] ["box", "great", "by_name"] (defScope s__law_kept_right) := ⟨rfl, rfl, rfl, by decide +kernel, rfl, by decide +kernel, by decide +kernel⟩
theorem pb__law_kept_right : PosB "_law_kept_right" s__law_kept_right ["box", "great", "by_name"] := fun _ _ _ _ _ _ us hl => match us, hl with | [_, _, _], _ => rfl
theorem keep_eq (i : Int) : (i + 1000) % 2001 - 1000 = keep i := by
  unfold keep
  have e1 : (1000 - (-1000) + 1 : Int) = 2001 := by decide
  have e2 : i - (-1000) = i + 1000 := by omega
  rw [e1, e2]
  omega
theorem keep_in (i : Int) : (decide (-1000 ≤ keep i) && decide (keep i ≤ 1000)) = true := by
  rw [← keep_eq]
  simp only [Bool.and_eq_true, decide_eq_true_eq]
  omega
def tBad (K : PySem.W.Frag) : T := fun G v => ∃ d, Vl K G v d ∧ Ty.okn 3 d = true ∧ wh d = false
section
variable {P : Program} {w : World} {K : PySem.W.Frag} {mg : Str → Option Value} {base : Heap} {na ta CS CN CV D : Addr}
variable {o : Option Addr} {σ : L2.St} {G Ge He H : Hp} {tl ti te tb tn tw : TE} {x : V} {E : XK}
theorem okb {d : PyData} (h : Ev o te σ G (tV K d)) (h1 : Ty.okn 3 d = true) (h2 : wh d = false) : Ev o te σ G (tBad K) := h.imp fun G' v _ w G'' e => ⟨d, (w G'' e), h1, h2⟩
theorem toI {i : Int} (h : Ev o te σ G (tIs (.int i))) : Ev o te σ G tInt := h.imp fun _ _ _ w => by rw [w.eq]; exact fun _ _ => ⟨_, rfl⟩
def cKR (K : PySem.W.Frag) (o : Option Addr) (G : Hp) (vs : List V) (t : T) : Prop := ∃ (b : Addr) (g : Int) (bn : Bool), o = some b ∧ vs = [.ref b, .int g, .bl bn] ∧ t = tIs (.bl true)
theorem ok_kept_right (T : Txt3 K mg na ta CS CN CV D) (d : Df K mg "_law_kept_right" s__law_kept_right) (G__law_take : Own P w K mg base CX0 1 "_law_take" s__law_take ["box", "many"] (spC cTake)) (G__law_mixed : Own P w K mg base CX0 2 "_law_mixed" s__law_mixed ["box", "items"] (spN (cMixed K)))
    (G__law_twice : Own P w K mg base CX0 7 "_law_twice" s__law_twice ["word", "args", "due", "by_name"] (spC (cTwice K)))
    (G__law_copy : Own P w K mg base CX0 1 "_law_copy" s__law_copy ["value"] (spCopy K)) (G__law_asked : Own P w K mg base CX0 6 "_law_asked" s__law_asked ["word", "args", "by_name"] (spN (cAsked K))) (G__law_blamed : Own P w K mg base CX0 4 "_law_blamed" s__law_blamed ["given", "value"] (spBlame K)) :
    Own P w K mg base CX0 8 "_law_kept_right" s__law_kept_right ["box", "great", "by_name"] (spC (cKR K)) :=
  d.own fun f fd F => F.ok sc__law_kept_right (fun vs H Q E h => by obtain ⟨o, G, t, kn, ⟨b, g, bn, _, rfl, _⟩, _⟩ := h; rfl) (fun cdv A outer s H vs Q E hr h => by
    obtain ⟨o, G, p, kn, ⟨b, gr, bn, rfl, rfl, rfl⟩, k⟩ := h
    refine ⟨_, (pss_cons (ps_set (i := 3) sc__law_kept_right.nd rfl (Or.inl rfl) (pe_lst (pa_cons pe_int (pa_cons pe_int (pa_cons pe_int (pa_cons (pe_un un_neg pe_int) (pa_cons (pe_un un_neg pe_int) (pa_cons pe_int (pa_cons (pe_un un_neg pe_int) (pa_cons pe_int (pa_cons (pe_op (kAdd (K := K) rfl) (pe_op gMul pe_int pe_int) pe_int) (pa_cons (pe_op op_sub (pe_own G__law_take pb__law_take (hr.mono (by first | decide | exact Nat.le_refl _)) rfl pass0 (pa_cons (pv 0) (pa_cons pe_int pa_nil))) pe_int) (pa_cons (pe_op op_sub (pe_own G__law_take pb__law_take (hr.mono (by first | decide | exact Nat.le_refl _)) rfl pass0 (pa_cons (pv 0) (pa_cons pe_int pa_nil))) pe_int) (pa_cons (pv 1) (pa_cons (pe_op op_sub pe_int (pv 1)) (pa_cons (pe_op op_pow pe_int pe_int) (pa_cons (pe_un un_neg (pe_op op_pow pe_int pe_int)) pa_nil)))))))))))))))))
   (pss_cons (ps_for PassesOwn.never rfl (pi_listK (K := K) rfl (pv 3)) (pg_name (i := 4) sc__law_kept_right.nd rfl (Or.inl rfl)) (pss_cons (ps_set (i := 5) sc__law_kept_right.nd rfl (Or.inl rfl) (pe_op op_sub (pe_op op_mod (pe_callTy call_int1 (by rfl) T.n_int (by decide +kernel) (pa_cons (pe_op (kAdd (K := K) rfl) (pv 4) pe_int) pa_nil)) pe_int) pe_int))
   (pss_cons (ps_if (PW.pt (pw_or (pt_not (pt_val (pe_own G__law_twice pb__law_twice (hr.mono (by first | decide | exact Nat.le_refl _)) rfl pass0 (pa_cons pe_str (pa_cons (pe_lst (pa_cons (pv 4) pa_nil)) (pa_cons (pv 5) (pa_cons (pv 2) pa_nil))))))) (pw_or1 (pt_not (pt_chain op_le op_le (pe_un un_neg pe_int) (pv 5) pe_int))))) (pss_one (ps_ret pe_bl)) pss_nil)
   (pss_one (ps_set (i := 2) sc__law_kept_right.nd rfl (Or.inl rfl) (pe_not (pv 2)))))))
   (pss_cons (ps_for PassesOwn.never rfl (pi_listK (K := K) rfl (pe_slice (kSl (K := K) rfl) (pe_own G__law_mixed pb__law_mixed (hr.mono (by first | decide | exact Nat.le_refl _)) rfl pass0 (pa_cons (pv 0) (pa_cons (pe_lst (pa_cons pe_non (pa_cons pe_bl (pa_cons pe_bl (pa_cons pe_str (pa_cons (pe_lst (pa_cons pe_int pa_nil)) (pa_cons (pe_tup (pa_cons pe_int pa_nil)) (pa_cons pe_dnewK (pa_cons pe_str pa_nil))))))))) pa_nil))) po_none (po_some pe_int))) (pg_name (i := 6) sc__law_kept_right.nd rfl (Or.inl rfl)) (pss_cons (ps_set (i := 7) sc__law_kept_right.nd rfl (Or.inl rfl) (pe_own G__law_copy pb__law_copy (hr.mono (by first | decide | exact Nat.le_refl _)) rfl pass0 (pa_cons (pv 6) pa_nil)))
   (pss_cons (ps_set (i := 8) sc__law_kept_right.nd rfl (Or.inl rfl) (pe_own G__law_asked pb__law_asked (hr.mono (by first | decide | exact Nat.le_refl _)) rfl pass0 (pa_cons pe_str (pa_cons (pe_lst (pa_cons (pv 7) pa_nil)) (pa_cons (pv 2) pa_nil)))))
   (pss_one (ps_if (PW.pt (pw_or (pt_cmpR (kNe (K := K) rfl hr.units) (pe_ix (kIx (K := K) rfl) (pv 8) pe_int (fun _ _ => rfl)) pe_str (nomark _)) (pw_or1 (pt_not (pt_val (pe_own G__law_blamed pb__law_blamed (hr.mono (by first | decide | exact Nat.le_refl _)) rfl pass0 (pa_cons (pe_ix (kIx (K := K) rfl) (pv 8) pe_int (fun _ _ => rfl)) (pa_cons (pv 7) pa_nil)))))))) (pss_one (ps_ret pe_bl)) pss_nil)))))
   (pss_one (ps_ret pe_bl))))), ?_⟩
    refine q_asg (t := tList 15 tInt) (Go.refl kn) (en_items (n := 15) (t := tInt) ?_ (by decide)).list fun r G2 H2 g2 _ w2 => ?_
    · exact ea_cons ev_kI (ea_cons ev_kI (ea_cons ev_kI (ea_cons (toI (ev_neg ev_k)) (ea_cons (toI (ev_neg ev_k)) (ea_cons ev_kI (ea_cons (toI (ev_neg ev_k)) (ea_cons ev_kI (ea_cons (toI (ev_addI (ev_op2 ev_k ev_k (ro_mulI (.inl ⟨by decide, by decide⟩))) ev_k))
        (ea_cons (ev_subII (rngI (take_at rfl ev_k ⟨by decide, by decide⟩)) ev_kI) (ea_cons (ev_subII (rngI (take_at rfl ev_k ⟨by decide, by decide⟩)) ev_kI) (ea_cons (ev_xI rfl) (ea_cons (ev_subII ev_kI (ev_xI rfl)) (ea_cons (toI (ev_iC (C := CPow) ev_k ev_k ⟨by decide, by decide, by decide⟩)) (ea_cons (toI (ev_neg (ev_iC (C := CPow) ev_k ev_k ⟨by decide, by decide, by decide⟩))) ea_nil))))))))))))))
    obtain ⟨an, ns, rfl, han, hln, hxn⟩ := w2.now
    refine q_for g2 (ei_list (K := K) (t := tIs (.ref an)) (P := pAll 15 tInt) (ev_x rfl) fun G' v e u => ⟨an, ns, u.eq, .of (e _ _ han), pAll.up ⟨hln, fun x hx => (hxn x hx).up e⟩⟩)
      (fun zs i σ' G' H' => ∃ (c : Bool) (y4 y5 y6 y7 y8 : Option V), σ' = [some (.ref b), some (.int gr), some (.bl c), some (.ref an), y4, y5, y6, y7, y8]) (fun zs G' H' g' gl hz => ⟨bn, _, _, _, _, _, rfl⟩) (fun Gs zs e0 hz i v σ' G1 H1 hv g1 e1 hi => ?_) (fun zs σ' G3 H3 g3 e3 hz hi => ?_)
    · obtain ⟨c, y4, y5, y6, y7, y8, rfl⟩ := hi
      obtain ⟨n, rfl⟩ := ((hz.up e1).now.2 v (List.mem_of_getElem? hv)).now
      have gi := Go.refl g1.kn
      refine q_asg (t := tIs (.int (keep n))) gi ?_ fun r G5 H5 g5 _ w5 => ?_
      · rw [← keep_eq]
        exact ev_i0 (ev_iC (C := fun _ j => 0 < j) (rc_int (ea_cons (ev_addI (ev_x rfl) ev_k) ea_nil) fun H Q q => .inl ⟨_, rfl, q⟩) ev_k (by decide)) ev_k
      rw [w5.eq]
      refine q_when g5 (p := (· = (!true || !true))) (et_or (et_not (et_b (ev_twice (p := .int (keep n)) ev_k (ev_lst1 (ev_x rfl)) (ev_x rfl) (ev_x rfl) (.kept vl_int (fun i' e => by cases e; rfl) fun z => nomatch z) vl_int rfl))) fun _ => et_not (et_test (ev_to (ev_chain2 (f := fun i j => decide (i ≤ j)) (f' := fun i j => decide (i ≤ j)) (ev_neg ev_k) (ev_x rfl) ev_k) (keep_in n)))) (fun z => nomatch z) fun _ G6 H6 g6 _ => ?_
      refine s_asg (t := tIs (.bl (!c))) g6 (ev_not (ev_x rfl)) fun v G7 H7 g7 gl7 w7 => ?_
      rw [w7.eq]
      exact ⟨G7, g1.trans g7, e1.trans g7.gg, !c, _, _, _, _, _, rfl⟩
    · obtain ⟨c, y4, y5, y6, y7, y8, rfl⟩ := hi
      refine q_for g3 (ei_listN (P := pAll 8 (tBad K)) (en_slN (P' := pAll 8 (tBad K)) (en_call (P := pAll 8 (tBad K)) (ea_cons (ev_x rfl) (ea_cons (en_items (n := 8) (t := tBad K) ?_ (by decide)).list ea_nil)) fun G' vs e al => ?_) eo_none (eo_some ev_k) fun _ _ h => pAll_cut h) fun _ _ _ h => h)
        (fun zs i σ' G' H' => ∃ (y3 y4 y5 y6 y7 y8 : Option V), σ' = [some (.ref b), some (.int gr), some (.bl c), y3, y4, y5, y6, y7, y8]) (fun zs G' H' g' gl hz => ⟨_, _, _, _, _, _, rfl⟩) (fun Gs zs e0 hz i v σ' G1 H1 hv g1 e1 hi => ?_) (fun zs σ' G' H' g' e' hz hi => s_ret g' ev_k k)
      · exact (ea_cons (okb (d := .none) (Ev.vNon ev_k) (by decide +kernel) (by decide +kernel)) (ea_cons (okb (d := (.bool true)) (Ev.vBl ev_k) (by decide +kernel) (by decide +kernel)) (ea_cons (okb (d := (.bool false)) (Ev.vBl ev_k) (by decide +kernel) (by decide +kernel)) (ea_cons (okb (d := (.str "1")) (Ev.vStr ev_k) (by decide +kernel) (by decide +kernel)) (ea_cons (okb (d := (.list [(.int 1)])) (ev_lstV (ds := [(.int 1)]) (ea_cons (Ev.vInt ev_k) ea_nil) (sh_all (by decide +kernel)) (by decide)) (by decide +kernel) (by decide +kernel)) (ea_cons (okb (d := (.tuple [(.int 1)])) (ev_tupV (ds := [(.int 1)]) (ea_cons (Ev.vInt ev_k) ea_nil) (sh_all (by decide +kernel)) (by decide)) (by decide +kernel) (by decide +kernel)) (ea_cons (okb (d := (.dict [])) ev_dnewV (by decide +kernel) (by decide +kernel)) (ea_cons (okb (d := (.str "")) (Ev.vStr ev_k) (by decide +kernel) (by decide +kernel)) ea_nil))))))))
      · cases al with
        | cons a1 al => cases al with
          | cons a2 al =>
            cases al
            obtain ⟨l, xs, rfl, hl, hl2, hx⟩ := a2.now
            rw [a1.eq]
            refine ⟨some b, _, .inl rfl, ⟨b, l, xs, rfl, rfl, .of hl, by omega, rfl⟩, fun G4 ys e4 h => pAll.up ?_⟩
            have pm := h.now
            exact ⟨by rw [pm.length_eq]; exact hl2, fun x hx' => (hx x (pm.mem_iff.mp hx')).up e4⟩
      · obtain ⟨y3, y4, y5, y6, y7, y8, rfl⟩ := hi
        obtain ⟨dv, hdv, okv, hno⟩ := ((hz.up e1).now.2 v (List.mem_of_getElem? hv)).now
        have gi := Go.refl g1.kn
        refine q_asg (t := tCp K G1 dv) gi (ev_copy (ev_v rfl hdv)) fun v' G6 H6 g6 _ w6 => ?_
        have ask : ∀ {G'}, Ex G6 G' → Ask K G' "kept" [v'] (.bad "number" v') := fun e => .kept ((w6.up e).now.vl) (fun i' q => by rw [q] at hno; cases hno) fun _ => rfl
        refine q_asg (t := tKL [.str "number", v']) g6 (en_asked ev_k (ev_lst1 (ev_x rfl)) (ev_x rfl) (ask (Ex.refl _))) fun tt G7 H7 g7 g67 w7 => ?_
        obtain ⟨pt, rfl, hpt⟩ := w7.now
        exact s_blame (d := dv) g7 (w6.up g67.gg) okv (ev_op2 (ev_x rfl) ev_k (ro_ixL (.of hpt) (at_of (j := 0) rfl rfl))) (ev_op2 (ev_x rfl) ev_k (ro_ixL (.of hpt) (at_of (j := 1) rfl rfl))) (ev_x rfl) fun G8 H8 g8 => ⟨G8, g1.trans g8, e1.trans g8.gg, _, _, _, _, _, _, rfl⟩)
end
end K12
set_option Elab.async false
set_option linter.all false
set_option maxRecDepth 100000
set_option maxHeartbeats 4000000
namespace K12
open PySem L2 Ty
open Evl (Ex ex_l ex_t)
abbrev s_law : Stmt := top 45
theorem sc_law : FnScope ["script", "k", "box", "by_name", "turn", "sort"] ["script"] (defScope s_law) := ⟨rfl, rfl, rfl, by decide +kernel, rfl, by decide +kernel, by decide +kernel⟩
theorem pb_law : PosB "law" s_law ["script"] := fun _ _ _ _ _ _ us hl => match us, hl with | [_], _ => rfl
section
variable {P : Program} {w : World} {K : PySem.W.Frag} {mg : Str → Option Value} {base : Heap} {na ta CS CN CV D : Addr}
def cLaw (K : PySem.W.Frag) (o : Option Addr) (G : Hp) (vs : List V) (t : T) : Prop := o = none ∧ ∃ (a : Addr) (ns : List Int), vs = [.ref a] ∧ SqL K G a (ns.map V.int) ∧ t = tIs (.bl true)
theorem ok_law (T : Txt3 K mg na ta CS CN CV D) {f : Addr} {fd : FuncData} (F : Fun K "law" "law" s_law f fd) (G__law_box : Own P w K mg base CX0 1 "_law_box" s__law_box ["great"] (spN cBox)) (G__law_cell : Own P w K mg base CX0 1 "_law_cell" s__law_cell ["script", "k"] (spC (cCell K)))
    (G__law_take : Own P w K mg base CX0 1 "_law_take" s__law_take ["box", "many"] (spC cTake)) (G__law_sort : Own P w K mg base CX0 2 "_law_sort" s__law_sort ["box"] (spC (cSort K)))
    (G__law_sort_right : Own P w K mg base CX0 8 "_law_sort_right" s__law_sort_right ["box", "sort", "by_name"] (spC (cSR K))) (G__law_sorts_right : Own P w K mg base CX0 7 "_law_sorts_right" s__law_sorts_right ["box", "sort", "by_name"] (spC (cSR K)))
    (G__law_kept_right : Own P w K mg base CX0 8 "_law_kept_right" s__law_kept_right ["box", "great", "by_name"] (spC (cKR K))) : FnOk P w K mg base CX0 9 f fd ["script"] (spC (cLaw K)) :=
  F.ok sc_law (fun vs H Q E h => by obtain ⟨o, G, t, kn, ⟨_, a, ns, rfl, _⟩, _⟩ := h; rfl) (fun cdv A outer s H vs Q E hr h => by
    obtain ⟨o, G, p, kn, ⟨rfl, a, ns, rfl, hs, rfl⟩, k⟩ := h
    refine ⟨_, (pss_cons (ps_for PassesOwn.never rfl (pi_range1 rfl T.n_range (pa_cons (pe_callB (call_max2 rfl) (by rfl) T.n_max (by decide +kernel) (pa_cons pe_int (pa_cons (pe_callB (call_min2 rfl) (by rfl) T.n_min (by decide +kernel) (pa_cons pe_int (pa_cons (pe_callB (kLen (K := K) rfl) (by rfl) T.n_len (by decide +kernel) (pa_cons (pv 0) pa_nil)) pa_nil))) pa_nil))) pa_nil)) (pg_name (i := 1) sc_law.nd rfl (Or.inl rfl)) (pss_cons (ps_set (i := 2) sc_law.nd rfl (Or.inl rfl) (pe_own G__law_box pb__law_box (hr.mono (by first | decide | exact Nat.le_refl _)) rfl pass0 (pa_cons (pe_own G__law_cell pb__law_cell (hr.mono (by first | decide | exact Nat.le_refl _)) rfl pass0 (pa_cons (pv 0) (pa_cons (pv 1) pa_nil))) pa_nil)))
   (pss_cons (ps_set (i := 3) sc_law.nd rfl (Or.inl rfl) (pe_cmpR (kEq (K := K) rfl hr.units) (pe_own G__law_take pb__law_take (hr.mono (by first | decide | exact Nat.le_refl _)) rfl pass0 (pa_cons (pv 2) (pa_cons pe_int pa_nil))) pe_int (nomark _)))
   (pss_cons (ps_for PassesOwn.never rfl (pi_range1 rfl T.n_range (pa_cons pe_int pa_nil)) (pg_name (i := 4) sc_law.nd rfl (Or.inl rfl)) (pss_cons (ps_set (i := 5) sc_law.nd rfl (Or.inl rfl) (pe_own G__law_sort pb__law_sort (hr.mono (by first | decide | exact Nat.le_refl _)) rfl pass0 (pa_cons (pv 2) pa_nil)))
   (pss_cons (ps_if (PW.pt (pw_or (pt_not (pt_val (pe_own G__law_sort_right pb__law_sort_right (hr.mono (by first | decide | exact Nat.le_refl _)) rfl pass0 (pa_cons (pv 2) (pa_cons (pv 5) (pa_cons (pv 3) pa_nil)))))) (pw_or1 (pt_not (pt_val (pe_own G__law_sorts_right pb__law_sorts_right (hr.mono (by first | decide | exact Nat.le_refl _)) rfl pass0 (pa_cons (pv 2) (pa_cons (pv 5) (pa_cons (pe_not (pv 3)) pa_nil))))))))) (pss_one (ps_ret pe_bl)) pss_nil)
   (pss_one (ps_set (i := 3) sc_law.nd rfl (Or.inl rfl) (pe_not (pv 3)))))))
   (pss_one (ps_if (pt_not (pt_val (pe_own G__law_kept_right pb__law_kept_right (hr.mono (by first | decide | exact Nat.le_refl _)) rfl pass0 (pa_cons (pv 2) (pa_cons (pe_op op_mod (pe_callTy call_int1 (by rfl) T.n_int (by decide +kernel) (pa_cons (pe_callB call_abs (by rfl) T.n_abs (by decide +kernel) (pa_cons (pe_own G__law_cell pb__law_cell (hr.mono (by first | decide | exact Nat.le_refl _)) rfl pass0 (pa_cons (pv 0) (pa_cons (pv 1) pa_nil))) pa_nil)) pa_nil)) (pe_op op_pow pe_int pe_int)) (pa_cons (pv 3) pa_nil)))))) (pss_one (ps_ret pe_bl)) pss_nil))))))
   (pss_one (ps_ret pe_bl))), ?_⟩
    refine q_for (Go.refl kn) (ei_rng1 (P := fun _ zs => ∃ n : Nat, n ≤ 4 ∧ zs = intsV 0 n) (Pn := fun n => 0 ≤ n ∧ n ≤ 4) (ea_cons ?_ ea_nil) (fun n e => by omega) fun G' n _ e _ _ => ⟨n.toNat, by omega, rfl⟩)
      (fun zs i σ' G' H' => ∃ y1 y2 y3 y4 y5 : Option V, σ' = [some (.ref a), y1, y2, y3, y4, y5]) (fun zs G' H' g' gl hz => ⟨_, _, _, _, _, rfl⟩) (fun Gs zs e0 hz i x σ' G' H' hx g' e' hi => ?_) (fun zs σ' G' H' g' e' hz hi => ?_)
    · -- max(2, min(4, len(script)))
      refine ev_cb (ea_cons ev_k (ea_cons (ev_cb (ea_cons ev_k (ea_cons (ev_cb1 (ev_x rfl) fun G' e => rc_lenL (ex_l e hs)) ea_nil)) (t := fun _ v => ∃ n : Int, v = .int n ∧ 0 ≤ n ∧ n ≤ 4) fun G' vs e al => ?_) ea_nil)) fun G' vs e al => ?_
      · cases al with
        | cons a1 al => cases al with
          | cons a2 al =>
            cases al
            rw [a1.eq, a2.eq]
            exact rc_q (fun _ _ => ⟨_, rfl, by split <;> omega, by split <;> omega⟩) fun _ _ _ _ _ q => ⟨_, _, rfl, q⟩
      · cases al with
        | cons a1 al => cases al with
          | cons a2 al =>
            cases al
            obtain ⟨n, rfl, h0, h1⟩ := a2.now
            rw [a1.eq]
            exact rc_q (fun _ _ => ⟨_, rfl, by split <;> omega, by split <;> omega⟩) fun _ _ _ _ _ q => ⟨_, _, rfl, q⟩
    · obtain ⟨y1, y2, y3, y4, y5, rfl⟩ := hi
      obtain ⟨n, hn, hz'⟩ := hz.now
      rw [hz'] at hx
      obtain ⟨rfl, hi4⟩ := intsV_get hx
      have hs' := ex_l (e0.trans e') hs
      have cell : ∀ {o σ' G2}, (o = none ∨ o = o) → σ'[0]? = some (some (.ref a)) → σ'[1]? = some (some (.int (0 + (i : Int)))) → Ex G' G2 → Ev o (tCall (spC (cCell K)) [] E0 (tCons (tVar 0) (tCons (tVar 1) tNil))) σ' G2 tInt := fun {o σ' G2} _ h0 h1 e => ev_call (t := tInt) (ea_cons (ev_x h0) (ea_cons (ev_x h1) ea_nil)) fun G3 vs e3 al => by
        rw [all2 al]
        exact ⟨none, _, .inr rfl, ⟨rfl, a, ns, _, rfl, ex_l (e.trans e3) hs', ⟨by omega, by omega⟩, rfl⟩, fun _ _ _ w => w⟩
      -- box = ..
      refine q_asgN (P := pBox) g' (en_call (ea_cons (cell (.inl rfl) rfl rfl (Ex.refl _)) ea_nil) fun G2 vs e al => ?_) fun pb xs G2 H2 g2 gl hp0 hpH _ hpb gpb hxs => ?_
      · cases al with
        | cons a1 al =>
          cases al
          obtain ⟨n, rfl⟩ := a1.now
          exact ⟨none, _, .inl rfl, ⟨rfl, n, rfl, rfl⟩, fun _ _ _ w => w⟩
      obtain ⟨bn, bg, br, bc, rfl⟩ := hxs.now
      have kb : Kn (some pb) G2 H2 := ⟨g2.kn.sub, fun c e => by cases e; exact ⟨⟨bn, bg, br, bc, hpb⟩, gpb⟩⟩
      have gb := Go.refl kb
      have eGs : Ex Gs G2 := e'.trans gl.gg
      -- by_name = ..
      refine q_asg (t := tBool) gb (ev_op (s := tRng 0 2) (take_at2 (j := 2) rfl ev_k ⟨by decide, by decide⟩) ev_k fun G3 x y e hx hy => ?_) fun v G3 H3 g3 _ w3 => ?_
      · obtain ⟨i, rfl, _⟩ := hx.now
        rw [hy.eq]
        exact ro_q (fun _ _ => ⟨_, rfl⟩) fun _ _ _ _ _ q => .inl ⟨rfl, q⟩
      obtain ⟨c, rfl⟩ := w3.now
      -- for turn in range(4)
      refine q_for g3 (ei_rng1 (P := fun _ zs => True) (Pn := fun n => n = 4) (ea_cons (ev_k.imp fun _ _ _ u => by rw [u.eq]; exact fun _ _ => ⟨4, rfl, rfl⟩) ea_nil) (fun n e => by omega) fun G' n _ e _ _ => trivial)
        (fun zs j σ' G' H' => ∃ (c : Bool) (y4 y5 : Option V), σ' = [some (.ref a), some (.int (0 + (i : Int))), some (.ref pb), some (.bl c), y4, y5]) (fun zs G' H' g' gl hz => ⟨c, _, _, rfl⟩) (fun Gt zt e1 ht j x σ' G4 H4 hx g4 e4 hi => ?_) (fun zt σ' G4 H4 g4 e4 ht hi => ?_)
      · obtain ⟨c, y4, y5, rfl⟩ := hi
        refine q_asg (t := tSort K) g4 (ev_call (ea_cons (ev_x rfl) ea_nil) fun G5 vs e al => ?_) fun r G5 H5 g5 gl5 w5 => ?_
        · rw [all1 al]
          exact ⟨some pb, _, .inl rfl, ⟨pb, rfl, rfl, rfl⟩, fun _ _ _ w => w⟩
        have srt : ∀ {σ' G6} {te : TE} {c' : Bool}, σ'[2]? = some (some (.ref pb)) → σ'[5]? = some (some r) → Ev (some pb) te σ' G6 (tIs (.bl c')) → Ex G5 G6 → Ev (some pb) (tCall (spC (cSR K)) [] E0 (tCons (tVar 2) (tCons (tVar 5) (tCons te tNil)))) σ' G6 (tIs (.bl true)) := fun h2 h5 ht e => ev_call (ea_cons (ev_x h2) (ea_cons (ev_x h5) (ea_cons ht ea_nil))) fun G7 vs e7 al => by
          rw [all3 al]
          obtain ⟨s, hok, hv⟩ := w5 G7 (e.trans e7)
          exact ⟨some pb, _, .inl rfl, ⟨pb, r, s, _, rfl, rfl, hv, hok, rfl⟩, fun _ _ _ w => w⟩
        refine q_when g5 (p := (· = (!true || !true))) (et_or (et_not (et_b (srt rfl rfl (ev_x rfl) (Ex.refl _)))) fun _ => et_not (et_b (srt rfl rfl (ev_not (ev_x rfl)) (Ex.refl _)))) (fun z => nomatch z) fun _ G6 H6 g6 gl6 => ?_
        refine s_asg (t := tIs (.bl (!c))) g6 (ev_not (ev_x rfl)) fun v G7 H7 g7 gl7 w7 => ?_
        rw [w7.eq]
        exact ⟨G7, g7, e4.trans (gl5.gg.trans (gl6.gg.trans gl7.gg)), !c, _, _, rfl⟩
      · obtain ⟨c, y4, y5, rfl⟩ := hi
        have gg : Ex G' G4 := gl.gg.trans g4.gg
        refine s_when g4 (p := (· = !true)) (et_not (et_b (ev_call (t := tIs (.bl true)) (ea_cons (ev_x rfl) (ea_cons (s := tInt) ?_ (ea_cons (ev_x rfl) ea_nil))) fun G7 vs e7 al => ?_))) (fun z => nomatch z) fun _ G6 H6 g6 _ => ⟨G6, g2.unbox hp0 g6, eGs.trans g6.gg, _, _, _, _, _, rfl⟩
        · refine ev_op (s := tInt) (u := tIs (.int (10 ^ (18 : Int).toNat))) (ev_cb (ea_cons (ev_cb (ea_cons (cell (.inr rfl) rfl rfl gg) ea_nil) (t := tInt) fun G7 vs e al => ?_) ea_nil) fun G7 vs e al => ?_) (ev_iC (C := CPow) ev_k ev_k ⟨by decide, by decide, by decide⟩) fun G7 x y e hx hy => ?_
          · cases al with
            | cons a1 al =>
              cases al
              obtain ⟨n, rfl⟩ := a1.now
              exact rc_q (fun _ _ => ⟨_, rfl⟩) fun _ _ _ _ _ q => ⟨n, rfl, q⟩
          · cases al with
            | cons a1 al =>
              cases al
              obtain ⟨n, rfl⟩ := a1.now
              exact rc_q (fun _ _ => ⟨_, rfl⟩) fun _ _ _ _ _ q => .inl ⟨n, rfl, q⟩
          · obtain ⟨n, rfl⟩ := hx.now
            rw [hy.eq]
            exact ro_q (z := .int (n % (10 ^ (18 : Int).toNat))) (fun _ _ => ⟨_, rfl⟩) fun _ _ _ _ _ q => ⟨n, _, rfl, rfl, (show (0 : Int) < 10 ^ (18 : Int).toNat by decide), q⟩
        · cases al with
          | cons a1 al => cases al with
            | cons a2 al => cases al with
              | cons a3 al =>
                cases al
                obtain ⟨gr, rfl⟩ := a2.now
                rw [a1.eq, a3.eq]
                exact ⟨some pb, _, .inl rfl, ⟨pb, gr, _, rfl, rfl, rfl⟩, fun _ _ _ w => w⟩
    · exact s_ret g' ev_k k)
end
end K12
set_option Elab.async false
set_option linter.all false
set_option maxRecDepth 100000
set_option maxHeartbeats 4000000
namespace K12
open PySem L2 Ty
open Evl (Ex ex_l ex_t)
open Ex (SupC SupD spSup nscS ok_sup supBody)
abbrev s_init : Stmt := inClass (top 1) 0
section
variable {P : Program} {w : World} {K : PySem.W.Frag} {mg : Str → Option Value} {base : Heap} {f cc cda D : Addr} {dV kV doc pm ct oc : Value} {an od : Option Addr} {osl : Array (Option Value)}
theorem ok_init (lk : K.lookup f = some ⟨oc, od, .func (PySem.W.ksFn "__init__" "TalkError.__init__" (defArgs s_init) (defBody s_init) (defScope s_init) dV kV doc pm an (.ref cda) ct cc), osl⟩) (hcd : PySem.W.codeIn K (.ref cda) "TalkError.__init__" = true) (T : SupD K mg P D cc cda) :
    FnOk P w K mg base CX0 1 f (PySem.W.ksFn "__init__" "TalkError.__init__" (defArgs s_init) (defBody s_init) (defScope s_init) dV kV doc pm an (.ref cda) ct cc) ["self", "given"] (spSup K D) :=
  ok_sup lk hcd (nscS (by decide +kernel)) (by rfl) rfl rfl T fun _ => rfl
theorem bi_init {Td : Addr} {d0 : Value} {n : Nat} {sl : Array (Option Value)} (lT : K.lookup Td = some ⟨oc, od, .seq #[d0] n, sl⟩) :
    Binds K (PySem.W.ksFn "__init__" "TalkError.__init__" (defArgs s_init) (defBody s_init) (defScope s_init) (.ref Td) kV doc pm an (.ref cda) ct cc) ["self", "given"] [] := fun s us X hl => by
  rw [List.append_nil] at hl ⊢
  match us, hl with
  | [a, b], _ =>
    obtain ⟨k, e1, e2⟩ : ∃ k, bindArgs (PySem.W.ksFn "__init__" "TalkError.__init__" (defArgs s_init) (defBody s_init) (defScope s_init) (.ref Td) kV doc pm an (.ref cda) ct cc) ⟨[a, b], []⟩ = PySem.seqItems? (.ref Td) >>= k ∧ k (some #[d0]) = pure ((["self", "given"] : List Str).zip [a, b]) := ⟨_, rfl, by kernel_rfl⟩
    refine BindsTo.of_looks fun M => ?_
    rw [e1]
    exact looks_items X lT rfl (.of_pure e2)
end
end K12
set_option Elab.async false
set_option maxRecDepth 100000
namespace K12
open PySem L2 Ty
open Evl (Ex ex_l ex_t)
open Ex (SupC SupD spSup)
theorem law_fn {P : Program} {w : World} {K : PySem.W.Frag} {mg : Str → Option Value} {na ta CS CN CV D fI fa : Addr} (T : Txt3 K mg na ta CS CN CV D)
    (e_InvalidSort : ErrF K CS D fI)
    (e_InvalidNumber : ErrF K CN D fI)
    (e_InvalidValue : ErrF K CV D fI)
    (fi : ∀ base : Heap, ∃ fd, FnOk P w K mg base CX0 1 fI fd ["self", "given"] (spSup K D) ∧ Binds K fd ["self", "given"] [])
    (d__law_box : Df K mg "_law_box" s__law_box)
    (d__law_take : Df K mg "_law_take" s__law_take)
    (d__law_cell : Df K mg "_law_cell" s__law_cell)
    (d__law_mixed : Df K mg "_law_mixed" s__law_mixed)
    (d__law_same : Df K mg "_law_same" s__law_same)
    (d__law_copy : Df K mg "_law_copy" s__law_copy)
    (d__law_blamed : Df K mg "_law_blamed" s__law_blamed)
    (d_is_integer : Df K mg "is_integer" s_is_integer)
    (d__law_whole : Df K mg "_law_whole" s__law_whole)
    (d_is_truth : Df K mg "is_truth" s_is_truth)
    (d_is_within : Df K mg "is_within" s_is_within)
    (d_is_tuple : Df K mg "is_tuple" s_is_tuple)
    (d_is_sort : Df K mg "is_sort" s_is_sort)
    (d_check_sort : Df K mg "check_sort" s_check_sort)
    (d_is_value_of : Df K mg "is_value_of" s_is_value_of)
    (d_is_value : Df K mg "is_value" s_is_value)
    (d_kept_in : Df K mg "kept_in" s_kept_in)
    (d_kept : Df K mg "kept" s_kept)
    (d_fitted_in : Df K mg "fitted_in" s_fitted_in)
    (d_is_of_kind : Df K mg "is_of_kind" s_is_of_kind)
    (d_fitted : Df K mg "fitted" s_fitted)
    (d__law_is_sort : Df K mg "_law_is_sort" s__law_is_sort)
    (d__law_is_value : Df K mg "_law_is_value" s__law_is_value)
    (d__law_fitted : Df K mg "_law_fitted" s__law_fitted)
    (d__law_asked : Df K mg "_law_asked" s__law_asked)
    (d__law_twice : Df K mg "_law_twice" s__law_twice)
    (d__law_sort : Df K mg "_law_sort" s__law_sort)
    (d__law_near_sorts : Df K mg "_law_near_sorts" s__law_near_sorts)
    (d__law_values : Df K mg "_law_values" s__law_values)
    (d__law_sort_right : Df K mg "_law_sort_right" s__law_sort_right)
    (d__law_sorts_right : Df K mg "_law_sorts_right" s__law_sorts_right)
    (d__law_kept_right : Df K mg "_law_kept_right" s__law_kept_right)
    (d_law : Df K mg "law" s_law)
    (hfa : mg "law" = some (.ref fa)) : ∃ fd : FuncData, (∀ (s : Shared) (v : Value), BindsTo s fd ⟨[v], []⟩ [("script", v)]) ∧ ∀ base : Heap, K.In base → base.Ns mainGlobals mg → FnOk P w K mg base CX0 9 fa fd ["script"] (spC (cLaw K)) := by
  obtain ⟨f, fd, F, hm⟩ := d_law.ex
  rw [hm] at hfa
  cases hfa
  obtain ⟨_, _, kV, doc, pm, an, cdv, ct, _, rfl, _, _⟩ := id F.ex
  refine ⟨PySem.W.fnOf "law" "law" (defArgs s_law) (defBody s_law) (defScope s_law) .none kV doc pm an cdv ct, fun s v => .of_eq rfl, fun base _ _ => ?_⟩
  obtain ⟨fdI, FI, BI⟩ := fi base
  have t := T.toTxt2.toTxt
  have E_InvalidSort : OwnE P w K mg base 1 "InvalidSort" CS D := ownE_mk e_InvalidSort FI BI T.c_InvalidSort
  have E_InvalidNumber : OwnE P w K mg base 1 "InvalidNumber" CN D := ownE_mk e_InvalidNumber FI BI T.c_InvalidNumber
  have E_InvalidValue : OwnE P w K mg base 1 "InvalidValue" CV D := ownE_mk e_InvalidValue FI BI T.c_InvalidValue
  have o__law_box := ok_box (P := P) (w := w) (base := base) t d__law_box 
  have o__law_take := ok_take (P := P) (w := w) (base := base) t d__law_take 
  have o__law_cell := ok_cell (P := P) (w := w) (base := base) t d__law_cell 
  have o__law_mixed := ok_mixed (P := P) (w := w) (base := base) t d__law_mixed o__law_take
  have o__law_same := ok_same (P := P) (w := w) (base := base) t d__law_same 3
  have o__law_copy := ok_copy (P := P) (w := w) (base := base) t d__law_copy 
  have o__law_blamed := ok_blamed (P := P) (w := w) (base := base) t d__law_blamed o__law_same
  have o_is_integer := ok_integer (P := P) (w := w) (base := base) T.toTxt2 d_is_integer 
  have o__law_whole := ok_whole (P := P) (w := w) (base := base) T.toTxt2 d__law_whole 
  have o_is_truth := ok_truth (P := P) (w := w) (base := base) T.toTxt2 d_is_truth 
  have o_is_within := ok_within (P := P) (w := w) (base := base) T.toTxt2 d_is_within o_is_integer
  have o_is_tuple := ok_tuple (P := P) (w := w) (base := base) T.toTxt2 d_is_tuple 
  have o_is_sort := ok_sort (P := P) (w := w) (base := base) T.toTxt2 d_is_sort o_is_tuple o_is_within
  have o_check_sort := ok_check (P := P) (w := w) (base := base) T.toTxt2 d_check_sort E_InvalidSort o_is_sort
  have o_is_value_of := ok_value_of (P := P) (w := w) (base := base) T.toTxt2 d_is_value_of o_is_truth o_is_within
  have o_is_value := ok_is_value (P := P) (w := w) (base := base) T.toTxt2 d_is_value o_check_sort o_is_value_of
  have o_kept_in := ok_kept_in (P := P) (w := w) (base := base) T.toTxt2 d_kept_in 
  have o_kept := ok_kept (P := P) (w := w) (base := base) T.toTxt2 d_kept E_InvalidNumber o_is_integer o_kept_in
  have o_fitted_in := ok_fitted_in (P := P) (w := w) (base := base) T.toTxt2 d_fitted_in 
  have o_is_of_kind := ok_of_kind (P := P) (w := w) (base := base) T.toTxt2 d_is_of_kind o_is_within o_is_value_of
  have o_fitted := ok_fitted (P := P) (w := w) (base := base) T.toTxt2 d_fitted E_InvalidValue o_check_sort o_is_of_kind o_fitted_in
  have o__law_is_sort := ok_lsort (P := P) (w := w) (base := base) T.toTxt2 d__law_is_sort o__law_whole
  have o__law_is_value := ok_lvalue (P := P) (w := w) (base := base) T.toTxt2 d__law_is_value o__law_whole
  have o__law_fitted := ok_lfitted (P := P) (w := w) (base := base) T.toTxt2 d__law_fitted o__law_whole o__law_is_value
  have o__law_asked := ok_asked (P := P) (w := w) (base := base) T d__law_asked o_is_value o_kept o_fitted
  have o__law_twice := ok_twice (P := P) (w := w) (base := base) T d__law_twice o__law_same o__law_asked
  have o__law_sort := ok_lsort_drawn (P := P) (w := w) (base := base) T d__law_sort o__law_take
  have o__law_near_sorts := ok_near (P := P) (w := w) (base := base) T d__law_near_sorts o__law_mixed
  have o__law_values := ok_values (P := P) (w := w) (base := base) T d__law_values o__law_take o__law_mixed
  have o__law_sort_right := ok_sort_right (P := P) (w := w) (base := base) T d__law_sort_right o__law_values o__law_twice o__law_is_value o__law_fitted o__law_copy o__law_asked o__law_blamed
  have o__law_sorts_right := ok_sorts_right (P := P) (w := w) (base := base) T d__law_sorts_right o__law_near_sorts o__law_is_sort o_is_sort o__law_same o__law_copy o__law_asked o__law_blamed
  have o__law_kept_right := ok_kept_right (P := P) (w := w) (base := base) T d__law_kept_right o__law_take o__law_mixed o__law_twice o__law_copy o__law_asked o__law_blamed
  exact ok_law (P := P) (w := w) (base := base) T F o__law_box o__law_cell o__law_take o__law_sort o__law_sort_right o__law_sorts_right o__law_kept_right
theorem tup_at {K : PySem.W.Frag} {ga : Addr} {dd : Option Addr} {its : Array Value} {n : Nat} {sl : Array (Option Value)} {xs : List V} (l : K.lookup ga = some ⟨.type "tuple", dd, .seq its n, sl⟩) (h : its.size ≤ 100000) (r : Vals xs its.toList) : SqT K (fun _ => none) ga xs :=
  .inr ⟨_, its, n, l, rfl, rfl, Evl.sz_of h, r⟩
theorem all_mk {P : Program} {w : World} {K : PySem.W.Frag} {h : Heap} {mg : Str → Option Value} {fa : Addr} (X : K.In h) (G : h.Ns mainGlobals mg) (hfa : mg "law" = some (.ref fa))
    {CS : Addr}
    {CN : Addr}
    {CV : Addr}
    {D : Addr}
    {fI : Addr}
    {ocI dkI dcI pmI ctI : Value} {odI anI : Option Addr} {slI : Array (Option Value)} {Td cdaI ccI : Addr}
    {ocT : Value} {odT : Option Addr} {slT : Array (Option Value)} {d0 : Value} {nT : Nat}
    {clC : Value} {cldC : Option Addr} {cslC : Array (Option Value)}
    {clK : Value} {cldK : Option Addr} {cslK : Array (Option Value)} {vsK : Array Value} {fileK : Str} {tfK : Tok}
    {f0 : Addr} {od0 an0 : Option Addr} {sl0 : Array (Option Value)} {oc0 kV0 dc0 pm0 cd0 ct0 : Value}
    {f1 : Addr} {od1 an1 : Option Addr} {sl1 : Array (Option Value)} {oc1 kV1 dc1 pm1 cd1 ct1 : Value}
    {f2 : Addr} {od2 an2 : Option Addr} {sl2 : Array (Option Value)} {oc2 kV2 dc2 pm2 cd2 ct2 : Value}
    {f3 : Addr} {od3 an3 : Option Addr} {sl3 : Array (Option Value)} {oc3 kV3 dc3 pm3 cd3 ct3 : Value}
    {f4 : Addr} {od4 an4 : Option Addr} {sl4 : Array (Option Value)} {oc4 kV4 dc4 pm4 cd4 ct4 : Value}
    {f5 : Addr} {od5 an5 : Option Addr} {sl5 : Array (Option Value)} {oc5 kV5 dc5 pm5 cd5 ct5 : Value}
    {f6 : Addr} {od6 an6 : Option Addr} {sl6 : Array (Option Value)} {oc6 kV6 dc6 pm6 cd6 ct6 : Value}
    {f7 : Addr} {od7 an7 : Option Addr} {sl7 : Array (Option Value)} {oc7 kV7 dc7 pm7 cd7 ct7 : Value}
    {f8 : Addr} {od8 an8 : Option Addr} {sl8 : Array (Option Value)} {oc8 kV8 dc8 pm8 cd8 ct8 : Value}
    {f9 : Addr} {od9 an9 : Option Addr} {sl9 : Array (Option Value)} {oc9 kV9 dc9 pm9 cd9 ct9 : Value}
    {f10 : Addr} {od10 an10 : Option Addr} {sl10 : Array (Option Value)} {oc10 kV10 dc10 pm10 cd10 ct10 : Value}
    {f11 : Addr} {od11 an11 : Option Addr} {sl11 : Array (Option Value)} {oc11 kV11 dc11 pm11 cd11 ct11 : Value}
    {f12 : Addr} {od12 an12 : Option Addr} {sl12 : Array (Option Value)} {oc12 kV12 dc12 pm12 cd12 ct12 : Value}
    {f13 : Addr} {od13 an13 : Option Addr} {sl13 : Array (Option Value)} {oc13 kV13 dc13 pm13 cd13 ct13 : Value}
    {f14 : Addr} {od14 an14 : Option Addr} {sl14 : Array (Option Value)} {oc14 kV14 dc14 pm14 cd14 ct14 : Value}
    {f15 : Addr} {od15 an15 : Option Addr} {sl15 : Array (Option Value)} {oc15 kV15 dc15 pm15 cd15 ct15 : Value}
    {f16 : Addr} {od16 an16 : Option Addr} {sl16 : Array (Option Value)} {oc16 kV16 dc16 pm16 cd16 ct16 : Value}
    {f17 : Addr} {od17 an17 : Option Addr} {sl17 : Array (Option Value)} {oc17 kV17 dc17 pm17 cd17 ct17 : Value}
    {f18 : Addr} {od18 an18 : Option Addr} {sl18 : Array (Option Value)} {oc18 kV18 dc18 pm18 cd18 ct18 : Value}
    {f19 : Addr} {od19 an19 : Option Addr} {sl19 : Array (Option Value)} {oc19 kV19 dc19 pm19 cd19 ct19 : Value}
    {f20 : Addr} {od20 an20 : Option Addr} {sl20 : Array (Option Value)} {oc20 kV20 dc20 pm20 cd20 ct20 : Value}
    {f21 : Addr} {od21 an21 : Option Addr} {sl21 : Array (Option Value)} {oc21 kV21 dc21 pm21 cd21 ct21 : Value}
    {f22 : Addr} {od22 an22 : Option Addr} {sl22 : Array (Option Value)} {oc22 kV22 dc22 pm22 cd22 ct22 : Value}
    {f23 : Addr} {od23 an23 : Option Addr} {sl23 : Array (Option Value)} {oc23 kV23 dc23 pm23 cd23 ct23 : Value}
    {f24 : Addr} {od24 an24 : Option Addr} {sl24 : Array (Option Value)} {oc24 kV24 dc24 pm24 cd24 ct24 : Value}
    {f25 : Addr} {od25 an25 : Option Addr} {sl25 : Array (Option Value)} {oc25 kV25 dc25 pm25 cd25 ct25 : Value}
    {f26 : Addr} {od26 an26 : Option Addr} {sl26 : Array (Option Value)} {oc26 kV26 dc26 pm26 cd26 ct26 : Value}
    {f27 : Addr} {od27 an27 : Option Addr} {sl27 : Array (Option Value)} {oc27 kV27 dc27 pm27 cd27 ct27 : Value}
    {f28 : Addr} {od28 an28 : Option Addr} {sl28 : Array (Option Value)} {oc28 kV28 dc28 pm28 cd28 ct28 : Value}
    {f29 : Addr} {od29 an29 : Option Addr} {sl29 : Array (Option Value)} {oc29 kV29 dc29 pm29 cd29 ct29 : Value}
    {f30 : Addr} {od30 an30 : Option Addr} {sl30 : Array (Option Value)} {oc30 kV30 dc30 pm30 cd30 ct30 : Value}
    {f31 : Addr} {od31 an31 : Option Addr} {sl31 : Array (Option Value)} {oc31 kV31 dc31 pm31 cd31 ct31 : Value}
    {f32 : Addr} {od32 an32 : Option Addr} {sl32 : Array (Option Value)} {oc32 kV32 dc32 pm32 cd32 ct32 : Value}
    {u0 : Value}
    {u1 : Value}
    {u2 : Value}
    {na : Addr} {dd0 : Option Addr} {its0 : Array Value} {nn0 : Nat} {tsl0 : Array (Option Value)}
    {ta : Addr} {dd1 : Option Addr} {its1 : Array Value} {nn1 : Nat} {tsl1 : Array (Option Value)}
    (cb0 : PySem.W.nsIn K mainGlobals "InvalidSort" = some (some (.ref CS)))
    (cb1 : PySem.W.nsIn K mainGlobals "InvalidNumber" = some (some (.ref CN)))
    (cb2 : PySem.W.nsIn K mainGlobals "InvalidValue" = some (some (.ref CV)))
    (bT : PySem.W.nsIn K mainGlobals "TalkError" = some (some (.ref D)))
    (iI : PySem.W.findIn K (.ref CS) "__init__" = some (some (.ref fI)))
    (li : K.lookup fI = some ⟨ocI, odI, .func (PySem.W.ksFn "__init__" "TalkError.__init__" (defArgs s_init) (defBody s_init) (defScope s_init) (.ref Td) dkI dcI pmI anI (.ref cdaI) ctI ccI), slI⟩)
    (ci : PySem.W.codeIn K (.ref cdaI) "TalkError.__init__" = true)
    (lT : K.lookup Td = some ⟨ocT, odT, .seq #[d0] nT, slT⟩)
    (lc : K.lookup ccI = some ⟨clC, cldC, .cell (some (.ref D)), cslC⟩)
    (lk : K.lookup cdaI = some ⟨clK, cldK, .fields vsK, cslK⟩)
    (lv : vsK[2]? = some (.str fileK tfK))
    (lf : ((P.main.file : Str) == fileK) = true)
    (lp : (P.main.scope.names.lookup ("super" : Str)).isSome = false)
    (cm : comB K D fI = true)
    (eb0 : errB K CS D fI = true)
    (eb1 : errB K CN D fI = true)
    (eb2 : errB K CV D fI = true)
    (xm0 : PySem.W.exmOne K (.ref CS) (.ref CS) = some true)
    (xm1 : PySem.W.exmOne K (.ref CN) (.ref CS) = some false)
    (xm2 : PySem.W.exmOne K (.ref CN) (.ref CN) = some true)
    (xm3 : PySem.W.exmOne K (.ref CV) (.ref CS) = some false)
    (xm4 : PySem.W.exmOne K (.ref CV) (.ref CN) = some false)
    (xm5 : PySem.W.exmOne K (.ref CV) (.ref CV) = some true)
    (a0 : PySem.W.nsIn K mainGlobals "_law_box" = some (some (.ref f0)))
    (l0 : K.lookup f0 = some ⟨oc0, od0, .func (PySem.W.fnOf "_law_box" "_law_box" (defArgs s__law_box) (defBody s__law_box) (defScope s__law_box) .none kV0 dc0 pm0 an0 cd0 ct0), sl0⟩)
    (c0 : PySem.W.codeIn K cd0 "_law_box" = true)
    (k0 : PySem.W.keepIn K (.ref f0) = true)
    (a1 : PySem.W.nsIn K mainGlobals "_law_take" = some (some (.ref f1)))
    (l1 : K.lookup f1 = some ⟨oc1, od1, .func (PySem.W.fnOf "_law_take" "_law_take" (defArgs s__law_take) (defBody s__law_take) (defScope s__law_take) .none kV1 dc1 pm1 an1 cd1 ct1), sl1⟩)
    (c1 : PySem.W.codeIn K cd1 "_law_take" = true)
    (k1 : PySem.W.keepIn K (.ref f1) = true)
    (a2 : PySem.W.nsIn K mainGlobals "_law_cell" = some (some (.ref f2)))
    (l2 : K.lookup f2 = some ⟨oc2, od2, .func (PySem.W.fnOf "_law_cell" "_law_cell" (defArgs s__law_cell) (defBody s__law_cell) (defScope s__law_cell) .none kV2 dc2 pm2 an2 cd2 ct2), sl2⟩)
    (c2 : PySem.W.codeIn K cd2 "_law_cell" = true)
    (k2 : PySem.W.keepIn K (.ref f2) = true)
    (a3 : PySem.W.nsIn K mainGlobals "_law_mixed" = some (some (.ref f3)))
    (l3 : K.lookup f3 = some ⟨oc3, od3, .func (PySem.W.fnOf "_law_mixed" "_law_mixed" (defArgs s__law_mixed) (defBody s__law_mixed) (defScope s__law_mixed) .none kV3 dc3 pm3 an3 cd3 ct3), sl3⟩)
    (c3 : PySem.W.codeIn K cd3 "_law_mixed" = true)
    (k3 : PySem.W.keepIn K (.ref f3) = true)
    (a4 : PySem.W.nsIn K mainGlobals "_law_same" = some (some (.ref f4)))
    (l4 : K.lookup f4 = some ⟨oc4, od4, .func (PySem.W.fnOf "_law_same" "_law_same" (defArgs s__law_same) (defBody s__law_same) (defScope s__law_same) .none kV4 dc4 pm4 an4 cd4 ct4), sl4⟩)
    (c4 : PySem.W.codeIn K cd4 "_law_same" = true)
    (k4 : PySem.W.keepIn K (.ref f4) = true)
    (a5 : PySem.W.nsIn K mainGlobals "_law_copy" = some (some (.ref f5)))
    (l5 : K.lookup f5 = some ⟨oc5, od5, .func (PySem.W.fnOf "_law_copy" "_law_copy" (defArgs s__law_copy) (defBody s__law_copy) (defScope s__law_copy) .none kV5 dc5 pm5 an5 cd5 ct5), sl5⟩)
    (c5 : PySem.W.codeIn K cd5 "_law_copy" = true)
    (k5 : PySem.W.keepIn K (.ref f5) = true)
    (a6 : PySem.W.nsIn K mainGlobals "_law_blamed" = some (some (.ref f6)))
    (l6 : K.lookup f6 = some ⟨oc6, od6, .func (PySem.W.fnOf "_law_blamed" "_law_blamed" (defArgs s__law_blamed) (defBody s__law_blamed) (defScope s__law_blamed) .none kV6 dc6 pm6 an6 cd6 ct6), sl6⟩)
    (c6 : PySem.W.codeIn K cd6 "_law_blamed" = true)
    (k6 : PySem.W.keepIn K (.ref f6) = true)
    (a7 : PySem.W.nsIn K mainGlobals "is_integer" = some (some (.ref f7)))
    (l7 : K.lookup f7 = some ⟨oc7, od7, .func (PySem.W.fnOf "is_integer" "is_integer" (defArgs s_is_integer) (defBody s_is_integer) (defScope s_is_integer) .none kV7 dc7 pm7 an7 cd7 ct7), sl7⟩)
    (c7 : PySem.W.codeIn K cd7 "is_integer" = true)
    (k7 : PySem.W.keepIn K (.ref f7) = true)
    (a8 : PySem.W.nsIn K mainGlobals "_law_whole" = some (some (.ref f8)))
    (l8 : K.lookup f8 = some ⟨oc8, od8, .func (PySem.W.fnOf "_law_whole" "_law_whole" (defArgs s__law_whole) (defBody s__law_whole) (defScope s__law_whole) .none kV8 dc8 pm8 an8 cd8 ct8), sl8⟩)
    (c8 : PySem.W.codeIn K cd8 "_law_whole" = true)
    (k8 : PySem.W.keepIn K (.ref f8) = true)
    (a9 : PySem.W.nsIn K mainGlobals "is_truth" = some (some (.ref f9)))
    (l9 : K.lookup f9 = some ⟨oc9, od9, .func (PySem.W.fnOf "is_truth" "is_truth" (defArgs s_is_truth) (defBody s_is_truth) (defScope s_is_truth) .none kV9 dc9 pm9 an9 cd9 ct9), sl9⟩)
    (c9 : PySem.W.codeIn K cd9 "is_truth" = true)
    (k9 : PySem.W.keepIn K (.ref f9) = true)
    (a10 : PySem.W.nsIn K mainGlobals "is_within" = some (some (.ref f10)))
    (l10 : K.lookup f10 = some ⟨oc10, od10, .func (PySem.W.fnOf "is_within" "is_within" (defArgs s_is_within) (defBody s_is_within) (defScope s_is_within) .none kV10 dc10 pm10 an10 cd10 ct10), sl10⟩)
    (c10 : PySem.W.codeIn K cd10 "is_within" = true)
    (k10 : PySem.W.keepIn K (.ref f10) = true)
    (a11 : PySem.W.nsIn K mainGlobals "is_tuple" = some (some (.ref f11)))
    (l11 : K.lookup f11 = some ⟨oc11, od11, .func (PySem.W.fnOf "is_tuple" "is_tuple" (defArgs s_is_tuple) (defBody s_is_tuple) (defScope s_is_tuple) .none kV11 dc11 pm11 an11 cd11 ct11), sl11⟩)
    (c11 : PySem.W.codeIn K cd11 "is_tuple" = true)
    (k11 : PySem.W.keepIn K (.ref f11) = true)
    (a12 : PySem.W.nsIn K mainGlobals "is_sort" = some (some (.ref f12)))
    (l12 : K.lookup f12 = some ⟨oc12, od12, .func (PySem.W.fnOf "is_sort" "is_sort" (defArgs s_is_sort) (defBody s_is_sort) (defScope s_is_sort) .none kV12 dc12 pm12 an12 cd12 ct12), sl12⟩)
    (c12 : PySem.W.codeIn K cd12 "is_sort" = true)
    (k12 : PySem.W.keepIn K (.ref f12) = true)
    (a13 : PySem.W.nsIn K mainGlobals "check_sort" = some (some (.ref f13)))
    (l13 : K.lookup f13 = some ⟨oc13, od13, .func (PySem.W.fnOf "check_sort" "check_sort" (defArgs s_check_sort) (defBody s_check_sort) (defScope s_check_sort) .none kV13 dc13 pm13 an13 cd13 ct13), sl13⟩)
    (c13 : PySem.W.codeIn K cd13 "check_sort" = true)
    (k13 : PySem.W.keepIn K (.ref f13) = true)
    (a14 : PySem.W.nsIn K mainGlobals "is_value_of" = some (some (.ref f14)))
    (l14 : K.lookup f14 = some ⟨oc14, od14, .func (PySem.W.fnOf "is_value_of" "is_value_of" (defArgs s_is_value_of) (defBody s_is_value_of) (defScope s_is_value_of) .none kV14 dc14 pm14 an14 cd14 ct14), sl14⟩)
    (c14 : PySem.W.codeIn K cd14 "is_value_of" = true)
    (k14 : PySem.W.keepIn K (.ref f14) = true)
    (a15 : PySem.W.nsIn K mainGlobals "is_value" = some (some (.ref f15)))
    (l15 : K.lookup f15 = some ⟨oc15, od15, .func (PySem.W.fnOf "is_value" "is_value" (defArgs s_is_value) (defBody s_is_value) (defScope s_is_value) .none kV15 dc15 pm15 an15 cd15 ct15), sl15⟩)
    (c15 : PySem.W.codeIn K cd15 "is_value" = true)
    (k15 : PySem.W.keepIn K (.ref f15) = true)
    (a16 : PySem.W.nsIn K mainGlobals "kept_in" = some (some (.ref f16)))
    (l16 : K.lookup f16 = some ⟨oc16, od16, .func (PySem.W.fnOf "kept_in" "kept_in" (defArgs s_kept_in) (defBody s_kept_in) (defScope s_kept_in) .none kV16 dc16 pm16 an16 cd16 ct16), sl16⟩)
    (c16 : PySem.W.codeIn K cd16 "kept_in" = true)
    (k16 : PySem.W.keepIn K (.ref f16) = true)
    (a17 : PySem.W.nsIn K mainGlobals "kept" = some (some (.ref f17)))
    (l17 : K.lookup f17 = some ⟨oc17, od17, .func (PySem.W.fnOf "kept" "kept" (defArgs s_kept) (defBody s_kept) (defScope s_kept) .none kV17 dc17 pm17 an17 cd17 ct17), sl17⟩)
    (c17 : PySem.W.codeIn K cd17 "kept" = true)
    (k17 : PySem.W.keepIn K (.ref f17) = true)
    (a18 : PySem.W.nsIn K mainGlobals "fitted_in" = some (some (.ref f18)))
    (l18 : K.lookup f18 = some ⟨oc18, od18, .func (PySem.W.fnOf "fitted_in" "fitted_in" (defArgs s_fitted_in) (defBody s_fitted_in) (defScope s_fitted_in) .none kV18 dc18 pm18 an18 cd18 ct18), sl18⟩)
    (c18 : PySem.W.codeIn K cd18 "fitted_in" = true)
    (k18 : PySem.W.keepIn K (.ref f18) = true)
    (a19 : PySem.W.nsIn K mainGlobals "is_of_kind" = some (some (.ref f19)))
    (l19 : K.lookup f19 = some ⟨oc19, od19, .func (PySem.W.fnOf "is_of_kind" "is_of_kind" (defArgs s_is_of_kind) (defBody s_is_of_kind) (defScope s_is_of_kind) .none kV19 dc19 pm19 an19 cd19 ct19), sl19⟩)
    (c19 : PySem.W.codeIn K cd19 "is_of_kind" = true)
    (k19 : PySem.W.keepIn K (.ref f19) = true)
    (a20 : PySem.W.nsIn K mainGlobals "fitted" = some (some (.ref f20)))
    (l20 : K.lookup f20 = some ⟨oc20, od20, .func (PySem.W.fnOf "fitted" "fitted" (defArgs s_fitted) (defBody s_fitted) (defScope s_fitted) .none kV20 dc20 pm20 an20 cd20 ct20), sl20⟩)
    (c20 : PySem.W.codeIn K cd20 "fitted" = true)
    (k20 : PySem.W.keepIn K (.ref f20) = true)
    (a21 : PySem.W.nsIn K mainGlobals "_law_is_sort" = some (some (.ref f21)))
    (l21 : K.lookup f21 = some ⟨oc21, od21, .func (PySem.W.fnOf "_law_is_sort" "_law_is_sort" (defArgs s__law_is_sort) (defBody s__law_is_sort) (defScope s__law_is_sort) .none kV21 dc21 pm21 an21 cd21 ct21), sl21⟩)
    (c21 : PySem.W.codeIn K cd21 "_law_is_sort" = true)
    (k21 : PySem.W.keepIn K (.ref f21) = true)
    (a22 : PySem.W.nsIn K mainGlobals "_law_is_value" = some (some (.ref f22)))
    (l22 : K.lookup f22 = some ⟨oc22, od22, .func (PySem.W.fnOf "_law_is_value" "_law_is_value" (defArgs s__law_is_value) (defBody s__law_is_value) (defScope s__law_is_value) .none kV22 dc22 pm22 an22 cd22 ct22), sl22⟩)
    (c22 : PySem.W.codeIn K cd22 "_law_is_value" = true)
    (k22 : PySem.W.keepIn K (.ref f22) = true)
    (a23 : PySem.W.nsIn K mainGlobals "_law_fitted" = some (some (.ref f23)))
    (l23 : K.lookup f23 = some ⟨oc23, od23, .func (PySem.W.fnOf "_law_fitted" "_law_fitted" (defArgs s__law_fitted) (defBody s__law_fitted) (defScope s__law_fitted) .none kV23 dc23 pm23 an23 cd23 ct23), sl23⟩)
    (c23 : PySem.W.codeIn K cd23 "_law_fitted" = true)
    (k23 : PySem.W.keepIn K (.ref f23) = true)
    (a24 : PySem.W.nsIn K mainGlobals "_law_asked" = some (some (.ref f24)))
    (l24 : K.lookup f24 = some ⟨oc24, od24, .func (PySem.W.fnOf "_law_asked" "_law_asked" (defArgs s__law_asked) (defBody s__law_asked) (defScope s__law_asked) .none kV24 dc24 pm24 an24 cd24 ct24), sl24⟩)
    (c24 : PySem.W.codeIn K cd24 "_law_asked" = true)
    (k24 : PySem.W.keepIn K (.ref f24) = true)
    (a25 : PySem.W.nsIn K mainGlobals "_law_twice" = some (some (.ref f25)))
    (l25 : K.lookup f25 = some ⟨oc25, od25, .func (PySem.W.fnOf "_law_twice" "_law_twice" (defArgs s__law_twice) (defBody s__law_twice) (defScope s__law_twice) .none kV25 dc25 pm25 an25 cd25 ct25), sl25⟩)
    (c25 : PySem.W.codeIn K cd25 "_law_twice" = true)
    (k25 : PySem.W.keepIn K (.ref f25) = true)
    (a26 : PySem.W.nsIn K mainGlobals "_law_sort" = some (some (.ref f26)))
    (l26 : K.lookup f26 = some ⟨oc26, od26, .func (PySem.W.fnOf "_law_sort" "_law_sort" (defArgs s__law_sort) (defBody s__law_sort) (defScope s__law_sort) .none kV26 dc26 pm26 an26 cd26 ct26), sl26⟩)
    (c26 : PySem.W.codeIn K cd26 "_law_sort" = true)
    (k26 : PySem.W.keepIn K (.ref f26) = true)
    (a27 : PySem.W.nsIn K mainGlobals "_law_near_sorts" = some (some (.ref f27)))
    (l27 : K.lookup f27 = some ⟨oc27, od27, .func (PySem.W.fnOf "_law_near_sorts" "_law_near_sorts" (defArgs s__law_near_sorts) (defBody s__law_near_sorts) (defScope s__law_near_sorts) .none kV27 dc27 pm27 an27 cd27 ct27), sl27⟩)
    (c27 : PySem.W.codeIn K cd27 "_law_near_sorts" = true)
    (k27 : PySem.W.keepIn K (.ref f27) = true)
    (a28 : PySem.W.nsIn K mainGlobals "_law_values" = some (some (.ref f28)))
    (l28 : K.lookup f28 = some ⟨oc28, od28, .func (PySem.W.fnOf "_law_values" "_law_values" (defArgs s__law_values) (defBody s__law_values) (defScope s__law_values) .none kV28 dc28 pm28 an28 cd28 ct28), sl28⟩)
    (c28 : PySem.W.codeIn K cd28 "_law_values" = true)
    (k28 : PySem.W.keepIn K (.ref f28) = true)
    (a29 : PySem.W.nsIn K mainGlobals "_law_sort_right" = some (some (.ref f29)))
    (l29 : K.lookup f29 = some ⟨oc29, od29, .func (PySem.W.fnOf "_law_sort_right" "_law_sort_right" (defArgs s__law_sort_right) (defBody s__law_sort_right) (defScope s__law_sort_right) .none kV29 dc29 pm29 an29 cd29 ct29), sl29⟩)
    (c29 : PySem.W.codeIn K cd29 "_law_sort_right" = true)
    (k29 : PySem.W.keepIn K (.ref f29) = true)
    (a30 : PySem.W.nsIn K mainGlobals "_law_sorts_right" = some (some (.ref f30)))
    (l30 : K.lookup f30 = some ⟨oc30, od30, .func (PySem.W.fnOf "_law_sorts_right" "_law_sorts_right" (defArgs s__law_sorts_right) (defBody s__law_sorts_right) (defScope s__law_sorts_right) .none kV30 dc30 pm30 an30 cd30 ct30), sl30⟩)
    (c30 : PySem.W.codeIn K cd30 "_law_sorts_right" = true)
    (k30 : PySem.W.keepIn K (.ref f30) = true)
    (a31 : PySem.W.nsIn K mainGlobals "_law_kept_right" = some (some (.ref f31)))
    (l31 : K.lookup f31 = some ⟨oc31, od31, .func (PySem.W.fnOf "_law_kept_right" "_law_kept_right" (defArgs s__law_kept_right) (defBody s__law_kept_right) (defScope s__law_kept_right) .none kV31 dc31 pm31 an31 cd31 ct31), sl31⟩)
    (c31 : PySem.W.codeIn K cd31 "_law_kept_right" = true)
    (k31 : PySem.W.keepIn K (.ref f31) = true)
    (a32 : PySem.W.nsIn K mainGlobals "law" = some (some (.ref f32)))
    (l32 : K.lookup f32 = some ⟨oc32, od32, .func (PySem.W.fnOf "law" "law" (defArgs s_law) (defBody s_law) (defScope s_law) .none kV32 dc32 pm32 an32 cd32 ct32), sl32⟩)
    (c32 : PySem.W.codeIn K cd32 "law" = true)
    (k32 : PySem.W.keepIn K (.ref f32) = true)
    (b0 : PySem.W.nsIn K mainGlobals "LOW" = some (some u0))
    (r0 : RelV (.int (-1000)) u0)
    (b1 : PySem.W.nsIn K mainGlobals "HIGH" = some (some u1))
    (r1 : RelV (.int 1000) u1)
    (b2 : PySem.W.nsIn K mainGlobals "INTEGER" = some (some u2))
    (r2 : RelV (.str "integer") u2)
    (t0 : PySem.W.nsIn K mainGlobals "NONE" = some (some (.ref na)))
    (tl0 : K.lookup na = some ⟨.type "tuple", dd0, .seq its0 nn0, tsl0⟩)
    (th0 : its0.size ≤ 100000)
    (tv0 : Vals ([V.str "none"]) its0.toList)
    (t1 : PySem.W.nsIn K mainGlobals "TRUTH" = some (some (.ref ta)))
    (tl1 : K.lookup ta = some ⟨.type "tuple", dd1, .seq its1 nn1, tsl1⟩)
    (th1 : its1.size ≤ 100000)
    (tv1 : Vals ([V.str "truth"]) its1.toList)
    (z0 : PySem.W.nsIn K mainGlobals "isinstance" = some none)
    (z1 : PySem.W.nsIn K mainGlobals "str" = some none)
    (z2 : PySem.W.nsIn K mainGlobals "bool" = some none)
    (z3 : PySem.W.nsIn K mainGlobals "int" = some none)
    (z4 : PySem.W.nsIn K mainGlobals "list" = some none)
    (z5 : PySem.W.nsIn K mainGlobals "tuple" = some none)
    (z6 : PySem.W.nsIn K mainGlobals "dict" = some none)
    (z7 : PySem.W.nsIn K mainGlobals "len" = some none)
    (z8 : PySem.W.nsIn K mainGlobals "all" = some none)
    (z9 : PySem.W.nsIn K mainGlobals "abs" = some none)
    (z10 : PySem.W.nsIn K mainGlobals "sum" = some none)
    (z11 : PySem.W.nsIn K mainGlobals "max" = some none)
    (z12 : PySem.W.nsIn K mainGlobals "min" = some none)
    (z13 : PySem.W.nsIn K mainGlobals "range" = some none)
    (zsup : PySem.W.nsIn K mainGlobals "super" = some none)
    : ∃ fd : FuncData, (∀ (s : Shared) (v : Value), BindsTo s fd ⟨[v], []⟩ [("script", v)]) ∧ ∀ base : Heap, K.In base → base.Ns mainGlobals mg → FnOk P w K mg base CX0 9 fa fd ["script"] (spC (cLaw K)) := by
  have e_InvalidSort : ErrF K CS D fI := errB_ok eb0 cm
  have e_InvalidNumber : ErrF K CN D fI := errB_ok eb1 cm
  have e_InvalidValue : ErrF K CV D fI := errB_ok eb2 cm
  have T1 : Txt K mg := ⟨PySem.W.mg_none_of X G z0, PySem.W.mg_none_of X G z1, PySem.W.mg_none_of X G z2, PySem.W.mg_none_of X G z3, PySem.W.mg_none_of X G z4, PySem.W.mg_none_of X G z5, PySem.W.mg_none_of X G z6, PySem.W.mg_none_of X G z7, PySem.W.mg_none_of X G z8, PySem.W.mg_none_of X G z9, PySem.W.mg_none_of X G z10, PySem.W.mg_none_of X G z11, PySem.W.mg_none_of X G z12, PySem.W.mg_none_of X G z13⟩
  have T : Txt3 K mg na ta CS CN CV D := ⟨⟨T1, gl_mk X G b0 r0, gl_mk X G b1 r1, gl_mk X G b2 r2, ⟨_, PySem.W.mg_of X G t0, rfl⟩, ⟨_, PySem.W.mg_of X G t1, rfl⟩, tup_at tl0 th0 tv0, tup_at tl1 th1 tv1⟩, ⟨_, PySem.W.mg_of X G bT, rfl⟩, PySem.W.mg_of X G cb0, PySem.W.mg_of X G cb1, PySem.W.mg_of X G cb2, e_InvalidSort.xf, e_InvalidNumber.xf, e_InvalidValue.xf, e_InvalidSort.sup.no, e_InvalidNumber.sup.no, e_InvalidValue.sup.no, e_InvalidSort.ex, e_InvalidNumber.ex, e_InvalidValue.ex, e_InvalidSort.kit, e_InvalidNumber.kit, e_InvalidValue.kit, xm0, xm1, xm2, xm3, xm4, xm5⟩
  have sd : SupD K mg P D ccI cdaI := supD_mk cm lc lk lv lf (PySem.W.mg_none_of X G zsup) lp
  exact law_fn T e_InvalidSort e_InvalidNumber e_InvalidValue (fun base => ⟨_, ok_init li ci sd, bi_init lT⟩) (df_mk X G a0 l0 c0 k0) (df_mk X G a1 l1 c1 k1) (df_mk X G a2 l2 c2 k2) (df_mk X G a3 l3 c3 k3) (df_mk X G a4 l4 c4 k4) (df_mk X G a5 l5 c5 k5) (df_mk X G a6 l6 c6 k6) (df_mk X G a7 l7 c7 k7) (df_mk X G a8 l8 c8 k8) (df_mk X G a9 l9 c9 k9) (df_mk X G a10 l10 c10 k10) (df_mk X G a11 l11 c11 k11) (df_mk X G a12 l12 c12 k12) (df_mk X G a13 l13 c13 k13) (df_mk X G a14 l14 c14 k14) (df_mk X G a15 l15 c15 k15) (df_mk X G a16 l16 c16 k16) (df_mk X G a17 l17 c17 k17) (df_mk X G a18 l18 c18 k18) (df_mk X G a19 l19 c19 k19) (df_mk X G a20 l20 c20 k20) (df_mk X G a21 l21 c21 k21) (df_mk X G a22 l22 c22 k22) (df_mk X G a23 l23 c23 k23) (df_mk X G a24 l24 c24 k24) (df_mk X G a25 l25 c25 k25) (df_mk X G a26 l26 c26 k26) (df_mk X G a27 l27 c27 k27) (df_mk X G a28 l28 c28 k28) (df_mk X G a29 l29 c29 k29) (df_mk X G a30 l30 c30 k30) (df_mk X G a31 l31 c31 k31) (df_mk X G a32 l32 c32 k32) hfa
theorem walk {l : PySem.W.OpenLaw} {q : Program} {loose : List Str} {XP : (Str → Option Value) → Heap → Prop} {YP : World → Heap → Prop} {d : DefRec} {K : Params → PySem.W.Frag} (hn : l.most = some 63) (hdf : d.params.defaults = [])
    (hY : ∀ (w : World) (h : Heap), YP w h → (K w.params).In h)
    (F : ∀ (w : World) (mg : Str → Option Value) (fa : Addr) (h : Heap), (K w.params).In h → h.Ns mainGlobals mg → mg d.name = some (.ref fa) →
      ∃ fd : FuncData, (∀ (s : Shared) (u : Value), BindsTo s fd ⟨[u], []⟩ [("script", u)]) ∧ ∀ base : Heap, (K w.params).In base → base.Ns mainGlobals mg → FnOk l.prog w (K w.params) mg base CX0 9 fa fd ["script"] (spC (cLaw (K w.params)))) :
    PySem.W.WalkO q loose XP YP l.row.toRowW d [] (fun f vs => PySem.call f vs) :=
  L2.walk_of (n := 63) (k := 9) (x := "script") (CX := fun _ => CX0) (sp := fun w => spC (cLaw (K w.params))) hn (by decide) hdf ⟨rfl, by decide, by decide⟩ hY F
    (fun _ H a ns hl _ hS => ⟨none, H, _, ⟨Ex.refl H, fun _ z => nomatch z⟩, ⟨rfl, a, ns, rfl, hS, by first | rfl | exact ⟨hl, rfl⟩⟩, fun v G2 H2 _ w2 => w2.eq⟩) fun _ _ _ _ _ z => z
end K12
open PySem PySem.W PyProof.Rows
set_option maxRecDepth 100000 in
set_option maxHeartbeats 0 in
theorem PySem.Challenge.cw_onetalk_k12_sorts_and_values_holds : PySem.Challenge.rw_onetalk_k12_sorts_and_values.Holds := by
  w_on; o_law; k_head; (case hw => w_witness2)
  k_fill
  refine K12.walk (l := PySem.Challenge.rw_onetalk_k12_sorts_and_values) rfl rfl (fun w h Y => PySem.W.kIn_of Y) ?F
  case F =>
    intro w mg fa h KX G hmg
    refine' K12.all_mk KX G hmg ?cb0 ?cb1 ?cb2 ?bT ?iI ?li ?ci ?lT ?lc ?lk ?lv ?lf ?lp ?cm ?eb0 ?eb1 ?eb2 ?xm0 ?xm1 ?xm2 ?xm3 ?xm4 ?xm5 ?a0 ?l0 ?c0 ?k0 ?a1 ?l1 ?c1 ?k1 ?a2 ?l2 ?c2 ?k2 ?a3 ?l3 ?c3 ?k3 ?a4 ?l4 ?c4 ?k4 ?a5 ?l5 ?c5 ?k5 ?a6 ?l6 ?c6 ?k6 ?a7 ?l7 ?c7 ?k7 ?a8 ?l8 ?c8 ?k8 ?a9 ?l9 ?c9 ?k9 ?a10 ?l10 ?c10 ?k10 ?a11 ?l11 ?c11 ?k11 ?a12 ?l12 ?c12 ?k12 ?a13 ?l13 ?c13 ?k13 ?a14 ?l14 ?c14 ?k14 ?a15 ?l15 ?c15 ?k15 ?a16 ?l16 ?c16 ?k16 ?a17 ?l17 ?c17 ?k17 ?a18 ?l18 ?c18 ?k18 ?a19 ?l19 ?c19 ?k19 ?a20 ?l20 ?c20 ?k20 ?a21 ?l21 ?c21 ?k21 ?a22 ?l22 ?c22 ?k22 ?a23 ?l23 ?c23 ?k23 ?a24 ?l24 ?c24 ?k24 ?a25 ?l25 ?c25 ?k25 ?a26 ?l26 ?c26 ?k26 ?a27 ?l27 ?c27 ?k27 ?a28 ?l28 ?c28 ?k28 ?a29 ?l29 ?c29 ?k29 ?a30 ?l30 ?c30 ?k30 ?a31 ?l31 ?c31 ?k31 ?a32 ?l32 ?c32 ?k32 ?b0 ?r0 ?b1 ?r1 ?b2 ?r2 ?t0 ?tl0 ?th0 ?tv0 ?t1 ?tl1 ?th1 ?tv1 ?z0 ?z1 ?z2 ?z3 ?z4 ?z5 ?z6 ?z7 ?z8 ?z9 ?z10 ?z11 ?z12 ?z13 ?zsup
    (case cb0 => k_is)
    (case cb1 => k_is)
    (case cb2 => k_is)
    (case bT => k_is)
    (case iI => k_is)
    (case li => k_is)
    (case ci => k_is)
    (case lT => k_is)
    (case lc => k_is)
    (case lk => k_is)
    (case lv => first | exact rfl | kernel_rfl)
    (case lf => first | exact rfl | kernel_rfl | decide +kernel)
    (case lp => first | exact rfl | kernel_rfl | decide +kernel)
    (case cm => kernel_rfl)
    (case eb0 => kernel_rfl)
    (case eb1 => kernel_rfl)
    (case eb2 => kernel_rfl)
    (case xm0 => kernel_rfl)
    (case xm1 => kernel_rfl)
    (case xm2 => kernel_rfl)
    (case xm3 => kernel_rfl)
    (case xm4 => kernel_rfl)
    (case xm5 => kernel_rfl)
    (case a0 => k_is)
    (case l0 => k_is)
    (case c0 => k_is)
    (case k0 => k_is)
    (case a1 => k_is)
    (case l1 => k_is)
    (case c1 => k_is)
    (case k1 => k_is)
    (case a2 => k_is)
    (case l2 => k_is)
    (case c2 => k_is)
    (case k2 => k_is)
    (case a3 => k_is)
    (case l3 => k_is)
    (case c3 => k_is)
    (case k3 => k_is)
    (case a4 => k_is)
    (case l4 => k_is)
    (case c4 => k_is)
    (case k4 => k_is)
    (case a5 => k_is)
    (case l5 => k_is)
    (case c5 => k_is)
    (case k5 => k_is)
    (case a6 => k_is)
    (case l6 => k_is)
    (case c6 => k_is)
    (case k6 => k_is)
    (case a7 => k_is)
    (case l7 => k_is)
    (case c7 => k_is)
    (case k7 => k_is)
    (case a8 => k_is)
    (case l8 => k_is)
    (case c8 => k_is)
    (case k8 => k_is)
    (case a9 => k_is)
    (case l9 => k_is)
    (case c9 => k_is)
    (case k9 => k_is)
    (case a10 => k_is)
    (case l10 => k_is)
    (case c10 => k_is)
    (case k10 => k_is)
    (case a11 => k_is)
    (case l11 => k_is)
    (case c11 => k_is)
    (case k11 => k_is)
    (case a12 => k_is)
    (case l12 => k_is)
    (case c12 => k_is)
    (case k12 => k_is)
    (case a13 => k_is)
    (case l13 => k_is)
    (case c13 => k_is)
    (case k13 => k_is)
    (case a14 => k_is)
    (case l14 => k_is)
    (case c14 => k_is)
    (case k14 => k_is)
    (case a15 => k_is)
    (case l15 => k_is)
    (case c15 => k_is)
    (case k15 => k_is)
    (case a16 => k_is)
    (case l16 => k_is)
    (case c16 => k_is)
    (case k16 => k_is)
    (case a17 => k_is)
    (case l17 => k_is)
    (case c17 => k_is)
    (case k17 => k_is)
    (case a18 => k_is)
    (case l18 => k_is)
    (case c18 => k_is)
    (case k18 => k_is)
    (case a19 => k_is)
    (case l19 => k_is)
    (case c19 => k_is)
    (case k19 => k_is)
    (case a20 => k_is)
    (case l20 => k_is)
    (case c20 => k_is)
    (case k20 => k_is)
    (case a21 => k_is)
    (case l21 => k_is)
    (case c21 => k_is)
    (case k21 => k_is)
    (case a22 => k_is)
    (case l22 => k_is)
    (case c22 => k_is)
    (case k22 => k_is)
    (case a23 => k_is)
    (case l23 => k_is)
    (case c23 => k_is)
    (case k23 => k_is)
    (case a24 => k_is)
    (case l24 => k_is)
    (case c24 => k_is)
    (case k24 => k_is)
    (case a25 => k_is)
    (case l25 => k_is)
    (case c25 => k_is)
    (case k25 => k_is)
    (case a26 => k_is)
    (case l26 => k_is)
    (case c26 => k_is)
    (case k26 => k_is)
    (case a27 => k_is)
    (case l27 => k_is)
    (case c27 => k_is)
    (case k27 => k_is)
    (case a28 => k_is)
    (case l28 => k_is)
    (case c28 => k_is)
    (case k28 => k_is)
    (case a29 => k_is)
    (case l29 => k_is)
    (case c29 => k_is)
    (case k29 => k_is)
    (case a30 => k_is)
    (case l30 => k_is)
    (case c30 => k_is)
    (case k30 => k_is)
    (case a31 => k_is)
    (case l31 => k_is)
    (case c31 => k_is)
    (case k31 => k_is)
    (case a32 => k_is)
    (case l32 => k_is)
    (case c32 => k_is)
    (case k32 => k_is)
    (case b0 => k_is)
    (case r0 => exact ⟨_, rfl⟩)
    (case b1 => k_is)
    (case r1 => exact ⟨_, rfl⟩)
    (case b2 => k_is)
    (case r2 => exact ⟨_, rfl⟩)
    (case t0 => k_is)
    (case tl0 => k_is)
    (case th0 => decide)
    (case tv0 => (repeat (first | exact PySem.Paired.nil | refine PySem.Paired.cons ⟨_, rfl⟩ ?_)))
    (case t1 => k_is)
    (case tl1 => k_is)
    (case th1 => decide)
    (case tv1 => (repeat (first | exact PySem.Paired.nil | refine PySem.Paired.cons ⟨_, rfl⟩ ?_)))
    (case z0 => k_is)
    (case z1 => k_is)
    (case z2 => k_is)
    (case z3 => k_is)
    (case z4 => k_is)
    (case z5 => k_is)
    (case z6 => k_is)
    (case z7 => k_is)
    (case z8 => k_is)
    (case z9 => k_is)
    (case z10 => k_is)
    (case z11 => k_is)
    (case z12 => k_is)
    (case z13 => k_is)
    (case zsup => k_is)
#print axioms PySem.Challenge.cw_onetalk_k12_sorts_and_values_holds
