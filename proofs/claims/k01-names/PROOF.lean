import PyProof.Rows.All
import Wide.All
import OpenK.AllK
import Wide.FinOn
import HandS.ForMost
import HandS.IsInst
import HandS.Walk
import HandS.Evl
import HandS.Style
import PySem.Challenge.RW_onetalk_k01_names
set_option Elab.async false
set_option linter.all false
set_option maxRecDepth 100000
set_option maxHeartbeats 4000000
/-! Typed readings: what a reading gives, over a known heap G within the heap H; at o (if any) stands a drawer that may change. -/
namespace Ty
open PySem L2
open Evl (Ex ex_l ex_t)

/-- a drawer: four cells -/
def BoxAt (H : Hp) (b : Addr) : Prop := ∃ (n : Int) (g : Bool) (r c : Int), H b = some (.lst [.int n, .bl g, .int r, .int c])
structure Kn (o : Option Addr) (G H : Hp) : Prop where
  sub : Ex G H
  box : ∀ b, o = some b → BoxAt H b ∧ G b = none
structure Go (o : Option Addr) (G H G' H' : Hp) : Prop where
  gg : Ex G G'
  kn : Kn o G' H'
  kp : ∀ a x, H a = some x → o ≠ some a → H' a = some x
  nw : ∀ a, G a = none → H a ≠ none → G' a = none
abbrev T := Hp → V → Prop
/-- t holds of v from G on -/
def U (t : T) (G : Hp) (v : V) : Prop := ∀ G', Ex G G' → t G' v
theorem U.up {t : T} {G G' : Hp} {v : V} (u : U t G v) (e : Ex G G') : U t G' v := fun G2 e2 => u G2 (e.trans e2)
theorem U.now {t : T} {G : Hp} {v : V} (u : U t G v) : t G v := u G (Ex.refl G)
theorem U.imp {t s : T} {G : Hp} {v : V} (u : U t G v) (h : ∀ G', Ex G G' → t G' v → s G' v) : U s G v := fun G' e => h G' e (u G' e)
section
variable {o : Option Addr} {G H G1 H1 G2 H2 : Hp}
theorem Go.refl (k : Kn o G H) : Go o G H G H := ⟨Ex.refl G, k, fun _ _ h _ => h, fun _ h _ => h⟩
theorem Go.trans (a : Go o G H G1 H1) (b : Go o G1 H1 G2 H2) : Go o G H G2 H2 where
  gg := a.gg.trans b.gg
  kn := b.kn
  kp := fun x y h n => b.kp x y (a.kp x y h n) n
  nw := fun x g h => by
    by_cases hx : o = some x
    · exact (b.kn.box x hx).2
    · cases e : H x with
      | none => exact absurd e h
      | some y => exact b.nw x (a.nw x g h) (by rw [a.kp x y e hx]; simp)
theorem Kn.pure (k : Kn o G H) : Kn .none G H := ⟨k.sub, fun _ z => by cases z⟩
theorem Go.pure (k : Kn o G H) (a : Go .none G H G1 H1) : Go o G H G1 H1 := by
  refine ⟨a.gg, ⟨a.kn.sub, fun b z => ?_⟩, fun x y h _ => a.kp x y h (by simp), a.nw⟩
  obtain ⟨⟨n, g, r, c, e⟩, q⟩ := k.box b z
  exact ⟨⟨n, g, r, c, a.kp b _ e (by simp)⟩, a.nw b q (by rw [e]; simp)⟩
/-- a new object is known -/
theorem Go.new (k : Kn o G H) {p : Addr} {x : HO} (hp : H p = none) : Go o G H (upd G p x) (upd H p x) := by
  have gp : G p = none := Evl.fresh_back k.sub hp
  have bp : ∀ b, o = some b → b ≠ p := fun b z e => by
    obtain ⟨⟨n, g, r, c, q⟩, _⟩ := k.box b z
    rw [e, hp] at q
    cases q
  refine ⟨Ex.new gp, ⟨fun a y h => ?_, fun b z => ?_⟩, fun a y h _ => ?_, fun a h n => ?_⟩
  · by_cases e : a = p
    · subst e; rw [upd_same] at h ⊢; exact h
    · rw [upd_ne e] at h ⊢; exact k.sub a y h
  · obtain ⟨⟨n, g, r, c, q⟩, q2⟩ := k.box b z
    exact ⟨⟨n, g, r, c, by rw [upd_ne (bp b z)]; exact q⟩, by rw [upd_ne (bp b z)]; exact q2⟩
  · rw [upd_ne (ne_of_none h hp)]; exact h
  · by_cases e : a = p
    · subst e; exact absurd hp n
    · rw [upd_ne e]; exact h
/-- a new object that is not known -/
theorem Go.tmp (k : Kn o G H) {p : Addr} {x : HO} (hp : H p = none) : Go o G H G (upd H p x) := by
  have bp : ∀ b, o = some b → b ≠ p := fun b z e => by
    obtain ⟨⟨n, g, r, c, q⟩, _⟩ := k.box b z
    rw [e, hp] at q
    cases q
  refine ⟨Ex.refl G, ⟨k.sub.trans (Ex.new hp), fun b z => ?_⟩, fun a y h _ => ?_, fun a h _ => h⟩
  · obtain ⟨⟨n, g, r, c, q⟩, q2⟩ := k.box b z
    exact ⟨⟨n, g, r, c, by rw [upd_ne (bp b z)]; exact q⟩, q2⟩
  · rw [upd_ne (ne_of_none h hp)]; exact h
/-- what is not known may be known from here on -/
theorem Go.fix (a : Go o G H G1 H1) {p : Addr} {x : HO} (hp : H p = none) (h : H1 p = some x) (g : G1 p = none) (ho : o ≠ some p) : Go o G H (upd G1 p x) H1 := by
  refine ⟨a.gg.trans (Ex.new g), ⟨fun c y q => ?_, fun b z => ?_⟩, a.kp, fun c q n => ?_⟩
  · by_cases e : c = p
    · subst e; rw [upd_same] at q; rw [← q]; exact h
    · rw [upd_ne e] at q; exact a.kn.sub c y q
  · obtain ⟨q, q2⟩ := a.kn.box b z
    exact ⟨q, by rw [upd_ne (fun e => ho (by rw [z, e]))]; exact q2⟩
  · by_cases e : c = p
    · subst e; exact absurd hp n
    · rw [upd_ne e]; exact a.nw c q n
end

abbrev PL := Hp → List V → Prop
/-- P holds of xs from G on -/
def UP (P : PL) (G : Hp) (xs : List V) : Prop := ∀ G', Ex G G' → P G' xs
theorem UP.up {P : PL} {G G' : Hp} {xs : List V} (u : UP P G xs) (e : Ex G G') : UP P G' xs := fun G2 e2 => u G2 (e.trans e2)
theorem UP.now {P : PL} {G : Hp} {xs : List V} (u : UP P G xs) : P G xs := u G (Ex.refl G)
/-! ### judgements over readings -/
def Ev (o : Option Addr) (te : TE) (σ : L2.St) (G : Hp) (t : T) : Prop := ∀ G1 H1, Ex G G1 → Kn o G1 H1 → ∀ Q : VK, (∀ v G2 H2, Go o G1 H1 G2 H2 → U t G2 v → Q v H2) → te σ H1 Q
/-- a new list, not yet known -/
def EvN (o : Option Addr) (te : TE) (σ : L2.St) (G : Hp) (P : Hp → List V → Prop) : Prop := ∀ G1 H1, Ex G G1 → Kn o G1 H1 → ∀ Q : VK,
  (∀ p xs G2 H2, Go o G1 H1 G2 H2 → H1 p = none → H2 p = some (.lst xs) → G2 p = none → UP P G2 xs → Q (.ref p) H2) → te σ H1 Q
def EvT (o : Option Addr) (tt : TT) (σ : L2.St) (G : Hp) (p : Bool → Prop) : Prop := ∀ G1 H1, Ex G G1 → Kn o G1 H1 → ∀ Q : Bool → Hp → Prop, (∀ b G2 H2, Go o G1 H1 G2 H2 → p b → Q b H2) → tt σ H1 Q
inductive AllU (G : Hp) : List T → List V → Prop
  | nil : AllU G [] []
  | cons {t : T} {ts : List T} {v : V} {vs : List V} : U t G v → AllU G ts vs → AllU G (t :: ts) (v :: vs)
theorem AllU.up {G G' : Hp} (e : Ex G G') : ∀ {ts : List T} {vs : List V}, AllU G ts vs → AllU G' ts vs
  | _, _, .nil => .nil
  | _, _, .cons a r => .cons (a.up e) (r.up e)
def EvA (o : Option Addr) (ta : TA) (σ : L2.St) (G : Hp) (ts : List T) : Prop := ∀ G1 H1, Ex G G1 → Kn o G1 H1 → ∀ Q : List V → Hp → Prop, (∀ vs G2 H2, Go o G1 H1 G2 H2 → AllU G2 ts vs → Q vs H2) → ta σ H1 Q
/-- operations by values -/
def RO (o : Option Addr) (r : R2) (x y : V) (G : Hp) (t : T) : Prop := ∀ G1 H1, Ex G G1 → Kn o G1 H1 → ∀ Q : VK, (∀ v G2 H2, Go o G1 H1 G2 H2 → U t G2 v → Q v H2) → r x y H1 Q
def RU (o : Option Addr) (r : V → Hp → VK → Prop) (x : V) (G : Hp) (t : T) : Prop := ∀ G1 H1, Ex G G1 → Kn o G1 H1 → ∀ Q : VK, (∀ v G2 H2, Go o G1 H1 G2 H2 → U t G2 v → Q v H2) → r x H1 Q
def RC (o : Option Addr) (r : List V → Hp → VK → Prop) (vs : List V) (G : Hp) (t : T) : Prop := ∀ G1 H1, Ex G G1 → Kn o G1 H1 → ∀ Q : VK, (∀ v G2 H2, Go o G1 H1 G2 H2 → U t G2 v → Q v H2) → r vs H1 Q
/-- the type of one value -/
def tIs (x : V) : T := fun _ v => v = x
theorem u_is {x : V} {G : Hp} : U (tIs x) G x := fun _ _ => rfl
theorem U.eq {x v : V} {G : Hp} (u : U (tIs x) G v) : v = x := u.now

section
variable {o : Option Addr} {σ : L2.St} {G : Hp} {ta tb te tx : TE} {s t u : T} {tt tt' : TT} {x y v : V}
theorem Ev.up {G' : Hp} (h : Ev o te σ G t) (e : Ex G G') : Ev o te σ G' t := fun G1 H1 a => h G1 H1 (e.trans a)
theorem EvN.up {P : Hp → List V → Prop} {G' : Hp} (h : EvN o te σ G P) (e : Ex G G') : EvN o te σ G' P := fun G1 H1 a => h G1 H1 (e.trans a)
theorem EvT.up {p : Bool → Prop} {G' : Hp} (h : EvT o tt σ G p) (e : Ex G G') : EvT o tt σ G' p := fun G1 H1 a => h G1 H1 (e.trans a)
theorem EvA.up {ta : TA} {ts : List T} {G' : Hp} (h : EvA o ta σ G ts) (e : Ex G G') : EvA o ta σ G' ts := fun G1 H1 a => h G1 H1 (e.trans a)
theorem Ev.imp (h : Ev o te σ G t) (k : ∀ G' v, Ex G G' → U t G' v → U u G' v) : Ev o te σ G u := fun G1 H1 a kn Q q => h G1 H1 a kn Q fun v G2 H2 g w => q v G2 H2 g (k G2 v (a.trans g.gg) w)
theorem ev_var {i : Nat} (h : σ[i]? = some (some v)) (w : U t G v) : Ev o (tVar i) σ G t := fun G1 H1 a kn Q q => ⟨v, h, q v G1 H1 (.refl kn) (w.up a)⟩
theorem ev_x {i : Nat} (h : σ[i]? = some (some v)) : Ev o (tVar i) σ G (tIs v) := ev_var h u_is
theorem ev_c (w : U t G v) : Ev o (tC v) σ G t := fun G1 H1 a kn Q q => q v G1 H1 (.refl kn) (w.up a)
theorem ev_k : Ev o (tC v) σ G (tIs v) := ev_c u_is
theorem ev_op {r : R2} (ha : Ev o ta σ G s) (hb : Ev o tb σ G u) (hr : ∀ G' x y, Ex G G' → U s G' x → U u G' y → RO o r x y G' t) : Ev o (tOp r ta tb) σ G t := fun G1 H1 a kn Q q =>
  ha G1 H1 a kn _ fun x G2 H2 g2 w2 => hb G2 H2 (a.trans g2.gg) g2.kn _ fun y G3 H3 g3 w3 =>
    hr G3 x y ((a.trans g2.gg).trans g3.gg) (w2.up g3.gg) w3 G3 H3 (Ex.refl _) g3.kn Q fun z G4 H4 g4 w4 => q z G4 H4 ((g2.trans g3).trans g4) w4
/-- both of one value -/
theorem ev_op2 {r : R2} (ha : Ev o ta σ G (tIs x)) (hb : Ev o tb σ G (tIs y)) (hr : RO o r x y G t) : Ev o (tOp r ta tb) σ G t :=
  ev_op ha hb fun G' x' y' e hx hy => by
    rw [hx.eq, hy.eq]
    exact fun G1 H1 a => hr G1 H1 (e.trans a)
theorem ev_un {r : V → Hp → VK → Prop} (ha : Ev o ta σ G s) (hr : ∀ G' x, Ex G G' → U s G' x → RU o r x G' t) : Ev o (tUn r ta) σ G t := fun G1 H1 a kn Q q =>
  ha G1 H1 a kn _ fun x G2 H2 g2 w2 => hr G2 x (a.trans g2.gg) w2 G2 H2 (Ex.refl _) g2.kn Q fun z G4 H4 g4 w4 => q z G4 H4 (g2.trans g4) w4
theorem ea_nil : EvA o tNil σ G [] := fun G1 H1 a kn Q q => q [] G1 H1 (.refl kn) .nil
theorem ea_cons {tr : TA} {ts : List T} (ha : Ev o ta σ G s) (hr : EvA o tr σ G ts) : EvA o (tCons ta tr) σ G (s :: ts) := fun G1 H1 a kn Q q =>
  ha G1 H1 a kn _ fun x G2 H2 g2 w2 => hr G2 H2 (a.trans g2.gg) g2.kn _ fun xs G3 H3 g3 w3 => q (x :: xs) G3 H3 (g2.trans g3) (.cons (w2.up g3.gg) w3)
theorem ev_cb {r : List V → Hp → VK → Prop} {ta : TA} {ts : List T} (ha : EvA o ta σ G ts) (hr : ∀ G' vs, Ex G G' → AllU G' ts vs → RC o r vs G' t) : Ev o (tCB r ta) σ G t := fun G1 H1 a kn Q q =>
  ha G1 H1 a kn _ fun vs G2 H2 g2 w2 => hr G2 vs (a.trans g2.gg) w2 G2 H2 (Ex.refl _) g2.kn Q fun z G4 H4 g4 w4 => q z G4 H4 (g2.trans g4) w4
/-- operations that leave the heap as it is -/
theorem ro_q {r : R2} {z : V} (w : U t G z) (h : ∀ G1 H1, Ex G G1 → Kn o G1 H1 → ∀ Q : VK, Q z H1 → r x y H1 Q) : RO o r x y G t := fun G1 H1 a kn Q q => h G1 H1 a kn Q (q z G1 H1 (.refl kn) (w.up a))
theorem ru_q {r : V → Hp → VK → Prop} {z : V} (w : U t G z) (h : ∀ G1 H1, Ex G G1 → Kn o G1 H1 → ∀ Q : VK, Q z H1 → r x H1 Q) : RU o r x G t := fun G1 H1 a kn Q q => h G1 H1 a kn Q (q z G1 H1 (.refl kn) (w.up a))
theorem rc_q {r : List V → Hp → VK → Prop} {vs : List V} {z : V} (w : U t G z) (h : ∀ G1 H1, Ex G G1 → Kn o G1 H1 → ∀ Q : VK, Q z H1 → r vs H1 Q) : RC o r vs G t := fun G1 H1 a kn Q q => h G1 H1 a kn Q (q z G1 H1 (.refl kn) (w.up a))
/-- ints -/
theorem ro_I0 {g : Int → Int → V} {i j : Int} : RO o (rI0 g) (.int i) (.int j) G (tIs (g i j)) := ro_q u_is fun _ _ _ _ _ q => ⟨i, j, rfl, rfl, q⟩
theorem ro_I {C : Int → Int → Prop} {g : Int → Int → V} {i j : Int} (hc : C i j) : RO o (rI C g) (.int i) (.int j) G (tIs (g i j)) := ro_q u_is fun _ _ _ _ _ q => ⟨i, j, rfl, rfl, hc, q⟩
theorem ro_eq (h : scal x y = true) : RO o rEq x y G (tIs (.bl (decide (x = y)))) := ro_q u_is fun _ _ _ _ _ q => ⟨h, q⟩
theorem ro_ne (h : scal x y = true) : RO o rNe x y G (tIs (.bl (!decide (x = y)))) := ro_q u_is fun _ _ _ _ _ q => ⟨h, q⟩
/-- values of bools -/
theorem ev_and {a b : Bool} (h1 : Ev o ta σ G (tIs (.bl a))) (h2 : a = true → Ev o tb σ G (tIs (.bl b))) : Ev o (tAndV ta tb) σ G (tIs (.bl (a && b))) := fun G1 H1 e kn Q q =>
  h1 G1 H1 e kn _ fun x G2 H2 g2 w2 => ⟨a, w2.eq, by
    cases a with
    | true => exact h2 rfl G2 H2 (e.trans g2.gg) g2.kn Q fun z G3 H3 g3 w3 => q z G3 H3 (g2.trans g3) w3
    | false => exact q _ G2 H2 g2 u_is⟩
theorem ev_or {a b : Bool} (h1 : Ev o ta σ G (tIs (.bl a))) (h2 : a = false → Ev o tb σ G (tIs (.bl b))) : Ev o (tOrV ta tb) σ G (tIs (.bl (a || b))) := fun G1 H1 e kn Q q =>
  h1 G1 H1 e kn _ fun x G2 H2 g2 w2 => ⟨a, w2.eq, by
    cases a with
    | false => exact h2 rfl G2 H2 (e.trans g2.gg) g2.kn Q fun z G3 H3 g3 w3 => q z G3 H3 (g2.trans g3) w3
    | true => exact q _ G2 H2 g2 u_is⟩
theorem ev_not {a : Bool} (h1 : Ev o ta σ G (tIs (.bl a))) : Ev o (tNotV ta) σ G (tIs (.bl (!a))) := fun G1 H1 e kn Q q =>
  h1 G1 H1 e kn _ fun x G2 H2 g2 w2 => ⟨a, w2.eq, q _ G2 H2 g2 u_is⟩
theorem ev_to {a b : Bool} (h : Ev o ta σ G (tIs (.bl a))) (e : a = b) : Ev o ta σ G (tIs (.bl b)) := e ▸ h
/-- tests -/
theorem et_b {b : Bool} (h : Ev o te σ G (tIs (.bl b))) : EvT o (tB te) σ G (· = b) := fun G1 H1 e kn Q q => h G1 H1 e kn _ fun x G2 H2 g2 w2 => ⟨b, w2.eq, q b G2 H2 g2 rfl⟩
theorem et_test {b : Bool} (h : Ev o te σ G (tIs (.bl b))) : EvT o (tTest te) σ G (· = b) := fun G1 H1 e kn Q q => h G1 H1 e kn _ fun x G2 H2 g2 w2 => ⟨b, w2.eq, q b G2 H2 g2 rfl⟩
/-- .. of a bool that is not told -/
def tBool : T := fun _ v => ∃ b, v = .bl b
theorem et_bU (h : Ev o te σ G tBool) : EvT o (tB te) σ G (fun _ => True) := fun G1 H1 e kn Q q => h G1 H1 e kn _ fun x G2 H2 g2 w2 => by
  obtain ⟨b, e⟩ := w2.now
  exact ⟨b, e, q b G2 H2 g2 trivial⟩
theorem et_testU (h : Ev o te σ G tBool) : EvT o (tTest te) σ G (fun _ => True) := fun G1 H1 e kn Q q => h G1 H1 e kn _ fun x G2 H2 g2 w2 => by
  obtain ⟨b, e⟩ := w2.now
  exact ⟨b, e, q b G2 H2 g2 trivial⟩
theorem EvT.imp {p p' : Bool → Prop} (h : EvT o tt σ G p) (k : ∀ b, p b → p' b) : EvT o tt σ G p' := fun G1 H1 e kn Q q => h G1 H1 e kn Q fun b G2 H2 g w => q b G2 H2 g (k b w)
theorem EvT.to {a b : Bool} (h : EvT o tt σ G (· = a)) (e : a = b) : EvT o tt σ G (· = b) := e ▸ h
theorem et_and {a b : Bool} (h1 : EvT o tt σ G (· = a)) (h2 : a = true → EvT o tt' σ G (· = b)) : EvT o (tAnd tt tt') σ G (· = (a && b)) := fun G1 H1 e kn Q q => h1 G1 H1 e kn _ fun c G2 H2 g2 w2 => by
  subst w2
  cases c with
  | true => exact h2 rfl G2 H2 (e.trans g2.gg) g2.kn Q fun z G3 H3 g3 w3 => q z G3 H3 (g2.trans g3) w3
  | false => exact q false G2 H2 g2 rfl
theorem et_or {a b : Bool} (h1 : EvT o tt σ G (· = a)) (h2 : a = false → EvT o tt' σ G (· = b)) : EvT o (tOr tt tt') σ G (· = (a || b)) := fun G1 H1 e kn Q q => h1 G1 H1 e kn _ fun c G2 H2 g2 w2 => by
  subst w2
  cases c with
  | false => exact h2 rfl G2 H2 (e.trans g2.gg) g2.kn Q fun z G3 H3 g3 w3 => q z G3 H3 (g2.trans g3) w3
  | true => exact q true G2 H2 g2 rfl
theorem et_not {a : Bool} (h1 : EvT o tt σ G (· = a)) : EvT o (tNot tt) σ G (· = (!a)) := fun G1 H1 e kn Q q => h1 G1 H1 e kn _ fun c G2 H2 g2 w2 => q _ G2 H2 g2 (by rw [w2])
theorem ev_if {p : Bool → Prop} (h : EvT o tt σ G p) (h1 : p true → Ev o ta σ G t) (h2 : p false → Ev o tb σ G t) : Ev o (tIf tt ta tb) σ G t := fun G1 H1 e kn Q q => h G1 H1 e kn _ fun c G2 H2 g2 w2 => by
  cases c with
  | true => exact h1 w2 G2 H2 (e.trans g2.gg) g2.kn Q fun z G3 H3 g3 w3 => q z G3 H3 (g2.trans g3) w3
  | false => exact h2 w2 G2 H2 (e.trans g2.gg) g2.kn Q fun z G3 H3 g3 w3 => q z G3 H3 (g2.trans g3) w3
/-- tuples, lists made -/
def tTupU (K : PySem.W.Frag) (ts : List T) : T := fun G v => ∃ a vs, v = .ref a ∧ SqT K G a vs ∧ AllU G ts vs
def tLstU (K : PySem.W.Frag) (ts : List T) : T := fun G v => ∃ a vs, v = .ref a ∧ SqL K G a vs ∧ AllU G ts vs
theorem AllU.len {G : Hp} : ∀ {ts : List T} {vs : List V}, AllU G ts vs → vs.length = ts.length
  | _, _, .nil => rfl
  | _, _, .cons _ r => congrArg (· + 1) r.len
theorem ev_tup {K : PySem.W.Frag} {ta : TA} {ts : List T} (h : EvA o ta σ G ts) (hl : ts.length ≤ 100000) : Ev o (tTup ta) σ G (tTupU K ts) := fun G1 H1 e kn Q q =>
  h G1 H1 e kn _ fun vs G2 H2 g2 w2 => ⟨Evl.sz_of (by rw [w2.len]; exact hl), fun p hp => q _ _ _ (g2.trans (.new g2.kn hp)) fun G' e' => ⟨p, vs, rfl, .of (e' p _ upd_same), w2.up ((Ex.new (Evl.fresh_back g2.kn.sub hp)).trans e')⟩⟩
theorem en_lst {ta : TA} {ts : List T} (h : EvA o ta σ G ts) (hl : ts.length ≤ 100000) : EvN o (tLst ta) σ G (fun G' vs => AllU G' ts vs) := fun G1 H1 e kn Q q =>
  h G1 H1 e kn _ fun vs G2 H2 g2 w2 => ⟨Evl.sz_of (by rw [w2.len]; exact hl), fun p hp => q p vs G2 _ (g2.trans (.tmp g2.kn hp)) (by
    cases z : H1 p with
    | none => rfl
    | some y =>
      by_cases hb : o = some p
      · obtain ⟨⟨_, _, _, _, q2⟩, _⟩ := g2.kn.box p hb
        rw [hp] at q2; cases q2
      · rw [g2.kp p y z hb] at hp; cases hp) upd_same (Evl.fresh_back g2.kn.sub hp) fun G' e' => w2.up e'⟩
/-- a new list is known from here on -/
theorem EvN.ev {P : Hp → List V → Prop} (h : EvN o te σ G P) (k : ∀ G' a xs, Ex G G' → G' a = some (.lst xs) → UP P G' xs → t G' (.ref a)) : Ev o te σ G t := fun G1 H1 e kn Q q =>
  h G1 H1 e kn Q fun p xs G2 H2 g2 hp h2 n2 w2 => by
    have hob : o ≠ some p := fun z => by
      obtain ⟨⟨_, _, _, _, q2⟩, _⟩ := kn.box p z
      rw [hp] at q2; cases q2
    exact q (.ref p) _ H2 (g2.fix hp h2 n2 hob) fun G' e' => k G' p xs (((e.trans g2.gg).trans (Ex.new n2)).trans e') (e' p _ upd_same) (w2.up ((Ex.new n2).trans e'))
end
end Ty
set_option Elab.async false
set_option linter.all false
set_option maxRecDepth 100000
set_option maxHeartbeats 4000000
/-! Calls of own defs, walks, comprehensions, statements. -/
namespace Ty
open PySem L2
open Evl (Ex ex_l ex_t)

/-! ### promises -/
def spC (C : Option Addr → Hp → List V → T → Prop) : Sp := fun vs H Q _ => ∃ o G t, Kn o G H ∧ C o G vs t ∧ ∀ v G2 H2, Go o G H G2 H2 → U t G2 v → Q v H2
section
variable {o : Option Addr} {σ : L2.St} {G H : Hp} {ta tb te tx : TE} {s t u : T} {tt tt' : TT} {x y v : V}
theorem ev_call {C : Option Addr → Hp → List V → T → Prop} {E : XK} {ta : TA} {ts : List T} (ha : EvA o ta σ G ts)
    (hc : ∀ G' vs, Ex G G' → AllU G' ts vs → ∃ o' t', (o' = o ∨ o' = none) ∧ C o' G' vs t' ∧ ∀ G'' v, Ex G' G'' → U t' G'' v → U t G'' v) : Ev o (tCall (spC C) [] E ta) σ G t := fun G1 H1 a kn Q q =>
  ha G1 H1 a kn _ fun vs G2 H2 g2 w2 => by
    obtain ⟨o', t', ho, c, k⟩ := hc G2 vs (a.trans g2.gg) w2
    rw [List.append_nil]
    rcases ho with rfl | rfl
    · exact ⟨o', G2, t', g2.kn, c, fun v G3 H3 g3 w3 => q v G3 H3 (g2.trans g3) (k G3 v g3.gg w3)⟩
    · exact ⟨none, G2, t', g2.kn.pure, c, fun v G3 H3 g3 w3 => q v G3 H3 (g2.trans (g3.pure g2.kn)) (k G3 v g3.gg w3)⟩
/-! ### walks -/
/-- what is walked: the values xs, one after the other, as long as the known heap stands -/
def EvI (o : Option Addr) (wi : TI) (σ : L2.St) (G : Hp) (P : PL) : Prop := ∀ G1 H1, Ex G G1 → Kn o G1 H1 → ∀ R : It → Hp → Prop,
  (∀ J G2 H2 xs, Go o G1 H1 G2 H2 → Walk J xs.length (Ex G2) (YAt xs) → UP P G2 xs → R J H2) → wi σ H1 R
theorem ei_list {K : PySem.W.Frag} {P : PL} (h : Ev o te σ G t) (k : ∀ G' v, Ex G G' → U t G' v → ∃ a xs, v = .ref a ∧ SqL K G' a xs ∧ UP P G' xs) : EvI o (iList K te) σ G P := fun G1 H1 e kn R r =>
  h G1 H1 e kn _ fun v G2 H2 g2 w2 => by
    obtain ⟨a, xs, rfl, hs, hp⟩ := k G2 v (e.trans g2.gg) w2
    exact ⟨a, rfl, ⟨xs, ex_l g2.kn.sub hs⟩, r _ G2 H2 xs g2 ((walk_list (K := K) (a := a) (xs := xs)).mono (fun H' e' => ex_l e' hs) fun _ _ _ _ _ _ y => y) hp⟩
theorem ei_tup {K : PySem.W.Frag} {P : PL} (h : Ev o te σ G t) (k : ∀ G' v, Ex G G' → U t G' v → ∃ a xs, v = .ref a ∧ SqT K G' a xs ∧ UP P G' xs) : EvI o (iTup K te) σ G P := fun G1 H1 e kn R r =>
  h G1 H1 e kn _ fun v G2 H2 g2 w2 => by
    obtain ⟨a, xs, rfl, hs, hp⟩ := k G2 v (e.trans g2.gg) w2
    exact ⟨a, rfl, ⟨xs, ex_t g2.kn.sub hs⟩, r _ G2 H2 xs g2 ((walk_tup (K := K) (a := a) (xs := xs)).mono (fun H' e' => ex_t e' hs) fun _ _ _ _ _ _ y => y) hp⟩
/-- over a new list -/
theorem ei_listN {K : PySem.W.Frag} {P P' : PL} (h : EvN o te σ G P) (hu : ∀ G' xs, Ex G G' → UP P G' xs → UP P' G' xs) : EvI o (iList K te) σ G P' := fun G1 H1 e kn R r =>
  h G1 H1 e kn _ fun p xs G2 H2 g2 hp h2 n2 w2 => by
    have hob : o ≠ some p := fun z => by
      obtain ⟨⟨_, _, _, _, q2⟩, _⟩ := kn.box p z
      rw [hp] at q2; cases q2
    have g3 := g2.fix hp h2 n2 hob
    refine ⟨p, rfl, ⟨xs, .of h2⟩, r _ _ H2 xs g3 ((walk_list (K := K) (a := p) (xs := xs)).mono (fun H' e' => .of (e' p _ upd_same)) fun _ _ _ _ _ _ y => y) ?_⟩
    exact (hu G2 xs (e.trans g2.gg) w2).up (Ex.new n2)
def signsV (z : Str) : List V := z.cps.toList.map fun c => V.str ⟨#[c]⟩
theorem ei_str {z : Str} {P : PL} (h : Ev o te σ G (tIs (.str z))) (k : ∀ G', Ex G G' → UP P G' (signsV z)) : EvI o (iStr te) σ G P := fun G1 H1 e kn R r =>
  h G1 H1 e kn _ fun v G2 H2 g2 w2 => by
    refine ⟨z, w2.eq, r _ G2 H2 (signsV z) g2 ?_ (k G2 (e.trans g2.gg))⟩
    have hl : (signsV z).length = z.cps.size := by unfold signsV; rw [List.length_map, Array.length_toList]
    rw [hl]
    refine (walk_str (z := z)).mono (fun _ _ => trivial) fun i H' x H'' hi _ y => ?_
    obtain ⟨e1, c, hc, e2⟩ := y
    refine ⟨e1, ?_⟩
    unfold signsV
    rw [List.getElem?_map, Array.getElem?_toList, hc, e2]
    rfl
def intsV (lo : Int) (n : Nat) : List V := (List.range n).map fun (i : Nat) => V.int (lo + (i : Int))
theorem ei_rng1 {ta : TA} {P : PL} {Pn : Int → Prop} (h : EvA o ta σ G [fun _ v => ∃ n : Int, v = .int n ∧ Pn n]) (hb : ∀ n, Pn n → -(2 ^ 62) ≤ n ∧ n < 2 ^ 62) (k : ∀ G' n, Ex G G' → Pn n → UP P G' (intsV 0 n.toNat)) : EvI o (iRng1 ta) σ G P := fun G1 H1 e kn R r =>
  h G1 H1 e kn _ fun vs G2 H2 g2 w2 => by
    cases w2 with
    | cons a rest =>
      cases rest
      obtain ⟨n, e1, pn⟩ := a.now
      refine ⟨n, by rw [e1], (hb n pn).1, (hb n pn).2, r _ G2 H2 (intsV 0 n.toNat) g2 ?_ (k G2 n (e.trans g2.gg) pn)⟩
      have hl : (intsV 0 n.toNat).length = n.toNat := by unfold intsV; rw [List.length_map, List.length_range]
      rw [hl]
      refine (walk_range (lo := 0) (n := n.toNat)).mono (fun _ _ => trivial) fun i H' x H'' hi _ y => ?_
      obtain ⟨e1, e2⟩ := y
      refine ⟨e1, ?_⟩
      unfold intsV
      rw [List.getElem?_map, List.getElem?_range hi, e2]
      rfl
theorem ei_rng2 {ta : TA} {P : PL} {Pn : Int → Int → Prop} (h : EvA o ta σ G [fun _ v => ∃ n : Int, v = .int n ∧ Pn n n, fun _ v => ∃ n : Int, v = .int n]) (hb : False) : EvI o (iRng2 ta) σ G P := hb.elim
theorem signsV_get {z : Str} {i : Nat} {x : V} (h : (signsV z)[i]? = some x) : ∃ c, x = .str ⟨#[c]⟩ ∧ z.cps.toList[i]? = some c := by
  unfold signsV at h
  rw [List.getElem?_map] at h
  cases e : z.cps.toList[i]? with
  | none => rw [e] at h; cases h
  | some c => rw [e] at h; exact ⟨c, (Option.some.inj h).symm, rfl⟩
theorem intsV_get {lo : Int} {n i : Nat} {x : V} (h : (intsV lo n)[i]? = some x) : x = .int (lo + (i : Int)) ∧ i < n := by
  unfold intsV at h
  rw [List.getElem?_map] at h
  by_cases hi : i < n
  · rw [List.getElem?_range hi] at h; exact ⟨(Option.some.inj h).symm, hi⟩
  · rw [List.getElem?_eq_none (by rw [List.length_range]; omega)] at h; cases h
theorem intsV_len {lo : Int} {n : Nat} : (intsV lo n).length = n := by unfold intsV; rw [List.length_map, List.length_range]
theorem signsV_len {z : Str} : (signsV z).length = z.length := by unfold signsV; rw [List.length_map, Array.length_toList]; rfl

/-! ### comprehensions: R xs i G acc, what holds behind i items -/
theorem en_lc {wi : TI} {j : Nat} {vs : List Nat} {P : PL} (R : List V → Nat → Hp → List V → Prop) (hi : EvI o wi σ G P) (hw : ∀ x, wipe ((wipe σ vs).set j (some x)) vs = wipe σ vs)
    (hup : ∀ xs i G' G'' acc, Ex G' G'' → R xs i G' acc → R xs i G'' acc)
    (h0 : ∀ G' xs, Ex G G' → UP P G' xs → xs.length ≤ 100000 ∧ R xs 0 G' [])
    (hs : ∀ G' (xs : List V) (i : Nat) x acc, Ex G G' → UP P G' xs → xs[i]? = some x → acc.length ≤ i → R xs i G' acc → ∃ p, EvT o tt ((wipe σ vs).set j (some x)) G' p ∧
      (p true → ∀ G1, Ex G' G1 → ∃ s, Ev o te ((wipe σ vs).set j (some x)) G1 s ∧ ∀ G2 y, Ex G1 G2 → U s G2 y → R xs (i + 1) G2 (acc ++ [y])) ∧ (p false → ∀ G1, Ex G' G1 → R xs (i + 1) G1 acc)) :
    EvN o (tLc wi (gName j) tt te vs) σ G (fun G' ys => ∃ xs, UP P G' xs ∧ ys.length ≤ xs.length ∧ R xs xs.length G' ys) := fun G1 H1 e kn Q q =>
  hi G1 H1 e kn _ fun J G2 H2 xs g2 w hP D hD => by
    obtain ⟨hl, r0⟩ := h0 G2 xs (e.trans g2.gg) hP
    have hob : o ≠ some D := fun z => by
      obtain ⟨⟨_, _, _, _, q2⟩, _⟩ := g2.kn.box D z
      rw [hD] at q2; cases q2
    have gD : G2 D = none := Evl.fresh_back g2.kn.sub hD
    have hD1 : H1 D = none := by
      cases z : H1 D with
      | none => rfl
      | some y => rw [g2.kp D y z (fun z => hob z)] at hD; cases hD
    refine lc_it w (fun i H => ∃ G' acc, Go o G2 H2 G' H ∧ G' D = none ∧ H D = some (.lst acc) ∧ acc.length ≤ i ∧ R xs i G' acc) ⟨G2, [], .tmp g2.kn hD, gD, upd_same, Nat.le_refl _, r0⟩ (fun i H _ p => ?_) (fun i x H H' hlt p y => ?_) (fun H p => ?_)
    · obtain ⟨G', acc, g, _⟩ := p
      exact g.gg.trans g.kn.sub
    · obtain ⟨G', acc, g, n1, hH, la, r⟩ := p
      obtain ⟨e1, hx⟩ := y
      subst e1
      refine ⟨hw x, ?_⟩
      have eG : Ex G G' := (e.trans g2.gg).trans g.gg
      obtain ⟨p, ht, hy, hn⟩ := hs G' xs i x acc eG (hP.up g.gg) hx la r
      refine ht G' H' (Ex.refl _) g.kn _ fun b G3 H3 g3 pb => ?_
      have n3 : G3 D = none := g3.nw D n1 (by rw [hH]; simp)
      have h3 : H3 D = some (.lst acc) := g3.kp D _ hH hob
      cases b with
      | false =>
        show ∃ G' acc, _
        exact ⟨G3, acc, g.trans g3, n3, h3, by omega, hn pb G3 g3.gg⟩
      | true =>
        show te _ _ _
        obtain ⟨s, hev, hR⟩ := hy pb G3 g3.gg
        refine hev G3 H3 (Ex.refl _) g3.kn _ fun v G4 H4 g4 w4 => ?_
        have n4 : G4 D = none := g4.nw D n3 (by rw [h3]; simp)
        have h4 : H4 D = some (.lst acc) := g4.kp D _ h3 hob
        refine ⟨acc, h4, Evl.sz_lt (by omega), G4, acc ++ [v], ?_, n4, upd_same, by rw [List.length_append]; simp; omega, hR G4 v g4.gg w4⟩
        have g5 := (g.trans g3).trans g4
        refine ⟨g5.gg, ⟨fun a z ha => ?_, fun b z => ?_⟩, fun a z ha hb => ?_, g5.nw⟩
        · rw [upd_ne (fun z => by rw [z] at ha; rw [n4] at ha; cases ha)]; exact g5.kn.sub a _ ha
        · obtain ⟨⟨n, gg, r, c, q1⟩, q2⟩ := g5.kn.box b z
          exact ⟨⟨n, gg, r, c, by rw [upd_ne (fun z2 => hob (by rw [z, z2]))]; exact q1⟩, q2⟩
        · rw [upd_ne (ne_of_none ha hD)]; exact g5.kp a _ ha hb
    · obtain ⟨G', acc, g, n1, hH, la, r⟩ := p
      have g' := g2.trans g
      exact q D acc G' H g' hD1 hH n1 fun G'' e'' => ⟨xs, hP.up (g.gg.trans e''), la, hup _ _ _ _ _ e'' r⟩
/-- no test, each item's value told -/
theorem en_map {wi : TI} {j : Nat} {vs : List Nat} {P : PL} (f : V → V) (hi : EvI o wi σ G P) (hw : ∀ x, wipe ((wipe σ vs).set j (some x)) vs = wipe σ vs)
    (hl : ∀ G' xs, Ex G G' → UP P G' xs → xs.length ≤ 100000) (he : ∀ G' (xs : List V) (i : Nat) x, Ex G G' → UP P G' xs → xs[i]? = some x → Ev o te ((wipe σ vs).set j (some x)) G' (tIs (f x))) :
    EvN o (tLc wi (gName j) tYes te vs) σ G (fun G' ys => ∃ xs, UP P G' xs ∧ ys = xs.map f) := fun G1 H1 e kn Q q =>
  en_lc (fun xs i G' acc => acc = (xs.take i).map f) hi hw (fun _ _ _ _ _ _ h => h) (fun G' xs e hP => ⟨hl G' xs e hP, rfl⟩) (fun G' xs i x acc e hP hx la r => ⟨(· = true), fun G2 H2 e2 kn2 Q2 q2 => q2 true G2 H2 (.refl kn2) rfl,
    fun _ G3 e3 => ⟨_, (he G' xs i x e hP hx).up e3, fun G4 y e4 w4 => by
      rw [w4.eq, r]
      have : xs.take (i + 1) = xs.take i ++ [x] := by
        rw [List.take_succ, hx]; rfl
      rw [this, List.map_append]
      rfl⟩, fun z => by cases z⟩) G1 H1 e kn Q fun p ys G2 H2 g2 hp h2 n2 w2 => by
    refine q p ys G2 H2 g2 hp h2 n2 fun G' e' => ?_
    obtain ⟨xs, hP, _, r⟩ := w2 G' e'
    rw [List.take_length] at r
    exact ⟨xs, hP, r⟩
/-- items of one type -/
theorem en_all {wi : TI} {j : Nat} {vs : List Nat} {P : PL} (hi : EvI o wi σ G P) (hw : ∀ x, wipe ((wipe σ vs).set j (some x)) vs = wipe σ vs)
    (hl : ∀ G' xs, Ex G G' → UP P G' xs → xs.length ≤ 100000) (ht : ∀ G' (xs : List V) (i : Nat) x, Ex G G' → UP P G' xs → xs[i]? = some x → EvT o tt ((wipe σ vs).set j (some x)) G' fun _ => True)
    (he : ∀ G' (xs : List V) (i : Nat) x, Ex G G' → UP P G' xs → xs[i]? = some x → Ev o te ((wipe σ vs).set j (some x)) G' t) :
    EvN o (tLc wi (gName j) tt te vs) σ G (fun G' ys => ∃ xs, UP P G' xs ∧ ys.length ≤ xs.length ∧ ∀ y ∈ ys, U t G' y) := fun G1 H1 e kn Q q =>
  en_lc (fun xs i G' acc => ∀ y ∈ acc, U t G' y) hi hw (fun _ _ _ _ _ e h y hy => (h y hy).up e) (fun G' xs e hP => ⟨hl G' xs e hP, fun y hy => nomatch hy⟩) (fun G' xs i x acc e hP hx la r => ⟨fun _ => True, ht G' xs i x e hP hx,
    fun _ G3 e3 => ⟨t, (he G' xs i x e hP hx).up e3, fun G4 y e4 w4 z hz => by
      rcases List.mem_append.mp hz with h | h
      · exact (r z h).up (e3.trans e4)
      · rw [List.mem_singleton.mp h]; exact w4⟩, fun _ G3 e3 y hy => (r y hy).up e3⟩) G1 H1 e kn Q fun p ys G2 H2 g2 hp h2 n2 w2 => by
    refine q p ys G2 H2 g2 hp h2 n2 fun G' e' => ?_
    obtain ⟨xs, hP, l, r⟩ := w2 G' e'
    exact ⟨xs, hP, l, r⟩
theorem et_yes : EvT o tYes σ G fun _ => True := fun G2 H2 e2 kn2 Q2 q2 => q2 true G2 H2 (.refl kn2) trivial
end

/-! ### statements, from the heaps at the entry -/
section
variable {o : Option Addr} {σ : L2.St} {Ge He G H : Hp} {ta tb te tx : TE} {s t u : T} {tt tt' : TT} {x y v : V} {D : Ends} {tu tw tz : TS}
theorem Go.mut (a : Go o Ge He G H) {p : Addr} {x : HO} (he : He p = none) (g : G p = none) (ho : o ≠ some p) : Go o Ge He G (upd H p x) := by
  refine ⟨a.gg, ⟨fun c y q => ?_, fun b z => ?_⟩, fun c y q n => ?_, a.nw⟩
  · rw [upd_ne (fun z => by rw [z, g] at q; cases q)]; exact a.kn.sub c y q
  · obtain ⟨⟨n, gg, r, c, q1⟩, q2⟩ := a.kn.box b z
    exact ⟨⟨n, gg, r, c, by rw [upd_ne (fun z2 => ho (by rw [z, z2]))]; exact q1⟩, q2⟩
  · rw [upd_ne (ne_of_none q he)]; exact a.kp c y q n
theorem s_asg {i : Nat} (g : Go o Ge He G H) (h : Ev o te σ G t) (k : ∀ v G2 H2, Go o Ge He G2 H2 → Go o G H G2 H2 → U t G2 v → D.nx (σ.set i (some v)) H2) : tAsg te (gName i) D σ H :=
  h G H (Ex.refl _) g.kn _ fun v G2 H2 g2 w2 => k v G2 H2 (g.trans g2) g2 w2
theorem q_asg {i : Nat} (g : Go o Ge He G H) (h : Ev o te σ G t) (k : ∀ v G2 H2, Go o Ge He G2 H2 → Go o G H G2 H2 → U t G2 v → tz D (σ.set i (some v)) H2) : tSeq (tAsg te (gName i)) tz D σ H := s_asg (D := { D with nx := tz D }) g h k
theorem Go.fresh (g : Go o Ge He G H) {p : Addr} (h : H p = none) : He p = none := by
  cases z : He p with
  | none => rfl
  | some y =>
    by_cases hb : o = some p
    · obtain ⟨⟨_, _, _, _, q2⟩, _⟩ := g.kn.box p hb
      rw [h] at q2; cases q2
    · rw [g.kp p y z hb] at h; cases h
theorem Kn.nbox (k : Kn o G H) {p : Addr} (h : H p = none) : o ≠ some p := fun z => by
  obtain ⟨⟨_, _, _, _, q2⟩, _⟩ := k.box p z
  rw [h] at q2; cases q2
theorem s_asgN {i : Nat} {P : PL} (g : Go o Ge He G H) (h : EvN o te σ G P) (k : ∀ p xs G2 H2, Go o Ge He G2 H2 → Go o G H G2 H2 → He p = none → H p = none → o ≠ some p → H2 p = some (.lst xs) → G2 p = none → UP P G2 xs → D.nx (σ.set i (some (.ref p))) H2) : tAsg te (gName i) D σ H :=
  h G H (Ex.refl _) g.kn _ fun p xs G2 H2 g2 hp h2 n2 w2 => k p xs G2 H2 (g.trans g2) g2 (g.fresh hp) hp (g.kn.nbox hp) h2 n2 w2
theorem q_asgN {i : Nat} {P : PL} (g : Go o Ge He G H) (h : EvN o te σ G P) (k : ∀ p xs G2 H2, Go o Ge He G2 H2 → Go o G H G2 H2 → He p = none → H p = none → o ≠ some p → H2 p = some (.lst xs) → G2 p = none → UP P G2 xs → tz D (σ.set i (some (.ref p))) H2) : tSeq (tAsg te (gName i)) tz D σ H := s_asgN (D := { D with nx := tz D }) g h k
theorem s_ret (g : Go o Ge He G H) (h : Ev o te σ G t) (k : ∀ v G2 H2, Go o Ge He G2 H2 → U t G2 v → D.rt v H2) : tRet te D σ H :=
  h G H (Ex.refl _) g.kn _ fun v G2 H2 g2 w2 => k v G2 H2 (g.trans g2) w2
theorem s_if {p : Bool → Prop} (g : Go o Ge He G H) (h : EvT o tt σ G p) (h1 : p true → ∀ G2 H2, Go o Ge He G2 H2 → Go o G H G2 H2 → tu D σ H2) (h2 : p false → ∀ G2 H2, Go o Ge He G2 H2 → Go o G H G2 H2 → tw D σ H2) : tIfS tt tu tw D σ H :=
  h G H (Ex.refl _) g.kn _ fun b G2 H2 g2 pb => by
    cases b with
    | true => exact h1 pb G2 H2 (g.trans g2) g2
    | false => exact h2 pb G2 H2 (g.trans g2) g2
theorem q_if {p : Bool → Prop} (g : Go o Ge He G H) (h : EvT o tt σ G p) (h1 : p true → ∀ G2 H2, Go o Ge He G2 H2 → Go o G H G2 H2 → tu { D with nx := tz D } σ H2) (h2 : p false → ∀ G2 H2, Go o Ge He G2 H2 → Go o G H G2 H2 → tw { D with nx := tz D } σ H2) : tSeq (tIfS tt tu tw) tz D σ H :=
  s_if (D := { D with nx := tz D }) g h h1 h2
/-- an if without else -/
theorem q_when {p : Bool → Prop} (g : Go o Ge He G H) (h : EvT o tt σ G p) (h1 : p true → ∀ G2 H2, Go o Ge He G2 H2 → Go o G H G2 H2 → tu { D with nx := tz D } σ H2) (h2 : p false → ∀ G2 H2, Go o Ge He G2 H2 → Go o G H G2 H2 → tz D σ H2) : tSeq (tIfS tt tu tNext) tz D σ H :=
  s_if (D := { D with nx := tz D }) g h h1 h2
theorem s_when {p : Bool → Prop} (g : Go o Ge He G H) (h : EvT o tt σ G p) (h1 : p true → ∀ G2 H2, Go o Ge He G2 H2 → Go o G H G2 H2 → tu D σ H2) (h2 : p false → ∀ G2 H2, Go o Ge He G2 H2 → Go o G H G2 H2 → D.nx σ H2) : tIfS tt tu tNext D σ H :=
  s_if g h h1 h2
theorem q_drop (g : Go o Ge He G H) (h : Ev o te σ G t) (k : ∀ v G2 H2, Go o Ge He G2 H2 → Go o G H G2 H2 → U t G2 v → tz D σ H2) : tSeq (tDrop te) tz D σ H :=
  h G H (Ex.refl _) g.kn _ fun v G2 H2 g2 w2 => k v G2 H2 (g.trans g2) g2 w2
/-- x.append(e), x a list of one's own -/
theorem s_app {K : PySem.W.Frag} {l : Addr} {xs : List V} (g : Go o Ge He G H) (he : He l = none) (hg : G l = none) (ho : o ≠ some l) (hl : H l = some (.lst xs)) (ha : Ev o ta σ G (tIs (.ref l))) (h : ∀ G', Ex G G' → Ev o te σ G' t) (hz : xs.length < 100000)
    (k : ∀ v G2 H2, Go o Ge He G2 (upd H2 l (.lst (xs ++ [v]))) → Go o G H G2 H2 → G2 l = none → U t G2 v → D.nx σ (upd H2 l (.lst (xs ++ [v])))) : tDrop (tBM K "list" rAppend ta (tCons te tNil)) D σ H :=
  ha G H (Ex.refl _) g.kn _ fun v G2 H2 g2 w2 => by
    have e := w2.eq
    subst e
    have h2 := g2.kp l _ hl ho
    refine ⟨.inl ⟨rfl, xs, .of h2⟩, h G2 g2.gg G2 H2 (Ex.refl _) g2.kn _ fun v G3 H3 g3 w3 => ?_⟩
    have h3 := g3.kp l _ h2 ho
    have g13 := g2.trans g3
    have n3 : G3 l = none := g13.nw l hg (by rw [hl]; simp)
    exact ⟨l, xs, v, rfl, rfl, h3, Evl.sz_lt hz, k v G3 H3 ((g.trans g13).mut he n3 ho) g13 n3 w3⟩
theorem q_app {K : PySem.W.Frag} {l : Addr} {xs : List V} (g : Go o Ge He G H) (he : He l = none) (hg : G l = none) (ho : o ≠ some l) (hl : H l = some (.lst xs)) (ha : Ev o ta σ G (tIs (.ref l))) (h : ∀ G', Ex G G' → Ev o te σ G' t) (hz : xs.length < 100000)
    (k : ∀ v G2 H2, Go o Ge He G2 (upd H2 l (.lst (xs ++ [v]))) → Go o G H G2 H2 → G2 l = none → U t G2 v → tz D σ (upd H2 l (.lst (xs ++ [v])))) : tSeq (tDrop (tBM K "list" rAppend ta (tCons te tNil))) tz D σ H :=
  s_app (D := { D with nx := tz D }) g he hg ho hl ha h hz k
/-- a for over values that stand; I by the turn, the slots, the known heap, the heap -/
theorem s_for {wi : TI} {j : Nat} {P : PL} (g : Go o Ge He G H) (hi : EvI o wi σ G P) (I : List V → Nat → L2.St → Hp → Hp → Prop)
    (h0 : ∀ xs G' H', Go o Ge He G' H' → Go o G H G' H' → UP P G' xs → I xs 0 σ G' H')
    (hs : ∀ Gs (xs : List V), Ex G Gs → UP P Gs xs → ∀ (i : Nat) x σ' G' H', xs[i]? = some x → Go o Ge He G' H' → Ex Gs G' → I xs i σ' G' H' →
      tu { D with nx := fun σ2 H2 => ∃ G2, Go o Ge He G2 H2 ∧ Ex Gs G2 ∧ I xs (i + 1) σ2 G2 H2, ct := fun σ2 H2 => ∃ G2, Go o Ge He G2 H2 ∧ Ex Gs G2 ∧ I xs (i + 1) σ2 G2 H2, bk := D.nx } (σ'.set j (some x)) H')
    (hd : ∀ xs σ' G' H', Go o Ge He G' H' → Ex G G' → UP P G' xs → I xs xs.length σ' G' H' → D.nx σ' H') : tFor wi (gName j) tu D σ H :=
  hi G H (Ex.refl _) g.kn _ fun J G2 H2 xs g2 w hP => by
    refine for_it w (fun i σ' H' => ∃ G', Go o Ge He G' H' ∧ Ex G2 G' ∧ I xs i σ' G' H') ⟨G2, g.trans g2, Ex.refl _, h0 xs G2 H2 (g.trans g2) g2 hP⟩ (fun i σ' H' _ p => ?_) (fun i x σ' H' H'' hlt p y => ?_) (fun σ' H' p => ?_)
    · obtain ⟨G', a, b, _⟩ := p
      exact b.trans a.kn.sub
    · obtain ⟨G', a, b, c⟩ := p
      obtain ⟨e1, hx⟩ := y
      subst e1
      exact hs G2 xs g2.gg hP i x σ' G' H'' hx a b c
    · obtain ⟨G', a, b, c⟩ := p
      exact hd xs σ' G' H' a (g2.gg.trans b) (hP.up b) c
theorem q_for {wi : TI} {j : Nat} {P : PL} (g : Go o Ge He G H) (hi : EvI o wi σ G P) (I : List V → Nat → L2.St → Hp → Hp → Prop)
    (h0 : ∀ xs G' H', Go o Ge He G' H' → Go o G H G' H' → UP P G' xs → I xs 0 σ G' H')
    (hs : ∀ Gs (xs : List V), Ex G Gs → UP P Gs xs → ∀ (i : Nat) x σ' G' H', xs[i]? = some x → Go o Ge He G' H' → Ex Gs G' → I xs i σ' G' H' →
      tu { D with nx := fun σ2 H2 => ∃ G2, Go o Ge He G2 H2 ∧ Ex Gs G2 ∧ I xs (i + 1) σ2 G2 H2, ct := fun σ2 H2 => ∃ G2, Go o Ge He G2 H2 ∧ Ex Gs G2 ∧ I xs (i + 1) σ2 G2 H2, bk := tz D } (σ'.set j (some x)) H')
    (hd : ∀ xs σ' G' H', Go o Ge He G' H' → Ex G G' → UP P G' xs → I xs xs.length σ' G' H' → tz D σ' H') : tSeq (tFor wi (gName j) tu) tz D σ H :=
  s_for (D := { D with nx := tz D }) g hi I h0 hs hd
/-- a test at hand -/
def AtT (o : Option Addr) (tt : TT) (σ : L2.St) (G H : Hp) (p : Bool → Prop) : Prop := ∀ Q : Bool → Hp → Prop, (∀ b G2 H2, Go o G H G2 H2 → p b → Q b H2) → tt σ H Q
theorem EvT.at {p : Bool → Prop} (h : EvT o tt σ G p) (kn : Kn o G H) : AtT o tt σ G H p := h G H (Ex.refl _) kn
theorem q_whileA (g : Go o Ge He G H) (I : Nat → L2.St → Hp → Hp → Prop) (m0 : Nat) (h0 : I m0 σ G H)
    (hs : ∀ m σ' G' H', Go o Ge He G' H' → Ex G G' → I m σ' G' H' → ∃ p, AtT o tt σ' G' H' p ∧
      (p true → ∀ G1 H1, Go o Ge He G1 H1 → Go o G' H' G1 H1 → tu { D with nx := fun σ2 H2 => ∃ m' G2, m' < m ∧ Go o Ge He G2 H2 ∧ Ex G G2 ∧ I m' σ2 G2 H2, ct := fun σ2 H2 => ∃ m' G2, m' < m ∧ Go o Ge He G2 H2 ∧ Ex G G2 ∧ I m' σ2 G2 H2, bk := tz D } σ' H1) ∧
      (p false → ∀ G1 H1, Go o Ge He G1 H1 → Go o G' H' G1 H1 → tz D σ' H1)) : tSeq (tWhile tt tu) tz D σ H := by
  show tWhile tt tu { D with nx := tz D } σ H
  refine ⟨fun m σ' H' => ∃ G', Go o Ge He G' H' ∧ Ex G G' ∧ I m σ' G' H', ⟨m0, G, g, Ex.refl _, h0⟩, fun m σ' H' ⟨G', a, b, c⟩ => ?_⟩
  obtain ⟨p, ht, hy, hn⟩ := hs m σ' G' H' a b c
  refine ht _ fun bb G1 H1 g1 pb => ?_
  cases bb with
  | true =>
    exact ⟨_, fun σ2 H2 ⟨m', G2, l, x1, x2, x3⟩ => ⟨m', l, G2, x1, x2, x3⟩, hy pb G1 H1 (a.trans g1) g1⟩
  | false => exact hn pb G1 H1 (a.trans g1) g1
/-- a while, by a word and a measure -/
theorem q_while (g : Go o Ge He G H) (I : Nat → L2.St → Hp → Hp → Prop) (m0 : Nat) (h0 : I m0 σ G H)
    (hs : ∀ m σ' G' H', Go o Ge He G' H' → Ex G G' → I m σ' G' H' → ∃ p, EvT o tt σ' G' p ∧
      (p true → ∀ G1 H1, Go o Ge He G1 H1 → Go o G' H' G1 H1 → tu { D with nx := fun σ2 H2 => ∃ m' G2, m' < m ∧ Go o Ge He G2 H2 ∧ Ex G G2 ∧ I m' σ2 G2 H2, ct := fun σ2 H2 => ∃ m' G2, m' < m ∧ Go o Ge He G2 H2 ∧ Ex G G2 ∧ I m' σ2 G2 H2, bk := tz D } σ' H1) ∧
      (p false → ∀ G1 H1, Go o Ge He G1 H1 → Go o G' H' G1 H1 → tz D σ' H1)) : tSeq (tWhile tt tu) tz D σ H := by
  show tWhile tt tu { D with nx := tz D } σ H
  refine ⟨fun m σ' H' => ∃ G', Go o Ge He G' H' ∧ Ex G G' ∧ I m σ' G' H', ⟨m0, G, g, Ex.refl _, h0⟩, fun m σ' H' ⟨G', a, b, c⟩ => ?_⟩
  obtain ⟨p, ht, hy, hn⟩ := hs m σ' G' H' a b c
  refine ht G' H' (Ex.refl _) a.kn _ fun bb G1 H1 g1 pb => ?_
  cases bb with
  | true =>
    exact ⟨_, fun σ2 H2 ⟨m', G2, l, x1, x2, x3⟩ => ⟨m', l, G2, x1, x2, x3⟩, hy pb G1 H1 (a.trans g1) g1⟩
  | false => exact hn pb G1 H1 (a.trans g1) g1
end
end Ty
set_option Elab.async false
set_option linter.all false
set_option maxRecDepth 100000
set_option maxHeartbeats 4000000
/-! Calls of own defs by name, operations of several kinds. -/
namespace Ty
open PySem L2
open Evl (Ex ex_l ex_t)

/-! ### own defs -/
/-- the def st, bound to x at the top, keeps the promise sp -/
structure Own (P : Program) (w : World) (K : PySem.W.Frag) (mg : Str → Option Value) (base : Heap) (CX : CXT) (k : Nat) (x : Str) (st : Stmt) (ps : List Str) (sp : Sp) : Prop where
  ex : ∃ (f : Addr) (fd : FuncData), FnOk P w K mg base CX k f fd ps sp ∧ mg x = some (.ref f) ∧ PySem.W.keepIn K (.ref f) = true ∧
    ∃ (kV doc pm : Value) (an : Option Addr) (cdv ct : Value), fd = PySem.W.fnOf x x (defArgs st) (defBody st) (defScope st) .none kV doc pm an cdv ct
/-- where a def stands -/
structure Df (K : PySem.W.Frag) (mg : Str → Option Value) (x : Str) (st : Stmt) : Prop where
  ex : ∃ (f : Addr) (fd : FuncData), Fun K x x st f fd ∧ mg x = some (.ref f)
theorem Df.own {P : Program} {w : World} {K : PySem.W.Frag} {mg : Str → Option Value} {base : Heap} {CX : CXT} {k : Nat} {x : Str} {st : Stmt} {ps : List Str} {sp : Sp} (d : Df K mg x st)
    (h : ∀ f fd, Fun K x x st f fd → FnOk P w K mg base CX k f fd ps sp) : Own P w K mg base CX k x st ps sp := by
  obtain ⟨f, fd, F, hm⟩ := d.ex
  obtain ⟨_, _, kV, doc, pm, an, cdv, ct, _, e, _, _⟩ := F.ex
  exact ⟨f, fd, h f fd F, hm, F.kp, kV, doc, pm, an, cdv, ct, e⟩
/-- the positional binding of n parameters -/
def PosB (x : Str) (st : Stmt) (ps : List Str) : Prop := ∀ (kV doc pm : Value) (an : Option Addr) (cdv ct : Value) (us : List Value), us.length = ps.length →
  bindArgs (PySem.W.fnOf x x (defArgs st) (defBody st) (defScope st) .none kV doc pm an cdv ct) ⟨us, []⟩ = pure (ps.zip us)
section
variable {X : Cx} {CX : CXT} {k : Nat} {st : Stmt} {ps : List Str} {sp : Sp} {E : XK} {x : Str} {p pos : Pos} {e : Expr} {es : List Expr} {t : TA}
theorem pe_own (F : Own X.prog X.w X.K X.mg X.base CX k x st ps sp) (hb : PosB x st ps) (hr : Room k X.A) (hg : Gl X x) (hx : Passes CX X E) (ha : PA X (e :: es) t)
    (hdb : (x == ("__debug__" : Str)) = false := by decide) (he : starEach (e :: es) X.env = (false, eval e X.env) :: starEach es X.env := by rfl) (hpl : (backTo pos (starEach es X.env)).any (·.1) = false := by rfl) :
    PE X (.Call (.Name x p) (e :: es) [] pos) (tCall sp [] E t) := by
  obtain ⟨f, fd, F, hm, hk, kV, doc, pm, an, cdv, ct, rfl⟩ := F.ex
  exact pe_call F hr hg hm hk (.all (hb kV doc pm an cdv ct)) .nil hx ha hdb he hpl
theorem pe_own0 (F : Own X.prog X.w X.K X.mg X.base CX k x st ps sp) (hb : PosB x st ps) (hr : Room k X.A) (hg : Gl X x) (hx : Passes CX X E)
    (hdb : (x == ("__debug__" : Str)) = false := by decide) : PE X (.Call (.Name x p) [] [] pos) (tCall sp [] E tNil) := by
  obtain ⟨f, fd, F, hm, hk, kV, doc, pm, an, cdv, ct, rfl⟩ := F.ex
  exact pe_call0 F hr hg hm hk (.all (hb kV doc pm an cdv ct)) .nil hx hdb
/-- all by keywords, in the order ks; g brings them into the parameters' order -/
def tKw (sp : Sp) (n : Nat) (gV : List V → List V) (E : XK) (tk : TA) : TE := fun σ H Q => tk σ H fun zs H2 => zs.length = n ∧ sp (gV zs) H2 Q E
theorem pe_ownK {ks : List Str} {kws : List Keyword} {tk : TA} {g : List Value → List Value} {gV : List V → List V} (F : Own X.prog X.w X.K X.mg X.base CX k x st ps sp)
    (hb : ∀ (kV doc pm : Value) (an : Option Addr) (cdv ct : Value) (ws : List Value), ws.length = ks.length → bindArgs (PySem.W.fnOf x x (defArgs st) (defBody st) (defScope st) .none kV doc pm an cdv ct) ⟨[], ks.zip ws⟩ = pure (ps.zip (g ws)))
    (rel : ∀ {zs : List V} {ws : List Value}, zs.length = ks.length → Vals zs ws → Vals (gV zs) (g ws))
    (hr : Room k X.A) (hg : Gl X x) (hx : Passes CX X E) (hkw : PK X kws tk)
    (hall : (backToKw pos (keywordEach kws X.env)).all (·.1.isSome) = true := by rfl) (hks : (backToKw pos (keywordEach kws X.env)).filterMap (·.1) = ks := by rfl) (hdb : (x == ("__debug__" : Str)) = false := by decide)
    (hpl : ((backTo pos (starEach [] X.env)).any (·.1) || (backToKw pos (keywordEach kws X.env)).any (·.1.isNone)) = false := by rfl) :
    PE X (.Call (.Name x p) [] kws pos) (tKw sp ks.length gV E tk) := by
  obtain ⟨f, fd, F, hm, hk, kV, doc, pm, an, cdv, ct, rfl⟩ := F.ex
  refine ⟨fun pins s σ H Q I h => ?_⟩
  refine wpAny_Call_Name_kw (ld_glob I hg hm ?_ hdb)
  refine PySem.W.callWith_KW0 (h₀ := X.base) I.ok.mod.kin hk hall ?_ hpl
  refine thn (hkw.run pos pins s σ H _ I h) fun ws s2 ⟨zs, H2, I2, rz, hl, q2⟩ => ⟨I2.kIn, ?_⟩
  rw [hks]
  have lw : ws.length = ks.length := by rw [← rz.length, hl]
  have r2 := rel hl rz
  refine wpAny_call (codeAny_mono (F.run X.A X.stack s2 H2 ⟨[], ks.zip ws⟩ (g ws) (gV zs) Q E hr I2.env0 (.of_eq (hb kV doc pm an cdv ct ws lw)) r2 q2) fun r s' hq => ?_)
  cases r with
  | error e => exact hx pins σ H2 s2 e s' I2 hq
  | ok fl =>
    cases fl with
    | ret u => exact I2.after hq
    | next => exact False.elim hq
    | brk => exact False.elim hq
    | cont => exact False.elim hq
end
section
variable {o : Option Addr} {σ : L2.St} {G : Hp} {t : T}
theorem ev_kw {C : Option Addr → Hp → List V → T → Prop} {E : XK} {ta : TA} {ts : List T} {n : Nat} {gV : List V → List V} (hn : ts.length = n) (ha : EvA o ta σ G ts)
    (hc : ∀ G' vs, Ex G G' → AllU G' ts vs → ∃ o' t', (o' = o ∨ o' = none) ∧ C o' G' (gV vs) t' ∧ ∀ G'' v, Ex G' G'' → U t' G'' v → U t G'' v) : Ev o (tKw (spC C) n gV E ta) σ G t := fun G1 H1 a kn Q q =>
  ha G1 H1 a kn _ fun vs G2 H2 g2 w2 => ⟨w2.len.trans hn, by
    obtain ⟨o', t', ho, c, k⟩ := hc G2 vs (a.trans g2.gg) w2
    rcases ho with rfl | rfl
    · exact ⟨o', G2, t', g2.kn, c, fun v G3 H3 g3 w3 => q v G3 H3 (g2.trans g3) (k G3 v g3.gg w3)⟩
    · exact ⟨none, G2, t', g2.kn.pure, c, fun v G3 H3 g3 w3 => q v G3 H3 (g2.trans (g3.pure g2.kn)) (k G3 v g3.gg w3)⟩⟩
end

/-! ### operations of several kinds -/
section
variable {X : Cx} {o : Option Addr} {σ : L2.St} {G : Hp} {ta tb te : TE} {s t u : T} {x y v : V} {K : PySem.W.Frag}
/-- a list and the empty list -/
def rNil (K : PySem.W.Frag) (neg : Bool) : R2 := fun x y H Q => ∃ a b xs, x = .ref a ∧ y = .ref b ∧ SqL K H a xs ∧ SqL K H b [] ∧ Q (.bl (if neg then !xs.isEmpty else xs.isEmpty)) H
theorem op_eqNil (hu : X.A.units + 64 < cLine) : OpR X (compareOp .Eq) (rNil X.K false) := by
  intro pins s σ H x y v u Q I rx ry h
  obtain ⟨a, b, xs, rfl, rfl, ha, hb, q⟩ := h
  cases (show v = Value.ref a from rx)
  cases (show u = Value.ref b from ry)
  obtain ⟨us, r1, p1, _⟩ := I.list ha
  obtain ⟨ws, r2, p2, _⟩ := I.list hb
  have w0 : ws = [] := by cases r2; rfl
  subst w0
  show wpAny _ _ (richCompare .Eq _ _) _ _ s
  cases xs with
  | nil =>
    have u0 : us = [] := by cases r1; rfl
    subst u0
    exact SeqAt.RcAt.lists (e := fun _ => true) p1.isList p2.isList rfl (by omega) (fun j h1 => absurd h1 (Nat.not_lt_zero j)) _ _ _ _ ⟨.bl true, H, I, rfl, q⟩
  | cons z zs =>
    cases r1 with
    | cons r r' => exact SeqAt.RcAt.lists_lengths p1.isList p2.isList (by rfl) (by omega) _ _ _ _ ⟨.bl false, H, I, rfl, q⟩
theorem op_neNil (hu : X.A.units + 64 < cLine) : OpR X (compareOp .NotEq) (rNil X.K true) := by
  intro pins s σ H x y v u Q I rx ry h
  obtain ⟨a, b, xs, rfl, rfl, ha, hb, q⟩ := h
  cases (show v = Value.ref a from rx)
  cases (show u = Value.ref b from ry)
  obtain ⟨us, r1, p1, _⟩ := I.list ha
  obtain ⟨ws, r2, p2, _⟩ := I.list hb
  have w0 : ws = [] := by cases r2; rfl
  subst w0
  show wpAny _ _ (richCompare .NotEq _ _) _ _ s
  cases xs with
  | nil =>
    have u0 : us = [] := by cases r1; rfl
    subst u0
    exact SeqAt.RcNeAt.lists (e := fun _ => true) p1.isList p2.isList rfl (by omega) (fun j h1 => absurd h1 (Nat.not_lt_zero j)) _ _ _ _ ⟨.bl false, H, I, rfl, q⟩
  | cons z zs =>
    cases r1 with
    | cons r r' => exact SeqAt.RcNeAt.lists_lengths p1.isList p2.isList (by rfl) (by omega) _ _ _ _ ⟨.bl true, H, I, rfl, q⟩
abbrev rEqG (K : PySem.W.Frag) : R2 := fun x y H Q => rEq x y H Q ∨ (rNil K false x y H Q ∨ rEqD K x y H Q)
abbrev rNeG (K : PySem.W.Frag) : R2 := fun x y H Q => rNe x y H Q ∨ (rNil K true x y H Q ∨ rNeD K x y H Q)
theorem gEq (hu : X.A.units + 64 < cLine) : OpR X (compareOp .Eq) (rEqG X.K) := op_eq.or ((op_eqNil hu).or (op_eqD hu))
theorem gNe (hu : X.A.units + 64 < cLine) : OpR X (compareOp .NotEq) (rNeG X.K) := op_ne.or ((op_neNil hu).or (op_neD hu))
def rAddS : R2 := fun x y H Q => ∃ i j, x = .str i ∧ y = .str j ∧ i.length + j.length ≤ sizeLine ∧ Q (.str (i ++ j)) H
abbrev rAddG (K : PySem.W.Frag) : R2 := fun x y H Q => rI0 (fun i j => .int (i + j)) x y H Q ∨ (rAddS x y H Q ∨ (rCat x y H Q ∨ rCatT K x y H Q))
theorem gAdd : OpR X (binaryOp .Add) (rAddG X.K) := op_add.or ((op_add_str (X := X)).or (op_cat.or op_catT))
abbrev rMulG : R2 := fun x y H Q => rI CMul (fun i j => .int (i * j)) x y H Q ∨ rRep x y H Q
theorem gMul : OpR X (binaryOp .Mult) rMulG := op_mul.or op_rep
def rInS (neg : Bool) : R2 := fun x y H Q => ∃ (c : Nat) (z : Str), x = .str ⟨#[c]⟩ ∧ y = .str z ∧ Q (.bl (if neg then !decide (c ∈ z.cps.toList) else decide (c ∈ z.cps.toList))) H
abbrev rInG (K : PySem.W.Frag) (neg : Bool) : R2 := fun x y H Q => rIn K neg x y H Q ∨ rInS neg x y H Q
theorem gIn : OpR X (compareOp .In) (rInG X.K false) := op_in_seq.or (op_in_sign (X := X))
theorem gNotIn : OpR X (compareOp .NotIn) (rInG X.K true) := op_notIn_seq.or (op_notIn_sign (X := X))
theorem gLt : OpR X (compareOp .Lt) (rI0 fun i j => .bl (decide (i < j))) := op_lt
abbrev rLen (K : PySem.W.Frag) : List V → Hp → VK → Prop := fun xs H Q => (∃ p ys, xs = [.ref p] ∧ (SqL K H p ys ∨ SqT K H p ys) ∧ Q (.int ys.length) H) ∨ ∃ z, xs = [.str z] ∧ z.length ≤ sizeLine ∧ Q (.int z.length) H
theorem gLen : CallR X (.builtin "len") (rLen X.K) := call_len_seq.or call_len_str
abbrev rSlG (K : PySem.W.Frag) : V → Option Int → Option Int → Hp → VK → Prop := fun x lo hi H Q => rSlL K x lo hi H Q ∨ (rSlS x lo hi H Q ∨ rSlT K x lo hi H Q)
theorem gSl : SlR X (rSlG X.K) := sl_list.or (sl_str.or sl_tup)

/-! ### by kinds -/
variable {r r' : R2}
theorem RO.lft (h : RO o r x y G t) : RO o (fun x y H Q => r x y H Q ∨ r' x y H Q) x y G t := fun G1 H1 a kn Q q => .inl (h G1 H1 a kn Q q)
theorem RO.rgt (h : RO o r' x y G t) : RO o (fun x y H Q => r x y H Q ∨ r' x y H Q) x y G t := fun G1 H1 a kn Q q => .inr (h G1 H1 a kn Q q)
/-- equal scalars, told -/
theorem ro_eqS {b : Bool} (h : scal x y = true) (e : decide (x = y) = b) : RO o (rEqG K) x y G (tIs (.bl b)) := .lft (by rw [← e]; exact ro_eq h)
theorem ro_neS {b : Bool} (h : scal x y = true) (e : (!decide (x = y)) = b) : RO o (rNeG K) x y G (tIs (.bl b)) := .lft (by rw [← e]; exact ro_ne h)
theorem ro_eqN {a b : Addr} {xs : List V} (ha : SqL K G a xs) (hb : SqL K G b []) : RO o (rEqG K) (.ref a) (.ref b) G (tIs (.bl xs.isEmpty)) :=
  .rgt (.lft (ro_q u_is fun G1 H1 e kn Q q => ⟨a, b, xs, rfl, rfl, ex_l (e.trans kn.sub) ha, ex_l (e.trans kn.sub) hb, q⟩))
theorem ro_neN {a b : Addr} {xs : List V} (ha : SqL K G a xs) (hb : SqL K G b []) : RO o (rNeG K) (.ref a) (.ref b) G (tIs (.bl (!xs.isEmpty))) :=
  .rgt (.lft (ro_q u_is fun G1 H1 e kn Q q => ⟨a, b, xs, rfl, rfl, ex_l (e.trans kn.sub) ha, ex_l (e.trans kn.sub) hb, q⟩))
theorem ro_addI {i j : Int} : RO o (rAddG K) (.int i) (.int j) G (tIs (.int (i + j))) := .lft ro_I0
theorem ro_mulI {i j : Int} (h : CMul i j) : RO o rMulG (.int i) (.int j) G (tIs (.int (i * j))) := .lft (ro_I h)
theorem ro_addS {i j : Str} (h : i.length + j.length ≤ 100000) : RO o (rAddG K) (.str i) (.str j) G (tIs (.str (i ++ j))) := .rgt (.lft (ro_q u_is fun G1 H1 e kn Q q => ⟨i, j, rfl, rfl, Evl.sz_of h, q⟩))
theorem rc_lenS {z : Str} (h : z.length ≤ 100000) : RC o (rLen K) [.str z] G (tIs (.int z.length)) := rc_q u_is fun G1 H1 e kn Q q => .inr ⟨z, rfl, Evl.sz_of h, q⟩
theorem rc_lenL {a : Addr} {xs : List V} (h : SqL K G a xs) : RC o (rLen K) [.ref a] G (tIs (.int xs.length)) := rc_q u_is fun G1 H1 e kn Q q => .inl ⟨a, xs, rfl, .inl (ex_l (e.trans kn.sub) h), q⟩
theorem rc_lenT {a : Addr} {xs : List V} (h : SqT K G a xs) : RC o (rLen K) [.ref a] G (tIs (.int xs.length)) := rc_q u_is fun G1 H1 e kn Q q => .inl ⟨a, xs, rfl, .inr (ex_t (e.trans kn.sub) h), q⟩
theorem ro_inS {neg : Bool} {c : Nat} {z : Str} : RO o (rInG K neg) (.str ⟨#[c]⟩) (.str z) G (tIs (.bl (if neg then !decide (c ∈ z.cps.toList) else decide (c ∈ z.cps.toList)))) := .rgt (ro_q u_is fun G1 H1 e kn Q q => ⟨c, z, rfl, rfl, q⟩)
theorem ro_inT {neg : Bool} {a : Addr} {xs : List V} (h : SqT K G a xs) (hx : flatV x = true) (hf : xs.all flatV = true) : RO o (rInG K neg) x (.ref a) G (tIs (.bl (if neg then !inV x xs else inV x xs))) :=
  .lft (ro_q u_is fun G1 H1 e kn Q q => ⟨a, xs, rfl, .inr (ex_t (e.trans kn.sub) h), hx, hf, q⟩)
theorem ro_inL {neg : Bool} {a : Addr} {xs : List V} (h : SqL K G a xs) (hx : flatV x = true) (hf : xs.all flatV = true) : RO o (rInG K neg) x (.ref a) G (tIs (.bl (if neg then !inV x xs else inV x xs))) :=
  .lft (ro_q u_is fun G1 H1 e kn Q q => ⟨a, xs, rfl, .inl (ex_l (e.trans kn.sub) h), hx, hf, q⟩)
/-- items -/
theorem ro_ixL {a : Addr} {xs : List V} {i : Int} (h : SqL K G a xs) (ha : atI xs i = some v) : RO o (rIx K) (.ref a) (.int i) G (tIs v) := .lft (ro_q u_is fun G1 H1 e kn Q q => ⟨a, xs, i, v, rfl, rfl, ex_l (e.trans kn.sub) h, ha, q⟩)
theorem ro_ixT {a : Addr} {xs : List V} {i : Int} (h : SqT K G a xs) (ha : atI xs i = some v) : RO o (rIx K) (.ref a) (.int i) G (tIs v) := .rgt (.lft (ro_q u_is fun G1 H1 e kn Q q => ⟨a, xs, i, v, rfl, rfl, ex_t (e.trans kn.sub) h, ha, q⟩))
/-- slices -/
def EvO (o : Option Addr) (to : TO) (σ : L2.St) (G : Hp) (i : Option Int) : Prop := ∀ G1 H1, Ex G G1 → Kn o G1 H1 → ∀ Q : Option Int → Hp → Prop, (∀ G2 H2, Go o G1 H1 G2 H2 → Q i H2) → to σ H1 Q
theorem eo_none : EvO o tNoPart σ G none := fun G1 H1 e kn Q q => q G1 H1 (.refl kn)
theorem eo_some {i : Int} (h : Ev o te σ G (tIs (.int i))) : EvO o (tPart te) σ G (some i) := fun G1 H1 e kn Q q => h G1 H1 e kn _ fun v G2 H2 g2 w2 => ⟨i, w2.eq, q G2 H2 g2⟩
theorem ev_slS {z : Str} {lo hi : Option Int} {tl th : TO} (h : Ev o te σ G (tIs (.str z))) (hz : z.length ≤ 100000) (hl : EvO o tl σ G lo) (hh : EvO o th σ G hi) : Ev o (tSl (rSlG K) te tl th) σ G (tIs (.str (cutS z lo hi))) := fun G1 H1 e kn Q q =>
  h G1 H1 e kn _ fun v G2 H2 g2 w2 => hl G2 H2 (e.trans g2.gg) g2.kn _ fun G3 H3 g3 => hh G3 H3 ((e.trans g2.gg).trans g3.gg) g3.kn _ fun G4 H4 g4 =>
    .inr (.inl ⟨z, w2.eq, Evl.sz_of hz, q _ G4 H4 ((g2.trans g3).trans g4) u_is⟩)
/-- a slice of a known list: a new list -/
theorem en_slL {lo hi : Option Int} {tl th : TO} {P P' : PL} (h : Ev o te σ G t) (k : ∀ G' v, Ex G G' → U t G' v → ∃ a xs, v = .ref a ∧ SqL K G' a xs ∧ UP P' G' xs) (hl : EvO o tl σ G lo) (hh : EvO o th σ G hi) (hP : ∀ G' xs, P' G' xs → P G' (cutV xs lo hi)) :
    EvN o (tSl (rSlG K) te tl th) σ G P := fun G1 H1 e kn Q q =>
  h G1 H1 e kn _ fun v G2 H2 g2 w2 => hl G2 H2 (e.trans g2.gg) g2.kn _ fun G3 H3 g3 => hh G3 H3 ((e.trans g2.gg).trans g3.gg) g3.kn _ fun G4 H4 g4 => by
    obtain ⟨a, xs, rfl, hs, hp⟩ := k G2 v (e.trans g2.gg) w2
    have g := (g2.trans g3).trans g4
    exact .inl ⟨a, xs, rfl, ex_l ((g3.gg.trans g4.gg).trans g4.kn.sub) hs, fun p hp4 => q p _ G4 _ (g.trans (.tmp g4.kn hp4)) (g.fresh hp4) upd_same (Evl.fresh_back g4.kn.sub hp4) fun G' e' => hP G' xs (hp G' ((g3.gg.trans g4.gg).trans e'))⟩
/-- .. of a new list -/
theorem en_slN {lo hi : Option Int} {tl th : TO} {P P' : PL} (h : EvN o te σ G P') (hl : EvO o tl σ G lo) (hh : EvO o th σ G hi) (hP : ∀ G' xs, P' G' xs → P G' (cutV xs lo hi)) : EvN o (tSl (rSlG K) te tl th) σ G P :=
  en_slL (t := fun G' v => ∃ a xs, v = .ref a ∧ G' a = some (.lst xs) ∧ UP P' G' xs) (P' := P') (h.ev fun G' a xs e ha p0 => ⟨a, xs, rfl, ha, p0⟩) (fun G' v e w => by
    obtain ⟨a, xs, rfl, ha, hp⟩ := w.now
    exact ⟨a, xs, rfl, .of ha, hp⟩) hl hh hP
/-- two new lists, one behind the other -/
theorem en_cat {P P' P2 : PL} (ha : EvN o ta σ G P) (hb : EvN o tb σ G P') (hl : ∀ G' xs, UP P G' xs → xs.length ≤ 50000) (hl2 : ∀ G' xs, UP P' G' xs → xs.length ≤ 50000) (hP : ∀ G' xs ys, UP P G' xs → UP P' G' ys → UP P2 G' (xs ++ ys)) : EvN o (tOp (rAddG K) ta tb) σ G P2 := fun G1 H1 e kn Q q =>
  ha G1 H1 e kn _ fun p xs G2 H2 g2 hp h2 n2 w2 => hb G2 H2 (e.trans g2.gg) g2.kn _ fun p' ys G3 H3 g3 hp' h3 n3 w3 => by
    have hob : o ≠ some p := kn.nbox hp
    have h2' := g3.kp p _ h2 hob
    have g := g2.trans g3
    have l1 := hl G2 xs w2
    have l2 := hl2 G3 ys w3
    exact .inr (.inr (.inl ⟨p, p', xs, ys, rfl, rfl, h2', h3, Evl.sz_of (by omega), fun d hd => q d _ G3 _ (g.trans (.tmp g3.kn hd)) (g.fresh hd) upd_same (Evl.fresh_back g3.kn.sub hd) (hP G3 xs ys (w2.up g3.gg) w3)⟩))
/-- a known list as a new one of its own items is none: the first operand known -/
theorem en_catK {P P' P2 : PL} (ha : Ev o ta σ G t) (k : ∀ G' v, Ex G G' → U t G' v → ∃ a xs, v = .ref a ∧ G' a = some (.lst xs) ∧ UP P G' xs) (hb : EvN o tb σ G P') (hl : ∀ G' xs, UP P G' xs → xs.length ≤ 50000) (hl2 : ∀ G' xs, UP P' G' xs → xs.length ≤ 50000) (hP : ∀ G' xs ys, UP P G' xs → UP P' G' ys → UP P2 G' (xs ++ ys)) : EvN o (tOp (rAddG K) ta tb) σ G P2 := fun G1 H1 e kn Q q =>
  ha G1 H1 e kn _ fun v G2 H2 g2 w2 => hb G2 H2 (e.trans g2.gg) g2.kn _ fun p' ys G3 H3 g3 hp' h3 n3 w3 => by
    obtain ⟨p, xs, rfl, hx, hp⟩ := k G2 v (e.trans g2.gg) w2
    have g := g2.trans g3
    have l1 := hl G2 xs hp
    have l2 := hl2 G3 ys w3
    exact .inr (.inr (.inl ⟨p, p', xs, ys, rfl, rfl, g3.kn.sub _ _ (g3.gg _ _ hx), h3, Evl.sz_of (by omega), fun d hd => q d _ G3 _ (g.trans (.tmp g3.kn hd)) (g.fresh hd) upd_same (Evl.fresh_back g3.kn.sub hd) (hP G3 xs ys (hp.up g3.gg) w3)⟩))
/-- both known -/
theorem en_catKK {P P' P2 : PL} {u : T} (ha : Ev o ta σ G t) (k : ∀ G' v, Ex G G' → U t G' v → ∃ a xs, v = .ref a ∧ G' a = some (.lst xs) ∧ UP P G' xs) (hb : Ev o tb σ G u) (k2 : ∀ G' v, Ex G G' → U u G' v → ∃ a xs, v = .ref a ∧ G' a = some (.lst xs) ∧ UP P' G' xs) (hl : ∀ G' xs, UP P G' xs → xs.length ≤ 50000) (hl2 : ∀ G' xs, UP P' G' xs → xs.length ≤ 50000) (hP : ∀ G' xs ys, UP P G' xs → UP P' G' ys → UP P2 G' (xs ++ ys)) : EvN o (tOp (rAddG K) ta tb) σ G P2 := fun G1 H1 e kn Q q =>
  ha G1 H1 e kn _ fun v G2 H2 g2 w2 => hb G2 H2 (e.trans g2.gg) g2.kn _ fun v' G3 H3 g3 w3 => by
    obtain ⟨p, xs, rfl, hx, hp⟩ := k G2 v (e.trans g2.gg) w2
    obtain ⟨p', ys, rfl, hy, hp'⟩ := k2 G3 v' ((e.trans g2.gg).trans g3.gg) w3
    have g := g2.trans g3
    have l1 := hl G2 xs hp
    have l2 := hl2 G3 ys hp'
    exact .inr (.inr (.inl ⟨p, p', xs, ys, rfl, rfl, g3.kn.sub _ _ (g3.gg _ _ hx), g3.kn.sub _ _ hy, Evl.sz_of (by omega), fun d hd => q d _ G3 _ (g.trans (.tmp g3.kn hd)) (g.fresh hd) upd_same (Evl.fresh_back g3.kn.sub hd) (hP G3 xs ys (hp.up g3.gg) hp')⟩))
/-- a new list, k times -/
theorem en_rep {P P2 : PL} {n : Int} (ha : EvN o ta σ G P) (hb : Ev o tb σ G (tIs (.int n))) (hn : 0 ≤ n ∧ n ≤ 1000) (hl : ∀ G' xs, UP P G' xs → xs.length ≤ 100) (hP : ∀ G' xs, UP P G' xs → UP P2 G' (List.replicate n.toNat xs).flatten) : EvN o (tOp rMulG ta tb) σ G P2 := fun G1 H1 e kn Q q =>
  ha G1 H1 e kn _ fun p xs G2 H2 g2 hp h2 n2 w2 => hb G2 H2 (e.trans g2.gg) g2.kn _ fun v G3 H3 g3 w3 => by
    have hob : o ≠ some p := kn.nbox hp
    have h2' := g3.kp p _ h2 hob
    have g := g2.trans g3
    have l1 := hl G2 xs w2
    refine .inr ⟨p, n, xs, rfl, w3.eq, h2', by omega, by omega, Evl.sz_of ?_, fun d hd => q d _ G3 _ (g.trans (.tmp g3.kn hd)) (g.fresh hd) upd_same (Evl.fresh_back g3.kn.sub hd) (hP G3 xs (w2.up g3.gg))⟩
    have h3 : n.toNat ≤ 1000 := by omega
    exact Nat.le_trans (Nat.mul_le_mul l1 h3) (by decide)
end
end Ty
namespace Ty
open PySem L2
open Evl (Ex ex_l ex_t)
/-! ### more -/
theorem pe_globE {X : Cx} {x : Str} {v : V} {pos : Pos} (hg : Gl X x) (hm : ∃ u, X.mg x = some u ∧ RelV v u) (hd : (x == ("__debug__" : Str)) = false := by decide) : PE X (.Name x pos) (tC v) := by
  obtain ⟨u, h1, h2⟩ := hm
  exact pe_glob hg h1 h2 hd
/-- a promise: a new list -/
def spN (C : Option Addr → Hp → List V → PL → Prop) : Sp := fun vs H Q _ => ∃ o G P, Kn o G H ∧ C o G vs P ∧ ∀ p xs G2 H2, Go o G H G2 H2 → H p = none → H2 p = some (.lst xs) → G2 p = none → UP P G2 xs → Q (.ref p) H2
section
variable {o : Option Addr} {σ : L2.St} {Ge He G H : Hp} {te : TE} {P : PL} {D : Ends}
theorem en_call {C : Option Addr → Hp → List V → PL → Prop} {E : XK} {ta : TA} {ts : List T} (ha : EvA o ta σ G ts)
    (hc : ∀ G' vs, Ex G G' → AllU G' ts vs → ∃ o' P', (o' = o ∨ o' = none) ∧ C o' G' vs P' ∧ ∀ G'' xs, Ex G' G'' → UP P' G'' xs → UP P G'' xs) : EvN o (tCall (spN C) [] E ta) σ G P := fun G1 H1 a kn Q q =>
  ha G1 H1 a kn _ fun vs G2 H2 g2 w2 => by
    obtain ⟨o', P', ho, c, k⟩ := hc G2 vs (a.trans g2.gg) w2
    rw [List.append_nil]
    rcases ho with rfl | rfl
    · exact ⟨o', G2, P', g2.kn, c, fun p xs G3 H3 g3 hp h3 n3 w3 => q p xs G3 H3 (g2.trans g3) (g2.fresh hp) h3 n3 (k G3 xs g3.gg w3)⟩
    · exact ⟨none, G2, P', g2.kn.pure, c, fun p xs G3 H3 g3 hp h3 n3 w3 => q p xs G3 H3 (g2.trans (g3.pure g2.kn)) (g2.fresh hp) h3 n3 (k G3 xs g3.gg w3)⟩
theorem s_retN (g : Go o Ge He G H) (h : EvN o te σ G P) (k : ∀ p xs G2 H2, Go o Ge He G2 H2 → He p = none → H2 p = some (.lst xs) → G2 p = none → UP P G2 xs → D.rt (.ref p) H2) : tRet te D σ H :=
  h G H (Ex.refl _) g.kn _ fun p xs G2 H2 g2 hp h2 n2 w2 => k p xs G2 H2 (g.trans g2) (g.fresh hp) h2 n2 w2
end
end Ty
set_option Elab.async false
set_option linter.all false
set_option maxRecDepth 100000
set_option maxHeartbeats 4000000
/-! Kinds of values, isinstance. -/
namespace Ty
open PySem L2
open Evl (Ex ex_l ex_t)
/-! ### the rules, the written part by its own letter (a block's context has the same) -/
section
variable {X : Cx} {K : PySem.W.Frag}
theorem kIx (e : X.K = K) : IxR X (rIx K) := e ▸ ix_seq
theorem kEq (e : X.K = K) (hu : X.A.units + 64 < cLine) : OpR X (compareOp .Eq) (rEqG K) := e ▸ gEq hu
theorem kNe (e : X.K = K) (hu : X.A.units + 64 < cLine) : OpR X (compareOp .NotEq) (rNeG K) := e ▸ gNe hu
theorem kAdd (e : X.K = K) : OpR X (binaryOp .Add) (rAddG K) := e ▸ gAdd
theorem kIn (e : X.K = K) : OpR X (compareOp .In) (rInG K false) := e ▸ gIn
theorem kNotIn (e : X.K = K) : OpR X (compareOp .NotIn) (rInG K true) := e ▸ gNotIn
theorem kLen (e : X.K = K) : CallR X (.builtin "len") (rLen K) := e ▸ gLen
theorem kSl (e : X.K = K) : SlR X (rSlG K) := e ▸ gSl
theorem kIsi (e : X.K = K) : CallR X (.builtin "isinstance") (rIsi K) := e ▸ call_isi
theorem kIsiT (e : X.K = K) : CallR X (.builtin "isinstance") (rIsiT K) := e ▸ call_isiT
theorem kAll (e : X.K = K) (hc : X.calm = true) : CallR X (.builtin "all") (rAll K) := e ▸ cr_all hc
theorem kAny (e : X.K = K) (hc : X.calm = true) : CallR X (.builtin "any") (rAny K) := e ▸ cr_any hc
theorem kSum (e : X.K = K) (hc : X.calm = true) : CallR X (.builtin "sum") (rSum K) := e ▸ cr_sum hc
def rListOf (K : PySem.W.Frag) : List V → Hp → VK → Prop := fun xs H Q => ∃ p ys, xs = [.ref p] ∧ (SqL K H p ys ∨ SqT K H p ys) ∧ ∀ l, H l = none → Q (.ref l) (upd H l (.lst ys))
theorem kList (e : X.K = K) : CallR X (.type "list") (rListOf K) := e ▸ call_list_of
theorem pi_listK {tg l : Expr} {tl : TE} (e : X.K = K) (hl : PE X l tl) : PI X tg l (iList K tl) := e ▸ pi_list hl
theorem pi_tupK {tg l : Expr} {tl : TE} (e : X.K = K) (hl : PE X l tl) : PI X tg l (iTup K tl) := e ▸ pi_tup hl
end
/-- a value of a built-in kind, as G knows it -/
inductive KT (K : PySem.W.Frag) (G : Hp) : V → String → Prop
  | non : KT K G .non "NoneType"
  | bl (b : Bool) : KT K G (.bl b) "bool"
  | int (i : Int) : KT K G (.int i) "int"
  | str (x : Str) : KT K G (.str x) "str"
  | lst {a : Addr} {xs : List V} : SqL K G a xs → KT K G (.ref a) "list"
  | tup {a : Addr} {xs : List V} : SqT K G a xs → KT K G (.ref a) "tuple"
  | dic {a : Addr} {kvs : List (Key × V)} : G a = some (.dK kvs) → KT K G (.ref a) "dict"
theorem KT.up {K : PySem.W.Frag} {G G' : Hp} {v : V} {n : String} (e : Ex G G') (k : KT K G v n) : KT K G' v n := by
  cases k with
  | non => exact .non
  | bl b => exact .bl b
  | int i => exact .int i
  | str x => exact .str x
  | lst h => exact .lst (ex_l e h)
  | tup h => exact .tup (ex_t e h)
  | dic h => exact .dic (e _ _ h)
theorem KT.ty {K : PySem.W.Frag} {H : Hp} {v : V} {n : String} (k : KT K H v n) : TyX K H v (.type n) := by
  cases k with
  | non => exact .base .non
  | bl b => exact .base (.bl b)
  | int i => exact .base (.int i)
  | str x => exact .base (.str x)
  | lst h =>
    rcases h with (h | ⟨o, h⟩) | ⟨o, its, n, h1, h2, _⟩
    · exact .base (.lst h)
    · exact .base (.frz h)
    · exact .kList h1 h2
  | tup h =>
    rcases h with (h | ⟨o, h⟩) | ⟨o, its, n, h1, h2, _⟩
    · exact .base (.tup h)
    · exact .fTuple h
    · exact .kTuple h1 h2
  | dic h => exact .base (.dK h)
section
variable {K : PySem.W.Frag} {o : Option Addr} {σ : L2.St} {G : Hp} {ta tb te : TE} {s t u : T} {x y v : V}
theorem ev_isi {n : String} {c : String} {b : Bool} (ha : Ev o ta σ G (tIs x)) (k : KT K G x n) (h : kitB n c = some b) : Ev o (tCB (rIsi K) (tCons ta (tCons (tC (.ty c)) tNil))) σ G (tIs (.bl b)) :=
  ev_cb (ea_cons ha (ea_cons ev_k ea_nil)) fun G' vs e a => by
    cases a with
    | cons a1 a => cases a with
      | cons a2 a =>
        cases a
        rw [a1.eq, a2.eq]
        exact rc_q u_is fun G1 H1 e1 kn Q q => ⟨x, .ty c, .type n, .type c, b, rfl, .ty c, (k.up ((e.trans e1).trans kn.sub)).ty, kit_ty h, q⟩
theorem kitAny2 {n c1 c2 : String} {b1 b2 : Bool} (h1 : kitB n c1 = some b1) (h2 : kitB n c2 = some b2) : PySem.W.kitAny K (.type n) [.type c1, .type c2] = some (b1 || b2) :=
  kitAny_cons (kit_ty h1) (fun e => by
    subst e
    exact kitAny_cons (kit_ty h2) (fun e => by subst e; exact kitAny_nil) fun e => by subst e; rfl) fun e => by subst e; rfl
theorem ev_isi2 {n : String} {c1 c2 : String} {b1 b2 : Bool} (ha : Ev o ta σ G (tIs x)) (k : KT K G x n) (h1 : kitB n c1 = some b1) (h2 : kitB n c2 = some b2) :
    Ev o (tCB (rIsiT K) (tCons ta (tCons (tTup (tCons (tC (.ty c1)) (tCons (tC (.ty c2)) tNil))) tNil))) σ G (tIs (.bl (b1 || b2))) := fun G1 H1 e kn Q q =>
  ha G1 H1 e kn _ fun v G2 H2 g2 w2 => by
    refine ⟨by show 2 ≤ sizeLine; decide, fun p hp => ?_⟩
    refine ⟨x, p, [.ty c1, .ty c2], .type n, [.type c1, .type c2], b1 || b2, by rw [w2.eq], upd_same, .cons (.ty c1) (.cons (.ty c2) .nil), (k.up ((e.trans g2.gg).trans (g2.kn.sub.trans (Ex.new hp)))).ty, kitAny2 h1 h2, q _ G2 _ (g2.trans (.tmp g2.kn hp)) u_is⟩
theorem ro_isN : RO o (fun x y H Q => y = .non ∧ Q (.bl (decide (x = .non))) H) x .non G (tIs (.bl (decide (x = .non)))) := ro_q u_is fun _ _ _ _ _ q => ⟨rfl, q⟩
theorem ro_notN : RO o (fun x y H Q => y = .non ∧ Q (.bl (!decide (x = .non))) H) x .non G (tIs (.bl (!decide (x = .non)))) := ro_q u_is fun _ _ _ _ _ q => ⟨rfl, q⟩
theorem ro_isB {a b : Bool} : RO o rIsB (.bl a) (.bl b) G (tIs (.bl (decide (a = b)))) := ro_q u_is fun _ _ _ _ _ q => ⟨a, b, rfl, rfl, q⟩
/-- x is None, told -/
theorem ev_isN {b : Bool} (ha : Ev o ta σ G (tIs x)) (e : decide (x = .non) = b) : Ev o (tOp (fun x y H Q => y = .non ∧ Q (.bl (decide (x = .non))) H) ta (tC .non)) σ G (tIs (.bl b)) := by
  rw [← e]
  exact ev_op2 ha ev_k ro_isN
theorem ev_chain {r r' : R2} {a b : Bool} {z : V} {tc : TE} (ha : Ev o ta σ G (tIs x)) (hb : Ev o tb σ G (tIs y)) (hr : ∀ G', Ex G G' → RO o r x y G' (tIs (.bl a))) (hc : Ev o tc σ G (tIs z)) (hr' : ∀ G', Ex G G' → RO o r' y z G' (tIs (.bl b))) : Ev o (tChain r r' ta tb tc) σ G (tIs (.bl (a && b))) := fun G1 H1 e kn Q q =>
  ha G1 H1 e kn _ fun v1 G2 H2 g2 w2 => hb G2 H2 (e.trans g2.gg) g2.kn _ fun v2 G3 H3 g3 w3 => by
    rw [w2.eq, w3.eq]
    refine hr G3 ((e.trans g2.gg).trans g3.gg) G3 H3 (Ex.refl _) g3.kn _ fun v4 G4 H4 g4 w4 => ⟨a, w4.eq, ?_⟩
    have g := (g2.trans g3).trans g4
    cases a with
    | true =>
      refine hc G4 H4 (e.trans g.gg) g4.kn _ fun v5 G5 H5 g5 w5 => ?_
      rw [w5.eq]
      exact hr' G5 ((e.trans g.gg).trans g5.gg) G5 H5 (Ex.refl _) g5.kn Q fun v6 G6 H6 g6 w6 => q v6 G6 H6 ((g.trans g5).trans g6) w6
    | false => exact q _ G4 H4 g u_is
/-- a test and an item's value, told -/
theorem en_filt {wi : TI} {tt : TT} {j : Nat} {vs : List Nat} {P : PL} (f : V → V) (b : V → Bool) (hi : EvI o wi σ G P) (hw : ∀ x, wipe ((wipe σ vs).set j (some x)) vs = wipe σ vs)
    (hl : ∀ G' xs, Ex G G' → UP P G' xs → xs.length ≤ 100000) (ht : ∀ G' (xs : List V) (i : Nat) x, Ex G G' → UP P G' xs → xs[i]? = some x → EvT o tt ((wipe σ vs).set j (some x)) G' (· = b x))
    (he : ∀ G' (xs : List V) (i : Nat) x, Ex G G' → UP P G' xs → xs[i]? = some x → b x = true → Ev o te ((wipe σ vs).set j (some x)) G' (tIs (f x))) :
    EvN o (tLc wi (gName j) tt te vs) σ G (fun G' ys => ∃ xs, UP P G' xs ∧ ys = (xs.filter b).map f) := fun G1 H1 e kn Q q =>
  en_lc (fun xs i G' acc => acc = ((xs.take i).filter b).map f) hi hw (fun _ _ _ _ _ _ h => h) (fun G' xs e hP => ⟨hl G' xs e hP, rfl⟩) (fun G' xs i x acc e hP hx la r => by
    have hq : xs.take (i + 1) = xs.take i ++ [x] := by
      rw [List.take_succ, hx]; rfl
    refine ⟨_, ht G' xs i x e hP hx, fun hb G3 e3 => ⟨_, (he G' xs i x e hP hx hb.symm).up e3, fun G4 y e4 w4 => ?_⟩, fun hb G3 e3 => ?_⟩
    · rw [w4.eq, r, hq, List.filter_append, List.map_append, List.filter_cons, if_pos hb.symm]
      rfl
    · rw [r, hq, List.filter_append, List.map_append, List.filter_cons, if_neg (by rw [← hb]; simp)]
      simp) G1 H1 e kn Q fun p ys G2 H2 g2 hp h2 n2 w2 => by
    refine q p ys G2 H2 g2 hp h2 n2 fun G' e' => ?_
    obtain ⟨xs, hP, _, r⟩ := w2 G' e'
    rw [List.take_length] at r
    exact ⟨xs, hP, r⟩
/-- a text of at most n signs -/
def tStr (n : Nat) : T := fun _ v => ∃ z : Str, v = .str z ∧ z.length ≤ n
theorem u_str {n : Nat} {z : Str} {G : Hp} (h : z.length ≤ n) : U (tStr n) G (.str z) := fun _ _ => ⟨z, rfl, h⟩
/-- a known value, its text not too long -/
def Kv (K : PySem.W.Frag) (G : Hp) (v : V) : Prop := (∃ n, KT K G v n) ∧ ∀ z : Str, v = .str z → z.length ≤ 1000
def tKv (K : PySem.W.Frag) : T := fun G v => Kv K G v
theorem Kv.up {G' : Hp} (h : Kv K G v) (e : Ex G G') : Kv K G' v := ⟨let ⟨n, k⟩ := h.1; ⟨n, k.up e⟩, h.2⟩
theorem Kv.un (h : Kv K G v) : U (tKv K) G v := fun _ e => h.up e
theorem kv_str {z : Str} (h : z.length ≤ 1000) : Kv K G (.str z) := ⟨⟨_, .str z⟩, fun y e => by cases e; exact h⟩
theorem kv_non : Kv K G .non := ⟨⟨_, .non⟩, fun y e => by cases e⟩
theorem kv_bl {b : Bool} : Kv K G (.bl b) := ⟨⟨_, .bl b⟩, fun y e => by cases e⟩
theorem kv_int {i : Int} : Kv K G (.int i) := ⟨⟨_, .int i⟩, fun y e => by cases e⟩
theorem kv_lst {a : Addr} {xs : List V} (h : SqL K G a xs) : Kv K G (.ref a) := ⟨⟨_, .lst h⟩, fun y e => by cases e⟩
theorem kv_tup {a : Addr} {xs : List V} (h : SqT K G a xs) : Kv K G (.ref a) := ⟨⟨_, .tup h⟩, fun y e => by cases e⟩
theorem kv_dic {a : Addr} {kvs : List (Key × V)} (h : G a = some (.dK kvs)) : Kv K G (.ref a) := ⟨⟨_, .dic h⟩, fun y e => by cases e⟩
theorem ev_dnew : Ev o tDNewK σ G (fun G' v => ∃ d, v = .ref d ∧ G' d = some (.dK [])) := fun G1 H1 e kn Q q d hd => q _ _ _ (.new kn hd) fun G' e' => ⟨d, rfl, e' d _ upd_same⟩
/-- a display of one pair, both flat -/
theorem ev_disp1 {k : Key} {tk tv : TE} (hk : ∀ G', Ev o tk σ G' (tIs (kV k))) (hv : ∀ G', Ev o tv σ G' (tIs v)) : Ev o (tDisp [(tk, tv)]) σ G (fun G' d => ∃ a, d = .ref a ∧ G' a = some (.dK [(k, v)])) := fun G1 H1 e kn Q q p hp => by
  have gp : G1 p = none := Evl.fresh_back kn.sub hp
  have g1 : Go o G1 H1 G1 (upd H1 p (.dK [])) := .tmp kn hp
  have nb := kn.nbox hp
  refine hk G1 _ _ (Ex.refl _) g1.kn _ fun x G2 H2 g2 w2 => hv G2 G2 H2 (Ex.refl _) g2.kn _ fun y G3 H3 g3 w3 => ?_
  have g := (g1.trans g2).trans g3
  have h3 : H3 p = some (.dK []) := g3.kp p _ (g2.kp p _ upd_same nb) nb
  have n3 : G3 p = none := (g2.trans g3).nw p gp (by rw [upd_same]; simp)
  refine ⟨h3, [(k, v)], by rw [w2.eq, w3.eq]; rfl, (by show 1 ≤ 15; decide), q _ (upd G3 p (.dK [(k, v)])) _ ((g.mut hp n3 nb).fix hp upd_same n3 nb) fun G' e' => ⟨p, rfl, e' p _ upd_same⟩⟩
theorem ev_cb1 {r : List V → Hp → VK → Prop} (ha : Ev o ta σ G (tIs x)) (hr : ∀ G', Ex G G' → RC o r [x] G' t) : Ev o (tCB r (tCons ta tNil)) σ G t :=
  ev_cb (ea_cons ha ea_nil) fun G' vs e a => by
    cases a with
    | cons a1 a =>
      cases a
      rw [a1.eq]
      exact hr G' e
theorem EvN.impN {P P' : PL} (h : EvN o te σ G P) (k : ∀ G' xs, P G' xs → P' G' xs) : EvN o te σ G P' := fun G1 H1 e kn Q q => h G1 H1 e kn Q fun p xs G2 H2 g2 hp h2 n2 w2 => q p xs G2 H2 g2 hp h2 n2 fun G' e' => k G' xs (w2 G' e')
/-- two names at once: a known value and a list of one's own -/
theorem q_par1N {Ge He H : Hp} {D : Ends} {tz : TS} {i j : Nat} {P : PL} (g : Go o Ge He G H) (h1 : Ev o ta σ G t) (h2 : EvN o tb σ G P)
    (k : ∀ v p xs G2 H2, Go o Ge He G2 H2 → Go o G H G2 H2 → U t G2 v → He p = none → o ≠ some p → H2 p = some (.lst xs) → G2 p = none → UP P G2 xs → tz D ((σ.set i (some v)).set j (some (.ref p))) H2) :
    tSeq (tPar i j (tCons ta (tCons tb tNil))) tz D σ H :=
  h1 G H (Ex.refl _) g.kn _ fun v G2 H2 g2 w2 => h2 G2 H2 g2.gg g2.kn _ fun p xs G3 H3 g3 hp h3 n3 w3 => ⟨v, .ref p, rfl, k v p xs G3 H3 (g.trans (g2.trans g3)) (g2.trans g3) (w2.up g3.gg) ((g.trans g2).fresh hp) (g2.kn.nbox hp) h3 n3 w3⟩
/-! ### lists, known or one's own -/
def EvQ (o : Option Addr) (te : TE) (σ : L2.St) (G : Hp) (P : PL) : Prop := ∀ G1 H1, Ex G G1 → Kn o G1 H1 → ∀ Q : VK, (∀ p xs G2 H2, Go o G1 H1 G2 H2 → o ≠ some p → H2 p = some (.lst xs) → UP P G2 xs → Q (.ref p) H2) → te σ H1 Q
theorem EvN.q {P : PL} (h : EvN o te σ G P) : EvQ o te σ G P := fun G1 H1 e kn Q q => h G1 H1 e kn Q fun p xs G2 H2 g2 hp h2 n2 w2 => q p xs G2 H2 g2 (kn.nbox hp) h2 w2
theorem Kn.gbox {H : Hp} (kn : Kn o G H) {p : Addr} {z : HO} (h : G p = some z) : o ≠ some p := fun e => by
  rw [(kn.box p e).2] at h
  cases h
theorem Ev.q {P : PL} (h : Ev o te σ G t) (k : ∀ G' v, Ex G G' → U t G' v → ∃ a xs, v = .ref a ∧ G' a = some (.lst xs) ∧ UP P G' xs) : EvQ o te σ G P := fun G1 H1 e kn Q q => h G1 H1 e kn Q fun v G2 H2 g2 w2 => by
  obtain ⟨a, xs, rfl, ha, hp⟩ := k G2 v (e.trans g2.gg) w2
  exact q a xs G2 H2 g2 (g2.kn.gbox ha) (g2.kn.sub _ _ ha) hp
theorem en_catQ {P P' P2 : PL} (ha : EvQ o ta σ G P) (hb : EvQ o tb σ G P') (hl : ∀ G' xs, UP P G' xs → xs.length ≤ 50000) (hl2 : ∀ G' xs, UP P' G' xs → xs.length ≤ 50000) (hP : ∀ G' xs ys, UP P G' xs → UP P' G' ys → UP P2 G' (xs ++ ys)) : EvN o (tOp (rAddG K) ta tb) σ G P2 := fun G1 H1 e kn Q q =>
  ha G1 H1 e kn _ fun p xs G2 H2 g2 hob h2 w2 => hb G2 H2 (e.trans g2.gg) g2.kn _ fun p' ys G3 H3 g3 hob' h3 w3 => by
    have h2' := g3.kp p _ h2 hob
    have g := g2.trans g3
    have l1 := hl G2 xs w2
    have l2 := hl2 G3 ys w3
    exact .inr (.inr (.inl ⟨p, p', xs, ys, rfl, rfl, h2', h3, Evl.sz_of (by omega), fun d hd => q d _ G3 _ (g.trans (.tmp g3.kn hd)) (g.fresh hd) upd_same (Evl.fresh_back g3.kn.sub hd) (hP G3 xs ys (w2.up g3.gg) w3)⟩))
theorem len_app (a b : Str) : (a ++ b).length = a.length + b.length := by
  show (a.cps ++ b.cps).size = _
  rw [Array.size_append]
  rfl
theorem len_join (y : Str) : ∀ ps : List Str, (Str.join y ps).length ≤ (ps.map (·.length)).sum + ps.length * y.length
  | [] => Nat.zero_le _
  | [x] => by
    show x.length ≤ x.length + 0 + 1 * y.length
    omega
  | x :: z :: r => by
    have ih := len_join y (z :: r)
    show (x ++ y ++ Str.join y (z :: r)).length ≤ _
    rw [len_app, len_app, List.map_cons, List.sum_cons, List.length_cons, Nat.succ_mul]
    omega
theorem sum_le {ps : List Str} {m : Nat} (h : ∀ p ∈ ps, p.length ≤ m) : (ps.map (·.length)).sum ≤ ps.length * m := by
  induction ps with
  | nil => exact Nat.zero_le _
  | cons x r ih =>
    have h1 := h x (List.mem_cons_self ..)
    have h2 := ih fun p hp => h p (List.mem_cons_of_mem _ hp)
    rw [List.map_cons, List.sum_cons, List.length_cons, Nat.succ_mul]
    omega
theorem strs_of {n : Nat} {xs : List V} (h : ∀ x ∈ xs, ∃ z : Str, x = .str z ∧ z.length ≤ n) : ∃ ys : List Str, xs = ys.map V.str ∧ ∀ y ∈ ys, y.length ≤ n := by
  induction xs with
  | nil => exact ⟨[], rfl, fun _ h => nomatch h⟩
  | cons x r ih =>
    obtain ⟨z, rfl, hz⟩ := h x (List.mem_cons_self ..)
    obtain ⟨ys, rfl, hy⟩ := ih fun p hp => h p (List.mem_cons_of_mem _ hp)
    exact ⟨z :: ys, rfl, fun y hy' => by
      rcases List.mem_cons.mp hy' with rfl | h'
      · exact hz
      · exact hy y h'⟩
def rJoin (K : PySem.W.Frag) : V → List V → Hp → VK → Prop := fun x xs H Q => ∃ a p, ∃ ys : List Str, x = .str a ∧ xs = [.ref p] ∧ (SqL K H p (ys.map V.str) ∨ SqT K H p (ys.map V.str)) ∧
      (ys.map (·.length)).sum + ys.length * a.length ≤ 16777216 ∧ Q (.str (Txt.join a ys)) H
/-- ''.join of few short texts -/
theorem ev_join {n m : Nat} (ha : Ev o ta σ G (tIs (.str ""))) (hb : EvN o te σ G fun G' xs => xs.length ≤ n ∧ ∀ x ∈ xs, U (tStr m) G' x) (hn : n * m ≤ 100000) : Ev o (tM1 (rJoin K) ta te) σ G (tStr (n * m)) := fun G1 H1 e kn Q q =>
  ha G1 H1 e kn _ fun v G2 H2 g2 w2 => ⟨⟨_, w2.eq⟩, hb G2 H2 (e.trans g2.gg) g2.kn _ fun p xs G3 H3 g3 hp h3 n3 w3 => by
    obtain ⟨hl, hx⟩ := w3.now
    obtain ⟨ys, rfl, hy⟩ := strs_of fun x h => (hx x h).now
    rw [List.length_map] at hl
    have s1 := sum_le hy
    have s2 : ys.length * m ≤ n * m := Nat.mul_le_mul_right m hl
    have z0 : (("" : Str)).length = 0 := by decide +kernel
    refine ⟨"", p, ys, w2.eq, rfl, .inl (.of h3), by rw [z0, Nat.mul_zero]; omega, q _ G3 H3 (g2.trans g3) (u_str ?_)⟩
    rw [TL.join_eq]
    have := len_join "" ys
    rw [z0, Nat.mul_zero] at this
    omega⟩
theorem ev_upper {z : Str} (ha : Ev o ta σ G (tIs (.str z))) (hz : z.length ≤ 100000) : Ev o (tM0 (fun x xs H Q => ∃ a, x = .str a ∧ xs = [] ∧ a.length ≤ 5592405 ∧ Q (.str (Txt.upper a)) H) ta) σ G (tIs (.str (Txt.upper z))) := fun G1 H1 e kn Q q =>
  ha G1 H1 e kn _ fun v G2 H2 g2 w2 => ⟨⟨_, w2.eq⟩, z, w2.eq, rfl, by omega, q _ G2 H2 g2 u_is⟩
theorem Go.unbox {Ge He G2 H2 G3 H3 : Hp} {p : Addr} (a : Go none Ge He G2 H2) (hp : He p = none) (b : Go (some p) G2 H2 G3 H3) : Go none Ge He G3 H3 where
  gg := a.gg.trans b.gg
  kn := b.kn.pure
  kp := fun x y h _ => b.kp x y (a.kp x y h (by simp)) (fun z => by cases z; rw [hp] at h; cases h)
  nw := fun x g h => by
    cases e : He x with
    | none => exact absurd e h
    | some y => exact b.nw x (a.nw x g h) (by rw [a.kp x y e (by simp)]; simp)
end
/-! ### the top's facts -/
theorem df_mk {K : PySem.W.Frag} {h : Heap} {mg : Str → Option Value} {x : Str} {st : Stmt} {f : Addr} {oc : Value} {od an : Option Addr} {osl : Array (Option Value)} {kV doc pm cdv ct : Value} (X : K.In h) (G : h.Ns mainGlobals mg)
    (a : PySem.W.nsIn K mainGlobals x = some (some (.ref f))) (l : K.lookup f = some ⟨oc, od, .func (PySem.W.fnOf x x (defArgs st) (defBody st) (defScope st) .none kV doc pm an cdv ct), osl⟩)
    (c : PySem.W.codeIn K cdv x = true) (k : PySem.W.keepIn K (.ref f) = true) : Df K mg x st := ⟨f, _, fun_mk l c k, PySem.W.mg_of X G a⟩
theorem gl_mk {K : PySem.W.Frag} {h : Heap} {mg : Str → Option Value} {x : Str} {v : V} {u : Value} (X : K.In h) (G : h.Ns mainGlobals mg) (a : PySem.W.nsIn K mainGlobals x = some (some u)) (r : RelV v u) : ∃ u, mg x = some u ∧ RelV v u := ⟨u, PySem.W.mg_of X G a, r⟩
end Ty
set_option Elab.async false
set_option linter.all false
set_option maxRecDepth 100000
set_option maxHeartbeats 4000000
namespace K01
open PySem L2 Ty
open Evl (Ex ex_l ex_t)
def top (i : Nat) : Stmt := PySem.Challenge.pw_onetalk_k01_names.main.body.getD i (.Pass ⟨0, 0, 0, 0⟩)
abbrev s__law_box : Stmt := top 7
theorem sc__law_box : FnScope ["great"] ["great"] (defScope s__law_box) := ⟨rfl, rfl, rfl, by decide +kernel, rfl, by decide +kernel, by decide +kernel⟩
theorem pb__law_box : PosB "_law_box" s__law_box ["great"] := fun _ _ _ _ _ _ us hl => match us, hl with | [_], _ => rfl
abbrev s__law_take : Stmt := top 8
theorem sc__law_take : FnScope ["box", "many", "digit"] ["box", "many"] (defScope s__law_take) := ⟨rfl, rfl, rfl, by decide +kernel, rfl, by decide +kernel, by decide +kernel⟩
theorem pb__law_take : PosB "_law_take" s__law_take ["box", "many"] := fun _ _ _ _ _ _ us hl => match us, hl with | [_, _], _ => rfl
abbrev s__law_cell : Stmt := top 9
theorem sc__law_cell : FnScope ["script", "k"] ["script", "k"] (defScope s__law_cell) := ⟨rfl, rfl, rfl, by decide +kernel, rfl, by decide +kernel, by decide +kernel⟩
theorem pb__law_cell : PosB "_law_cell" s__law_cell ["script", "k"] := fun _ _ _ _ _ _ us hl => match us, hl with | [_, _], _ => rfl
abbrev s__law_mixed : Stmt := top 11
theorem sc__law_mixed : FnScope ["box", "items", "left", "found"] ["box", "items"] (defScope s__law_mixed) := ⟨rfl, rfl, rfl, by decide +kernel, rfl, by decide +kernel, by decide +kernel⟩
theorem pb__law_mixed : PosB "_law_mixed" s__law_mixed ["box", "items"] := fun _ _ _ _ _ _ us hl => match us, hl with | [_, _], _ => rfl
abbrev s__law_same : Stmt := top 10
theorem sc__law_same : FnScope ["told", "due", "key", "k"] ["told", "due"] (defScope s__law_same) := ⟨rfl, rfl, rfl, by decide +kernel, rfl, by decide +kernel, by decide +kernel⟩
theorem pb__law_same : PosB "_law_same" s__law_same ["told", "due"] := fun _ _ _ _ _ _ us hl => match us, hl with | [_, _], _ => rfl
/-- what the walk asks of the top's names -/
structure Txt (K : PySem.W.Frag) (mg : Str → Option Value) : Prop where
  n_isinstance : mg "isinstance" = none
  n_str : mg "str" = none
  n_bool : mg "bool" = none
  n_int : mg "int" = none
  n_list : mg "list" = none
  n_tuple : mg "tuple" = none
  n_dict : mg "dict" = none
  n_len : mg "len" = none
  n_all : mg "all" = none
  n_abs : mg "abs" = none
  n_sum : mg "sum" = none
  n_max : mg "max" = none
  n_min : mg "min" = none
  n_range : mg "range" = none
section
variable {P : Program} {w : World} {K : PySem.W.Frag} {mg : Str → Option Value} {base : Heap}
/-! ### the drawer -/
def pBox : PL := fun _ xs => ∃ (n : Int) (g : Bool) (r c : Int), xs = [.int n, .bl g, .int r, .int c]
def cBox (o : Option Addr) (G : Hp) (vs : List V) (p : PL) : Prop := o = none ∧ ∃ n : Int, vs = [.int n] ∧ p = pBox
theorem rc_int {o : Option Addr} {G : Hp} {ta : TA} {σ : L2.St} {n : Int} (ha : EvA o ta σ G [tIs (.int n)]) {r : List V → Hp → VK → Prop} {z : V} (h : ∀ H (Q : VK), Q z H → r [.int n] H Q) : Ev o (tCB r ta) σ G (tIs z) :=
  ev_cb ha fun G' vs e a => by
    cases a with
    | cons a b =>
      cases b
      rw [a.eq]
      exact rc_q u_is fun G1 H1 e kn Q q => h H1 Q q
theorem ok_box (T : Txt K mg) (d : Df K mg "_law_box" s__law_box) : Own P w K mg base CX0 1 "_law_box" s__law_box ["great"] (spN cBox) :=
  d.own fun f fd F => F.ok sc__law_box (fun vs H Q E h => by obtain ⟨o, G, p, kn, ⟨_, n, rfl, _⟩, _⟩ := h; rfl) (fun cdv A outer s H vs Q E hr h => by
    obtain ⟨o, G, p, kn, ⟨rfl, n, rfl, rfl⟩, k⟩ := h
    refine ⟨_, (pss_one (ps_ret (pe_lst (pa_cons (pe_callB call_abs (by rfl) T.n_abs (by decide +kernel) (pa_cons (pv 0) pa_nil)) (pa_cons (pe_cmpR op_ge (pe_callB call_abs (by rfl) T.n_abs (by decide +kernel) (pa_cons (pv 0) pa_nil)) (pe_op op_pow pe_int pe_int) (nomark _)) (pa_cons (pe_op op_mod (pe_callTy call_int1 (by rfl) T.n_int (by decide +kernel) (pa_cons (pe_callB call_abs (by rfl) T.n_abs (by decide +kernel) (pa_cons (pv 0) pa_nil)) pa_nil)) pe_int) (pa_cons pe_int pa_nil))))))), ?_⟩
    have g0 := Go.refl kn
    have ab : ∀ G', Ev none (tCB (fun xs H Q => ∃ i, xs = [.int i] ∧ Q (.int (if i < 0 then -i else i)) H) (tCons (tVar 0) tNil)) (start ["great"] [.int n]) G' (tIs (.int (if n < 0 then -n else n))) := fun G' =>
      rc_int (ea_cons (ev_x rfl) ea_nil) fun H Q q => ⟨n, rfl, q⟩
    refine s_retN g0 (en_lst (ea_cons (ab _) (ea_cons (ev_op2 (ab _) (ev_op2 ev_k ev_k (ro_I ⟨by decide, by decide, by decide⟩)) ro_I0)
      (ea_cons (ev_op2 (rc_int (ea_cons (ab _) ea_nil) fun H Q q => .inl ⟨_, rfl, q⟩) ev_k (ro_I (by decide))) (ea_cons ev_k ea_nil)))) (by show 4 ≤ 100000; decide)) fun p xs G2 H2 g2 hp h2 n2 w2 => k p xs G2 H2 g2 hp h2 n2 fun G' e' => ?_
    have a := w2 G' e'
    cases a with
    | cons a1 a => cases a with
      | cons a2 a => cases a with
        | cons a3 a => cases a with
          | cons a4 a =>
            cases a
            exact ⟨_, _, _, _, by rw [a1.eq, a2.eq, a3.eq, a4.eq]⟩)
def tRng (lo hi : Int) : T := fun _ v => ∃ i : Int, v = .int i ∧ lo ≤ i ∧ i < hi
def tInt : T := fun _ v => ∃ i : Int, v = .int i
def cTake (o : Option Addr) (G : Hp) (vs : List V) (t : T) : Prop := ∃ (b : Addr) (n : Int), o = some b ∧ vs = [.ref b, .int n] ∧ (0 < n ∧ n < 1073741824) ∧ t = tRng 0 n
theorem go_set {b : Addr} {G H : Hp} (kn : Kn (some b) G H) {n : Int} {g : Bool} {r c : Int} : Go (some b) G H G (upd H b (.lst [.int n, .bl g, .int r, .int c])) := by
  have gb : G b = none := (kn.box b rfl).2
  refine ⟨Ex.refl G, ⟨fun a x h => ?_, fun a e => ?_⟩, fun a x h e => ?_, fun a h _ => h⟩
  · rw [upd_ne (fun z => by rw [z, gb] at h; cases h)]; exact kn.sub a x h
  · cases e; exact ⟨⟨n, g, r, c, upd_same⟩, gb⟩
  · rw [upd_ne (fun z => e (by rw [z]))]; exact h
theorem at0 {a b c d : V} : atI [a, b, c, d] (0 : Int) = some a := atI_nat (j := 0) rfl
theorem at1 {a b c d : V} : atI [a, b, c, d] (1 : Int) = some b := atI_nat (j := 1) rfl
theorem at2 {a b c d : V} : atI [a, b, c, d] (2 : Int) = some c := atI_nat (j := 2) rfl
theorem at3 {a b c d : V} : atI [a, b, c, d] (3 : Int) = some d := atI_nat (j := 3) rfl
theorem ok_take (T : Txt K mg) (d : Df K mg "_law_take" s__law_take) : Own P w K mg base CX0 1 "_law_take" s__law_take ["box", "many"] (spC cTake) :=
  d.own fun f fd F => F.ok sc__law_take (fun vs H Q E h => by obtain ⟨o, G, p, kn, ⟨b, n, _, rfl, _⟩, _⟩ := h; rfl) (fun cdv A outer s H vs Q E hr h => by
    obtain ⟨o, G, p, kn, ⟨b, n, rfl, rfl, ⟨h0, h1⟩, rfl⟩, k⟩ := h
    refine ⟨_, (pss_cons (ps_if (PW.pt (pw_and (pt_val (pe_ix (kIx (K := K) rfl) (pv 0) pe_int (fun _ _ => rfl))) (pw_and1 (pt_cmpR op_gt (pe_ix (kIx (K := K) rfl) (pv 0) pe_int (fun _ _ => rfl)) pe_int (nomark _))))) (pss_cons (ps_set (i := 2) sc__law_take.nd rfl (Or.inl rfl) (pe_op op_mod (pe_callTy call_int1 (by rfl) T.n_int (by decide +kernel) (pa_cons (pe_ix (kIx (K := K) rfl) (pv 0) pe_int (fun _ _ => rfl)) pa_nil)) (pv 1)))
   (pss_cons (ps_asg (pe_op op_fdiv (pe_callTy call_int1 (by rfl) T.n_int (by decide +kernel) (pa_cons (pe_ix (kIx (K := K) rfl) (pv 0) pe_int (fun _ _ => rfl)) pa_nil)) (pv 1)) (pg_sub (pv 0) pe_int set_list))
   (pss_one (ps_ret (pv 2))))) pss_nil)
   (pss_cons (ps_asg (pe_op (kAdd (K := K) rfl) (pe_ix (kIx (K := K) rfl) (pv 0) pe_int (fun _ _ => rfl)) pe_int) (pg_sub (pv 0) pe_int set_list))
   (pss_cons (ps_asg (pe_op op_mod (pe_op (kAdd (K := K) rfl) (pe_op (kAdd (K := K) rfl) (pe_op gMul (pe_ix (kIx (K := K) rfl) (pv 0) pe_int (fun _ _ => rfl)) pe_int) (pe_op gMul pe_int (pe_ix (kIx (K := K) rfl) (pv 0) pe_int (fun _ _ => rfl)))) pe_int) pe_int) (pg_sub (pv 0) pe_int set_list))
   (pss_one (ps_ret (pe_op op_mod (pe_op op_fdiv (pe_ix (kIx (K := K) rfl) (pv 0) pe_int (fun _ _ => rfl)) pe_int) (pv 1))))))), ?_⟩
    obtain ⟨⟨m, g, r, c, hb⟩, gb⟩ := kn.box b rfl
    have ix : ∀ {H' : Hp} {m g r c v : V} {i : Int} {Q : VK}, H' b = some (.lst [m, g, r, c]) → atI [m, g, r, c] i = some v → Q v H' → rIx K (.ref b) (.int i) H' Q := fun h1 h2 q => .inl ⟨b, _, _, _, rfl, rfl, .of h1, h2, q⟩
    have rest : ∀ r c (q : Q (.int ((r * 69621 + 1329 * (c + 1) + 19) % 2147483629 / 64 % n)) (upd (upd H b (.lst [.int m, .bl g, .int r, .int (c + 1)])) b (.lst [.int m, .bl g, .int ((r * 69621 + 1329 * (c + 1) + 19) % 2147483629), .int (c + 1)]))), True := fun _ _ _ => trivial
    have fin : Q (.int ((r * 69621 + 1329 * (c + 1) + 19) % 2147483629 / 64 % n)) (upd (upd H b (.lst [.int m, .bl g, .int r, .int (c + 1)])) b (.lst [.int m, .bl g, .int ((r * 69621 + 1329 * (c + 1) + 19) % 2147483629), .int (c + 1)])) :=
      k _ G _ (by rw [upd_upd]; exact go_set kn) fun G' e' => ⟨_, rfl, Int.emod_nonneg _ (by omega), Int.emod_lt_of_pos _ h0⟩
    have tail : (tSeq (tAsg (tOp (rAddG K) (tOp (rIx K) (tVar 0) (tC (.int 3))) (tC (.int 1))) (gSub (tVar 0) (tC (.int 3)) rSetL))
      (tSeq (tAsg (tOp (rI (fun _ j => 0 < j) fun i j => .int (i % j)) (tOp (rAddG K) (tOp (rAddG K) (tOp rMulG (tOp (rIx K) (tVar 0) (tC (.int 2))) (tC (.int 69621))) (tOp rMulG (tC (.int 1329)) (tOp (rIx K) (tVar 0) (tC (.int 3))))) (tC (.int 19))) (tC (.int 2147483629))) (gSub (tVar 0) (tC (.int 2)) rSetL))
        (tRet (tOp (rI (fun _ j => 0 < j) fun i j => .int (i % j)) (tOp (rI CDiv fun i j => .int (i / j)) (tOp (rIx K) (tVar 0) (tC (.int 2))) (tC (.int 64))) (tVar 1))))) { nx := fun _ H' => Q .non H', rt := Q } (start ["box", "many", "digit"] [.ref b, .int n]) H := by
      refine ⟨_, rfl, ix hb at3 (.inl ⟨c, 1, rfl, rfl, _, rfl, b, _, 3, 3, rfl, rfl, hb, rfl, ?_⟩)⟩
      refine ⟨_, rfl, ix upd_same at2 (.inl ⟨r, 69621, rfl, rfl, .inr ⟨by decide, by decide⟩, _, rfl, ix upd_same at3 (.inl ⟨1329, c + 1, rfl, rfl, .inl ⟨by decide, by decide⟩, .inl ⟨_, _, rfl, rfl, .inl ⟨_, 19, rfl, rfl, _, 2147483629, rfl, rfl, (show (0 : Int) < 2147483629 by decide), _, rfl, b, _, 2, 2, rfl, rfl, upd_same, rfl, ?_⟩⟩⟩)⟩)⟩
      exact ⟨_, rfl, ix upd_same at2 ⟨_, 64, rfl, rfl, ⟨by decide, by decide⟩, _, rfl, _, n, rfl, rfl, h0, fin⟩⟩
    refine ⟨_, rfl, ix hb at1 ⟨g, rfl, ?_⟩⟩
    cases g with
    | false => exact iteF (iteF tail)
    | true =>
      refine iteT ⟨_, rfl, ix hb at0 ⟨m, 0, rfl, rfl, _, rfl, ite2 (fun hm => ?_) fun hm => tail⟩⟩
      refine ⟨_, rfl, ix hb at0 (.inl ⟨m, rfl, _, rfl, m, n, rfl, rfl, h0, ?_⟩)⟩
      refine ⟨_, rfl, ix hb at0 (.inl ⟨m, rfl, _, rfl, m, n, rfl, rfl, ⟨h0, h1⟩, _, rfl, b, _, 0, 0, rfl, rfl, hb, rfl, ?_⟩)⟩
      exact ⟨_, rfl, k _ G _ (go_set kn) fun G' e' => ⟨_, rfl, Int.emod_nonneg _ (by omega), Int.emod_lt_of_pos _ h0⟩⟩)
def cCell (K : PySem.W.Frag) (o : Option Addr) (G : Hp) (vs : List V) (t : T) : Prop := o = none ∧ ∃ (a : Addr) (ns : List Int) (k : Int), vs = [.ref a, .int k] ∧ SqL K G a (ns.map V.int) ∧ (0 ≤ k ∧ k < 1000) ∧ t = tInt
theorem cut_ints (ns : List Int) (lo hi : Option Int) : cutV (ns.map V.int) lo hi = ((ns.drop (HT.sIx ns.length 0 lo)).take (HT.sIx ns.length ns.length hi - HT.sIx ns.length 0 lo)).map V.int := by
  unfold cutV
  rw [List.length_map, ← List.map_drop, ← List.map_take]
theorem ok_cell (T : Txt K mg) (d : Df K mg "_law_cell" s__law_cell) : Own P w K mg base CX0 1 "_law_cell" s__law_cell ["script", "k"] (spC (cCell K)) :=
  d.own fun f fd F => F.ok sc__law_cell (fun vs H Q E h => by obtain ⟨o, G, p, kn, ⟨_, a, ns, k, rfl, _⟩, _⟩ := h; rfl) (fun cdv A outer s H vs Q E hr h => by
    obtain ⟨o, G, p, kn, ⟨rfl, a, ns, kk, rfl, hs, ⟨h0, h1⟩, rfl⟩, k⟩ := h
    refine ⟨_, (pss_one (ps_ret (pe_ifExp (pt_cmpR gLt (pv 1) (pe_callB (kLen (K := K) rfl) (by rfl) T.n_len (by decide +kernel) (pa_cons (pv 0) pa_nil)) (nomark _)) (pe_ix (kIx (K := K) rfl) (pv 0) (pv 1) (fun _ _ => rfl)) (pe_op (kAdd (K := K) rfl) (pe_op gMul pe_int (pv 1)) (pe_op op_mod (pe_callB (kSum (K := K) rfl rfl) (by rfl) T.n_sum (by decide +kernel) (pa_cons (pe_slice (kSl (K := K) rfl) (pv 0) po_none (po_some pe_int)) pa_nil)) pe_int))))), ?_⟩
    have g0 := Go.refl kn
    refine s_ret (t := tInt) g0 (ev_if (p := (· = decide (kk < ns.length))) (et_test (ev_op2 (ev_x rfl) (ev_cb (ea_cons (ev_x rfl) ea_nil) fun G' vs e x => ?_) ro_I0)) (fun hk => ?_) (fun _ => ?_)) fun v G2 H2 g2 w2 => k v G2 H2 g2 w2
    · cases x with
      | cons x y =>
        cases y
        rw [x.eq]
        have := rc_lenL (o := none) (ex_l e hs)
        rw [List.length_map] at this
        exact this
    · have hk : kk < ns.length := of_decide_eq_true hk.symm
      have hj : kk.toNat < ns.length := by omega
      refine (ev_op2 (ev_x rfl) (ev_x rfl) (ro_ixL (v := .int ns[kk.toNat]) hs ?_)).imp fun G' v _ w => w.imp fun _ _ e => ⟨_, e⟩
      have e : kk = ((kk.toNat : Nat) : Int) := by omega
      exact at_of e (by rw [List.getElem?_map, List.getElem?_eq_getElem hj]; rfl)
    · refine ev_op (s := tInt) (u := tInt) ((ev_op2 ev_k (ev_x rfl) (ro_mulI (.inl ⟨by decide, by decide⟩))).imp fun G' v _ w => w.imp fun _ _ e => ⟨_, e⟩)
        (ev_op (s := tInt) (u := tIs (.int 1000033)) ?_ ev_k fun G' x y _ hx hy => ?_) fun G' x y _ hx hy => ?_
      · have hn : EvN none (tSl (rSlG K) (tVar 0) tNoPart (tPart (tC (.int 1)))) (start ["script", "k"] [.ref a, .int kk]) G (fun _ xs => ∃ ms : List Int, xs = ms.map V.int) :=
          en_slL (t := tIs (.ref a)) (P' := fun _ xs => xs = ns.map V.int) (ev_x rfl) (fun G' v e w => ⟨a, _, w.eq, ex_l e hs, fun _ _ => rfl⟩) eo_none (eo_some ev_k) fun G' xs e => by
            subst e
            exact ⟨_, cut_ints ns none (some 1)⟩
        have hv : Ev none (tSl (rSlG K) (tVar 0) tNoPart (tPart (tC (.int 1)))) (start ["script", "k"] [.ref a, .int kk]) G (fun G' v => ∃ (a : Addr) (ms : List Int), v = .ref a ∧ G' a = some (.lst (ms.map V.int))) :=
          hn.ev fun G' a xs e ha hp => by
            obtain ⟨ms, rfl⟩ := hp.now
            exact ⟨a, ms, rfl, ha⟩
        refine ev_cb (ea_cons hv ea_nil) fun G' vs e x => ?_
        cases x with
        | cons x y =>
          cases y
          obtain ⟨a, ms, rfl, ha⟩ := x.now
          refine rc_q (z := .int ms.sum) (fun _ _ => ⟨_, rfl⟩) fun G1 H1 e1 kn1 Q q => ⟨a, ms, rfl, .of (kn1.sub _ _ (e1 _ _ ha)), q⟩
      · obtain ⟨i, rfl⟩ := hx.now
        rw [hy.eq]
        exact ro_q (z := .int (i % 1000033)) (fun _ _ => ⟨_, rfl⟩) fun _ _ _ _ _ q => ⟨i, 1000033, rfl, rfl, (show (0 : Int) < 1000033 by decide), q⟩
      · obtain ⟨i, rfl⟩ := hx.now
        obtain ⟨j, rfl⟩ := hy.now
        exact ro_q (z := .int (i + j)) (fun _ _ => ⟨_, rfl⟩) fun _ _ _ _ _ q => .inl ⟨i, j, rfl, rfl, q⟩)
def cMixed (K : PySem.W.Frag) (o : Option Addr) (G : Hp) (vs : List V) (p : PL) : Prop := ∃ (b a : Addr) (xs : List V), o = some b ∧ vs = [.ref b, .ref a] ∧ SqL K G a xs ∧ xs.length ≤ 1000 ∧ p = fun _ ys => ys.Perm xs
theorem perm_erase {α : Type} : ∀ {ys : List α} {k : Nat} {y : α}, ys[k]? = some y → (y :: ys.eraseIdx k).Perm ys
  | [], _, _, h => by cases h
  | z :: r, 0, y, h => by
    cases h
    exact .refl _
  | z :: r, k + 1, y, h => by
    have ih := perm_erase (ys := r) (k := k) (y := y) h
    exact (List.Perm.swap z y _).trans (ih.cons z)
theorem perm_pop {α : Type} {xs ys zs : List α} {k : Nat} {y : α} (h : (zs ++ ys).Perm xs) (e : ys[k]? = some y) : ((zs ++ [y]) ++ ys.eraseIdx k).Perm xs := by
  refine List.Perm.trans ?_ h
  rw [List.append_assoc]
  refine List.Perm.append_left zs ?_
  exact perm_erase e
theorem ok_mixed (T : Txt K mg) (d : Df K mg "_law_mixed" s__law_mixed) (G__law_take : Own P w K mg base CX0 1 "_law_take" s__law_take ["box", "many"] (spC cTake)) : Own P w K mg base CX0 2 "_law_mixed" s__law_mixed ["box", "items"] (spN (cMixed K)) :=
  d.own fun f fd F => F.ok sc__law_mixed (fun vs H Q E h => by obtain ⟨o, G, p, kn, ⟨b, a, xs, _, rfl, _⟩, _⟩ := h; rfl) (fun cdv A outer s H vs Q E hr h => by
    obtain ⟨o, G, p, kn, ⟨b, a, xs, rfl, rfl, hs, hx, rfl⟩, k⟩ := h
    refine ⟨_, (pss_cons (ps_par (i := 2) (j := 3) (by rfl) sc__law_mixed.nd rfl rfl (by decide) rfl rfl (pa_cons (pe_callTy (kList (K := K) rfl) (by rfl) T.n_list (by decide +kernel) (pa_cons (pv 1) pa_nil)) (pa_cons (pe_lst pa_nil) pa_nil)) (by rfl))
   (pss_cons (ps_while PassesOwn.never (pt_cmpR (kNe (K := K) rfl hr.units) (pv 2) (pe_lst pa_nil) (nomark _)) (pss_one (ps_expr (pe_bm PySem.F.plainAttrs_list PySem.F.slot_list_append PySem.F.type_list_append mt_append (pv 3) (pa_cons (pe_bm PySem.F.plainAttrs_list PySem.F.slot_list_pop PySem.F.type_list_pop mt_popAt (pv 2) (pa_cons (pe_own G__law_take pb__law_take (hr.mono (by first | decide | exact Nat.le_refl _)) rfl pass0 (pa_cons (pv 0) (pa_cons (pe_callB (kLen (K := K) rfl) (by rfl) T.n_len (by decide +kernel) (pa_cons (pv 2) pa_nil)) pa_nil))) pa_nil)) pa_nil)))))
   (pss_one (ps_ret (pv 3))))), ?_⟩
    refine ⟨.ref a, rfl, a, xs, rfl, .inl (ex_l kn.sub hs), fun l hl => ⟨Nat.zero_le _, fun p hp => ⟨_, _, rfl, ?_⟩⟩⟩
    have g1 : Go (some b) G H G (upd H l (.lst xs)) := .tmp kn hl
    have g2 : Go (some b) G H G (upd (upd H l (.lst xs)) p (.lst [])) := g1.trans (.tmp g1.kn hp)
    have npl : p ≠ l := fun e => by rw [e, upd_same] at hp; cases hp
    have nbl : some b ≠ some l := kn.nbox hl
    have nbp : some b ≠ some p := g1.kn.nbox hp
    have hp0 : H p = none := by rw [upd_ne npl] at hp; exact hp
    refine q_whileA g2 (fun m σ' G' H' => ∃ ys zs : List V, σ' = [some (.ref b), some (.ref a), some (.ref l), some (.ref p)] ∧ G' l = none ∧ G' p = none ∧ H' l = some (.lst ys) ∧ H' p = some (.lst zs) ∧ (zs ++ ys).Perm xs ∧ m = ys.length) xs.length
      ⟨xs, [], rfl, Evl.fresh_back kn.sub hl, Evl.fresh_back kn.sub hp0, by rw [upd_ne npl.symm, upd_same], upd_same, .refl _, rfl⟩ fun m σ' G' H' g' e' i => ?_
    obtain ⟨ys, zs, rfl, gl, gp, hl', hp', pm, rfl⟩ := i
    have lz : zs.length ≤ 1000 := by
      have := pm.length_eq
      rw [List.length_append] at this
      omega
    have ly : ys.length ≤ 1000 := by
      have := pm.length_eq
      rw [List.length_append] at this
      omega
    refine ⟨(· = !ys.isEmpty), fun Q2 q2 => ⟨.ref l, rfl, Nat.zero_le _, fun c hc => .inr (.inl ⟨l, c, ys, rfl, rfl, .of (by rw [upd_ne (ne_of_none hl' hc)]; exact hl'), .of upd_same, _, rfl, q2 _ G' _ (.tmp g'.kn hc) rfl⟩)⟩, fun hb G1 H1 g1' g1 => ?_, fun hb G1 H1 g1' g1 => ?_⟩
    · have hl1 := g1.kp l _ hl' nbl
      have hp1 := g1.kp p _ hp' nbp
      have hpos : 0 < ys.length := by
        cases ys with
        | nil => cases hb
        | cons _ _ => exact Nat.succ_pos _
      refine ⟨.ref p, rfl, .inl ⟨rfl, zs, .of hp1⟩, .ref l, rfl, .inl ⟨rfl, ys, .of hl1⟩, .ref b, rfl, .ref l, rfl, .inl ⟨l, ys, rfl, .inl (.of hl1), ?_⟩⟩
      refine ⟨some b, G1, tRng 0 ys.length, g1.kn, ⟨b, (ys.length : Int), rfl, rfl, ⟨by omega, by omega⟩, rfl⟩, fun v G2 H2 g3 w3 => ?_⟩
      obtain ⟨i, rfl, i0, i1⟩ := w3.now
      have hl2 := g3.kp l _ hl1 nbl
      have hp2 := g3.kp p _ hp1 nbp
      have gl2 : G2 l = none := g3.nw l (g1.nw l gl (by rw [hl']; simp)) (by rw [hl1]; simp)
      have gp2 : G2 p = none := g3.nw p (g1.nw p gp (by rw [hp']; simp)) (by rw [hp1]; simp)
      have hk : i.toNat < ys.length := by omega
      have hix : ixN ys.length i = some i.toNat := by
        unfold ixN
        rw [if_pos i0, if_pos i1]
      refine ⟨l, ys, i, i.toNat, ys[i.toNat], rfl, rfl, hl2, by omega, by omega, (ixN_seq hix).1, List.getElem?_eq_getElem hk, ?_⟩
      have g4 := ((g1'.trans g3).mut hl gl2 nbl (x := .lst (ys.eraseIdx i.toNat)))
      refine ⟨p, zs, ys[i.toNat], rfl, rfl, by rw [upd_ne npl]; exact hp2, Evl.sz_lt (by omega), (ys.eraseIdx i.toNat).length, G2, ?_, g4.mut hp0 gp2 nbp, (e'.trans g1.gg).trans g3.gg, ys.eraseIdx i.toNat, zs ++ [ys[i.toNat]], rfl, gl2, gp2, by rw [upd_ne npl.symm, upd_same], upd_same, perm_pop pm (List.getElem?_eq_getElem hk), rfl⟩
      rw [List.length_eraseIdx_of_lt hk]
      omega
    · have hp1 := g1.kp p _ hp' nbp
      have gp1 : G1 p = none := g1.nw p gp (by rw [hp']; simp)
      refine ⟨.ref p, rfl, k p zs G1 H1 g1' hp0 hp1 gp1 fun _ _ => ?_⟩
      cases ys with
      | nil => rw [List.append_nil] at pm; exact pm
      | cons _ _ => cases hb)
/-! ### the same, place by place -/
def fl : V → Bool
  | .non => true
  | .bl _ => true
  | .int _ => true
  | .str _ => true
  | _ => false
def Sm (K : PySem.W.Frag) : Nat → Hp → V → V → Prop
  | 0, _, _, _ => False
  | n + 1, G, x, y => (x = y ∧ fl x = true) ∨ (∃ a b xs ys, x = .ref a ∧ y = .ref b ∧ SqL K G a xs ∧ SqL K G b ys ∧ xs.length ≤ 1000 ∧ Paired (Sm K n G) xs ys) ∨
      ∃ a b xs ys, x = .ref a ∧ y = .ref b ∧ SqT K G a xs ∧ SqT K G b ys ∧ xs.length ≤ 1000 ∧ Paired (Sm K n G) xs ys
theorem Sm.up {K : PySem.W.Frag} {G G' : Hp} (e : Ex G G') : ∀ {n : Nat} {x y : V}, Sm K n G x y → Sm K n G' x y
  | 0, _, _, h => h
  | n + 1, x, y, h => by
    rcases h with h | ⟨a, b, xs, ys, e1, e2, h1, h2, hl, h3⟩ | ⟨a, b, xs, ys, e1, e2, h1, h2, hl, h3⟩
    · exact .inl h
    · exact .inr (.inl ⟨a, b, xs, ys, e1, e2, ex_l e h1, ex_l e h2, hl, L2.Paired.mapP h3 fun _ _ => Sm.up e⟩)
    · exact .inr (.inr ⟨a, b, xs, ys, e1, e2, ex_t e h1, ex_t e h2, hl, L2.Paired.mapP h3 fun _ _ => Sm.up e⟩)
theorem Paired.at' {α β : Type} {R : α → β → Prop} : ∀ {xs : List α} {ys : List β} {i : Nat}, Paired R xs ys → i < xs.length → ∃ x y, xs[i]? = some x ∧ ys[i]? = some y ∧ R x y
  | _, _, i, .nil, h => absurd h (Nat.not_lt_zero i)
  | _, _, 0, .cons r _, _ => ⟨_, _, rfl, rfl, r⟩
  | _, _, i + 1, .cons _ t, h => Paired.at' (i := i) t (Nat.lt_of_succ_lt_succ h)
def cSame (K : PySem.W.Frag) (n : Nat) (o : Option Addr) (G : Hp) (vs : List V) (t : T) : Prop := o = none ∧ ∃ x y, vs = [x, y] ∧ Sm K n G x y ∧ t = tIs (.bl true)
def tNilL : T := fun G v => ∃ a, v = .ref a ∧ G a = some (.lst [])
theorem ev_nilL {o : Option Addr} {σ : L2.St} {G : Hp} {te : TE} {P : PL} (h : EvN o te σ G P) (k : ∀ G' xs, UP P G' xs → xs = []) : Ev o te σ G tNilL :=
  h.ev fun G' a xs _ ha hp => ⟨a, rfl, by rw [ha, k G' xs hp]⟩
theorem ev_nil {o : Option Addr} {σ : L2.St} {G : Hp} : Ev o (tLst tNil) σ G tNilL := ev_nilL (en_lst ea_nil (by decide)) fun G' xs h => by
  have a := h.now
  cases a
  rfl
theorem ev_eqNil {o : Option Addr} {σ : L2.St} {G : Hp} {te : TE} (h : Ev o te σ G tNilL) : Ev o (tOp (rEqG K) te (tLst tNil)) σ G (tIs (.bl true)) :=
  ev_op h ev_nil fun G' x y _ hx hy => by
    obtain ⟨a, rfl, ha⟩ := hx.now
    obtain ⟨b, rfl, hb⟩ := hy.now
    exact ro_eqN (xs := []) (.of ha) (.of hb)
theorem ok_same (T : Txt K mg) (d : Df K mg "_law_same" s__law_same) : ∀ n, Own P w K mg base CX0 n "_law_same" s__law_same ["told", "due"] (spC (cSame K n))
  | 0 => d.own fun f fd F => ⟨fun vs H Q E h => by obtain ⟨o, G, t, _, ⟨_, x, y, _, z, _⟩, _⟩ := h; exact z.elim, fun A outer s H args us vs Q E hr he hb hv h => by obtain ⟨o, G, t, _, ⟨_, x, y, _, z, _⟩, _⟩ := h; exact z.elim⟩
  | n + 1 => d.own fun f fd F => F.ok sc__law_same (fun vs H Q E h => by obtain ⟨o, G, t, _, ⟨_, x, y, rfl, _⟩, _⟩ := h; rfl) (fun cdv A outer s H vs Q E hr h => by
    have G__law_same := ok_same T d n
    obtain ⟨o, G, t, kn, ⟨rfl, x, y, rfl, sm, rfl⟩, k⟩ := h
    refine ⟨_, (pss_cons (ps_if (PW.pt (pw_or (pt_cmpR op_isN (pv 1) pe_non (nomark _)) (pw_or1 (pt_val (pe_callB (kIsi (K := K) rfl) (by rfl) T.n_isinstance (by decide +kernel) (pa_cons (pv 1) (pa_cons (pe_bltn (v := .ty "bool") (by rfl) T.n_bool (by decide +kernel) rfl) pa_nil))))))) (pss_one (ps_ret (pe_ifExp (pt_cmpR op_isN (pv 1) pe_non (nomark _)) (pe_cmpR op_isN (pv 0) pe_non (nomark _)) (pe_and (pe_callB (kIsi (K := K) rfl) (by rfl) T.n_isinstance (by decide +kernel) (pa_cons (pv 0) (pa_cons (pe_bltn (v := .ty "bool") (by rfl) T.n_bool (by decide +kernel) rfl) pa_nil))) (pe_one (pe_cmpR (kEq (K := K) rfl hr.units) (pe_cmpR op_isBl (pv 0) pe_bl (nomark _)) (pe_cmpR op_isBl (pv 1) pe_bl (nomark _)) (nomark _))))))) pss_nil)
   (pss_cons (ps_if (pt_val (pe_callB (kIsi (K := K) rfl) (by rfl) T.n_isinstance (by decide +kernel) (pa_cons (pv 1) (pa_cons (pe_bltn (v := .ty "int") (by rfl) T.n_int (by decide +kernel) rfl) pa_nil)))) (pss_one (ps_ret (pe_and (pe_callB (kIsi (K := K) rfl) (by rfl) T.n_isinstance (by decide +kernel) (pa_cons (pv 0) (pa_cons (pe_bltn (v := .ty "int") (by rfl) T.n_int (by decide +kernel) rfl) pa_nil))) (pe_and (pe_not (pe_callB (kIsi (K := K) rfl) (by rfl) T.n_isinstance (by decide +kernel) (pa_cons (pv 0) (pa_cons (pe_bltn (v := .ty "bool") (by rfl) T.n_bool (by decide +kernel) rfl) pa_nil)))) (pe_one (pe_cmpR (kEq (K := K) rfl hr.units) (pv 0) (pv 1) (nomark _))))))) pss_nil)
   (pss_cons (ps_if (pt_val (pe_callB (kIsi (K := K) rfl) (by rfl) T.n_isinstance (by decide +kernel) (pa_cons (pv 1) (pa_cons (pe_bltn (v := .ty "str") (by rfl) T.n_str (by decide +kernel) rfl) pa_nil)))) (pss_one (ps_ret (pe_and (pe_callB (kIsi (K := K) rfl) (by rfl) T.n_isinstance (by decide +kernel) (pa_cons (pv 0) (pa_cons (pe_bltn (v := .ty "str") (by rfl) T.n_str (by decide +kernel) rfl) pa_nil))) (pe_one (pe_cmpR (kEq (K := K) rfl hr.units) (pv 0) (pv 1) (nomark _)))))) pss_nil)
   (pss_cons (ps_if (pt_val (pe_callB (kIsi (K := K) rfl) (by rfl) T.n_isinstance (by decide +kernel) (pa_cons (pv 1) (pa_cons (pe_bltn (v := .ty "dict") (by rfl) T.n_dict (by decide +kernel) rfl) pa_nil)))) (pss_cons (ps_if (PW.pt (pw_or (pt_not (pt_val (pe_callB (kIsi (K := K) rfl) (by rfl) T.n_isinstance (by decide +kernel) (pa_cons (pv 0) (pa_cons (pe_bltn (v := .ty "dict") (by rfl) T.n_dict (by decide +kernel) rfl) pa_nil))))) (pw_or1 (pt_cmpR (kNe (K := K) rfl hr.units) (pe_callB (kLen (K := K) rfl) (by rfl) T.n_len (by decide +kernel) (pa_cons (pv 0) pa_nil)) (pe_callB (kLen (K := K) rfl) (by rfl) T.n_len (by decide +kernel) (pa_cons (pv 1) pa_nil)) (nomark _))))) (pss_one (ps_ret pe_bl)) pss_nil)
   (pss_one (ps_ret (pe_cmpR (kEq (K := K) rfl hr.units) (pe_lc (own := [("key", 2)]) rfl sc__law_same.nd (pi_listK (K := K) rfl (pv 1)) (blkOk_by (own := [("key", 2)]) (N := ["told", "due", "key", "k"]) (sc := defScope s__law_same) (by decide +kernel)) (fun _ _ _ _ _ => (pg_name (i := 2) sc__law_same.nd rfl (Or.inl rfl))) (fun _ _ _ _ _ => (pts_one (PW.pt (pw_or (pt_cmpR (kNotIn (K := K) rfl) (pv 2) (pv 0) (by rfl)) (pw_or1 (pt_not (pt_val (pe_own G__law_same pb__law_same (hr.mono (by first | decide | exact Nat.le_refl _)) rfl pass0 (pa_cons (pe_ix (kIx (K := K) rfl) (pv 0) (pv 2) (fun _ _ => rfl)) (pa_cons (pe_ix (kIx (K := K) rfl) (pv 1) (pv 2) (fun _ _ => rfl)) pa_nil)))))))))) (fun _ _ _ _ _ => (pv 2))) (pe_lst pa_nil) (nomark _))))) pss_nil)
   (pss_cons (ps_if (pt_val (pe_callB (kIsiT (K := K) rfl) (by rfl) T.n_isinstance (by decide +kernel) (pa_cons (pv 1) (pa_cons (pe_tup (pa_cons (pe_bltn (v := .ty "list") (by rfl) T.n_list (by decide +kernel) rfl) (pa_cons (pe_bltn (v := .ty "tuple") (by rfl) T.n_tuple (by decide +kernel) rfl) pa_nil))) pa_nil)))) (pss_cons (ps_if (PW.pt (pw_or (pt_not (pt_val (pe_callB (kIsiT (K := K) rfl) (by rfl) T.n_isinstance (by decide +kernel) (pa_cons (pv 0) (pa_cons (pe_tup (pa_cons (pe_bltn (v := .ty "list") (by rfl) T.n_list (by decide +kernel) rfl) (pa_cons (pe_bltn (v := .ty "tuple") (by rfl) T.n_tuple (by decide +kernel) rfl) pa_nil))) pa_nil))))) (pw_or (pt_cmpR (kNe (K := K) rfl hr.units) (pe_callB (kIsi (K := K) rfl) (by rfl) T.n_isinstance (by decide +kernel) (pa_cons (pv 0) (pa_cons (pe_bltn (v := .ty "list") (by rfl) T.n_list (by decide +kernel) rfl) pa_nil))) (pe_callB (kIsi (K := K) rfl) (by rfl) T.n_isinstance (by decide +kernel) (pa_cons (pv 1) (pa_cons (pe_bltn (v := .ty "list") (by rfl) T.n_list (by decide +kernel) rfl) pa_nil))) (nomark _)) (pw_or1 (pt_cmpR (kNe (K := K) rfl hr.units) (pe_callB (kLen (K := K) rfl) (by rfl) T.n_len (by decide +kernel) (pa_cons (pv 0) pa_nil)) (pe_callB (kLen (K := K) rfl) (by rfl) T.n_len (by decide +kernel) (pa_cons (pv 1) pa_nil)) (nomark _)))))) (pss_one (ps_ret pe_bl)) pss_nil)
   (pss_one (ps_ret (pe_cmpR (kEq (K := K) rfl hr.units) (pe_lc (own := [("k", 3)]) rfl sc__law_same.nd (pi_range1 rfl T.n_range (pa_cons (pe_callB (kLen (K := K) rfl) (by rfl) T.n_len (by decide +kernel) (pa_cons (pv 1) pa_nil)) pa_nil)) (blkOk_by (own := [("k", 3)]) (N := ["told", "due", "key", "k"]) (sc := defScope s__law_same) (by decide +kernel)) (fun _ _ _ _ _ => (pg_name (i := 3) sc__law_same.nd rfl (Or.inl rfl))) (fun _ _ _ _ _ => (pts_one (pt_not (pt_val (pe_own G__law_same pb__law_same (hr.mono (by first | decide | exact Nat.le_refl _)) rfl pass0 (pa_cons (pe_ix (kIx (K := K) rfl) (pv 0) (pv 3) (fun _ _ => rfl)) (pa_cons (pe_ix (kIx (K := K) rfl) (pv 1) (pv 3) (fun _ _ => rfl)) pa_nil))))))) (fun _ _ _ _ _ => (pv 3))) (pe_lst pa_nil) (nomark _))))) pss_nil)
   (pss_one (ps_ret pe_bl))))))), ?_⟩
    have g0 := Go.refl kn
    have vx : ∀ G', Ev none (tVar 0) (start ["told", "due", "key", "k"] [x, y]) G' (tIs x) := fun G' => ev_x rfl
    have vy : ∀ G', Ev none (tVar 1) (start ["told", "due", "key", "k"] [x, y]) G' (tIs y) := fun G' => ev_x rfl
    have no : ∀ {p : Bool → Prop} {b : Bool}, (p = fun c => c = b) → b = false → ¬ p true := fun e f z => by rw [e, f] at z; cases z
    rcases sm with ⟨rfl, f⟩ | ⟨a, b, xs, ys, rfl, rfl, ha, hb, hl, hp⟩ | ⟨a, b, xs, ys, rfl, rfl, ha, hb, hl, hp⟩
    · cases x with
      | non =>
        refine q_when g0 (p := (· = (true || true))) (et_or (et_test (ev_isN (vy _) rfl)) fun z => nomatch z) (fun _ G2 H2 g2 _ => ?_) fun z => nomatch z
        exact s_ret g2 (ev_if (p := (· = true)) (et_test (ev_isN (vy _) rfl)) (fun _ => ev_isN (vx _) rfl) fun z => nomatch z) fun v G3 H3 g3 w3 => k v G3 H3 g3 w3
      | bl b =>
        refine q_when g0 (p := (· = (false || true))) (et_or (et_test (ev_isN (vy _) rfl)) fun _ => et_b (ev_isi (vy _) (.bl b) (by decide +kernel))) (fun _ G2 H2 g2 _ => ?_) fun z => nomatch z
        refine s_ret g2 (ev_if (p := (· = false)) (et_test (ev_isN (vy _) rfl)) (fun z => nomatch z) fun _ => ev_and (a := true) (b := true) (ev_isi (vx _) (.bl b) (by decide +kernel)) fun _ => ?_) fun v G3 H3 g3 w3 => k v G3 H3 g3 w3
        exact ev_op2 (ev_op2 (vx _) ev_k ro_isB) (ev_op2 (vy _) ev_k ro_isB) (ro_eqS rfl (by simp))
      | int i =>
        refine q_when g0 (p := (· = (false || false))) (et_or (et_test (ev_isN (vy _) rfl)) fun _ => et_b (ev_isi (vy _) (.int i) (by decide +kernel))) (fun z => nomatch z) fun _ G2 H2 g2 _ => ?_
        refine q_when g2 (p := (· = true)) (et_b (ev_isi (vy _) (.int i) (by decide +kernel))) (fun _ G3 H3 g3 _ => ?_) fun z => nomatch z
        refine s_ret g3 (ev_and (a := true) (b := true) (ev_isi (vx _) (.int i) (by decide +kernel)) fun _ => ev_and (a := !false) (b := true) (ev_not (ev_isi (vx _) (.int i) (by decide +kernel))) fun _ => ?_) fun v G3 H3 g3 w3 => k v G3 H3 g3 w3
        exact ev_op2 (vx _) (vy _) (ro_eqS rfl (by simp))
      | str z =>
        refine q_when g0 (p := (· = (false || false))) (et_or (et_test (ev_isN (vy _) rfl)) fun _ => et_b (ev_isi (vy _) (.str z) (by decide +kernel))) (fun z => nomatch z) fun _ G2 H2 g2 _ => ?_
        refine q_when g2 (p := (· = false)) (et_b (ev_isi (vy _) (.str z) (by decide +kernel))) (fun z => nomatch z) fun _ G3 H3 g3 _ => ?_
        refine q_when g3 (p := (· = true)) (et_b (ev_isi (vy _) (.str z) (by decide +kernel))) (fun _ G3 H3 g3 _ => ?_) fun z => nomatch z
        refine s_ret g3 (ev_and (a := true) (b := true) (ev_isi (vx _) (.str z) (by decide +kernel)) fun _ => ?_) fun v G3 H3 g3 w3 => k v G3 H3 g3 w3
        exact ev_op2 (vx _) (vy _) (ro_eqS rfl (by simp))
      | byt _ => cases f
      | flt _ => cases f
      | ref _ => cases f
      | ty _ => cases f
    · have kx : KT K G (.ref a) "list" := .lst ha
      have ky : KT K G (.ref b) "list" := .lst hb
      refine q_when g0 (p := (· = (false || false))) (et_or (et_test (ev_isN (vy _) rfl)) fun _ => et_b (ev_isi (vy _) ky (by decide +kernel))) (fun z => nomatch z) fun _ G2 H2 g2 _ => ?_
      refine q_when g2 (p := (· = false)) (et_b (ev_isi (vy _) (ky.up g2.gg) (by decide +kernel))) (fun z => nomatch z) fun _ G3 H3 g3 _ => ?_
      refine q_when g3 (p := (· = false)) (et_b (ev_isi (vy _) (ky.up g3.gg) (by decide +kernel))) (fun z => nomatch z) fun _ G4 H4 g4 _ => ?_
      refine q_when g4 (p := (· = false)) (et_b (ev_isi (vy _) (ky.up g4.gg) (by decide +kernel))) (fun z => nomatch z) fun _ G5 H5 g5 _ => ?_
      refine q_when g5 (p := (· = (true || false))) (et_b (ev_isi2 (vy _) (ky.up g5.gg) (by decide +kernel) (by decide +kernel))) (fun _ G6 H6 g6 _ => ?_) fun z => nomatch z
      have ha' := ex_l g6.gg ha
      have hb' := ex_l g6.gg hb
      refine q_when g6 (p := (· = (!(true || false) || (false || false)))) (et_or (et_not (et_b (ev_isi2 (vx _) (kx.up g6.gg) (by decide +kernel) (by decide +kernel)))) fun _ => et_or (et_test (ev_op2 (ev_isi (vx _) (kx.up g6.gg) (b := true) (by decide +kernel)) (ev_isi (vy _) (ky.up g6.gg) (b := true) (by decide +kernel)) (ro_neS rfl (by simp)))) fun _ =>
        et_test (ev_op2 (ev_cb1 (vx _) fun G' e => rc_lenL (ex_l e ha')) (ev_cb1 (vy _) fun G' e => rc_lenL (ex_l e hb')) (ro_neS rfl (by simp [Paired.length hp])))) (fun z => nomatch z) fun _ G7 H7 g7 g67 => ?_
      refine s_ret (t := tIs (.bl true)) g7 (ev_eqNil (ev_nilL (P := fun _ ys => ys = []) ?_ fun G' xs h => h.now)) k
      have hn : EvI none (iRng1 (tCons (tCB (rLen K) (tCons (tVar 1) tNil)) tNil)) (start ["told", "due", "key", "k"] [.ref a, .ref b]) G7 (fun _ zs => zs = intsV 0 ys.length) :=
        ei_rng1 (Pn := fun n => n = (ys.length : Int)) (ea_cons ((ev_cb1 (vy _) fun G' e => rc_lenL (ex_l (g67.gg.trans e) hb')).imp fun G' v _ w => w.imp fun _ _ e => ⟨_, e, rfl⟩) ea_nil) (fun n e => by have := Paired.length hp; omega) fun G' n _ e => by
          subst e
          exact fun _ _ => by rw [Int.toNat_natCast]
      refine (en_lc (fun _ _ _ acc => acc = []) hn (fun _ => rfl) (fun _ _ _ _ _ _ h => h) (fun G' zs _ hz => ⟨by rw [hz.now, intsV_len]; have := Paired.length hp; omega, rfl⟩) fun G' zs i z acc e hz hi _ r => ?_).impN fun G' ys h => by
        obtain ⟨_, _, _, r⟩ := h
        exact r
      rw [hz.now] at hi
      obtain ⟨rfl, hi⟩ := intsV_get hi
      obtain ⟨x', y', hx, hy, hr'⟩ := Paired.at' (i := i) hp (by have := Paired.length hp; omega)
      have ez : (0 : Int) + (i : Int) = (i : Int) := Int.zero_add _
      refine ⟨(· = !true), et_not (et_b (ev_call (t := tIs (.bl true)) (ea_cons (ev_op2 (ev_x rfl) (ev_x rfl) (ro_ixL (ex_l (g67.gg.trans e) ha') (at_of ez hx))) (ea_cons (ev_op2 (ev_x rfl) (ev_x rfl) (ro_ixL (ex_l (g67.gg.trans e) hb') (at_of ez hy))) ea_nil)) fun G'' vs e2 al => ?_)), (fun z => nomatch z), fun _ G1 _ => r⟩
      cases al with
      | cons a1 al => cases al with
        | cons a2 al =>
          cases al
          rw [a1.eq, a2.eq]
          exact ⟨none, _, .inl rfl, ⟨rfl, x', y', rfl, hr'.up (g7.gg.trans (e.trans e2)), rfl⟩, fun _ _ _ w => w⟩
    · have kx : KT K G (.ref a) "tuple" := .tup ha
      have ky : KT K G (.ref b) "tuple" := .tup hb
      refine q_when g0 (p := (· = (false || false))) (et_or (et_test (ev_isN (vy _) rfl)) fun _ => et_b (ev_isi (vy _) ky (by decide +kernel))) (fun z => nomatch z) fun _ G2 H2 g2 _ => ?_
      refine q_when g2 (p := (· = false)) (et_b (ev_isi (vy _) (ky.up g2.gg) (by decide +kernel))) (fun z => nomatch z) fun _ G3 H3 g3 _ => ?_
      refine q_when g3 (p := (· = false)) (et_b (ev_isi (vy _) (ky.up g3.gg) (by decide +kernel))) (fun z => nomatch z) fun _ G4 H4 g4 _ => ?_
      refine q_when g4 (p := (· = false)) (et_b (ev_isi (vy _) (ky.up g4.gg) (by decide +kernel))) (fun z => nomatch z) fun _ G5 H5 g5 _ => ?_
      refine q_when g5 (p := (· = (false || true))) (et_b (ev_isi2 (vy _) (ky.up g5.gg) (by decide +kernel) (by decide +kernel))) (fun _ G6 H6 g6 _ => ?_) fun z => nomatch z
      have ha' := ex_t g6.gg ha
      have hb' := ex_t g6.gg hb
      refine q_when g6 (p := (· = (!(false || true) || (false || false)))) (et_or (et_not (et_b (ev_isi2 (vx _) (kx.up g6.gg) (by decide +kernel) (by decide +kernel)))) fun _ => et_or (et_test (ev_op2 (ev_isi (vx _) (kx.up g6.gg) (b := false) (by decide +kernel)) (ev_isi (vy _) (ky.up g6.gg) (b := false) (by decide +kernel)) (ro_neS rfl (by simp)))) fun _ =>
        et_test (ev_op2 (ev_cb1 (vx _) fun G' e => rc_lenT (ex_t e ha')) (ev_cb1 (vy _) fun G' e => rc_lenT (ex_t e hb')) (ro_neS rfl (by simp [Paired.length hp])))) (fun z => nomatch z) fun _ G7 H7 g7 g67 => ?_
      refine s_ret (t := tIs (.bl true)) g7 (ev_eqNil (ev_nilL (P := fun _ ys => ys = []) ?_ fun G' xs h => h.now)) k
      have hn : EvI none (iRng1 (tCons (tCB (rLen K) (tCons (tVar 1) tNil)) tNil)) (start ["told", "due", "key", "k"] [.ref a, .ref b]) G7 (fun _ zs => zs = intsV 0 ys.length) :=
        ei_rng1 (Pn := fun n => n = (ys.length : Int)) (ea_cons ((ev_cb1 (vy _) fun G' e => rc_lenT (ex_t (g67.gg.trans e) hb')).imp fun G' v _ w => w.imp fun _ _ e => ⟨_, e, rfl⟩) ea_nil) (fun n e => by have := Paired.length hp; omega) fun G' n _ e => by
          subst e
          exact fun _ _ => by rw [Int.toNat_natCast]
      refine (en_lc (fun _ _ _ acc => acc = []) hn (fun _ => rfl) (fun _ _ _ _ _ _ h => h) (fun G' zs _ hz => ⟨by rw [hz.now, intsV_len]; have := Paired.length hp; omega, rfl⟩) fun G' zs i z acc e hz hi _ r => ?_).impN fun G' ys h => by
        obtain ⟨_, _, _, r⟩ := h
        exact r
      rw [hz.now] at hi
      obtain ⟨rfl, hi⟩ := intsV_get hi
      obtain ⟨x', y', hx, hy, hr'⟩ := Paired.at' (i := i) hp (by have := Paired.length hp; omega)
      have ez : (0 : Int) + (i : Int) = (i : Int) := Int.zero_add _
      refine ⟨(· = !true), et_not (et_b (ev_call (t := tIs (.bl true)) (ea_cons (ev_op2 (ev_x rfl) (ev_x rfl) (ro_ixT (ex_t (g67.gg.trans e) ha') (at_of ez hx))) (ea_cons (ev_op2 (ev_x rfl) (ev_x rfl) (ro_ixT (ex_t (g67.gg.trans e) hb') (at_of ez hy))) ea_nil)) fun G'' vs e2 al => ?_)), (fun z => nomatch z), fun _ G1 _ => r⟩
      cases al with
      | cons a1 al => cases al with
        | cons a2 al =>
          cases al
          rw [a1.eq, a2.eq]
          exact ⟨none, _, .inl rfl, ⟨rfl, x', y', rfl, hr'.up (g7.gg.trans (e.trans e2)), rfl⟩, fun _ _ _ w => w⟩)
end
end K01
set_option Elab.async false
set_option linter.all false
set_option maxRecDepth 100000
set_option maxHeartbeats 4000000
namespace K01
open PySem L2 Ty
open Evl (Ex ex_l ex_t)
-- OV is_letters: {"iter:value": "(pi_str (pv 0))"}
-- OV _law_is_name: {"iter:value": "(pi_str (pv 0))"}
abbrev s_is_letters : Stmt := top 4
theorem sc_is_letters : FnScope ["value", "sign"] ["value"] (defScope s_is_letters) := ⟨rfl, rfl, rfl, by decide +kernel, rfl, by decide +kernel, by decide +kernel⟩
theorem pb_is_letters : PosB "is_letters" s_is_letters ["value"] := fun _ _ _ _ _ _ us hl => match us, hl with | [_], _ => rfl
abbrev s_is_name : Stmt := top 5
theorem sc_is_name : FnScope ["value"] ["value"] (defScope s_is_name) := ⟨rfl, rfl, rfl, by decide +kernel, rfl, by decide +kernel, by decide +kernel⟩
theorem pb_is_name : PosB "is_name" s_is_name ["value"] := fun _ _ _ _ _ _ us hl => match us, hl with | [_], _ => rfl
abbrev s__law_grammar : Stmt := top 13
theorem sc__law_grammar : FnScope ["text"] [] (defScope s__law_grammar) := ⟨rfl, rfl, rfl, by decide +kernel, rfl, by decide +kernel, by decide +kernel⟩
theorem pb__law_grammar : PosB "_law_grammar" s__law_grammar [] := fun _ _ _ _ _ _ us hl => match us, hl with | [], _ => rfl
abbrev s__law_is_name : Stmt := top 12
theorem sc__law_is_name : FnScope ["value", "sign"] ["value"] (defScope s__law_is_name) := ⟨rfl, rfl, rfl, by decide +kernel, rfl, by decide +kernel, by decide +kernel⟩
theorem pb__law_is_name : PosB "_law_is_name" s__law_is_name ["value"] := fun _ _ _ _ _ _ us hl => match us, hl with | [_], _ => rfl
def letters : Str := "abcdefghijklmnopqrstuvwxyz"
def gtext : Str := "again and close else ends false if integer least less minus most node not or over plus program protocol rest round same set stop take tell times to true truth wait word"
def gram : List Str := Txt.split gtext " "
structure Txt2 (K : PySem.W.Frag) (mg : Str → Option Value) (ga : Addr) : Prop extends Txt K mg where
  g_LETTERS : ∃ u, mg "LETTERS" = some u ∧ RelV (.str letters) u
  g_MOST_NAME : ∃ u, mg "MOST_NAME" = some u ∧ RelV (.int 8) u
  g_GRAMMAR : ∃ u, mg "GRAMMAR" = some u ∧ RelV (.ref ga) u
  gramT : SqT K (fun _ => none) ga (gram.map V.str)
def okC (c : Nat) : Bool := decide (c ∈ letters.cps.toList)
def okS (z : Str) : Bool := (z.cps.toList.map okC).all id
def letV : V → Bool
  | .str z => (decide ((1 : Int) ≤ z.length) && decide ((z.length : Int) ≤ 8)) && okS z
  | _ => false
def nameV (v : V) : Bool := letV v && !inV v (gram.map V.str)
def fSign : V → V
  | .str s => .bl (okC (s.cps.toList.headD 0))
  | _ => .non
theorem map_fSign (z : Str) : (signsV z).map fSign = (z.cps.toList.map okC).map V.bl := by
  unfold signsV
  rw [List.map_map, List.map_map]
  rfl
section
variable {P : Program} {w : World} {K : PySem.W.Frag} {mg : Str → Option Value} {base : Heap} {ga : Addr}
def cVal (K : PySem.W.Frag) (f : V → Bool) (o : Option Addr) (G : Hp) (vs : List V) (t : T) : Prop := o = none ∧ ∃ x, vs = [x] ∧ Kv K G x ∧ t = tIs (.bl (f x))
theorem kt_str {G : Hp} {x : V} {n : String} (k : KT K G x n) : (∃ z, x = .str z) ∨ (letV x = false ∧ kitB n "str" = some false) := by
  cases k with
  | str z => exact .inl ⟨z, rfl⟩
  | non => exact .inr ⟨rfl, by decide +kernel⟩
  | bl b => exact .inr ⟨rfl, by decide +kernel⟩
  | int i => exact .inr ⟨rfl, by decide +kernel⟩
  | lst h => exact .inr ⟨rfl, by decide +kernel⟩
  | tup h => exact .inr ⟨rfl, by decide +kernel⟩
  | dic h => exact .inr ⟨rfl, by decide +kernel⟩
theorem ok_letters (T : Txt2 K mg ga) (d : Df K mg "is_letters" s_is_letters) : Own P w K mg base CX0 1 "is_letters" s_is_letters ["value"] (spC (cVal K letV)) :=
  d.own fun f fd F => F.ok sc_is_letters (fun vs H Q E h => by obtain ⟨o, G, t, kn, ⟨_, x, rfl, _⟩, _⟩ := h; rfl) (fun cdv A outer s H vs Q E hr h => by
    obtain ⟨o, G, t, kn, ⟨rfl, x, rfl, ⟨⟨n, kx⟩, hz⟩, rfl⟩, k⟩ := h
    refine ⟨_, (pss_one (ps_ret (pe_and (pe_callB (kIsi (K := K) rfl) (by rfl) T.n_isinstance (by decide +kernel) (pa_cons (pv 0) (pa_cons (pe_bltn (v := .ty "str") (by rfl) T.n_str (by decide +kernel) rfl) pa_nil))) (pe_and (pe_chain op_le op_le pe_int (pe_callB (kLen (K := K) rfl) (by rfl) T.n_len (by decide +kernel) (pa_cons (pv 0) pa_nil)) (pe_globE rfl T.g_MOST_NAME)) (pe_one (pe_callB (kAll (K := K) rfl rfl) (by rfl) T.n_all (by decide +kernel) (pa_cons (pe_lc (own := [("sign", 1)]) rfl sc_is_letters.nd (pi_str (pv 0)) (blkOk_by (own := [("sign", 1)]) (N := ["value", "sign"]) (sc := defScope s_is_letters) (by decide +kernel)) (fun _ _ _ _ _ => (pg_name (i := 1) sc_is_letters.nd rfl (Or.inl rfl))) (fun _ _ _ _ _ => pts_nil) (fun _ _ _ _ _ => (pe_cmpR (kIn (K := K) rfl) (pv 1) (pe_globE rfl T.g_LETTERS) (by rfl)))) pa_nil))))))), ?_⟩
    have g0 := Go.refl kn
    rcases kt_str kx with ⟨z, rfl⟩ | ⟨e1, e2⟩
    · have lz := hz z rfl
      refine s_ret g0 (ev_and (a := true) (b := letV (.str z)) (ev_isi (ev_x rfl) (.str z) (by decide +kernel)) fun _ => ev_and (ev_chain ev_k (ev_cb1 (ev_x rfl) fun G' e => rc_lenS (by omega)) (fun _ _ => ro_I0) ev_k fun _ _ => ro_I0) fun _ => ?_) k
      refine ev_cb (t := tIs (.bl (okS z))) (ea_cons (s := fun G' v => ∃ a, v = .ref a ∧ G' a = some (.lst ((z.cps.toList.map okC).map V.bl))) ((en_map fSign (ei_str (P := fun _ xs => xs = signsV z) (ev_x rfl) fun _ _ _ _ => rfl) (fun _ => rfl) (fun G' xs e hp => by rw [hp.now, signsV_len]; omega) fun G' xs i v e hp hi => ?_).ev fun G' a xs e ha hp => ?_) ea_nil) fun G' vs e a => ?_
      · rw [hp.now] at hi
        obtain ⟨c, rfl, _⟩ := signsV_get hi
        exact ev_op2 (ev_x rfl) ev_k ro_inS
      · obtain ⟨zs, hz, rfl⟩ := hp.now
        exact ⟨a, rfl, by rw [ha, hz.now, map_fSign]⟩
      · cases a with
        | cons a1 a =>
          cases a
          obtain ⟨p, rfl, hp⟩ := a1.now
          exact rc_q u_is fun G1 H1 e1 kn1 Q q => ⟨p, _, rfl, .of (kn1.sub _ _ (e1 _ _ hp)), q⟩
    · rw [e1] at k
      exact s_ret g0 (ev_and (a := false) (b := true) (ev_isi (ev_x rfl) kx e2) fun z => nomatch z) k)
theorem gram_flat : (gram.map V.str).all flatV = true := by
  rw [List.all_map]
  exact List.all_eq_true.mpr fun _ _ => rfl
theorem ex_nil {G : Hp} : Ex (fun _ => none) G := fun _ _ h => by cases h
theorem ok_name (T : Txt2 K mg ga) (d : Df K mg "is_name" s_is_name) (G_is_letters : Own P w K mg base CX0 1 "is_letters" s_is_letters ["value"] (spC (cVal K letV))) : Own P w K mg base CX0 2 "is_name" s_is_name ["value"] (spC (cVal K nameV)) :=
  d.own fun f fd F => F.ok sc_is_name (fun vs H Q E h => by obtain ⟨o, G, t, kn, ⟨_, x, rfl, _⟩, _⟩ := h; rfl) (fun cdv A outer s H vs Q E hr h => by
    obtain ⟨o, G, t, kn, ⟨rfl, x, rfl, kx, rfl⟩, k⟩ := h
    refine ⟨_, (pss_one (ps_ret (pe_and (pe_own G_is_letters pb_is_letters (hr.mono (by first | decide | exact Nat.le_refl _)) rfl pass0 (pa_cons (pv 0) pa_nil)) (pe_one (pe_cmpR (kNotIn (K := K) rfl) (pv 0) (pe_globE rfl T.g_GRAMMAR) (by rfl)))))), ?_⟩
    refine s_ret (Go.refl kn) (ev_and (a := letV x) (b := !inV x (gram.map V.str)) (ev_call (ea_cons (ev_x rfl) ea_nil) fun G' vs e a => ?_) fun hb => ?_) k
    · cases a with
      | cons a1 a =>
        cases a
        rw [a1.eq]
        exact ⟨none, _, .inl rfl, ⟨rfl, x, rfl, kx.up e, rfl⟩, fun _ _ _ w => w⟩
    · have fx : flatV x = true := by
        cases x with
        | str z => rfl
        | _ => cases hb
      exact ev_op2 (ev_x rfl) ev_k (ro_inT (neg := true) (ex_t ex_nil T.gramT) fx gram_flat))
def cGram (o : Option Addr) (G : Hp) (vs : List V) (p : PL) : Prop := o = none ∧ vs = [] ∧ p = fun _ xs => xs = gram.map V.str
theorem ok_grammar (d : Df K mg "_law_grammar" s__law_grammar) : Own P w K mg base CX0 1 "_law_grammar" s__law_grammar [] (spN cGram) :=
  d.own fun f fd F => F.ok sc__law_grammar (fun vs H Q E h => by obtain ⟨o, G, t, kn, ⟨_, rfl, _⟩, _⟩ := h; rfl) (fun cdv A outer s H vs Q E hr h => by
    obtain ⟨o, G, t, kn, ⟨rfl, rfl, rfl⟩, k⟩ := h
    refine ⟨_, (pss_cons (ps_set (i := 0) sc__law_grammar.nd rfl (Or.inl rfl) pe_str)
   (pss_one (ps_ret (pe_split (pv 0) pe_str)))), ?_⟩
    exact ⟨_, rfl, ⟨_, rfl⟩, gtext, " ", rfl, rfl, by decide +kernel, by decide +kernel, fun p hp => k p _ G _ (.tmp kn hp) hp upd_same (Evl.fresh_back kn.sub hp) fun _ _ => rfl⟩)
theorem ev_gram {o : Option Addr} {σ : L2.St} {G : Hp} {E : XK} : Ev o (tCall (spN cGram) [] E tNil) σ G (fun G' v => ∃ a, v = .ref a ∧ G' a = some (.lst (gram.map V.str))) :=
  (en_call (P := fun _ xs => xs = gram.map V.str) ea_nil fun G' vs e a => by
    cases a
    exact ⟨none, _, .inr rfl, ⟨rfl, rfl, rfl⟩, fun _ _ _ h => h⟩).ev fun G' a xs e ha hp => ⟨a, rfl, by rw [ha, hp.now]⟩
theorem filt_empty (z : Str) : ((signsV z).filter fun v => match fSign v with | .bl b => !b | _ => false).isEmpty = okS z := by
  unfold signsV okS
  induction z.cps.toList with
  | nil => rfl
  | cons c r ih =>
    rw [List.map_cons, List.filter_cons, List.map_cons, List.all_cons]
    show (if (!okC c) = true then _ else _ : List V).isEmpty = (okC c && _)
    cases okC c with
    | true => rw [if_neg (by simp)]; exact ih
    | false => rw [if_pos (by simp)]; rfl
theorem ok_lname (T : Txt2 K mg ga) (d : Df K mg "_law_is_name" s__law_is_name) (G__law_grammar : Own P w K mg base CX0 1 "_law_grammar" s__law_grammar [] (spN cGram)) : Own P w K mg base CX0 2 "_law_is_name" s__law_is_name ["value"] (spC (cVal K nameV)) :=
  d.own fun f fd F => F.ok sc__law_is_name (fun vs H Q E h => by obtain ⟨o, G, t, kn, ⟨_, x, rfl, _⟩, _⟩ := h; rfl) (fun cdv A outer s H vs Q E hr h => by
    obtain ⟨o, G, t, kn, ⟨rfl, x, rfl, ⟨⟨n, kx⟩, hz⟩, rfl⟩, k⟩ := h
    have pb__law_grammar : PosB "_law_grammar" s__law_grammar [] := pb__law_grammar
    refine ⟨_, (pss_cons (ps_if (PW.pt (pw_or (pt_not (pt_val (pe_callB (kIsi (K := K) rfl) (by rfl) T.n_isinstance (by decide +kernel) (pa_cons (pv 0) (pa_cons (pe_bltn (v := .ty "str") (by rfl) T.n_str (by decide +kernel) rfl) pa_nil))))) (pw_or (pt_not (pt_chain op_le op_le pe_int (pe_callB (kLen (K := K) rfl) (by rfl) T.n_len (by decide +kernel) (pa_cons (pv 0) pa_nil)) pe_int)) (pw_or1 (pt_cmpR (kNe (K := K) rfl hr.units) (pe_lc (own := [("sign", 1)]) rfl sc__law_is_name.nd (pi_str (pv 0)) (blkOk_by (own := [("sign", 1)]) (N := ["value", "sign"]) (sc := defScope s__law_is_name) (by decide +kernel)) (fun _ _ _ _ _ => (pg_name (i := 1) sc__law_is_name.nd rfl (Or.inl rfl))) (fun _ _ _ _ _ => (pts_one (pt_cmpR (kNotIn (K := K) rfl) (pv 1) pe_str (by rfl)))) (fun _ _ _ _ _ => (pv 1))) (pe_lst pa_nil) (nomark _)))))) (pss_one (ps_ret pe_bl)) pss_nil)
   (pss_one (ps_ret (pe_cmpR (kNotIn (K := K) rfl) (pv 0) (pe_own0 G__law_grammar pb__law_grammar (hr.mono (by first | decide | exact Nat.le_refl _)) rfl pass0) (by rfl))))), ?_⟩
    have g0 := Go.refl kn
    rcases kt_str kx with ⟨z, rfl⟩ | ⟨e1, e2⟩
    · have lz := hz z rfl
      refine q_when g0 (p := (· = (!true || ((!(decide ((1 : Int) ≤ z.length) && decide ((z.length : Int) ≤ 8))) || (!okS z))))) (et_or (et_not (et_b (ev_isi (ev_x rfl) (.str z) (by decide +kernel)))) fun _ => et_or (et_not (et_test (ev_chain ev_k (ev_cb1 (ev_x rfl) fun G' e => rc_lenS (by omega)) (fun _ _ => ro_I0) ev_k fun _ _ => ro_I0))) fun _ => ?_) (fun hb G2 H2 g2 _ => ?_) (fun hb G2 H2 g2 _ => ?_)
      · refine et_test (ev_op (s := fun G' v => ∃ a ys, v = .ref a ∧ G' a = some (.lst ys) ∧ ys.isEmpty = okS z) ((en_filt (fun v => v) (fun v => match fSign v with | .bl b => !b | _ => false) (ei_str (P := fun _ xs => xs = signsV z) (ev_x rfl) fun _ _ _ _ => rfl) (fun _ => rfl) (fun G' xs e hp => by rw [hp.now, signsV_len]; omega) (fun G' xs i v e hp hi => ?_) fun G' xs i v e hp hi hb => ?_).ev fun G' a xs e ha hp => ?_) ev_nil fun G' x y e hx hy => ?_)
        · rw [hp.now] at hi
          obtain ⟨c, rfl, _⟩ := signsV_get hi
          exact et_test (ev_op2 (ev_x rfl) ev_k ro_inS)
        · exact ev_x rfl
        · obtain ⟨zs, hz, rfl⟩ := hp.now
          refine ⟨a, _, rfl, ha, ?_⟩
          rw [hz.now, List.map_id']
          exact filt_empty z
        · obtain ⟨a, ys, rfl, ha, he⟩ := hx.now
          obtain ⟨b, rfl, hb⟩ := hy.now
          rw [← he]
          exact ro_neN (.of ha) (.of hb)
      · have en : nameV (.str z) = false := by
          have hb' : true = (!true || ((!(decide ((1 : Int) ≤ z.length) && decide ((z.length : Int) ≤ 8))) || (!okS z))) := hb
          show (((decide ((1 : Int) ≤ z.length) && decide ((z.length : Int) ≤ 8)) && okS z) && _) = false
          revert hb'
          generalize (decide ((1 : Int) ≤ z.length) && decide ((z.length : Int) ≤ 8)) = p
          generalize okS z = q
          intro hb'
          cases p <;> cases q <;> first | rfl | cases hb'
        rw [en] at k
        exact s_ret g2 ev_k k
      · have en : nameV (.str z) = !inV (.str z) (gram.map V.str) := by
          have hb' : false = (!true || ((!(decide ((1 : Int) ≤ z.length) && decide ((z.length : Int) ≤ 8))) || (!okS z))) := hb
          show (((decide ((1 : Int) ≤ z.length) && decide ((z.length : Int) ≤ 8)) && okS z) && _) = _
          revert hb'
          generalize (decide ((1 : Int) ≤ z.length) && decide ((z.length : Int) ≤ 8)) = p
          generalize okS z = q
          intro hb'
          cases p <;> cases q <;> first | rfl | cases hb'
        rw [en] at k
        refine s_ret g2 (ev_op (s := tIs (.str z)) (ev_x rfl) ev_gram fun G' x y e hx hy => ?_) k
        obtain ⟨a, rfl, ha⟩ := hy.now
        rw [hx.eq]
        exact ro_inL (neg := true) (.of ha) rfl gram_flat
    · have en : nameV x = false := by
        unfold nameV
        rw [e1]
        rfl
      rw [en] at k
      refine q_when g0 (p := (· = (!false || true))) (et_or (et_not (et_b (ev_isi (ev_x rfl) kx e2))) fun z => nomatch z) (fun _ G2 H2 g2 _ => s_ret g2 ev_k k) fun z => nomatch z)
end
end K01
set_option Elab.async false
set_option linter.all false
set_option maxRecDepth 100000
set_option maxHeartbeats 4000000
namespace K01
open PySem L2 Ty
open Evl (Ex ex_l ex_t)
abbrev s__law_values : Stmt := top 14
theorem sc__law_values : FnScope ["box", "words", "drawn", "turn", "near", "others", "word"] ["box"] (defScope s__law_values) := ⟨rfl, rfl, rfl, by decide +kernel, rfl, by decide +kernel, by decide +kernel⟩
theorem pb__law_values : PosB "_law_values" s__law_values ["box"] := fun _ _ _ _ _ _ us hl => match us, hl with | [_], _ => rfl
abbrev s_law : Stmt := top 15
theorem sc_law : FnScope ["script", "k", "box", "by_name", "value", "told"] ["script"] (defScope s_law) := ⟨rfl, rfl, rfl, by decide +kernel, rfl, by decide +kernel, by decide +kernel⟩
theorem pb_law : PosB "law" s_law ["script"] := fun _ _ _ _ _ _ us hl => match us, hl with | [_], _ => rfl
theorem gram_len : gram.length = 32 := by decide +kernel
theorem gram_short : gram.all (fun z => decide (z.length ≤ 9)) = true := by decide +kernel
theorem gram_le {z : Str} (h : z ∈ gram) : z.length ≤ 9 := of_decide_eq_true (List.all_eq_true.mp gram_short z h)
section
variable {P : Program} {w : World} {K : PySem.W.Frag} {mg : Str → Option Value} {base : Heap} {ga : Addr}
/-- few words -/
def pWords (n : Nat) : PL := fun G xs => xs.length ≤ n ∧ ∀ x ∈ xs, U (tStr 1000) G x
def tWords (n : Nat) : T := fun G v => ∃ a xs, v = .ref a ∧ G a = some (.lst xs) ∧ UP (pWords n) G xs
theorem pWords.u {n : Nat} {G : Hp} {xs : List V} (h : pWords n G xs) : UP (pWords n) G xs := fun G' e => ⟨h.1, fun x hx => (h.2 x hx).up e⟩
theorem up_cat {n m k : Nat} (h : n + m ≤ k) {G : Hp} {xs ys : List V} (h1 : UP (pWords n) G xs) (h2 : UP (pWords m) G ys) : UP (pWords k) G (xs ++ ys) := pWords.u ⟨by have := h1.now.1; have := h2.now.1; rw [List.length_append]; omega, fun x hx => (List.mem_append.mp hx).elim (h1.now.2 x) (h2.now.2 x)⟩
def pGr : PL := fun _ xs => xs.length ≤ 50 ∧ ∀ x ∈ xs, ∃ z : Str, x = .str z ∧ z.length ≤ 9
theorem cut_sub {xs : List V} {lo hi : Option Int} {x : V} (h : x ∈ cutV xs lo hi) : x ∈ xs := List.mem_of_mem_drop (List.mem_of_mem_take h)
def cVals (K : PySem.W.Frag) (o : Option Addr) (G : Hp) (vs : List V) (p : PL) : Prop := ∃ b : Addr, o = some b ∧ vs = [.ref b] ∧ p = fun G xs => xs.length ≤ 1000 ∧ ∀ x ∈ xs, Kv K G x
theorem ok_values (T : Txt2 K mg ga) (d : Df K mg "_law_values" s__law_values) (G__law_take : Own P w K mg base CX0 1 "_law_take" s__law_take ["box", "many"] (spC cTake)) (G__law_mixed : Own P w K mg base CX0 2 "_law_mixed" s__law_mixed ["box", "items"] (spN (cMixed K)))
    (G__law_grammar : Own P w K mg base CX0 1 "_law_grammar" s__law_grammar [] (spN cGram)) : Own P w K mg base CX0 3 "_law_values" s__law_values ["box"] (spN (cVals K)) :=
  d.own fun f fd F => F.ok sc__law_values (fun vs H Q E h => by obtain ⟨o, G, t, kn, ⟨b, _, rfl, _⟩, _⟩ := h; rfl) (fun cdv A outer s H vs Q E hr h => by
    obtain ⟨o, G, p, kn, ⟨b, rfl, rfl, rfl⟩, k⟩ := h
    refine ⟨_, (pss_cons (ps_par (i := 1) (j := 2) (by rfl) sc__law_values.nd rfl rfl (by decide) rfl rfl (pa_cons (pe_own0 G__law_grammar pb__law_grammar (hr.mono (by first | decide | exact Nat.le_refl _)) rfl pass0) (pa_cons (pe_lst pa_nil) pa_nil)) (by rfl))
   (pss_cons (ps_for PassesOwn.never rfl (pi_range1 rfl T.n_range (pa_cons pe_int pa_nil)) (pg_name (i := 3) sc__law_values.nd rfl (Or.inl rfl)) (pss_one (ps_expr (pe_bm PySem.F.plainAttrs_list PySem.F.slot_list_append PySem.F.type_list_append mt_append (pv 2) (pa_cons (pe_join pe_str (pe_lc (own := [("turn", 3)]) rfl sc__law_values.nd (pi_range1 rfl T.n_range (pa_cons (pe_op (kAdd (K := K) rfl) pe_int (pe_own G__law_take pb__law_take (hr.mono (by first | decide | exact Nat.le_refl _)) rfl pass0 (pa_cons (pv 0) (pa_cons pe_int pa_nil)))) pa_nil)) (blkOk_by (own := [("turn", 3)]) (N := ["box", "words", "drawn", "turn", "near", "others", "word"]) (sc := defScope s__law_values) (by decide +kernel)) (fun _ _ _ _ _ => (pg_name (i := 3) sc__law_values.nd rfl (Or.inl rfl))) (fun _ _ _ _ _ => pts_nil) (fun _ _ _ _ _ => (pe_ix (kIx (K := K) rfl) (pe_lst (pa_cons pe_str (pa_cons pe_str (pa_cons pe_str (pa_cons pe_str (pa_cons pe_str (pa_cons pe_str (pa_cons pe_str (pa_cons pe_str (pa_cons pe_str (pa_cons pe_str pa_nil))))))))))) (pe_own G__law_take pb__law_take (hr.mono (by first | decide | exact Nat.le_refl _)) rfl pass0 (pa_cons (pv 0) (pa_cons pe_int pa_nil))) (fun _ _ => rfl))))) pa_nil)))))
   (pss_cons (ps_set (i := 4) sc__law_values.nd rfl (Or.inl rfl) (pe_op (kAdd (K := K) rfl) (pe_lc (own := [("word", 6)]) rfl sc__law_values.nd (pi_listK (K := K) rfl (pe_slice (kSl (K := K) rfl) (pe_own G__law_mixed pb__law_mixed (hr.mono (by first | decide | exact Nat.le_refl _)) rfl pass0 (pa_cons (pv 0) (pa_cons (pv 1) pa_nil))) po_none (po_some pe_int))) (blkOk_by (own := [("word", 6)]) (N := ["box", "words", "drawn", "turn", "near", "others", "word"]) (sc := defScope s__law_values) (by decide +kernel)) (fun _ _ _ _ _ => (pg_name (i := 6) sc__law_values.nd rfl (Or.inl rfl))) (fun _ _ _ _ _ => pts_nil) (fun _ _ _ _ _ => (pe_op (kAdd (K := K) rfl) (pv 6) (pe_ix (kIx (K := K) rfl) (pe_lst (pa_cons pe_str (pa_cons pe_str (pa_cons pe_str (pa_cons pe_str (pa_cons pe_str (pa_cons pe_str pa_nil))))))) (pe_own G__law_take pb__law_take (hr.mono (by first | decide | exact Nat.le_refl _)) rfl pass0 (pa_cons (pv 0) (pa_cons pe_int pa_nil))) (fun _ _ => rfl))))) (pe_lc (own := [("word", 6)]) rfl sc__law_values.nd (pi_listK (K := K) rfl (pe_slice (kSl (K := K) rfl) (pe_own G__law_mixed pb__law_mixed (hr.mono (by first | decide | exact Nat.le_refl _)) rfl pass0 (pa_cons (pv 0) (pa_cons (pv 1) pa_nil))) po_none (po_some pe_int))) (blkOk_by (own := [("word", 6)]) (N := ["box", "words", "drawn", "turn", "near", "others", "word"]) (sc := defScope s__law_values) (by decide +kernel)) (fun _ _ _ _ _ => (pg_name (i := 6) sc__law_values.nd rfl (Or.inl rfl))) (fun _ _ _ _ _ => pts_nil) (fun _ _ _ _ _ => (pe_slice (kSl (K := K) rfl) (pv 6) po_none (po_some (pe_un un_neg pe_int)))))))
   (pss_cons (ps_set (i := 4) sc__law_values.nd rfl (Or.inl rfl) (pe_op (kAdd (K := K) rfl) (pe_op (kAdd (K := K) rfl) (pv 4) (pe_lc (own := [("word", 6)]) rfl sc__law_values.nd (pi_listK (K := K) rfl (pe_slice (kSl (K := K) rfl) (pe_own G__law_mixed pb__law_mixed (hr.mono (by first | decide | exact Nat.le_refl _)) rfl pass0 (pa_cons (pv 0) (pa_cons (pv 1) pa_nil))) po_none (po_some pe_int))) (blkOk_by (own := [("word", 6)]) (N := ["box", "words", "drawn", "turn", "near", "others", "word"]) (sc := defScope s__law_values) (by decide +kernel)) (fun _ _ _ _ _ => (pg_name (i := 6) sc__law_values.nd rfl (Or.inl rfl))) (fun _ _ _ _ _ => pts_nil) (fun _ _ _ _ _ => (pe_op (kAdd (K := K) rfl) (pe_upper (pe_slice (kSl (K := K) rfl) (pv 6) po_none (po_some pe_int))) (pe_slice (kSl (K := K) rfl) (pv 6) (po_some pe_int) po_none))))) (pe_lc (own := [("word", 6)]) rfl sc__law_values.nd (pi_listK (K := K) rfl (pe_slice (kSl (K := K) rfl) (pe_own G__law_mixed pb__law_mixed (hr.mono (by first | decide | exact Nat.le_refl _)) rfl pass0 (pa_cons (pv 0) (pa_cons (pv 1) pa_nil))) po_none (po_some pe_int))) (blkOk_by (own := [("word", 6)]) (N := ["box", "words", "drawn", "turn", "near", "others", "word"]) (sc := defScope s__law_values) (by decide +kernel)) (fun _ _ _ _ _ => (pg_name (i := 6) sc__law_values.nd rfl (Or.inl rfl))) (fun _ _ _ _ _ => pts_nil) (fun _ _ _ _ _ => (pe_op (kAdd (K := K) rfl) (pv 6) (pv 6))))))
   (pss_cons (ps_set (i := 5) sc__law_values.nd rfl (Or.inl rfl) (pe_lst (pa_cons pe_str (pa_cons pe_str (pa_cons pe_str (pa_cons pe_str (pa_cons pe_str (pa_cons pe_str (pa_cons pe_str (pa_cons pe_str (pa_cons pe_str (pa_cons pe_str (pa_cons pe_str (pa_cons pe_str (pa_cons pe_str (pa_cons pe_non (pa_cons pe_bl (pa_cons pe_bl (pa_cons pe_int (pa_cons pe_int (pa_cons (pe_lst (pa_cons pe_str pa_nil)) (pa_cons (pe_tup (pa_cons pe_str pa_nil)) (pa_cons pe_dnewK (pa_cons (pe_disp (pps_cons pe_str pe_int pps_nil) (by rfl) (by rfl) (fun z => by cases z) (by decide)) (pa_cons (pe_lst pa_nil) (pa_cons pe_str (pa_cons pe_str pa_nil)))))))))))))))))))))))))))
   (pss_one (ps_ret (pe_op (kAdd (K := K) rfl) (pe_op (kAdd (K := K) rfl) (pe_op (kAdd (K := K) rfl) (pv 1) (pv 2)) (pv 4)) (pv 5))))))))), ?_⟩
    -- words, drawn
    refine q_par1N (Go.refl kn) ev_gram (en_lst ea_nil (by decide)) fun v pd xs G2 H2 g2 _ hv hp0 hob hpd gpd hxs => ?_
    obtain ⟨aw, rfl, haw⟩ := hv.now
    have x0 : xs = [] := by
      have a := hxs.now
      cases a
      rfl
    subst x0
    -- take
    have take : ∀ {σ : L2.St} {G' : Hp} {n : Int}, σ[0]? = some (some (.ref b)) → 0 < n ∧ n < 1000000 → Ev (some b) (tCall (spC cTake) [] E0 (tCons (tVar 0) (tCons (tC (.int n)) tNil))) σ G' (tRng 0 n) := fun h hn =>
      ev_call (ea_cons (ev_x h) (ea_cons ev_k ea_nil)) fun G' vs e a => by
        cases a with
        | cons a1 a => cases a with
          | cons a2 a =>
            cases a
            rw [a1.eq, a2.eq]
            exact ⟨some b, _, .inl rfl, ⟨b, _, rfl, rfl, ⟨hn.1, by omega⟩, rfl⟩, fun _ _ _ w => w⟩
    -- an item of a written list of short texts
    have pick : ∀ {σ : L2.St} {G' : Hp} {n : Nat} {tl : TE} (ls : List Str), ls.length = n → (∀ z ∈ ls, z.length ≤ 1) → 0 < n ∧ n < 1000 → σ[0]? = some (some (.ref b)) → Ev (some b) tl σ G' (fun G v => ∃ a, v = .ref a ∧ G a = some (.lst (ls.map V.str))) →
        Ev (some b) (tOp (rIx K) tl (tCall (spC cTake) [] E0 (tCons (tVar 0) (tCons (tC (.int (n : Int))) tNil)))) σ G' (tStr 1) := fun {σ G' n tl} ls hl h1 hn h0 ht =>
      ev_op ht (take h0 ⟨by omega, by omega⟩) fun G'' x y e hx hy => by
        obtain ⟨a, rfl, ha⟩ := hx.now
        obtain ⟨i, rfl, i0, i1⟩ := hy.now
        have hi : i.toNat < ls.length := by omega
        have ei : i = ((i.toNat : Nat) : Int) := by omega
        exact fun G1 H1 e1 kn1 Q q => ro_ixL (.of ha) (at_of (v := .str ls[i.toNat]) ei (by rw [List.getElem?_map, List.getElem?_eq_getElem hi]; rfl)) G1 H1 e1 kn1 Q fun v G3 H3 g3 w3 => q v G3 H3 g3 (by rw [w3.eq]; exact u_str (h1 _ (List.getElem_mem hi)))
    have lit : ∀ {σ : L2.St} {G' : Hp} {ta : TA} {ts : List Ty.T} (ls : List Str), ts = (ls.map V.str).map tIs → ts.length ≤ 1000 → EvA (some b) ta σ G' ts → Ev (some b) (tLst ta) σ G' (fun G v => ∃ a, v = .ref a ∧ G a = some (.lst (ls.map V.str))) := fun {σ G' ta ts} ls hts hle h =>
      (en_lst h (by omega)).ev fun G' a xs e ha hp => ⟨a, rfl, by
        have aux : ∀ {zs : List V} {xs : List V} {G : Hp}, AllU G (zs.map tIs) xs → xs = zs := by
          intro zs
          induction zs with
          | nil => intro xs G h; cases h; rfl
          | cons z r ih =>
            intro xs G h
            cases h with
            | cons a1 a => exact congr (congrArg List.cons (show _ = z from a1.now)) (ih a)
        rw [ha, aux (G := G') (zs := ls.map V.str) (xs := xs) (by rw [← hts]; exact hp.now)]⟩
    -- for turn in range(8)
    refine q_for g2 (ei_rng1 (P := fun _ zs => zs = intsV 0 8) (Pn := fun n => n = 8) (ea_cons (ev_k.imp fun G' v _ w => w.imp fun _ _ e => ⟨8, e, rfl⟩) ea_nil) (fun n e => by omega) fun G' n _ e => by subst e; exact fun _ _ => rfl)
      (fun zs i σ' G' H' => ∃ (ys : List V) (y3 : Option V), σ' = [some (.ref b), some (.ref aw), some (.ref pd), y3, none, none, none] ∧ H' pd = some (.lst ys) ∧ G' pd = none ∧ ys.length ≤ i ∧ ∀ y ∈ ys, U (tStr 1000) G' y)
      (fun zs G' H' g' gl hz => ⟨[], none, rfl, gl.kp pd _ hpd hob, gl.nw pd gpd (by rw [hpd]; simp), Nat.le_refl _, fun _ h => nomatch h⟩) (fun Gs zs e0 hz i x σ' G' H' hx g' e' hi => ?_) (fun zs σ' G' H' g' e' hz hi => ?_)
    · obtain ⟨ys, y3, rfl, hH, hG, hl, hy⟩ := hi
      rw [hz.now] at hx
      obtain ⟨rfl, hi8⟩ := intsV_get hx
      refine s_app (t := tStr 1000) g' hp0 hG hob hH (ev_x rfl) (fun G3 e3 => ?_) (by omega) fun v G3 H3 g3 gl3 n3 w3 => ⟨G3, g3, e'.trans gl3.gg, ys ++ [v], _, rfl, upd_same, n3, by rw [List.length_append]; simp; omega, fun y hy' => ?_⟩
      · refine (ev_join (n := 20) (m := 1) ev_k ((en_all (t := tStr 1) (P := fun _ zs => zs.length ≤ 20) (ei_rng1 (Pn := fun n => 0 ≤ n ∧ n ≤ 20) (ea_cons (ev_op (s := tIs (.int 1)) (u := tRng 0 9) ev_k (take rfl ⟨by decide, by decide⟩) fun G' x y e hx hy => ?_) ea_nil) (fun n h => by omega) fun G' n _ hn _ _ => by rw [intsV_len]; omega) (fun _ => rfl) (fun _ zs _ h => by have := h.now; omega) (fun _ _ _ _ _ _ _ => et_yes) fun G' zs i x e hz hi => ?_).impN fun G' xs h => ?_) (by decide)).imp fun G' v _ w => w.imp fun _ _ ⟨z, e, hz⟩ => ⟨z, e, by omega⟩
        · obtain ⟨i, rfl, i0, i1⟩ := hy.now
          rw [hx.eq]
          exact ro_q (z := .int (1 + i)) (fun _ _ => ⟨_, rfl, by omega, by omega⟩) fun _ _ _ _ _ q => .inl ⟨1, i, rfl, rfl, q⟩
        · exact pick ["a", "e", "i", "n", "o", "r", "s", "t", "z", "w"] rfl (by decide +kernel) (by decide) rfl (lit _ rfl (by show 10 ≤ 1000; decide) (ea_cons ev_k (ea_cons ev_k (ea_cons ev_k (ea_cons ev_k (ea_cons ev_k (ea_cons ev_k (ea_cons ev_k (ea_cons ev_k (ea_cons ev_k (ea_cons ev_k ea_nil)))))))))))
        · obtain ⟨zs, hz, hl, hx⟩ := h
          exact ⟨by have := hz.now; omega, hx⟩
      · rcases List.mem_append.mp hy' with h | h
        · exact (hy y h).up gl3.gg
        · rw [List.mem_singleton.mp h]; exact w3
    obtain ⟨ys, y3, rfl, hH, hG, hl, hy⟩ := hi
    rw [hz.now, intsV_len] at hl
    -- drawn is known from here on
    have gf := g'.fix hp0 hH hG hob
    have exf : Ex G' (upd G' pd (.lst ys)) := Ex.new hG
    have hawf : (upd G' pd (.lst ys)) aw = some (.lst (gram.map V.str)) := exf _ _ (e' _ _ haw)
    have kdr : UP (pWords 8) (upd G' pd (.lst ys)) ys := pWords.u ⟨hl, fun y h => (hy y h).up exf⟩
    -- few of the words, mixed
    have mix : ∀ {σ : L2.St} {G' : Hp} {n : Int}, σ[0]? = some (some (.ref b)) → σ[1]? = some (some (.ref aw)) → G' aw = some (.lst (gram.map V.str)) → EvI (some b) (iList K (tSl (rSlG K) (tCall (spN (cMixed K)) [] E0 (tCons (tVar 0) (tCons (tVar 1) tNil))) tNoPart (tPart (tC (.int n))))) σ G' pGr := fun {σ G' n} h0 h1 ha =>
      ei_listN (en_slN (P := pGr) (P' := pGr) (en_call (ea_cons (ev_x h0) (ea_cons (ev_x h1) ea_nil)) fun G2 vs e a => by
        cases a with
        | cons a1 a => cases a with
          | cons a2 a =>
            cases a
            rw [a1.eq, a2.eq]
            refine ⟨some b, _, .inl rfl, ⟨b, aw, gram.map V.str, rfl, rfl, .of (e _ _ ha), by rw [List.length_map, gram_len]; decide, rfl⟩, fun G3 xs _ h _ _ => ?_⟩
            have pm := h.now
            refine ⟨by rw [pm.length_eq, List.length_map, gram_len]; decide, fun x hx => ?_⟩
            obtain ⟨z, hz, rfl⟩ := List.mem_map.mp (pm.mem_iff.mp hx)
            exact ⟨z, rfl, gram_le hz⟩) eo_none (eo_some ev_k) fun G2 xs h => ⟨Nat.le_trans (cutV_length xs _ _) h.1, fun x hx => h.2 x (cut_sub hx)⟩) fun _ _ _ h => h
    have each : ∀ {σ : L2.St} {G' : Hp} {n : Int} {te : TE}, σ[0]? = some (some (.ref b)) → σ[1]? = some (some (.ref aw)) → G' aw = some (.lst (gram.map V.str)) → (∀ x, wipe ((wipe σ [6]).set 6 (some x)) [6] = wipe σ [6]) →
        (∀ G2 (z : Str), Ex G' G2 → z.length ≤ 9 → Ev (some b) te ((wipe σ [6]).set 6 (some (.str z))) G2 (tStr 1000)) → EvN (some b) (tLc (iList K (tSl (rSlG K) (tCall (spN (cMixed K)) [] E0 (tCons (tVar 0) (tCons (tVar 1) tNil))) tNoPart (tPart (tC (.int n))))) (gName 6) tYes te [6]) σ G' (pWords 50) := fun {σ G' n te} h0 h1 ha hw he =>
      (en_all (t := tStr 1000) (mix h0 h1 ha) hw (fun _ xs _ h => by have := h.now.1; omega) (fun _ _ _ _ _ _ _ => et_yes) fun G2 xs i x e hP hi => by
        obtain ⟨z, rfl, hz⟩ := hP.now.2 x (List.mem_of_getElem? hi)
        exact he G2 z e hz).impN fun G2 xs h => by
          obtain ⟨zs, hz, hl, hx⟩ := h
          exact ⟨by have := hz.now.1; omega, hx⟩
    have addS : ∀ {σ : L2.St} {G' : Hp} {ta tb : TE} {n m : Nat}, n + m ≤ 1000 → Ev (some b) ta σ G' (tStr n) → Ev (some b) tb σ G' (tStr m) → Ev (some b) (tOp (rAddG K) ta tb) σ G' (tStr 1000) := fun hnm h1 h2 => ev_op h1 h2 fun G2 x y e hx hy => by
      obtain ⟨z1, rfl, l1⟩ := hx.now
      obtain ⟨z2, rfl, l2⟩ := hy.now
      exact fun G1 H1 e1 kn1 Q q => ro_addS (by omega) G1 H1 e1 kn1 Q fun v G3 H3 g3 w3 => q v G3 H3 g3 (by rw [w3.eq]; exact u_str (by rw [len_app]; omega))
    have toS : ∀ {σ : L2.St} {G' : Hp} {ta : TE} {z : Str} {n : Nat}, z.length ≤ n → Ev (some b) ta σ G' (tIs (.str z)) → Ev (some b) ta σ G' (tStr n) := fun hz h => h.imp fun G2 v _ w => by rw [w.eq]; exact u_str hz
    -- near
    refine q_asg (t := tWords 100) gf ((en_catQ (each rfl rfl hawf (fun _ => rfl) fun G2 z e hz => ?_).q (each rfl rfl hawf (fun _ => rfl) fun G2 z e hz => ?_).q (fun _ _ h => by have := h.now.1; omega) (fun _ _ h => by have := h.now.1; omega) fun _ _ _ h1 h2 => up_cat (k := 100) (by decide) h1 h2).ev fun G2 a xs e ha hp => ⟨a, xs, rfl, ha, hp⟩) fun v G3 H3 g3 gl3 w3 => ?_
    · exact addS (n := 9) (m := 1) (by decide) (toS hz (ev_x rfl)) (pick ["s", "a", " ", "S", "1", "-"] rfl (by decide +kernel) (by decide) rfl (lit _ rfl (by show 6 ≤ 1000; decide) (ea_cons ev_k (ea_cons ev_k (ea_cons ev_k (ea_cons ev_k (ea_cons ev_k (ea_cons ev_k ea_nil))))))))
    · exact toS (Nat.le_trans (cutS_length z _ _) (by omega)) (ev_slS (ev_x rfl) (by omega) eo_none (eo_some (ev_un (s := tIs (.int 1)) ev_k fun G' x _ hx => by rw [hx.eq]; exact ru_q u_is fun _ _ _ _ _ q => ⟨1, rfl, q⟩)))
    obtain ⟨an, ns, rfl, han, hns⟩ := w3.now
    have haw3 := gl3.gg _ _ hawf
    refine q_asg (t := tWords 200) g3 ((en_catQ (en_catQ ((ev_x rfl).q (P := pWords 100) fun G2 v e w => ⟨an, ns, w.eq, e _ _ han, hns.up e⟩) (each rfl rfl haw3 (fun _ => rfl) fun G2 z e hz => ?_).q (fun _ _ h => by have := h.now.1; omega) (fun _ _ h => by have := h.now.1; omega) fun _ _ _ h1 h2 => up_cat (k := 150) (by decide) h1 h2).q (each rfl rfl haw3 (fun _ => rfl) fun G2 z e hz => ?_).q (fun _ _ h => by have := h.now.1; omega) (fun _ _ h => by have := h.now.1; omega) fun _ _ _ h1 h2 => up_cat (k := 200) (by decide) h1 h2).ev fun G2 a xs e ha hp => ⟨a, xs, rfl, ha, hp⟩) fun v G4 H4 g4 gl4 w4 => ?_
    · have l1 : (cutS z none (some 1)).length ≤ 9 := Nat.le_trans (cutS_length z _ _) hz
      have l2 := PyProof.Rows.len_upper (cutS z none (some 1))
      exact addS (n := 27) (m := 9) (by decide) (toS (by omega) (ev_upper (ev_slS (ev_x rfl) (by omega) eo_none (eo_some ev_k)) (by omega))) (toS (Nat.le_trans (cutS_length z _ _) hz) (ev_slS (ev_x rfl) (by omega) (eo_some ev_k) eo_none))
    · exact addS (n := 9) (m := 9) (by decide) (toS hz (ev_x rfl)) (toS hz (ev_x rfl))
    obtain ⟨an2, ns2, rfl, han2, hns2⟩ := w4.now
    have haw4 := gl4.gg _ _ haw3
    have hdr4 : G4 pd = some (.lst ys) := gl4.gg _ _ (gl3.gg _ _ upd_same)
    have kv : ∀ {σ : L2.St} {G' : Hp} {ta : TE} {x : V}, Ev (some b) ta σ G' (tIs x) → (∀ G2, Kv K G2 x) → Ev (some b) ta σ G' (tKv K) := fun h hk => h.imp fun G2 v _ w => by rw [w.eq]; exact (hk G2).un
    have ks : ∀ {σ : L2.St} {G' : Hp} {z : Str}, z.length ≤ 1000 → Ev (some b) (tC (.str z)) σ G' (tKv K) := fun h => kv ev_k fun _ => kv_str h
    have kl : ∀ {σ : L2.St} {G' : Hp} {ta : TA} {ts : List Ty.T}, EvA (some b) ta σ G' ts → ts.length ≤ 1000 → Ev (some b) (tLst ta) σ G' (tKv K) := fun h hl => (en_lst h (by omega)).ev fun G2 a xs e ha hp => kv_lst (.of ha)
    have kt : ∀ {σ : L2.St} {G' : Hp} {ta : TA} {ts : List Ty.T}, EvA (some b) ta σ G' ts → ts.length ≤ 1000 → Ev (some b) (tTup ta) σ G' (tKv K) := fun h hl => (ev_tup (K := K) h (by omega)).imp fun G2 v _ w => by
      obtain ⟨a, vs, rfl, ha, _⟩ := w.now
      exact (kv_tup ha).un
    have kd0 : ∀ {σ : L2.St} {G' : Hp}, Ev (some b) tDNewK σ G' (tKv K) := ev_dnew.imp fun G2 v _ w => by
      obtain ⟨a, rfl, ha⟩ := w.now
      exact (kv_dic ha).un
    have kd1 : ∀ {σ : L2.St} {G' : Hp}, Ev (some b) (tDisp [(tC (.str "ann"), tC (.int 1))]) σ G' (tKv K) := (ev_disp1 (k := Sum.inr "ann") (fun _ => ev_k) (fun _ => ev_k)).imp fun G2 v _ w => by
      obtain ⟨a, rfl, ha⟩ := w.now
      exact (kv_dic ha).un
    have su : ∀ {z : Str} {n : Nat}, z.length = n → n ≤ 1000 → z.length ≤ 1000 := fun h1 h2 => h1 ▸ h2
    refine q_asg (t := fun G v => ∃ a xs, v = .ref a ∧ G a = some (.lst xs) ∧ UP (fun G xs => xs.length ≤ 100 ∧ ∀ x ∈ xs, Kv K G x) G xs) g4 ((en_lst (ts := List.replicate 25 (tKv K)) ?_ (by rw [List.length_replicate]; decide)).ev fun G2 a xs e ha hp => ⟨a, xs, rfl, ha, fun G3 e3 => ?_⟩) fun v G5 H5 g5 gl5 w5 => ?_
    · exact ea_cons (ks (by decide +kernel)) (ea_cons (ks (by decide +kernel)) (ea_cons (ks (by decide +kernel)) (ea_cons (ks (by decide +kernel)) (ea_cons (ks (by decide +kernel)) (ea_cons (ks (by decide +kernel)) (ea_cons (ks (by decide +kernel)) (ea_cons (ks (by decide +kernel)) (ea_cons (ks (by decide +kernel)) (ea_cons (ks (by decide +kernel)) (ea_cons (ks (by decide +kernel)) (ea_cons (ks (by decide +kernel)) (ea_cons (ks (by decide +kernel))
        (ea_cons (kv ev_k fun _ => kv_non) (ea_cons (kv ev_k fun _ => kv_bl) (ea_cons (kv ev_k fun _ => kv_bl) (ea_cons (kv ev_k fun _ => kv_int) (ea_cons (kv ev_k fun _ => kv_int) (ea_cons (kl (ea_cons ev_k ea_nil) (by show 1 ≤ 1000; decide)) (ea_cons (kt (ea_cons ev_k ea_nil) (by show 1 ≤ 1000; decide)) (ea_cons kd0 (ea_cons kd1 (ea_cons (kl ea_nil (by decide)) (ea_cons (ks (by decide +kernel)) (ea_cons (ks (by decide +kernel)) ea_nil))))))))))))))))))))))))
    · have aux : ∀ {n : Nat} {xs : List V} {G : Hp}, AllU G (List.replicate n (tKv K)) xs → xs.length = n ∧ ∀ x ∈ xs, Kv K G x := by
        intro n
        induction n with
        | zero => intro xs G h; cases h; exact ⟨rfl, fun _ h => nomatch h⟩
        | succ n ih =>
          intro xs G h
          cases h with
          | cons a1 a =>
            obtain ⟨h1, h2⟩ := ih a
            exact ⟨congrArg (· + 1) h1, fun x hx => (List.mem_cons.mp hx).elim (fun e => e ▸ a1.now) (h2 x)⟩
      obtain ⟨h1, h2⟩ := aux (hp G3 e3)
      exact ⟨by rw [h1]; decide, h2⟩
    obtain ⟨ao, os, rfl, hao, hos⟩ := w5.now
    have toK : ∀ {G' : Hp} {xs : List V} {n : Nat}, UP (pWords n) G' xs → n ≤ 900 → UP (fun G xs => xs.length ≤ n ∧ ∀ x ∈ xs, Kv K G x) G' xs := fun h hn G2 e2 => ⟨(h G2 e2).1, fun x hx => by
      obtain ⟨z, rfl, hz⟩ := ((h G2 e2).2 x hx).now
      exact kv_str hz⟩
    have catK : ∀ {n m l : Nat} {G' : Hp} {xs ys : List V}, n + m ≤ l → UP (fun G xs => xs.length ≤ n ∧ ∀ x ∈ xs, Kv K G x) G' xs → UP (fun G xs => xs.length ≤ m ∧ ∀ x ∈ xs, Kv K G x) G' ys → UP (fun G xs => xs.length ≤ l ∧ ∀ x ∈ xs, Kv K G x) G' (xs ++ ys) := fun hl h1 h2 G2 e2 =>
      ⟨by have a1 := (h1 G2 e2).1; have a2 := (h2 G2 e2).1; rw [List.length_append]; omega, fun x hx => (List.mem_append.mp hx).elim ((h1 G2 e2).2 x) ((h2 G2 e2).2 x)⟩
    have kgr : ∀ G', UP (pWords 50) G' (gram.map V.str) := fun G' => pWords.u ⟨by rw [List.length_map, gram_len]; decide, fun x hx => by
      obtain ⟨z, hz, rfl⟩ := List.mem_map.mp hx
      exact u_str (by have := gram_le hz; omega)⟩
    refine s_retN g5 (en_catQ (en_catQ (en_catQ ((ev_x rfl).q (P := fun G xs => xs.length ≤ 50 ∧ ∀ x ∈ xs, Kv K G x) fun G2 v e w => ⟨aw, _, w.eq, e _ _ (gl5.gg _ _ haw4), toK (kgr _) (by decide)⟩) ((ev_x rfl).q (P := fun G xs => xs.length ≤ 8 ∧ ∀ x ∈ xs, Kv K G x) fun G2 v e w => ⟨pd, _, w.eq, e _ _ (gl5.gg _ _ hdr4), toK (kdr.up ((gl3.gg.trans (gl4.gg.trans gl5.gg)).trans e)) (by decide)⟩)
      (fun _ _ h => by have := h.now.1; omega) (fun _ _ h => by have := h.now.1; omega) fun _ _ _ h1 h2 => catK (l := 60) (by decide) h1 h2).q ((ev_x rfl).q (P := fun G xs => xs.length ≤ 200 ∧ ∀ x ∈ xs, Kv K G x) fun G2 v e w => ⟨an2, _, w.eq, e _ _ (gl5.gg _ _ han2), toK (hns2.up (gl5.gg.trans e)) (by decide)⟩)
      (fun _ _ h => by have := h.now.1; omega) (fun _ _ h => by have := h.now.1; omega) fun _ _ _ h1 h2 => catK (l := 300) (by decide) h1 h2).q ((ev_x rfl).q (P := fun G xs => xs.length ≤ 100 ∧ ∀ x ∈ xs, Kv K G x) fun G2 v e w => ⟨ao, _, w.eq, e _ _ hao, hos.up e⟩)
      (fun _ _ h => by have := h.now.1; omega) (fun _ _ h => by have := h.now.1; omega) fun _ _ _ h1 h2 => catK (l := 1000) (by decide) h1 h2) k)
def cLaw (K : PySem.W.Frag) (o : Option Addr) (G : Hp) (vs : List V) (t : T) : Prop := o = none ∧ ∃ (a : Addr) (ns : List Int), vs = [.ref a] ∧ SqL K G a (ns.map V.int) ∧ t = tIs (.bl true)
theorem ok_law (T : Txt2 K mg ga) {f : Addr} {fd : FuncData} (F : Fun K "law" "law" s_law f fd) (G__law_box : Own P w K mg base CX0 1 "_law_box" s__law_box ["great"] (spN cBox)) (G__law_cell : Own P w K mg base CX0 1 "_law_cell" s__law_cell ["script", "k"] (spC (cCell K)))
    (G__law_take : Own P w K mg base CX0 1 "_law_take" s__law_take ["box", "many"] (spC cTake)) (G__law_values : Own P w K mg base CX0 3 "_law_values" s__law_values ["box"] (spN (cVals K)))
    (G_is_name : Own P w K mg base CX0 2 "is_name" s_is_name ["value"] (spC (cVal K nameV))) (G__law_is_name : Own P w K mg base CX0 2 "_law_is_name" s__law_is_name ["value"] (spC (cVal K nameV)))
    (G__law_same : Own P w K mg base CX0 2 "_law_same" s__law_same ["told", "due"] (spC (cSame K 2))) : FnOk P w K mg base CX0 4 f fd ["script"] (spC (cLaw K)) :=
  F.ok sc_law (fun vs H Q E h => by obtain ⟨o, G, t, kn, ⟨_, a, ns, rfl, _⟩, _⟩ := h; rfl) (fun cdv A outer s H vs Q E hr h => by
    obtain ⟨o, G, p, kn, ⟨rfl, a, ns, rfl, hs, rfl⟩, k⟩ := h
    refine ⟨_, (pss_cons (ps_for PassesOwn.never rfl (pi_range1 rfl T.n_range (pa_cons (pe_callB (call_max2 rfl) (by rfl) T.n_max (by decide +kernel) (pa_cons pe_int (pa_cons (pe_callB (call_min2 rfl) (by rfl) T.n_min (by decide +kernel) (pa_cons pe_int (pa_cons (pe_callB (kLen (K := K) rfl) (by rfl) T.n_len (by decide +kernel) (pa_cons (pv 0) pa_nil)) pa_nil))) pa_nil))) pa_nil)) (pg_name (i := 1) sc_law.nd rfl (Or.inl rfl)) (pss_cons (ps_set (i := 2) sc_law.nd rfl (Or.inl rfl) (pe_own G__law_box pb__law_box (hr.mono (by first | decide | exact Nat.le_refl _)) rfl pass0 (pa_cons (pe_own G__law_cell pb__law_cell (hr.mono (by first | decide | exact Nat.le_refl _)) rfl pass0 (pa_cons (pv 0) (pa_cons (pv 1) pa_nil))) pa_nil)))
   (pss_cons (ps_set (i := 3) sc_law.nd rfl (Or.inl rfl) (pe_cmpR (kEq (K := K) rfl hr.units) (pe_own G__law_take pb__law_take (hr.mono (by first | decide | exact Nat.le_refl _)) rfl pass0 (pa_cons (pv 2) (pa_cons pe_int pa_nil))) pe_int (nomark _)))
   (pss_one (ps_for PassesOwn.never rfl (pi_listK (K := K) rfl (pe_own G__law_values pb__law_values (hr.mono (by first | decide | exact Nat.le_refl _)) rfl pass0 (pa_cons (pv 2) pa_nil))) (pg_name (i := 4) sc_law.nd rfl (Or.inl rfl)) (pss_cons (ps_set (i := 5) sc_law.nd rfl (Or.inl rfl) (pe_lst (pa_cons (pe_ifExp (pt_val (pv 3)) (pe_ownK (ks := ["value"]) (g := (fun (zs : List Value) => match zs with | [w0] => [w0] | _ => [])) (gV := (fun (zs : List V) => match zs with | [w0] => [w0] | _ => [])) G_is_name (fun _ _ _ _ _ _ ws hl => match ws, hl with | [_], _ => rfl) (fun {zs ws} hl r => match zs, ws, hl, r with | [_], _, _, .cons r0 (Paired.nil) => .cons r0 (.nil)) (hr.mono (by first | decide | exact Nat.le_refl _)) rfl pass0 (pk_cons (pv 4) pk_nil)) (pe_own G_is_name pb_is_name (hr.mono (by first | decide | exact Nat.le_refl _)) rfl pass0 (pa_cons (pv 4) pa_nil))) (pa_cons (pe_ifExp (pt_val (pv 3)) (pe_own G_is_name pb_is_name (hr.mono (by first | decide | exact Nat.le_refl _)) rfl pass0 (pa_cons (pv 4) pa_nil)) (pe_ownK (ks := ["value"]) (g := (fun (zs : List Value) => match zs with | [w0] => [w0] | _ => [])) (gV := (fun (zs : List V) => match zs with | [w0] => [w0] | _ => [])) G_is_name (fun _ _ _ _ _ _ ws hl => match ws, hl with | [_], _ => rfl) (fun {zs ws} hl r => match zs, ws, hl, r with | [_], _, _, .cons r0 (Paired.nil) => .cons r0 (.nil)) (hr.mono (by first | decide | exact Nat.le_refl _)) rfl pass0 (pk_cons (pv 4) pk_nil))) pa_nil))))
   (pss_cons (ps_if (pt_not (pt_val (pe_own G__law_same pb__law_same (hr.mono (by first | decide | exact Nat.le_refl _)) rfl pass0 (pa_cons (pv 5) (pa_cons (pe_op gMul (pe_lst (pa_cons (pe_own G__law_is_name pb__law_is_name (hr.mono (by first | decide | exact Nat.le_refl _)) rfl pass0 (pa_cons (pv 4) pa_nil)) pa_nil)) pe_int) pa_nil))))) (pss_one (ps_ret pe_bl)) pss_nil)
   (pss_one (ps_set (i := 3) sc_law.nd rfl (Or.inl rfl) (pe_not (pv 3)))))))))))
   (pss_one (ps_ret pe_bl))), ?_⟩
    refine q_for (Go.refl kn) (ei_rng1 (P := fun _ zs => ∃ n : Nat, n ≤ 4 ∧ zs = intsV 0 n) (Pn := fun n => 0 ≤ n ∧ n ≤ 4) (ea_cons ?_ ea_nil) (fun n e => by omega) fun G' n _ e _ _ => ⟨n.toNat, by omega, rfl⟩)
      (fun zs i σ' G' H' => ∃ y1 y2 y3 y4 y5 : Option V, σ' = [some (.ref a), y1, y2, y3, y4, y5]) (fun zs G' H' g' gl hz => ⟨_, _, _, _, _, rfl⟩) (fun Gs zs e0 hz i x σ' G' H' hx g' e' hi => ?_) (fun zs σ' G' H' g' e' hz hi => ?_)
    · -- max(2, min(4, len(script)))
      refine ev_cb (ea_cons ev_k (ea_cons (ev_cb (ea_cons ev_k (ea_cons (ev_cb1 (ev_x rfl) fun G' e => rc_lenL (ex_l e hs)) ea_nil)) (t := fun _ v => ∃ n : Int, v = .int n ∧ 0 ≤ n ∧ n ≤ 4) fun G' vs e al => ?_) ea_nil)) fun G' vs e al => ?_
      · cases al with
        | cons a1 al => cases al with
          | cons a2 al =>
            cases al
            rw [a1.eq, a2.eq]
            exact rc_q (fun _ _ => ⟨_, rfl, by split <;> omega, by split <;> omega⟩) fun _ _ _ _ _ q => ⟨_, _, rfl, q⟩
      · cases al with
        | cons a1 al => cases al with
          | cons a2 al =>
            cases al
            obtain ⟨n, rfl, h0, h1⟩ := a2.now
            rw [a1.eq]
            exact rc_q (fun _ _ => ⟨_, rfl, by split <;> omega, by split <;> omega⟩) fun _ _ _ _ _ q => ⟨_, _, rfl, q⟩
    · obtain ⟨y1, y2, y3, y4, y5, rfl⟩ := hi
      obtain ⟨n, hn, hz'⟩ := hz.now
      rw [hz'] at hx
      obtain ⟨rfl, hi4⟩ := intsV_get hx
      have hs' := ex_l (e0.trans e') hs
      -- box = ..
      refine q_asgN (P := pBox) g' (en_call (ea_cons (ev_call (t := tInt) (ea_cons (ev_x rfl) (ea_cons (ev_x rfl) ea_nil)) fun G2 vs e al => ?_) ea_nil) fun G2 vs e al => ?_) fun pb xs G2 H2 g2 gl hp0 hpH _ hpb gpb hxs => ?_
      · cases al with
        | cons a1 al => cases al with
          | cons a2 al =>
            cases al
            rw [a1.eq, a2.eq]
            exact ⟨none, _, .inl rfl, ⟨rfl, a, ns, _, rfl, ex_l e hs', ⟨by omega, by omega⟩, rfl⟩, fun _ _ _ w => w⟩
      · cases al with
        | cons a1 al =>
          cases al
          obtain ⟨n, rfl⟩ := a1.now
          exact ⟨none, _, .inl rfl, ⟨rfl, n, rfl, rfl⟩, fun _ _ _ w => w⟩
      obtain ⟨bn, bg, br, bc, rfl⟩ := hxs.now
      have kb : Kn (some pb) G2 H2 := ⟨g2.kn.sub, fun c e => by cases e; exact ⟨⟨bn, bg, br, bc, hpb⟩, gpb⟩⟩
      have gb := Go.refl kb
      have eGs : Ex Gs G2 := e'.trans gl.gg
      -- by_name = ..
      refine q_asg (t := tBool) gb (ev_op (s := tRng 0 2) (ev_call (ea_cons (ev_x rfl) (ea_cons ev_k ea_nil)) fun G3 vs e al => ?_) ev_k fun G3 x y e hx hy => ?_) fun v G3 H3 g3 _ w3 => ?_
      · cases al with
        | cons a1 al => cases al with
          | cons a2 al =>
            cases al
            rw [a1.eq, a2.eq]
            exact ⟨some pb, _, .inl rfl, ⟨pb, 2, rfl, rfl, ⟨by decide, by decide⟩, rfl⟩, fun _ _ _ w => w⟩
      · obtain ⟨i, rfl, _⟩ := hx.now
        rw [hy.eq]
        exact ro_q (fun _ _ => ⟨_, rfl⟩) fun _ _ _ _ _ q => .inl ⟨rfl, q⟩
      obtain ⟨c, rfl⟩ := w3.now
      -- for value in ..
      refine s_for g3 (ei_listN (P := fun G xs => xs.length ≤ 1000 ∧ ∀ x ∈ xs, Kv K G x) (en_call (ea_cons (ev_x rfl) ea_nil) fun G4 vs e al => ?_) fun _ _ _ h => h)
        (fun zs i σ' G' H' => ∃ (c : Bool) (y4 y5 : Option V) (y1 : V), σ' = [some (.ref a), some y1, some (.ref pb), some (.bl c), y4, y5]) (fun zs G' H' g' gl hz => ⟨c, _, _, _, rfl⟩) (fun Gt zt e1 ht j x σ' G4 H4 hx g4 e4 hi => ?_) (fun zt σ' G4 H4 g4 e4 ht hi => ?_)
      · cases al with
        | cons a1 al =>
          cases al
          rw [a1.eq]
          exact ⟨some pb, _, .inl rfl, ⟨pb, rfl, rfl, rfl⟩, fun _ _ _ w => w⟩
      · obtain ⟨c, y4, y5, y1, rfl⟩ := hi
        have kx : Kv K G4 x := (ht.up e4).now.2 x (List.mem_of_getElem? hx)
        have c1 : ∀ {σ : L2.St} {G' : Hp} {E : XK}, σ[4]? = some (some x) → Ex G4 G' → Ev (some pb) (tCall (spC (cVal K nameV)) [] E (tCons (tVar 4) tNil)) σ G' (tIs (.bl (nameV x))) := fun h e0 => ev_call (ea_cons (ev_x h) ea_nil) fun G5 vs e al => by
          cases al with
          | cons a1 al =>
            cases al
            rw [a1.eq]
            exact ⟨none, _, .inr rfl, ⟨rfl, x, rfl, kx.up (e0.trans e), rfl⟩, fun _ _ _ w => w⟩
        have c2 : ∀ {σ : L2.St} {G' : Hp} {E : XK}, σ[4]? = some (some x) → Ex G4 G' → Ev (some pb) (tKw (spC (cVal K nameV)) 1 (fun zs => match zs with | [w0] => [w0] | _ => []) E (tCons (tVar 4) tNil)) σ G' (tIs (.bl (nameV x))) := fun h e0 => ev_kw rfl (ea_cons (ev_x h) ea_nil) fun G5 vs e al => by
          cases al with
          | cons a1 al =>
            cases al
            rw [a1.eq]
            exact ⟨none, _, .inr rfl, ⟨rfl, x, rfl, kx.up (e0.trans e), rfl⟩, fun _ _ _ w => w⟩
        have bn : ∀ {σ : L2.St} {G' : Hp}, σ[3]? = some (some (.bl c)) → EvT (some pb) (tB (tVar 3)) σ G' (· = c) := fun h => et_b (ev_x h)
        refine q_asg (t := tLstU K [tIs (.bl (nameV x)), tIs (.bl (nameV x))]) g4 ((en_lst (ea_cons (ev_if (bn rfl) (fun _ => c2 rfl (Ex.refl _)) fun _ => c1 rfl (Ex.refl _)) (ea_cons (ev_if (bn rfl) (fun _ => c1 rfl (Ex.refl _)) fun _ => c2 rfl (Ex.refl _)) ea_nil)) (by show 2 ≤ 100000; decide)).ev fun G5 p xs e hp h => ⟨p, xs, rfl, .of hp, h.now⟩) fun v G5 H5 g5 gl5 w5 => ?_
        obtain ⟨pt, ps, rfl, hpt, hps⟩ := w5.now
        refine q_when g5 (p := (· = !true)) (et_not (et_b (ev_call (t := tIs (.bl true)) (ea_cons (ev_x rfl) (ea_cons ((en_rep (P := fun _ xs => xs = [.bl (nameV x)]) (P2 := fun _ xs => xs = [.bl (nameV x), .bl (nameV x)]) (n := 2) ((en_lst (ea_cons (c1 rfl gl5.gg) ea_nil) (by show 1 ≤ 100000; decide)).impN fun G6 xs h => ?_) ev_k ⟨by decide, by decide⟩ (fun _ _ h => by rw [h.now]; show 1 ≤ 100; decide) fun G6 xs h _ _ => by rw [h.now]; rfl).ev (t := fun G v => ∃ p, v = .ref p ∧ G p = some (.lst [.bl (nameV x), .bl (nameV x)])) fun G6 p xs e hp h => ⟨p, rfl, by rw [hp, h.now]⟩) ea_nil)) fun G6 vs e al => ?_))) (fun z => nomatch z) fun _ G6 H6 g6 gl6 => ?_
        · cases h with
          | cons a1 h =>
            cases h
            rw [a1.eq]
        · cases al with
          | cons a1 al => cases al with
            | cons a2 al =>
              cases al
              obtain ⟨pd, rfl, hpd⟩ := a2.now
              rw [a1.eq]
              refine ⟨none, _, .inr rfl, ⟨rfl, .ref pt, .ref pd, rfl, .inr (.inl ⟨pt, pd, ps, _, rfl, rfl, ex_l e hpt, .of hpd, by rw [hps.len]; show 2 ≤ 1000; decide, ?_⟩), rfl⟩, fun _ _ _ w => w⟩
              cases hps with
              | cons b1 hps => cases hps with
                | cons b2 hps =>
                  cases hps
                  rw [b1.eq, b2.eq]
                  exact .cons (.inl ⟨rfl, rfl⟩) (.cons (.inl ⟨rfl, rfl⟩) .nil)
        · refine s_asg (t := tIs (.bl (!c))) g6 (ev_not (ev_x rfl)) fun v G7 H7 g7 gl7 w7 => ?_
          rw [w7.eq]
          exact ⟨G7, g7, e4.trans (gl5.gg.trans (gl6.gg.trans gl7.gg)), !c, _, _, _, rfl⟩
      · obtain ⟨c, y4, y5, y1, rfl⟩ := hi
        exact ⟨G4, g2.unbox hp0 g4, eGs.trans g4.gg, _, _, _, _, _, rfl⟩
    · exact s_ret g' ev_k k)
end
end K01
set_option Elab.async false
set_option maxRecDepth 100000
namespace K01
open PySem L2 Ty
open Evl (Ex ex_l ex_t)
theorem law_fn {P : Program} {w : World} {K : PySem.W.Frag} {mg : Str → Option Value} {ga fa : Addr} (T : Txt2 K mg ga)
    (d1 : Df K mg "is_letters" s_is_letters) (d2 : Df K mg "is_name" s_is_name) (d3 : Df K mg "_law_box" s__law_box) (d4 : Df K mg "_law_take" s__law_take) (d5 : Df K mg "_law_cell" s__law_cell) (d6 : Df K mg "_law_same" s__law_same)
    (d7 : Df K mg "_law_mixed" s__law_mixed) (d8 : Df K mg "_law_is_name" s__law_is_name) (d9 : Df K mg "_law_grammar" s__law_grammar) (d10 : Df K mg "_law_values" s__law_values) (d11 : Df K mg "law" s_law) (hfa : mg "law" = some (.ref fa)) :
    ∃ fd : FuncData, (∀ (s : Shared) (v : Value), BindsTo s fd ⟨[v], []⟩ [("script", v)]) ∧ ∀ base : Heap, K.In base → base.Ns mainGlobals mg → FnOk P w K mg base CX0 4 fa fd ["script"] (spC (cLaw K)) := by
  obtain ⟨f, fd, F, hm⟩ := d11.ex
  rw [hm] at hfa
  cases hfa
  obtain ⟨_, _, kV, doc, pm, an, cdv, ct, _, rfl, _, _⟩ := id F.ex
  refine ⟨PySem.W.fnOf "law" "law" (defArgs s_law) (defBody s_law) (defScope s_law) .none kV doc pm an cdv ct, fun s v => .of_eq rfl, fun base _ _ => ?_⟩
  have t := T.toTxt
  have o4 := ok_take (P := P) (w := w) (base := base) t d4
  have o1 := ok_letters (P := P) (w := w) (base := base) T d1
  have o9 := ok_grammar (P := P) (w := w) (base := base) d9
  have o7 := ok_mixed t d7 o4
  exact ok_law T F (ok_box t d3) (ok_cell t d5) o4 (ok_values T d10 o4 o7 o9) (ok_name T d2 o1) (ok_lname T d8 o9) (ok_same t d6 2)
theorem gram_eq : gram = (["again", "and", "close", "else", "ends", "false", "if", "integer", "least", "less", "minus", "most", "node", "not", "or", "over", "plus", "program", "protocol", "rest", "round", "same", "set", "stop", "take", "tell", "times", "to", "true", "truth", "wait", "word"] : List Str) := by decide +kernel
theorem gram_at {K : PySem.W.Frag} {ga : Addr} {dd : Option Addr} {its : Array Value} {n : Nat} {sl : Array (Option Value)} (l : K.lookup ga = some ⟨.type "tuple", dd, .seq its n, sl⟩) (h : its.size ≤ 100000) (r : Vals (gram.map V.str) its.toList) : SqT K (fun _ => none) ga (gram.map V.str) :=
  .inr ⟨_, its, n, l, rfl, rfl, Evl.sz_of h, r⟩
theorem all_mk {P : Program} {w : World} {K : PySem.W.Frag} {h : Heap} {mg : Str → Option Value} {fa : Addr} (X : K.In h) (G : h.Ns mainGlobals mg) (hfa : mg "law" = some (.ref fa))
    {f0 : Addr} {od0 an0 : Option Addr} {sl0 : Array (Option Value)} {oc0 kV0 dc0 pm0 cd0 ct0 : Value}
    {f1 : Addr} {od1 an1 : Option Addr} {sl1 : Array (Option Value)} {oc1 kV1 dc1 pm1 cd1 ct1 : Value}
    {f2 : Addr} {od2 an2 : Option Addr} {sl2 : Array (Option Value)} {oc2 kV2 dc2 pm2 cd2 ct2 : Value}
    {f3 : Addr} {od3 an3 : Option Addr} {sl3 : Array (Option Value)} {oc3 kV3 dc3 pm3 cd3 ct3 : Value}
    {f4 : Addr} {od4 an4 : Option Addr} {sl4 : Array (Option Value)} {oc4 kV4 dc4 pm4 cd4 ct4 : Value}
    {f5 : Addr} {od5 an5 : Option Addr} {sl5 : Array (Option Value)} {oc5 kV5 dc5 pm5 cd5 ct5 : Value}
    {f6 : Addr} {od6 an6 : Option Addr} {sl6 : Array (Option Value)} {oc6 kV6 dc6 pm6 cd6 ct6 : Value}
    {f7 : Addr} {od7 an7 : Option Addr} {sl7 : Array (Option Value)} {oc7 kV7 dc7 pm7 cd7 ct7 : Value}
    {f8 : Addr} {od8 an8 : Option Addr} {sl8 : Array (Option Value)} {oc8 kV8 dc8 pm8 cd8 ct8 : Value}
    {f9 : Addr} {od9 an9 : Option Addr} {sl9 : Array (Option Value)} {oc9 kV9 dc9 pm9 cd9 ct9 : Value}
    {f10 : Addr} {od10 an10 : Option Addr} {sl10 : Array (Option Value)} {oc10 kV10 dc10 pm10 cd10 ct10 : Value}
    {u0 : Value}
    {u1 : Value}
    {ga : Addr} {dd0 : Option Addr} {its0 : Array Value} {nn0 : Nat} {tsl0 : Array (Option Value)}
    (a0 : PySem.W.nsIn K mainGlobals "is_letters" = some (some (.ref f0))) (l0 : K.lookup f0 = some ⟨oc0, od0, .func (PySem.W.fnOf "is_letters" "is_letters" (defArgs s_is_letters) (defBody s_is_letters) (defScope s_is_letters) .none kV0 dc0 pm0 an0 cd0 ct0), sl0⟩) (c0 : PySem.W.codeIn K cd0 "is_letters" = true) (k0 : PySem.W.keepIn K (.ref f0) = true)
    (a1 : PySem.W.nsIn K mainGlobals "is_name" = some (some (.ref f1))) (l1 : K.lookup f1 = some ⟨oc1, od1, .func (PySem.W.fnOf "is_name" "is_name" (defArgs s_is_name) (defBody s_is_name) (defScope s_is_name) .none kV1 dc1 pm1 an1 cd1 ct1), sl1⟩) (c1 : PySem.W.codeIn K cd1 "is_name" = true) (k1 : PySem.W.keepIn K (.ref f1) = true)
    (a2 : PySem.W.nsIn K mainGlobals "_law_box" = some (some (.ref f2))) (l2 : K.lookup f2 = some ⟨oc2, od2, .func (PySem.W.fnOf "_law_box" "_law_box" (defArgs s__law_box) (defBody s__law_box) (defScope s__law_box) .none kV2 dc2 pm2 an2 cd2 ct2), sl2⟩) (c2 : PySem.W.codeIn K cd2 "_law_box" = true) (k2 : PySem.W.keepIn K (.ref f2) = true)
    (a3 : PySem.W.nsIn K mainGlobals "_law_take" = some (some (.ref f3))) (l3 : K.lookup f3 = some ⟨oc3, od3, .func (PySem.W.fnOf "_law_take" "_law_take" (defArgs s__law_take) (defBody s__law_take) (defScope s__law_take) .none kV3 dc3 pm3 an3 cd3 ct3), sl3⟩) (c3 : PySem.W.codeIn K cd3 "_law_take" = true) (k3 : PySem.W.keepIn K (.ref f3) = true)
    (a4 : PySem.W.nsIn K mainGlobals "_law_cell" = some (some (.ref f4))) (l4 : K.lookup f4 = some ⟨oc4, od4, .func (PySem.W.fnOf "_law_cell" "_law_cell" (defArgs s__law_cell) (defBody s__law_cell) (defScope s__law_cell) .none kV4 dc4 pm4 an4 cd4 ct4), sl4⟩) (c4 : PySem.W.codeIn K cd4 "_law_cell" = true) (k4 : PySem.W.keepIn K (.ref f4) = true)
    (a5 : PySem.W.nsIn K mainGlobals "_law_same" = some (some (.ref f5))) (l5 : K.lookup f5 = some ⟨oc5, od5, .func (PySem.W.fnOf "_law_same" "_law_same" (defArgs s__law_same) (defBody s__law_same) (defScope s__law_same) .none kV5 dc5 pm5 an5 cd5 ct5), sl5⟩) (c5 : PySem.W.codeIn K cd5 "_law_same" = true) (k5 : PySem.W.keepIn K (.ref f5) = true)
    (a6 : PySem.W.nsIn K mainGlobals "_law_mixed" = some (some (.ref f6))) (l6 : K.lookup f6 = some ⟨oc6, od6, .func (PySem.W.fnOf "_law_mixed" "_law_mixed" (defArgs s__law_mixed) (defBody s__law_mixed) (defScope s__law_mixed) .none kV6 dc6 pm6 an6 cd6 ct6), sl6⟩) (c6 : PySem.W.codeIn K cd6 "_law_mixed" = true) (k6 : PySem.W.keepIn K (.ref f6) = true)
    (a7 : PySem.W.nsIn K mainGlobals "_law_is_name" = some (some (.ref f7))) (l7 : K.lookup f7 = some ⟨oc7, od7, .func (PySem.W.fnOf "_law_is_name" "_law_is_name" (defArgs s__law_is_name) (defBody s__law_is_name) (defScope s__law_is_name) .none kV7 dc7 pm7 an7 cd7 ct7), sl7⟩) (c7 : PySem.W.codeIn K cd7 "_law_is_name" = true) (k7 : PySem.W.keepIn K (.ref f7) = true)
    (a8 : PySem.W.nsIn K mainGlobals "_law_grammar" = some (some (.ref f8))) (l8 : K.lookup f8 = some ⟨oc8, od8, .func (PySem.W.fnOf "_law_grammar" "_law_grammar" (defArgs s__law_grammar) (defBody s__law_grammar) (defScope s__law_grammar) .none kV8 dc8 pm8 an8 cd8 ct8), sl8⟩) (c8 : PySem.W.codeIn K cd8 "_law_grammar" = true) (k8 : PySem.W.keepIn K (.ref f8) = true)
    (a9 : PySem.W.nsIn K mainGlobals "_law_values" = some (some (.ref f9))) (l9 : K.lookup f9 = some ⟨oc9, od9, .func (PySem.W.fnOf "_law_values" "_law_values" (defArgs s__law_values) (defBody s__law_values) (defScope s__law_values) .none kV9 dc9 pm9 an9 cd9 ct9), sl9⟩) (c9 : PySem.W.codeIn K cd9 "_law_values" = true) (k9 : PySem.W.keepIn K (.ref f9) = true)
    (a10 : PySem.W.nsIn K mainGlobals "law" = some (some (.ref f10))) (l10 : K.lookup f10 = some ⟨oc10, od10, .func (PySem.W.fnOf "law" "law" (defArgs s_law) (defBody s_law) (defScope s_law) .none kV10 dc10 pm10 an10 cd10 ct10), sl10⟩) (c10 : PySem.W.codeIn K cd10 "law" = true) (k10 : PySem.W.keepIn K (.ref f10) = true)
    (b0 : PySem.W.nsIn K mainGlobals "LETTERS" = some (some u0)) (r0 : RelV (.str letters) u0)
    (b1 : PySem.W.nsIn K mainGlobals "MOST_NAME" = some (some u1)) (r1 : RelV (.int 8) u1)
    (t0 : PySem.W.nsIn K mainGlobals "GRAMMAR" = some (some (.ref ga))) (tl0 : K.lookup ga = some ⟨.type "tuple", dd0, .seq its0 nn0, tsl0⟩) (th0 : its0.size ≤ 100000) (tv0 : Vals (gram.map V.str) its0.toList)
    (z0 : PySem.W.nsIn K mainGlobals "isinstance" = some none)
    (z1 : PySem.W.nsIn K mainGlobals "str" = some none)
    (z2 : PySem.W.nsIn K mainGlobals "bool" = some none)
    (z3 : PySem.W.nsIn K mainGlobals "int" = some none)
    (z4 : PySem.W.nsIn K mainGlobals "list" = some none)
    (z5 : PySem.W.nsIn K mainGlobals "tuple" = some none)
    (z6 : PySem.W.nsIn K mainGlobals "dict" = some none)
    (z7 : PySem.W.nsIn K mainGlobals "len" = some none)
    (z8 : PySem.W.nsIn K mainGlobals "all" = some none)
    (z9 : PySem.W.nsIn K mainGlobals "abs" = some none)
    (z10 : PySem.W.nsIn K mainGlobals "sum" = some none)
    (z11 : PySem.W.nsIn K mainGlobals "max" = some none)
    (z12 : PySem.W.nsIn K mainGlobals "min" = some none)
    (z13 : PySem.W.nsIn K mainGlobals "range" = some none)
    : ∃ fd : FuncData, (∀ (s : Shared) (v : Value), BindsTo s fd ⟨[v], []⟩ [("script", v)]) ∧ ∀ base : Heap, K.In base → base.Ns mainGlobals mg → FnOk P w K mg base CX0 4 fa fd ["script"] (spC (cLaw K)) :=
  law_fn (⟨⟨PySem.W.mg_none_of X G z0, PySem.W.mg_none_of X G z1, PySem.W.mg_none_of X G z2, PySem.W.mg_none_of X G z3, PySem.W.mg_none_of X G z4, PySem.W.mg_none_of X G z5, PySem.W.mg_none_of X G z6, PySem.W.mg_none_of X G z7, PySem.W.mg_none_of X G z8, PySem.W.mg_none_of X G z9, PySem.W.mg_none_of X G z10, PySem.W.mg_none_of X G z11, PySem.W.mg_none_of X G z12, PySem.W.mg_none_of X G z13⟩, gl_mk X G b0 r0, gl_mk X G b1 r1, ⟨_, PySem.W.mg_of X G t0, rfl⟩, gram_at tl0 th0 tv0⟩) (df_mk X G a0 l0 c0 k0) (df_mk X G a1 l1 c1 k1) (df_mk X G a2 l2 c2 k2) (df_mk X G a3 l3 c3 k3) (df_mk X G a4 l4 c4 k4) (df_mk X G a5 l5 c5 k5) (df_mk X G a6 l6 c6 k6) (df_mk X G a7 l7 c7 k7) (df_mk X G a8 l8 c8 k8) (df_mk X G a9 l9 c9 k9) (df_mk X G a10 l10 c10 k10) hfa
theorem walk {l : PySem.W.OpenLaw} {q : Program} {loose : List Str} {XP : (Str → Option Value) → Heap → Prop} {YP : World → Heap → Prop} {d : DefRec} {K : Params → PySem.W.Frag} (hn : l.most = some 63) (hdf : d.params.defaults = [])
    (hY : ∀ (w : World) (h : Heap), YP w h → (K w.params).In h)
    (F : ∀ (w : World) (mg : Str → Option Value) (fa : Addr) (h : Heap), (K w.params).In h → h.Ns mainGlobals mg → mg d.name = some (.ref fa) →
      ∃ fd : FuncData, (∀ (s : Shared) (u : Value), BindsTo s fd ⟨[u], []⟩ [("script", u)]) ∧ ∀ base : Heap, (K w.params).In base → base.Ns mainGlobals mg → FnOk l.prog w (K w.params) mg base CX0 4 fa fd ["script"] (spC (cLaw (K w.params)))) :
    PySem.W.WalkO q loose XP YP l.row.toRowW d [] (fun f vs => PySem.call f vs) :=
  L2.walk_of (n := 63) (k := 4) (x := "script") (CX := fun _ => CX0) (sp := fun w => spC (cLaw (K w.params))) hn (by decide) hdf ⟨rfl, by decide, by decide⟩ hY F
    (fun _ H a ns hl _ hS => ⟨none, H, _, ⟨Ex.refl H, fun _ z => nomatch z⟩, ⟨rfl, a, ns, rfl, hS, by first | rfl | exact ⟨hl, rfl⟩⟩, fun v G2 H2 _ w2 => w2.eq⟩) fun _ _ _ _ _ z => z
end K01
open PySem PySem.W PyProof.Rows
set_option maxRecDepth 100000 in
set_option maxHeartbeats 0 in
theorem PySem.Challenge.cw_onetalk_k01_names_holds : PySem.Challenge.rw_onetalk_k01_names.Holds := by
  w_on; o_law; k_head; (case hw => w_witness2)
  k_fill
  refine K01.walk (l := PySem.Challenge.rw_onetalk_k01_names) rfl rfl (fun w h Y => PySem.W.kIn_of Y) ?F
  case F =>
    intro w mg fa h KX G hmg
    refine' K01.all_mk KX G hmg ?a0 ?l0 ?c0 ?k0 ?a1 ?l1 ?c1 ?k1 ?a2 ?l2 ?c2 ?k2 ?a3 ?l3 ?c3 ?k3 ?a4 ?l4 ?c4 ?k4 ?a5 ?l5 ?c5 ?k5 ?a6 ?l6 ?c6 ?k6 ?a7 ?l7 ?c7 ?k7 ?a8 ?l8 ?c8 ?k8 ?a9 ?l9 ?c9 ?k9 ?a10 ?l10 ?c10 ?k10 ?b0 ?r0 ?b1 ?r1 ?t0 ?tl0 ?th0 ?tv0 ?z0 ?z1 ?z2 ?z3 ?z4 ?z5 ?z6 ?z7 ?z8 ?z9 ?z10 ?z11 ?z12 ?z13
    (case a0 => k_is)
    (case l0 => k_is)
    (case c0 => k_is)
    (case k0 => k_is)
    (case a1 => k_is)
    (case l1 => k_is)
    (case c1 => k_is)
    (case k1 => k_is)
    (case a2 => k_is)
    (case l2 => k_is)
    (case c2 => k_is)
    (case k2 => k_is)
    (case a3 => k_is)
    (case l3 => k_is)
    (case c3 => k_is)
    (case k3 => k_is)
    (case a4 => k_is)
    (case l4 => k_is)
    (case c4 => k_is)
    (case k4 => k_is)
    (case a5 => k_is)
    (case l5 => k_is)
    (case c5 => k_is)
    (case k5 => k_is)
    (case a6 => k_is)
    (case l6 => k_is)
    (case c6 => k_is)
    (case k6 => k_is)
    (case a7 => k_is)
    (case l7 => k_is)
    (case c7 => k_is)
    (case k7 => k_is)
    (case a8 => k_is)
    (case l8 => k_is)
    (case c8 => k_is)
    (case k8 => k_is)
    (case a9 => k_is)
    (case l9 => k_is)
    (case c9 => k_is)
    (case k9 => k_is)
    (case a10 => k_is)
    (case l10 => k_is)
    (case c10 => k_is)
    (case k10 => k_is)
    (case b0 => k_is)
    (case r0 => exact ⟨_, rfl⟩)
    (case b1 => k_is)
    (case r1 => exact ⟨_, rfl⟩)
    (case t0 => k_is)
    (case tl0 => k_is)
    (case th0 => decide)
    (case tv0 => (rw [K01.gram_eq]; repeat (first | exact PySem.Paired.nil | refine PySem.Paired.cons ⟨_, rfl⟩ ?_)))
    (case z0 => k_is)
    (case z1 => k_is)
    (case z2 => k_is)
    (case z3 => k_is)
    (case z4 => k_is)
    (case z5 => k_is)
    (case z6 => k_is)
    (case z7 => k_is)
    (case z8 => k_is)
    (case z9 => k_is)
    (case z10 => k_is)
    (case z11 => k_is)
    (case z12 => k_is)
    (case z13 => k_is)
#print axioms PySem.Challenge.cw_onetalk_k01_names_holds

