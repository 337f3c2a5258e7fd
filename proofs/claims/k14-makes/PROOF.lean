import PyProof.Rows.All
import Wide.All
import OpenK.AllK
import Wide.FinOn
import HandS.ForMost
import HandS.IsInst
import HandS.Walk
import HandS.Evl
import HandS.Style
import HandS.Exc
import HandS.ExcInit
import HandS.ExcSuper
import HandS.Nested
import KE.KExcSuper
import HandS.TryMany
import HandS.ExcField
import HandS.ExcIs
import HandS.WordsExc
import HandS.Deep
import HandS.Dict
import HandS.Conv
import KE.KExcInit
import HandS.More
import HandS.Strs
import HandS.SetKeys
import HandS.SetFor
import HandS.DictComp
import HandS.ClsMeth
import HandS.NoneIn
import HandS.Defaults
import PySem.Challenge.RW_onetalk_k14_what_sums_make
set_option Elab.async false
set_option linter.all false
set_option maxRecDepth 100000
set_option maxHeartbeats 4000000
/-! Typed readings: what a reading gives, over a known heap G within the heap H; at o (if any) stands a drawer that may change. -/
namespace Ty
open PySem L2
open Evl (Ex ex_l ex_t)

/-- a drawer: four cells -/
def BoxAt (H : Hp) (b : Addr) : Prop := ∃ (n : Int) (g : Bool) (r c : Int), H b = some (.lst [.int n, .bl g, .int r, .int c])
structure Kn (o : Option Addr) (G H : Hp) : Prop where
  sub : Ex G H
  box : ∀ b, o = some b → BoxAt H b ∧ G b = none
structure Go (o : Option Addr) (G H G' H' : Hp) : Prop where
  gg : Ex G G'
  kn : Kn o G' H'
  kp : ∀ a x, H a = some x → o ≠ some a → H' a = some x
  nw : ∀ a, G a = none → H a ≠ none → G' a = none
abbrev T := Hp → V → Prop
/-- t holds of v from G on -/
def U (t : T) (G : Hp) (v : V) : Prop := ∀ G', Ex G G' → t G' v
theorem U.up {t : T} {G G' : Hp} {v : V} (u : U t G v) (e : Ex G G') : U t G' v := fun G2 e2 => u G2 (e.trans e2)
theorem U.now {t : T} {G : Hp} {v : V} (u : U t G v) : t G v := u G (Ex.refl G)
theorem U.imp {t s : T} {G : Hp} {v : V} (u : U t G v) (h : ∀ G', Ex G G' → t G' v → s G' v) : U s G v := fun G' e => h G' e (u G' e)
section
variable {o : Option Addr} {G H G1 H1 G2 H2 : Hp}
theorem Go.refl (k : Kn o G H) : Go o G H G H := ⟨Ex.refl G, k, fun _ _ h _ => h, fun _ h _ => h⟩
theorem Go.trans (a : Go o G H G1 H1) (b : Go o G1 H1 G2 H2) : Go o G H G2 H2 where
  gg := a.gg.trans b.gg
  kn := b.kn
  kp := fun x y h n => b.kp x y (a.kp x y h n) n
  nw := fun x g h => by
    by_cases hx : o = some x
    · exact (b.kn.box x hx).2
    · cases e : H x with
      | none => exact absurd e h
      | some y => exact b.nw x (a.nw x g h) (by rw [a.kp x y e hx]; simp)
theorem Kn.pure (k : Kn o G H) : Kn .none G H := ⟨k.sub, fun _ z => by cases z⟩
theorem Go.pure (k : Kn o G H) (a : Go .none G H G1 H1) : Go o G H G1 H1 := by
  refine ⟨a.gg, ⟨a.kn.sub, fun b z => ?_⟩, fun x y h _ => a.kp x y h (by simp), a.nw⟩
  obtain ⟨⟨n, g, r, c, e⟩, q⟩ := k.box b z
  exact ⟨⟨n, g, r, c, a.kp b _ e (by simp)⟩, a.nw b q (by rw [e]; simp)⟩
/-- a new object is known -/
theorem Go.new (k : Kn o G H) {p : Addr} {x : HO} (hp : H p = none) : Go o G H (upd G p x) (upd H p x) := by
  have gp : G p = none := Evl.fresh_back k.sub hp
  have bp : ∀ b, o = some b → b ≠ p := fun b z e => by
    obtain ⟨⟨n, g, r, c, q⟩, _⟩ := k.box b z
    rw [e, hp] at q
    cases q
  refine ⟨Ex.new gp, ⟨fun a y h => ?_, fun b z => ?_⟩, fun a y h _ => ?_, fun a h n => ?_⟩
  · by_cases e : a = p
    · subst e; rw [upd_same] at h ⊢; exact h
    · rw [upd_ne e] at h ⊢; exact k.sub a y h
  · obtain ⟨⟨n, g, r, c, q⟩, q2⟩ := k.box b z
    exact ⟨⟨n, g, r, c, by rw [upd_ne (bp b z)]; exact q⟩, by rw [upd_ne (bp b z)]; exact q2⟩
  · rw [upd_ne (ne_of_none h hp)]; exact h
  · by_cases e : a = p
    · subst e; exact absurd hp n
    · rw [upd_ne e]; exact h
/-- a new object that is not known -/
theorem Go.tmp (k : Kn o G H) {p : Addr} {x : HO} (hp : H p = none) : Go o G H G (upd H p x) := by
  have bp : ∀ b, o = some b → b ≠ p := fun b z e => by
    obtain ⟨⟨n, g, r, c, q⟩, _⟩ := k.box b z
    rw [e, hp] at q
    cases q
  refine ⟨Ex.refl G, ⟨k.sub.trans (Ex.new hp), fun b z => ?_⟩, fun a y h _ => ?_, fun a h _ => h⟩
  · obtain ⟨⟨n, g, r, c, q⟩, q2⟩ := k.box b z
    exact ⟨⟨n, g, r, c, by rw [upd_ne (bp b z)]; exact q⟩, q2⟩
  · rw [upd_ne (ne_of_none h hp)]; exact h
/-- what is not known may be known from here on -/
theorem Go.fix (a : Go o G H G1 H1) {p : Addr} {x : HO} (hp : H p = none) (h : H1 p = some x) (g : G1 p = none) (ho : o ≠ some p) : Go o G H (upd G1 p x) H1 := by
  refine ⟨a.gg.trans (Ex.new g), ⟨fun c y q => ?_, fun b z => ?_⟩, a.kp, fun c q n => ?_⟩
  · by_cases e : c = p
    · subst e; rw [upd_same] at q; rw [← q]; exact h
    · rw [upd_ne e] at q; exact a.kn.sub c y q
  · obtain ⟨q, q2⟩ := a.kn.box b z
    exact ⟨q, by rw [upd_ne (fun e => ho (by rw [z, e]))]; exact q2⟩
  · by_cases e : c = p
    · subst e; exact absurd hp n
    · rw [upd_ne e]; exact a.nw c q n
end

abbrev PL := Hp → List V → Prop
/-- P holds of xs from G on -/
def UP (P : PL) (G : Hp) (xs : List V) : Prop := ∀ G', Ex G G' → P G' xs
theorem UP.up {P : PL} {G G' : Hp} {xs : List V} (u : UP P G xs) (e : Ex G G') : UP P G' xs := fun G2 e2 => u G2 (e.trans e2)
theorem UP.now {P : PL} {G : Hp} {xs : List V} (u : UP P G xs) : P G xs := u G (Ex.refl G)
/-! ### judgements over readings -/
def Ev (o : Option Addr) (te : TE) (σ : L2.St) (G : Hp) (t : T) : Prop := ∀ G1 H1, Ex G G1 → Kn o G1 H1 → ∀ Q : VK, (∀ v G2 H2, Go o G1 H1 G2 H2 → U t G2 v → Q v H2) → te σ H1 Q
/-- a new list, not yet known -/
def EvN (o : Option Addr) (te : TE) (σ : L2.St) (G : Hp) (P : Hp → List V → Prop) : Prop := ∀ G1 H1, Ex G G1 → Kn o G1 H1 → ∀ Q : VK,
  (∀ p xs G2 H2, Go o G1 H1 G2 H2 → H1 p = none → H2 p = some (.lst xs) → G2 p = none → UP P G2 xs → Q (.ref p) H2) → te σ H1 Q
def EvT (o : Option Addr) (tt : TT) (σ : L2.St) (G : Hp) (p : Bool → Prop) : Prop := ∀ G1 H1, Ex G G1 → Kn o G1 H1 → ∀ Q : Bool → Hp → Prop, (∀ b G2 H2, Go o G1 H1 G2 H2 → p b → Q b H2) → tt σ H1 Q
inductive AllU (G : Hp) : List T → List V → Prop
  | nil : AllU G [] []
  | cons {t : T} {ts : List T} {v : V} {vs : List V} : U t G v → AllU G ts vs → AllU G (t :: ts) (v :: vs)
theorem AllU.up {G G' : Hp} (e : Ex G G') : ∀ {ts : List T} {vs : List V}, AllU G ts vs → AllU G' ts vs
  | _, _, .nil => .nil
  | _, _, .cons a r => .cons (a.up e) (r.up e)
def EvA (o : Option Addr) (ta : TA) (σ : L2.St) (G : Hp) (ts : List T) : Prop := ∀ G1 H1, Ex G G1 → Kn o G1 H1 → ∀ Q : List V → Hp → Prop, (∀ vs G2 H2, Go o G1 H1 G2 H2 → AllU G2 ts vs → Q vs H2) → ta σ H1 Q
/-- operations by values -/
def RO (o : Option Addr) (r : R2) (x y : V) (G : Hp) (t : T) : Prop := ∀ G1 H1, Ex G G1 → Kn o G1 H1 → ∀ Q : VK, (∀ v G2 H2, Go o G1 H1 G2 H2 → U t G2 v → Q v H2) → r x y H1 Q
def RU (o : Option Addr) (r : V → Hp → VK → Prop) (x : V) (G : Hp) (t : T) : Prop := ∀ G1 H1, Ex G G1 → Kn o G1 H1 → ∀ Q : VK, (∀ v G2 H2, Go o G1 H1 G2 H2 → U t G2 v → Q v H2) → r x H1 Q
def RC (o : Option Addr) (r : List V → Hp → VK → Prop) (vs : List V) (G : Hp) (t : T) : Prop := ∀ G1 H1, Ex G G1 → Kn o G1 H1 → ∀ Q : VK, (∀ v G2 H2, Go o G1 H1 G2 H2 → U t G2 v → Q v H2) → r vs H1 Q
/-- the type of one value -/
def tIs (x : V) : T := fun _ v => v = x
theorem u_is {x : V} {G : Hp} : U (tIs x) G x := fun _ _ => rfl
theorem U.eq {x v : V} {G : Hp} (u : U (tIs x) G v) : v = x := u.now

section
variable {o : Option Addr} {σ : L2.St} {G : Hp} {ta tb te tx : TE} {s t u : T} {tt tt' : TT} {x y v : V}
theorem Ev.up {G' : Hp} (h : Ev o te σ G t) (e : Ex G G') : Ev o te σ G' t := fun G1 H1 a => h G1 H1 (e.trans a)
theorem EvN.up {P : Hp → List V → Prop} {G' : Hp} (h : EvN o te σ G P) (e : Ex G G') : EvN o te σ G' P := fun G1 H1 a => h G1 H1 (e.trans a)
theorem EvT.up {p : Bool → Prop} {G' : Hp} (h : EvT o tt σ G p) (e : Ex G G') : EvT o tt σ G' p := fun G1 H1 a => h G1 H1 (e.trans a)
theorem EvA.up {ta : TA} {ts : List T} {G' : Hp} (h : EvA o ta σ G ts) (e : Ex G G') : EvA o ta σ G' ts := fun G1 H1 a => h G1 H1 (e.trans a)
theorem Ev.imp (h : Ev o te σ G t) (k : ∀ G' v, Ex G G' → U t G' v → U u G' v) : Ev o te σ G u := fun G1 H1 a kn Q q => h G1 H1 a kn Q fun v G2 H2 g w => q v G2 H2 g (k G2 v (a.trans g.gg) w)
theorem ev_var {i : Nat} (h : σ[i]? = some (some v)) (w : U t G v) : Ev o (tVar i) σ G t := fun G1 H1 a kn Q q => ⟨v, h, q v G1 H1 (.refl kn) (w.up a)⟩
theorem ev_x {i : Nat} (h : σ[i]? = some (some v)) : Ev o (tVar i) σ G (tIs v) := ev_var h u_is
theorem ev_c (w : U t G v) : Ev o (tC v) σ G t := fun G1 H1 a kn Q q => q v G1 H1 (.refl kn) (w.up a)
theorem ev_k : Ev o (tC v) σ G (tIs v) := ev_c u_is
theorem ev_op {r : R2} (ha : Ev o ta σ G s) (hb : Ev o tb σ G u) (hr : ∀ G' x y, Ex G G' → U s G' x → U u G' y → RO o r x y G' t) : Ev o (tOp r ta tb) σ G t := fun G1 H1 a kn Q q =>
  ha G1 H1 a kn _ fun x G2 H2 g2 w2 => hb G2 H2 (a.trans g2.gg) g2.kn _ fun y G3 H3 g3 w3 =>
    hr G3 x y ((a.trans g2.gg).trans g3.gg) (w2.up g3.gg) w3 G3 H3 (Ex.refl _) g3.kn Q fun z G4 H4 g4 w4 => q z G4 H4 ((g2.trans g3).trans g4) w4
/-- both of one value -/
theorem ev_op2 {r : R2} (ha : Ev o ta σ G (tIs x)) (hb : Ev o tb σ G (tIs y)) (hr : RO o r x y G t) : Ev o (tOp r ta tb) σ G t :=
  ev_op ha hb fun G' x' y' e hx hy => by
    rw [hx.eq, hy.eq]
    exact fun G1 H1 a => hr G1 H1 (e.trans a)
theorem ev_un {r : V → Hp → VK → Prop} (ha : Ev o ta σ G s) (hr : ∀ G' x, Ex G G' → U s G' x → RU o r x G' t) : Ev o (tUn r ta) σ G t := fun G1 H1 a kn Q q =>
  ha G1 H1 a kn _ fun x G2 H2 g2 w2 => hr G2 x (a.trans g2.gg) w2 G2 H2 (Ex.refl _) g2.kn Q fun z G4 H4 g4 w4 => q z G4 H4 (g2.trans g4) w4
theorem ea_nil : EvA o tNil σ G [] := fun G1 H1 a kn Q q => q [] G1 H1 (.refl kn) .nil
theorem ea_cons {tr : TA} {ts : List T} (ha : Ev o ta σ G s) (hr : EvA o tr σ G ts) : EvA o (tCons ta tr) σ G (s :: ts) := fun G1 H1 a kn Q q =>
  ha G1 H1 a kn _ fun x G2 H2 g2 w2 => hr G2 H2 (a.trans g2.gg) g2.kn _ fun xs G3 H3 g3 w3 => q (x :: xs) G3 H3 (g2.trans g3) (.cons (w2.up g3.gg) w3)
theorem ev_cb {r : List V → Hp → VK → Prop} {ta : TA} {ts : List T} (ha : EvA o ta σ G ts) (hr : ∀ G' vs, Ex G G' → AllU G' ts vs → RC o r vs G' t) : Ev o (tCB r ta) σ G t := fun G1 H1 a kn Q q =>
  ha G1 H1 a kn _ fun vs G2 H2 g2 w2 => hr G2 vs (a.trans g2.gg) w2 G2 H2 (Ex.refl _) g2.kn Q fun z G4 H4 g4 w4 => q z G4 H4 (g2.trans g4) w4
/-- operations that leave the heap as it is -/
theorem ro_q {r : R2} {z : V} (w : U t G z) (h : ∀ G1 H1, Ex G G1 → Kn o G1 H1 → ∀ Q : VK, Q z H1 → r x y H1 Q) : RO o r x y G t := fun G1 H1 a kn Q q => h G1 H1 a kn Q (q z G1 H1 (.refl kn) (w.up a))
theorem ru_q {r : V → Hp → VK → Prop} {z : V} (w : U t G z) (h : ∀ G1 H1, Ex G G1 → Kn o G1 H1 → ∀ Q : VK, Q z H1 → r x H1 Q) : RU o r x G t := fun G1 H1 a kn Q q => h G1 H1 a kn Q (q z G1 H1 (.refl kn) (w.up a))
theorem rc_q {r : List V → Hp → VK → Prop} {vs : List V} {z : V} (w : U t G z) (h : ∀ G1 H1, Ex G G1 → Kn o G1 H1 → ∀ Q : VK, Q z H1 → r vs H1 Q) : RC o r vs G t := fun G1 H1 a kn Q q => h G1 H1 a kn Q (q z G1 H1 (.refl kn) (w.up a))
/-- ints -/
theorem ro_I0 {g : Int → Int → V} {i j : Int} : RO o (rI0 g) (.int i) (.int j) G (tIs (g i j)) := ro_q u_is fun _ _ _ _ _ q => ⟨i, j, rfl, rfl, q⟩
theorem ro_I {C : Int → Int → Prop} {g : Int → Int → V} {i j : Int} (hc : C i j) : RO o (rI C g) (.int i) (.int j) G (tIs (g i j)) := ro_q u_is fun _ _ _ _ _ q => ⟨i, j, rfl, rfl, hc, q⟩
theorem ro_eq (h : scal x y = true) : RO o rEq x y G (tIs (.bl (decide (x = y)))) := ro_q u_is fun _ _ _ _ _ q => ⟨h, q⟩
theorem ro_ne (h : scal x y = true) : RO o rNe x y G (tIs (.bl (!decide (x = y)))) := ro_q u_is fun _ _ _ _ _ q => ⟨h, q⟩
/-- values of bools -/
theorem ev_and {a b : Bool} (h1 : Ev o ta σ G (tIs (.bl a))) (h2 : a = true → Ev o tb σ G (tIs (.bl b))) : Ev o (tAndV ta tb) σ G (tIs (.bl (a && b))) := fun G1 H1 e kn Q q =>
  h1 G1 H1 e kn _ fun x G2 H2 g2 w2 => ⟨a, w2.eq, by
    cases a with
    | true => exact h2 rfl G2 H2 (e.trans g2.gg) g2.kn Q fun z G3 H3 g3 w3 => q z G3 H3 (g2.trans g3) w3
    | false => exact q _ G2 H2 g2 u_is⟩
theorem ev_or {a b : Bool} (h1 : Ev o ta σ G (tIs (.bl a))) (h2 : a = false → Ev o tb σ G (tIs (.bl b))) : Ev o (tOrV ta tb) σ G (tIs (.bl (a || b))) := fun G1 H1 e kn Q q =>
  h1 G1 H1 e kn _ fun x G2 H2 g2 w2 => ⟨a, w2.eq, by
    cases a with
    | false => exact h2 rfl G2 H2 (e.trans g2.gg) g2.kn Q fun z G3 H3 g3 w3 => q z G3 H3 (g2.trans g3) w3
    | true => exact q _ G2 H2 g2 u_is⟩
theorem ev_not {a : Bool} (h1 : Ev o ta σ G (tIs (.bl a))) : Ev o (tNotV ta) σ G (tIs (.bl (!a))) := fun G1 H1 e kn Q q =>
  h1 G1 H1 e kn _ fun x G2 H2 g2 w2 => ⟨a, w2.eq, q _ G2 H2 g2 u_is⟩
theorem ev_to {a b : Bool} (h : Ev o ta σ G (tIs (.bl a))) (e : a = b) : Ev o ta σ G (tIs (.bl b)) := e ▸ h
/-- tests -/
theorem et_b {b : Bool} (h : Ev o te σ G (tIs (.bl b))) : EvT o (tB te) σ G (· = b) := fun G1 H1 e kn Q q => h G1 H1 e kn _ fun x G2 H2 g2 w2 => ⟨b, w2.eq, q b G2 H2 g2 rfl⟩
theorem et_test {b : Bool} (h : Ev o te σ G (tIs (.bl b))) : EvT o (tTest te) σ G (· = b) := fun G1 H1 e kn Q q => h G1 H1 e kn _ fun x G2 H2 g2 w2 => ⟨b, w2.eq, q b G2 H2 g2 rfl⟩
/-- .. of a bool that is not told -/
def tBool : T := fun _ v => ∃ b, v = .bl b
theorem et_bU (h : Ev o te σ G tBool) : EvT o (tB te) σ G (fun _ => True) := fun G1 H1 e kn Q q => h G1 H1 e kn _ fun x G2 H2 g2 w2 => by
  obtain ⟨b, e⟩ := w2.now
  exact ⟨b, e, q b G2 H2 g2 trivial⟩
theorem et_testU (h : Ev o te σ G tBool) : EvT o (tTest te) σ G (fun _ => True) := fun G1 H1 e kn Q q => h G1 H1 e kn _ fun x G2 H2 g2 w2 => by
  obtain ⟨b, e⟩ := w2.now
  exact ⟨b, e, q b G2 H2 g2 trivial⟩
theorem EvT.imp {p p' : Bool → Prop} (h : EvT o tt σ G p) (k : ∀ b, p b → p' b) : EvT o tt σ G p' := fun G1 H1 e kn Q q => h G1 H1 e kn Q fun b G2 H2 g w => q b G2 H2 g (k b w)
theorem EvT.to {a b : Bool} (h : EvT o tt σ G (· = a)) (e : a = b) : EvT o tt σ G (· = b) := e ▸ h
theorem et_and {a b : Bool} (h1 : EvT o tt σ G (· = a)) (h2 : a = true → EvT o tt' σ G (· = b)) : EvT o (tAnd tt tt') σ G (· = (a && b)) := fun G1 H1 e kn Q q => h1 G1 H1 e kn _ fun c G2 H2 g2 w2 => by
  subst w2
  cases c with
  | true => exact h2 rfl G2 H2 (e.trans g2.gg) g2.kn Q fun z G3 H3 g3 w3 => q z G3 H3 (g2.trans g3) w3
  | false => exact q false G2 H2 g2 rfl
theorem et_or {a b : Bool} (h1 : EvT o tt σ G (· = a)) (h2 : a = false → EvT o tt' σ G (· = b)) : EvT o (tOr tt tt') σ G (· = (a || b)) := fun G1 H1 e kn Q q => h1 G1 H1 e kn _ fun c G2 H2 g2 w2 => by
  subst w2
  cases c with
  | false => exact h2 rfl G2 H2 (e.trans g2.gg) g2.kn Q fun z G3 H3 g3 w3 => q z G3 H3 (g2.trans g3) w3
  | true => exact q true G2 H2 g2 rfl
theorem et_not {a : Bool} (h1 : EvT o tt σ G (· = a)) : EvT o (tNot tt) σ G (· = (!a)) := fun G1 H1 e kn Q q => h1 G1 H1 e kn _ fun c G2 H2 g2 w2 => q _ G2 H2 g2 (by rw [w2])
theorem ev_if {p : Bool → Prop} (h : EvT o tt σ G p) (h1 : p true → Ev o ta σ G t) (h2 : p false → Ev o tb σ G t) : Ev o (tIf tt ta tb) σ G t := fun G1 H1 e kn Q q => h G1 H1 e kn _ fun c G2 H2 g2 w2 => by
  cases c with
  | true => exact h1 w2 G2 H2 (e.trans g2.gg) g2.kn Q fun z G3 H3 g3 w3 => q z G3 H3 (g2.trans g3) w3
  | false => exact h2 w2 G2 H2 (e.trans g2.gg) g2.kn Q fun z G3 H3 g3 w3 => q z G3 H3 (g2.trans g3) w3
/-- tuples, lists made -/
def tTupU (K : PySem.W.Frag) (ts : List T) : T := fun G v => ∃ a vs, v = .ref a ∧ SqT K G a vs ∧ AllU G ts vs
def tLstU (K : PySem.W.Frag) (ts : List T) : T := fun G v => ∃ a vs, v = .ref a ∧ SqL K G a vs ∧ AllU G ts vs
theorem AllU.len {G : Hp} : ∀ {ts : List T} {vs : List V}, AllU G ts vs → vs.length = ts.length
  | _, _, .nil => rfl
  | _, _, .cons _ r => congrArg (· + 1) r.len
theorem ev_tup {K : PySem.W.Frag} {ta : TA} {ts : List T} (h : EvA o ta σ G ts) (hl : ts.length ≤ 100000) : Ev o (tTup ta) σ G (tTupU K ts) := fun G1 H1 e kn Q q =>
  h G1 H1 e kn _ fun vs G2 H2 g2 w2 => ⟨Evl.sz_of (by rw [w2.len]; exact hl), fun p hp => q _ _ _ (g2.trans (.new g2.kn hp)) fun G' e' => ⟨p, vs, rfl, .of (e' p _ upd_same), w2.up ((Ex.new (Evl.fresh_back g2.kn.sub hp)).trans e')⟩⟩
theorem en_lst {ta : TA} {ts : List T} (h : EvA o ta σ G ts) (hl : ts.length ≤ 100000) : EvN o (tLst ta) σ G (fun G' vs => AllU G' ts vs) := fun G1 H1 e kn Q q =>
  h G1 H1 e kn _ fun vs G2 H2 g2 w2 => ⟨Evl.sz_of (by rw [w2.len]; exact hl), fun p hp => q p vs G2 _ (g2.trans (.tmp g2.kn hp)) (by
    cases z : H1 p with
    | none => rfl
    | some y =>
      by_cases hb : o = some p
      · obtain ⟨⟨_, _, _, _, q2⟩, _⟩ := g2.kn.box p hb
        rw [hp] at q2; cases q2
      · rw [g2.kp p y z hb] at hp; cases hp) upd_same (Evl.fresh_back g2.kn.sub hp) fun G' e' => w2.up e'⟩
/-- a new list is known from here on -/
theorem EvN.ev {P : Hp → List V → Prop} (h : EvN o te σ G P) (k : ∀ G' a xs, Ex G G' → G' a = some (.lst xs) → UP P G' xs → t G' (.ref a)) : Ev o te σ G t := fun G1 H1 e kn Q q =>
  h G1 H1 e kn Q fun p xs G2 H2 g2 hp h2 n2 w2 => by
    have hob : o ≠ some p := fun z => by
      obtain ⟨⟨_, _, _, _, q2⟩, _⟩ := kn.box p z
      rw [hp] at q2; cases q2
    exact q (.ref p) _ H2 (g2.fix hp h2 n2 hob) fun G' e' => k G' p xs (((e.trans g2.gg).trans (Ex.new n2)).trans e') (e' p _ upd_same) (w2.up ((Ex.new n2).trans e'))
end
end Ty
set_option Elab.async false
set_option linter.all false
set_option maxRecDepth 100000
set_option maxHeartbeats 4000000
/-! Calls of own defs, walks, comprehensions, statements. -/
namespace Ty
open PySem L2
open Evl (Ex ex_l ex_t)

/-! ### promises -/
def spC (C : Option Addr → Hp → List V → T → Prop) : Sp := fun vs H Q _ => ∃ o G t, Kn o G H ∧ C o G vs t ∧ ∀ v G2 H2, Go o G H G2 H2 → U t G2 v → Q v H2
section
variable {o : Option Addr} {σ : L2.St} {G H : Hp} {ta tb te tx : TE} {s t u : T} {tt tt' : TT} {x y v : V}
theorem ev_call {C : Option Addr → Hp → List V → T → Prop} {E : XK} {ta : TA} {ts : List T} (ha : EvA o ta σ G ts)
    (hc : ∀ G' vs, Ex G G' → AllU G' ts vs → ∃ o' t', (o' = o ∨ o' = none) ∧ C o' G' vs t' ∧ ∀ G'' v, Ex G' G'' → U t' G'' v → U t G'' v) : Ev o (tCall (spC C) [] E ta) σ G t := fun G1 H1 a kn Q q =>
  ha G1 H1 a kn _ fun vs G2 H2 g2 w2 => by
    obtain ⟨o', t', ho, c, k⟩ := hc G2 vs (a.trans g2.gg) w2
    rw [List.append_nil]
    rcases ho with rfl | rfl
    · exact ⟨o', G2, t', g2.kn, c, fun v G3 H3 g3 w3 => q v G3 H3 (g2.trans g3) (k G3 v g3.gg w3)⟩
    · exact ⟨none, G2, t', g2.kn.pure, c, fun v G3 H3 g3 w3 => q v G3 H3 (g2.trans (g3.pure g2.kn)) (k G3 v g3.gg w3)⟩
/-! ### walks -/
/-- what is walked: the values xs, one after the other, as long as the known heap stands -/
def EvI (o : Option Addr) (wi : TI) (σ : L2.St) (G : Hp) (P : PL) : Prop := ∀ G1 H1, Ex G G1 → Kn o G1 H1 → ∀ R : It → Hp → Prop,
  (∀ J G2 H2 xs, Go o G1 H1 G2 H2 → Walk J xs.length (Ex G2) (YAt xs) → UP P G2 xs → R J H2) → wi σ H1 R
theorem ei_list {K : PySem.W.Frag} {P : PL} (h : Ev o te σ G t) (k : ∀ G' v, Ex G G' → U t G' v → ∃ a xs, v = .ref a ∧ SqL K G' a xs ∧ UP P G' xs) : EvI o (iList K te) σ G P := fun G1 H1 e kn R r =>
  h G1 H1 e kn _ fun v G2 H2 g2 w2 => by
    obtain ⟨a, xs, rfl, hs, hp⟩ := k G2 v (e.trans g2.gg) w2
    exact ⟨a, rfl, ⟨xs, ex_l g2.kn.sub hs⟩, r _ G2 H2 xs g2 ((walk_list (K := K) (a := a) (xs := xs)).mono (fun H' e' => ex_l e' hs) fun _ _ _ _ _ _ y => y) hp⟩
theorem ei_tup {K : PySem.W.Frag} {P : PL} (h : Ev o te σ G t) (k : ∀ G' v, Ex G G' → U t G' v → ∃ a xs, v = .ref a ∧ SqT K G' a xs ∧ UP P G' xs) : EvI o (iTup K te) σ G P := fun G1 H1 e kn R r =>
  h G1 H1 e kn _ fun v G2 H2 g2 w2 => by
    obtain ⟨a, xs, rfl, hs, hp⟩ := k G2 v (e.trans g2.gg) w2
    exact ⟨a, rfl, ⟨xs, ex_t g2.kn.sub hs⟩, r _ G2 H2 xs g2 ((walk_tup (K := K) (a := a) (xs := xs)).mono (fun H' e' => ex_t e' hs) fun _ _ _ _ _ _ y => y) hp⟩
/-- over a new list -/
theorem ei_listN {K : PySem.W.Frag} {P P' : PL} (h : EvN o te σ G P) (hu : ∀ G' xs, Ex G G' → UP P G' xs → UP P' G' xs) : EvI o (iList K te) σ G P' := fun G1 H1 e kn R r =>
  h G1 H1 e kn _ fun p xs G2 H2 g2 hp h2 n2 w2 => by
    have hob : o ≠ some p := fun z => by
      obtain ⟨⟨_, _, _, _, q2⟩, _⟩ := kn.box p z
      rw [hp] at q2; cases q2
    have g3 := g2.fix hp h2 n2 hob
    refine ⟨p, rfl, ⟨xs, .of h2⟩, r _ _ H2 xs g3 ((walk_list (K := K) (a := p) (xs := xs)).mono (fun H' e' => .of (e' p _ upd_same)) fun _ _ _ _ _ _ y => y) ?_⟩
    exact (hu G2 xs (e.trans g2.gg) w2).up (Ex.new n2)
def signsV (z : Str) : List V := z.cps.toList.map fun c => V.str ⟨#[c]⟩
theorem ei_str {z : Str} {P : PL} (h : Ev o te σ G (tIs (.str z))) (k : ∀ G', Ex G G' → UP P G' (signsV z)) : EvI o (iStr te) σ G P := fun G1 H1 e kn R r =>
  h G1 H1 e kn _ fun v G2 H2 g2 w2 => by
    refine ⟨z, w2.eq, r _ G2 H2 (signsV z) g2 ?_ (k G2 (e.trans g2.gg))⟩
    have hl : (signsV z).length = z.cps.size := by unfold signsV; rw [List.length_map, Array.length_toList]
    rw [hl]
    refine (walk_str (z := z)).mono (fun _ _ => trivial) fun i H' x H'' hi _ y => ?_
    obtain ⟨e1, c, hc, e2⟩ := y
    refine ⟨e1, ?_⟩
    unfold signsV
    rw [List.getElem?_map, Array.getElem?_toList, hc, e2]
    rfl
def intsV (lo : Int) (n : Nat) : List V := (List.range n).map fun (i : Nat) => V.int (lo + (i : Int))
theorem ei_rng1 {ta : TA} {P : PL} {Pn : Int → Prop} (h : EvA o ta σ G [fun _ v => ∃ n : Int, v = .int n ∧ Pn n]) (hb : ∀ n, Pn n → -(2 ^ 62) ≤ n ∧ n < 2 ^ 62) (k : ∀ G' n, Ex G G' → Pn n → UP P G' (intsV 0 n.toNat)) : EvI o (iRng1 ta) σ G P := fun G1 H1 e kn R r =>
  h G1 H1 e kn _ fun vs G2 H2 g2 w2 => by
    cases w2 with
    | cons a rest =>
      cases rest
      obtain ⟨n, e1, pn⟩ := a.now
      refine ⟨n, by rw [e1], (hb n pn).1, (hb n pn).2, r _ G2 H2 (intsV 0 n.toNat) g2 ?_ (k G2 n (e.trans g2.gg) pn)⟩
      have hl : (intsV 0 n.toNat).length = n.toNat := by unfold intsV; rw [List.length_map, List.length_range]
      rw [hl]
      refine (walk_range (lo := 0) (n := n.toNat)).mono (fun _ _ => trivial) fun i H' x H'' hi _ y => ?_
      obtain ⟨e1, e2⟩ := y
      refine ⟨e1, ?_⟩
      unfold intsV
      rw [List.getElem?_map, List.getElem?_range hi, e2]
      rfl
theorem ei_rng2 {ta : TA} {P : PL} {Pn : Int → Int → Prop} (h : EvA o ta σ G [fun _ v => ∃ n : Int, v = .int n ∧ Pn n n, fun _ v => ∃ n : Int, v = .int n]) (hb : False) : EvI o (iRng2 ta) σ G P := hb.elim
theorem signsV_get {z : Str} {i : Nat} {x : V} (h : (signsV z)[i]? = some x) : ∃ c, x = .str ⟨#[c]⟩ ∧ z.cps.toList[i]? = some c := by
  unfold signsV at h
  rw [List.getElem?_map] at h
  cases e : z.cps.toList[i]? with
  | none => rw [e] at h; cases h
  | some c => rw [e] at h; exact ⟨c, (Option.some.inj h).symm, rfl⟩
theorem intsV_get {lo : Int} {n i : Nat} {x : V} (h : (intsV lo n)[i]? = some x) : x = .int (lo + (i : Int)) ∧ i < n := by
  unfold intsV at h
  rw [List.getElem?_map] at h
  by_cases hi : i < n
  · rw [List.getElem?_range hi] at h; exact ⟨(Option.some.inj h).symm, hi⟩
  · rw [List.getElem?_eq_none (by rw [List.length_range]; omega)] at h; cases h
theorem intsV_len {lo : Int} {n : Nat} : (intsV lo n).length = n := by unfold intsV; rw [List.length_map, List.length_range]
theorem signsV_len {z : Str} : (signsV z).length = z.length := by unfold signsV; rw [List.length_map, Array.length_toList]; rfl

/-! ### comprehensions: R xs i G acc, what holds behind i items -/
theorem en_lc {wi : TI} {j : Nat} {vs : List Nat} {P : PL} (R : List V → Nat → Hp → List V → Prop) (hi : EvI o wi σ G P) (hw : ∀ x, wipe ((wipe σ vs).set j (some x)) vs = wipe σ vs)
    (hup : ∀ xs i G' G'' acc, Ex G' G'' → R xs i G' acc → R xs i G'' acc)
    (h0 : ∀ G' xs, Ex G G' → UP P G' xs → xs.length ≤ 100000 ∧ R xs 0 G' [])
    (hs : ∀ G' (xs : List V) (i : Nat) x acc, Ex G G' → UP P G' xs → xs[i]? = some x → acc.length ≤ i → R xs i G' acc → ∃ p, EvT o tt ((wipe σ vs).set j (some x)) G' p ∧
      (p true → ∀ G1, Ex G' G1 → ∃ s, Ev o te ((wipe σ vs).set j (some x)) G1 s ∧ ∀ G2 y, Ex G1 G2 → U s G2 y → R xs (i + 1) G2 (acc ++ [y])) ∧ (p false → ∀ G1, Ex G' G1 → R xs (i + 1) G1 acc)) :
    EvN o (tLc wi (gName j) tt te vs) σ G (fun G' ys => ∃ xs, UP P G' xs ∧ ys.length ≤ xs.length ∧ R xs xs.length G' ys) := fun G1 H1 e kn Q q =>
  hi G1 H1 e kn _ fun J G2 H2 xs g2 w hP D hD => by
    obtain ⟨hl, r0⟩ := h0 G2 xs (e.trans g2.gg) hP
    have hob : o ≠ some D := fun z => by
      obtain ⟨⟨_, _, _, _, q2⟩, _⟩ := g2.kn.box D z
      rw [hD] at q2; cases q2
    have gD : G2 D = none := Evl.fresh_back g2.kn.sub hD
    have hD1 : H1 D = none := by
      cases z : H1 D with
      | none => rfl
      | some y => rw [g2.kp D y z (fun z => hob z)] at hD; cases hD
    refine lc_it w (fun i H => ∃ G' acc, Go o G2 H2 G' H ∧ G' D = none ∧ H D = some (.lst acc) ∧ acc.length ≤ i ∧ R xs i G' acc) ⟨G2, [], .tmp g2.kn hD, gD, upd_same, Nat.le_refl _, r0⟩ (fun i H _ p => ?_) (fun i x H H' hlt p y => ?_) (fun H p => ?_)
    · obtain ⟨G', acc, g, _⟩ := p
      exact g.gg.trans g.kn.sub
    · obtain ⟨G', acc, g, n1, hH, la, r⟩ := p
      obtain ⟨e1, hx⟩ := y
      subst e1
      refine ⟨hw x, ?_⟩
      have eG : Ex G G' := (e.trans g2.gg).trans g.gg
      obtain ⟨p, ht, hy, hn⟩ := hs G' xs i x acc eG (hP.up g.gg) hx la r
      refine ht G' H' (Ex.refl _) g.kn _ fun b G3 H3 g3 pb => ?_
      have n3 : G3 D = none := g3.nw D n1 (by rw [hH]; simp)
      have h3 : H3 D = some (.lst acc) := g3.kp D _ hH hob
      cases b with
      | false =>
        show ∃ G' acc, _
        exact ⟨G3, acc, g.trans g3, n3, h3, by omega, hn pb G3 g3.gg⟩
      | true =>
        show te _ _ _
        obtain ⟨s, hev, hR⟩ := hy pb G3 g3.gg
        refine hev G3 H3 (Ex.refl _) g3.kn _ fun v G4 H4 g4 w4 => ?_
        have n4 : G4 D = none := g4.nw D n3 (by rw [h3]; simp)
        have h4 : H4 D = some (.lst acc) := g4.kp D _ h3 hob
        refine ⟨acc, h4, Evl.sz_lt (by omega), G4, acc ++ [v], ?_, n4, upd_same, by rw [List.length_append]; simp; omega, hR G4 v g4.gg w4⟩
        have g5 := (g.trans g3).trans g4
        refine ⟨g5.gg, ⟨fun a z ha => ?_, fun b z => ?_⟩, fun a z ha hb => ?_, g5.nw⟩
        · rw [upd_ne (fun z => by rw [z] at ha; rw [n4] at ha; cases ha)]; exact g5.kn.sub a _ ha
        · obtain ⟨⟨n, gg, r, c, q1⟩, q2⟩ := g5.kn.box b z
          exact ⟨⟨n, gg, r, c, by rw [upd_ne (fun z2 => hob (by rw [z, z2]))]; exact q1⟩, q2⟩
        · rw [upd_ne (ne_of_none ha hD)]; exact g5.kp a _ ha hb
    · obtain ⟨G', acc, g, n1, hH, la, r⟩ := p
      have g' := g2.trans g
      exact q D acc G' H g' hD1 hH n1 fun G'' e'' => ⟨xs, hP.up (g.gg.trans e''), la, hup _ _ _ _ _ e'' r⟩
/-- no test, each item's value told -/
theorem en_map {wi : TI} {j : Nat} {vs : List Nat} {P : PL} (f : V → V) (hi : EvI o wi σ G P) (hw : ∀ x, wipe ((wipe σ vs).set j (some x)) vs = wipe σ vs)
    (hl : ∀ G' xs, Ex G G' → UP P G' xs → xs.length ≤ 100000) (he : ∀ G' (xs : List V) (i : Nat) x, Ex G G' → UP P G' xs → xs[i]? = some x → Ev o te ((wipe σ vs).set j (some x)) G' (tIs (f x))) :
    EvN o (tLc wi (gName j) tYes te vs) σ G (fun G' ys => ∃ xs, UP P G' xs ∧ ys = xs.map f) := fun G1 H1 e kn Q q =>
  en_lc (fun xs i G' acc => acc = (xs.take i).map f) hi hw (fun _ _ _ _ _ _ h => h) (fun G' xs e hP => ⟨hl G' xs e hP, rfl⟩) (fun G' xs i x acc e hP hx la r => ⟨(· = true), fun G2 H2 e2 kn2 Q2 q2 => q2 true G2 H2 (.refl kn2) rfl,
    fun _ G3 e3 => ⟨_, (he G' xs i x e hP hx).up e3, fun G4 y e4 w4 => by
      rw [w4.eq, r]
      have : xs.take (i + 1) = xs.take i ++ [x] := by
        rw [List.take_succ, hx]; rfl
      rw [this, List.map_append]
      rfl⟩, fun z => by cases z⟩) G1 H1 e kn Q fun p ys G2 H2 g2 hp h2 n2 w2 => by
    refine q p ys G2 H2 g2 hp h2 n2 fun G' e' => ?_
    obtain ⟨xs, hP, _, r⟩ := w2 G' e'
    rw [List.take_length] at r
    exact ⟨xs, hP, r⟩
/-- items of one type -/
theorem en_all {wi : TI} {j : Nat} {vs : List Nat} {P : PL} (hi : EvI o wi σ G P) (hw : ∀ x, wipe ((wipe σ vs).set j (some x)) vs = wipe σ vs)
    (hl : ∀ G' xs, Ex G G' → UP P G' xs → xs.length ≤ 100000) (ht : ∀ G' (xs : List V) (i : Nat) x, Ex G G' → UP P G' xs → xs[i]? = some x → EvT o tt ((wipe σ vs).set j (some x)) G' fun _ => True)
    (he : ∀ G' (xs : List V) (i : Nat) x, Ex G G' → UP P G' xs → xs[i]? = some x → Ev o te ((wipe σ vs).set j (some x)) G' t) :
    EvN o (tLc wi (gName j) tt te vs) σ G (fun G' ys => ∃ xs, UP P G' xs ∧ ys.length ≤ xs.length ∧ ∀ y ∈ ys, U t G' y) := fun G1 H1 e kn Q q =>
  en_lc (fun xs i G' acc => ∀ y ∈ acc, U t G' y) hi hw (fun _ _ _ _ _ e h y hy => (h y hy).up e) (fun G' xs e hP => ⟨hl G' xs e hP, fun y hy => nomatch hy⟩) (fun G' xs i x acc e hP hx la r => ⟨fun _ => True, ht G' xs i x e hP hx,
    fun _ G3 e3 => ⟨t, (he G' xs i x e hP hx).up e3, fun G4 y e4 w4 z hz => by
      rcases List.mem_append.mp hz with h | h
      · exact (r z h).up (e3.trans e4)
      · rw [List.mem_singleton.mp h]; exact w4⟩, fun _ G3 e3 y hy => (r y hy).up e3⟩) G1 H1 e kn Q fun p ys G2 H2 g2 hp h2 n2 w2 => by
    refine q p ys G2 H2 g2 hp h2 n2 fun G' e' => ?_
    obtain ⟨xs, hP, l, r⟩ := w2 G' e'
    exact ⟨xs, hP, l, r⟩
theorem et_yes : EvT o tYes σ G fun _ => True := fun G2 H2 e2 kn2 Q2 q2 => q2 true G2 H2 (.refl kn2) trivial
end

/-! ### statements, from the heaps at the entry -/
section
variable {o : Option Addr} {σ : L2.St} {Ge He G H : Hp} {ta tb te tx : TE} {s t u : T} {tt tt' : TT} {x y v : V} {D : Ends} {tu tw tz : TS}
theorem Go.mut (a : Go o Ge He G H) {p : Addr} {x : HO} (he : He p = none) (g : G p = none) (ho : o ≠ some p) : Go o Ge He G (upd H p x) := by
  refine ⟨a.gg, ⟨fun c y q => ?_, fun b z => ?_⟩, fun c y q n => ?_, a.nw⟩
  · rw [upd_ne (fun z => by rw [z, g] at q; cases q)]; exact a.kn.sub c y q
  · obtain ⟨⟨n, gg, r, c, q1⟩, q2⟩ := a.kn.box b z
    exact ⟨⟨n, gg, r, c, by rw [upd_ne (fun z2 => ho (by rw [z, z2]))]; exact q1⟩, q2⟩
  · rw [upd_ne (ne_of_none q he)]; exact a.kp c y q n
theorem s_asg {i : Nat} (g : Go o Ge He G H) (h : Ev o te σ G t) (k : ∀ v G2 H2, Go o Ge He G2 H2 → Go o G H G2 H2 → U t G2 v → D.nx (σ.set i (some v)) H2) : tAsg te (gName i) D σ H :=
  h G H (Ex.refl _) g.kn _ fun v G2 H2 g2 w2 => k v G2 H2 (g.trans g2) g2 w2
theorem q_asg {i : Nat} (g : Go o Ge He G H) (h : Ev o te σ G t) (k : ∀ v G2 H2, Go o Ge He G2 H2 → Go o G H G2 H2 → U t G2 v → tz D (σ.set i (some v)) H2) : tSeq (tAsg te (gName i)) tz D σ H := s_asg (D := { D with nx := tz D }) g h k
theorem Go.fresh (g : Go o Ge He G H) {p : Addr} (h : H p = none) : He p = none := by
  cases z : He p with
  | none => rfl
  | some y =>
    by_cases hb : o = some p
    · obtain ⟨⟨_, _, _, _, q2⟩, _⟩ := g.kn.box p hb
      rw [h] at q2; cases q2
    · rw [g.kp p y z hb] at h; cases h
theorem Kn.nbox (k : Kn o G H) {p : Addr} (h : H p = none) : o ≠ some p := fun z => by
  obtain ⟨⟨_, _, _, _, q2⟩, _⟩ := k.box p z
  rw [h] at q2; cases q2
theorem s_asgN {i : Nat} {P : PL} (g : Go o Ge He G H) (h : EvN o te σ G P) (k : ∀ p xs G2 H2, Go o Ge He G2 H2 → Go o G H G2 H2 → He p = none → H p = none → o ≠ some p → H2 p = some (.lst xs) → G2 p = none → UP P G2 xs → D.nx (σ.set i (some (.ref p))) H2) : tAsg te (gName i) D σ H :=
  h G H (Ex.refl _) g.kn _ fun p xs G2 H2 g2 hp h2 n2 w2 => k p xs G2 H2 (g.trans g2) g2 (g.fresh hp) hp (g.kn.nbox hp) h2 n2 w2
theorem q_asgN {i : Nat} {P : PL} (g : Go o Ge He G H) (h : EvN o te σ G P) (k : ∀ p xs G2 H2, Go o Ge He G2 H2 → Go o G H G2 H2 → He p = none → H p = none → o ≠ some p → H2 p = some (.lst xs) → G2 p = none → UP P G2 xs → tz D (σ.set i (some (.ref p))) H2) : tSeq (tAsg te (gName i)) tz D σ H := s_asgN (D := { D with nx := tz D }) g h k
theorem s_ret (g : Go o Ge He G H) (h : Ev o te σ G t) (k : ∀ v G2 H2, Go o Ge He G2 H2 → U t G2 v → D.rt v H2) : tRet te D σ H :=
  h G H (Ex.refl _) g.kn _ fun v G2 H2 g2 w2 => k v G2 H2 (g.trans g2) w2
theorem s_if {p : Bool → Prop} (g : Go o Ge He G H) (h : EvT o tt σ G p) (h1 : p true → ∀ G2 H2, Go o Ge He G2 H2 → Go o G H G2 H2 → tu D σ H2) (h2 : p false → ∀ G2 H2, Go o Ge He G2 H2 → Go o G H G2 H2 → tw D σ H2) : tIfS tt tu tw D σ H :=
  h G H (Ex.refl _) g.kn _ fun b G2 H2 g2 pb => by
    cases b with
    | true => exact h1 pb G2 H2 (g.trans g2) g2
    | false => exact h2 pb G2 H2 (g.trans g2) g2
theorem q_if {p : Bool → Prop} (g : Go o Ge He G H) (h : EvT o tt σ G p) (h1 : p true → ∀ G2 H2, Go o Ge He G2 H2 → Go o G H G2 H2 → tu { D with nx := tz D } σ H2) (h2 : p false → ∀ G2 H2, Go o Ge He G2 H2 → Go o G H G2 H2 → tw { D with nx := tz D } σ H2) : tSeq (tIfS tt tu tw) tz D σ H :=
  s_if (D := { D with nx := tz D }) g h h1 h2
/-- an if without else -/
theorem q_when {p : Bool → Prop} (g : Go o Ge He G H) (h : EvT o tt σ G p) (h1 : p true → ∀ G2 H2, Go o Ge He G2 H2 → Go o G H G2 H2 → tu { D with nx := tz D } σ H2) (h2 : p false → ∀ G2 H2, Go o Ge He G2 H2 → Go o G H G2 H2 → tz D σ H2) : tSeq (tIfS tt tu tNext) tz D σ H :=
  s_if (D := { D with nx := tz D }) g h h1 h2
theorem s_when {p : Bool → Prop} (g : Go o Ge He G H) (h : EvT o tt σ G p) (h1 : p true → ∀ G2 H2, Go o Ge He G2 H2 → Go o G H G2 H2 → tu D σ H2) (h2 : p false → ∀ G2 H2, Go o Ge He G2 H2 → Go o G H G2 H2 → D.nx σ H2) : tIfS tt tu tNext D σ H :=
  s_if g h h1 h2
theorem q_drop (g : Go o Ge He G H) (h : Ev o te σ G t) (k : ∀ v G2 H2, Go o Ge He G2 H2 → Go o G H G2 H2 → U t G2 v → tz D σ H2) : tSeq (tDrop te) tz D σ H :=
  h G H (Ex.refl _) g.kn _ fun v G2 H2 g2 w2 => k v G2 H2 (g.trans g2) g2 w2
/-- x.append(e), x a list of one's own -/
theorem s_app {K : PySem.W.Frag} {l : Addr} {xs : List V} (g : Go o Ge He G H) (he : He l = none) (hg : G l = none) (ho : o ≠ some l) (hl : H l = some (.lst xs)) (ha : Ev o ta σ G (tIs (.ref l))) (h : ∀ G', Ex G G' → Ev o te σ G' t) (hz : xs.length < 100000)
    (k : ∀ v G2 H2, Go o Ge He G2 (upd H2 l (.lst (xs ++ [v]))) → Go o G H G2 H2 → G2 l = none → U t G2 v → D.nx σ (upd H2 l (.lst (xs ++ [v])))) : tDrop (tBM K "list" rAppend ta (tCons te tNil)) D σ H :=
  ha G H (Ex.refl _) g.kn _ fun v G2 H2 g2 w2 => by
    have e := w2.eq
    subst e
    have h2 := g2.kp l _ hl ho
    refine ⟨.inl ⟨rfl, xs, .of h2⟩, h G2 g2.gg G2 H2 (Ex.refl _) g2.kn _ fun v G3 H3 g3 w3 => ?_⟩
    have h3 := g3.kp l _ h2 ho
    have g13 := g2.trans g3
    have n3 : G3 l = none := g13.nw l hg (by rw [hl]; simp)
    exact ⟨l, xs, v, rfl, rfl, h3, Evl.sz_lt hz, k v G3 H3 ((g.trans g13).mut he n3 ho) g13 n3 w3⟩
theorem q_app {K : PySem.W.Frag} {l : Addr} {xs : List V} (g : Go o Ge He G H) (he : He l = none) (hg : G l = none) (ho : o ≠ some l) (hl : H l = some (.lst xs)) (ha : Ev o ta σ G (tIs (.ref l))) (h : ∀ G', Ex G G' → Ev o te σ G' t) (hz : xs.length < 100000)
    (k : ∀ v G2 H2, Go o Ge He G2 (upd H2 l (.lst (xs ++ [v]))) → Go o G H G2 H2 → G2 l = none → U t G2 v → tz D σ (upd H2 l (.lst (xs ++ [v])))) : tSeq (tDrop (tBM K "list" rAppend ta (tCons te tNil))) tz D σ H :=
  s_app (D := { D with nx := tz D }) g he hg ho hl ha h hz k
/-- a for over values that stand; I by the turn, the slots, the known heap, the heap -/
theorem s_for {wi : TI} {j : Nat} {P : PL} (g : Go o Ge He G H) (hi : EvI o wi σ G P) (I : List V → Nat → L2.St → Hp → Hp → Prop)
    (h0 : ∀ xs G' H', Go o Ge He G' H' → Go o G H G' H' → UP P G' xs → I xs 0 σ G' H')
    (hs : ∀ Gs (xs : List V), Ex G Gs → UP P Gs xs → ∀ (i : Nat) x σ' G' H', xs[i]? = some x → Go o Ge He G' H' → Ex Gs G' → I xs i σ' G' H' →
      tu { D with nx := fun σ2 H2 => ∃ G2, Go o Ge He G2 H2 ∧ Ex Gs G2 ∧ I xs (i + 1) σ2 G2 H2, ct := fun σ2 H2 => ∃ G2, Go o Ge He G2 H2 ∧ Ex Gs G2 ∧ I xs (i + 1) σ2 G2 H2, bk := D.nx } (σ'.set j (some x)) H')
    (hd : ∀ xs σ' G' H', Go o Ge He G' H' → Ex G G' → UP P G' xs → I xs xs.length σ' G' H' → D.nx σ' H') : tFor wi (gName j) tu D σ H :=
  hi G H (Ex.refl _) g.kn _ fun J G2 H2 xs g2 w hP => by
    refine for_it w (fun i σ' H' => ∃ G', Go o Ge He G' H' ∧ Ex G2 G' ∧ I xs i σ' G' H') ⟨G2, g.trans g2, Ex.refl _, h0 xs G2 H2 (g.trans g2) g2 hP⟩ (fun i σ' H' _ p => ?_) (fun i x σ' H' H'' hlt p y => ?_) (fun σ' H' p => ?_)
    · obtain ⟨G', a, b, _⟩ := p
      exact b.trans a.kn.sub
    · obtain ⟨G', a, b, c⟩ := p
      obtain ⟨e1, hx⟩ := y
      subst e1
      exact hs G2 xs g2.gg hP i x σ' G' H'' hx a b c
    · obtain ⟨G', a, b, c⟩ := p
      exact hd xs σ' G' H' a (g2.gg.trans b) (hP.up b) c
theorem q_for {wi : TI} {j : Nat} {P : PL} (g : Go o Ge He G H) (hi : EvI o wi σ G P) (I : List V → Nat → L2.St → Hp → Hp → Prop)
    (h0 : ∀ xs G' H', Go o Ge He G' H' → Go o G H G' H' → UP P G' xs → I xs 0 σ G' H')
    (hs : ∀ Gs (xs : List V), Ex G Gs → UP P Gs xs → ∀ (i : Nat) x σ' G' H', xs[i]? = some x → Go o Ge He G' H' → Ex Gs G' → I xs i σ' G' H' →
      tu { D with nx := fun σ2 H2 => ∃ G2, Go o Ge He G2 H2 ∧ Ex Gs G2 ∧ I xs (i + 1) σ2 G2 H2, ct := fun σ2 H2 => ∃ G2, Go o Ge He G2 H2 ∧ Ex Gs G2 ∧ I xs (i + 1) σ2 G2 H2, bk := tz D } (σ'.set j (some x)) H')
    (hd : ∀ xs σ' G' H', Go o Ge He G' H' → Ex G G' → UP P G' xs → I xs xs.length σ' G' H' → tz D σ' H') : tSeq (tFor wi (gName j) tu) tz D σ H :=
  s_for (D := { D with nx := tz D }) g hi I h0 hs hd
/-- a test at hand -/
def AtT (o : Option Addr) (tt : TT) (σ : L2.St) (G H : Hp) (p : Bool → Prop) : Prop := ∀ Q : Bool → Hp → Prop, (∀ b G2 H2, Go o G H G2 H2 → p b → Q b H2) → tt σ H Q
theorem EvT.at {p : Bool → Prop} (h : EvT o tt σ G p) (kn : Kn o G H) : AtT o tt σ G H p := h G H (Ex.refl _) kn
theorem q_whileA (g : Go o Ge He G H) (I : Nat → L2.St → Hp → Hp → Prop) (m0 : Nat) (h0 : I m0 σ G H)
    (hs : ∀ m σ' G' H', Go o Ge He G' H' → Ex G G' → I m σ' G' H' → ∃ p, AtT o tt σ' G' H' p ∧
      (p true → ∀ G1 H1, Go o Ge He G1 H1 → Go o G' H' G1 H1 → tu { D with nx := fun σ2 H2 => ∃ m' G2, m' < m ∧ Go o Ge He G2 H2 ∧ Ex G G2 ∧ I m' σ2 G2 H2, ct := fun σ2 H2 => ∃ m' G2, m' < m ∧ Go o Ge He G2 H2 ∧ Ex G G2 ∧ I m' σ2 G2 H2, bk := tz D } σ' H1) ∧
      (p false → ∀ G1 H1, Go o Ge He G1 H1 → Go o G' H' G1 H1 → tz D σ' H1)) : tSeq (tWhile tt tu) tz D σ H := by
  show tWhile tt tu { D with nx := tz D } σ H
  refine ⟨fun m σ' H' => ∃ G', Go o Ge He G' H' ∧ Ex G G' ∧ I m σ' G' H', ⟨m0, G, g, Ex.refl _, h0⟩, fun m σ' H' ⟨G', a, b, c⟩ => ?_⟩
  obtain ⟨p, ht, hy, hn⟩ := hs m σ' G' H' a b c
  refine ht _ fun bb G1 H1 g1 pb => ?_
  cases bb with
  | true =>
    exact ⟨_, fun σ2 H2 ⟨m', G2, l, x1, x2, x3⟩ => ⟨m', l, G2, x1, x2, x3⟩, hy pb G1 H1 (a.trans g1) g1⟩
  | false => exact hn pb G1 H1 (a.trans g1) g1
/-- a while, by a word and a measure -/
theorem q_while (g : Go o Ge He G H) (I : Nat → L2.St → Hp → Hp → Prop) (m0 : Nat) (h0 : I m0 σ G H)
    (hs : ∀ m σ' G' H', Go o Ge He G' H' → Ex G G' → I m σ' G' H' → ∃ p, EvT o tt σ' G' p ∧
      (p true → ∀ G1 H1, Go o Ge He G1 H1 → Go o G' H' G1 H1 → tu { D with nx := fun σ2 H2 => ∃ m' G2, m' < m ∧ Go o Ge He G2 H2 ∧ Ex G G2 ∧ I m' σ2 G2 H2, ct := fun σ2 H2 => ∃ m' G2, m' < m ∧ Go o Ge He G2 H2 ∧ Ex G G2 ∧ I m' σ2 G2 H2, bk := tz D } σ' H1) ∧
      (p false → ∀ G1 H1, Go o Ge He G1 H1 → Go o G' H' G1 H1 → tz D σ' H1)) : tSeq (tWhile tt tu) tz D σ H := by
  show tWhile tt tu { D with nx := tz D } σ H
  refine ⟨fun m σ' H' => ∃ G', Go o Ge He G' H' ∧ Ex G G' ∧ I m σ' G' H', ⟨m0, G, g, Ex.refl _, h0⟩, fun m σ' H' ⟨G', a, b, c⟩ => ?_⟩
  obtain ⟨p, ht, hy, hn⟩ := hs m σ' G' H' a b c
  refine ht G' H' (Ex.refl _) a.kn _ fun bb G1 H1 g1 pb => ?_
  cases bb with
  | true =>
    exact ⟨_, fun σ2 H2 ⟨m', G2, l, x1, x2, x3⟩ => ⟨m', l, G2, x1, x2, x3⟩, hy pb G1 H1 (a.trans g1) g1⟩
  | false => exact hn pb G1 H1 (a.trans g1) g1
end
end Ty
set_option Elab.async false
set_option linter.all false
set_option maxRecDepth 100000
set_option maxHeartbeats 4000000
/-! Calls of own defs by name, operations of several kinds. -/
namespace Ty
open PySem L2
open Evl (Ex ex_l ex_t)

/-! ### own defs -/
/-- the def st, bound to x at the top, keeps the promise sp -/
structure Own (P : Program) (w : World) (K : PySem.W.Frag) (mg : Str → Option Value) (base : Heap) (CX : CXT) (k : Nat) (x : Str) (st : Stmt) (ps : List Str) (sp : Sp) : Prop where
  ex : ∃ (f : Addr) (fd : FuncData), FnOk P w K mg base CX k f fd ps sp ∧ mg x = some (.ref f) ∧ PySem.W.keepIn K (.ref f) = true ∧
    ∃ (kV doc pm : Value) (an : Option Addr) (cdv ct : Value), fd = PySem.W.fnOf x x (defArgs st) (defBody st) (defScope st) .none kV doc pm an cdv ct
/-- where a def stands -/
structure Df (K : PySem.W.Frag) (mg : Str → Option Value) (x : Str) (st : Stmt) : Prop where
  ex : ∃ (f : Addr) (fd : FuncData), Fun K x x st f fd ∧ mg x = some (.ref f)
theorem Df.own {P : Program} {w : World} {K : PySem.W.Frag} {mg : Str → Option Value} {base : Heap} {CX : CXT} {k : Nat} {x : Str} {st : Stmt} {ps : List Str} {sp : Sp} (d : Df K mg x st)
    (h : ∀ f fd, Fun K x x st f fd → FnOk P w K mg base CX k f fd ps sp) : Own P w K mg base CX k x st ps sp := by
  obtain ⟨f, fd, F, hm⟩ := d.ex
  obtain ⟨_, _, kV, doc, pm, an, cdv, ct, _, e, _, _⟩ := F.ex
  exact ⟨f, fd, h f fd F, hm, F.kp, kV, doc, pm, an, cdv, ct, e⟩
/-- the positional binding of n parameters -/
def PosB (x : Str) (st : Stmt) (ps : List Str) : Prop := ∀ (kV doc pm : Value) (an : Option Addr) (cdv ct : Value) (us : List Value), us.length = ps.length →
  bindArgs (PySem.W.fnOf x x (defArgs st) (defBody st) (defScope st) .none kV doc pm an cdv ct) ⟨us, []⟩ = pure (ps.zip us)
section
variable {X : Cx} {CX : CXT} {k : Nat} {st : Stmt} {ps : List Str} {sp : Sp} {E : XK} {x : Str} {p pos : Pos} {e : Expr} {es : List Expr} {t : TA}
theorem pe_own (F : Own X.prog X.w X.K X.mg X.base CX k x st ps sp) (hb : PosB x st ps) (hr : Room k X.A) (hg : Gl X x) (hx : Passes CX X E) (ha : PA X (e :: es) t)
    (hdb : (x == ("__debug__" : Str)) = false := by decide) (he : starEach (e :: es) X.env = (false, eval e X.env) :: starEach es X.env := by rfl) (hpl : (backTo pos (starEach es X.env)).any (·.1) = false := by rfl) :
    PE X (.Call (.Name x p) (e :: es) [] pos) (tCall sp [] E t) := by
  obtain ⟨f, fd, F, hm, hk, kV, doc, pm, an, cdv, ct, rfl⟩ := F.ex
  exact pe_call F hr hg hm hk (.all (hb kV doc pm an cdv ct)) .nil hx ha hdb he hpl
theorem pe_own0 (F : Own X.prog X.w X.K X.mg X.base CX k x st ps sp) (hb : PosB x st ps) (hr : Room k X.A) (hg : Gl X x) (hx : Passes CX X E)
    (hdb : (x == ("__debug__" : Str)) = false := by decide) : PE X (.Call (.Name x p) [] [] pos) (tCall sp [] E tNil) := by
  obtain ⟨f, fd, F, hm, hk, kV, doc, pm, an, cdv, ct, rfl⟩ := F.ex
  exact pe_call0 F hr hg hm hk (.all (hb kV doc pm an cdv ct)) .nil hx hdb
/-- all by keywords, in the order ks; g brings them into the parameters' order -/
def tKw (sp : Sp) (n : Nat) (gV : List V → List V) (E : XK) (tk : TA) : TE := fun σ H Q => tk σ H fun zs H2 => zs.length = n ∧ sp (gV zs) H2 Q E
theorem pe_ownK {ks : List Str} {kws : List Keyword} {tk : TA} {g : List Value → List Value} {gV : List V → List V} (F : Own X.prog X.w X.K X.mg X.base CX k x st ps sp)
    (hb : ∀ (kV doc pm : Value) (an : Option Addr) (cdv ct : Value) (ws : List Value), ws.length = ks.length → bindArgs (PySem.W.fnOf x x (defArgs st) (defBody st) (defScope st) .none kV doc pm an cdv ct) ⟨[], ks.zip ws⟩ = pure (ps.zip (g ws)))
    (rel : ∀ {zs : List V} {ws : List Value}, zs.length = ks.length → Vals zs ws → Vals (gV zs) (g ws))
    (hr : Room k X.A) (hg : Gl X x) (hx : Passes CX X E) (hkw : PK X kws tk)
    (hall : (backToKw pos (keywordEach kws X.env)).all (·.1.isSome) = true := by rfl) (hks : (backToKw pos (keywordEach kws X.env)).filterMap (·.1) = ks := by rfl) (hdb : (x == ("__debug__" : Str)) = false := by decide)
    (hpl : ((backTo pos (starEach [] X.env)).any (·.1) || (backToKw pos (keywordEach kws X.env)).any (·.1.isNone)) = false := by rfl) :
    PE X (.Call (.Name x p) [] kws pos) (tKw sp ks.length gV E tk) := by
  obtain ⟨f, fd, F, hm, hk, kV, doc, pm, an, cdv, ct, rfl⟩ := F.ex
  refine ⟨fun pins s σ H Q I h => ?_⟩
  refine wpAny_Call_Name_kw (ld_glob I hg hm ?_ hdb)
  refine PySem.W.callWith_KW0 (h₀ := X.base) I.ok.mod.kin hk hall ?_ hpl
  refine thn (hkw.run pos pins s σ H _ I h) fun ws s2 ⟨zs, H2, I2, rz, hl, q2⟩ => ⟨I2.kIn, ?_⟩
  rw [hks]
  have lw : ws.length = ks.length := by rw [← rz.length, hl]
  have r2 := rel hl rz
  refine wpAny_call (codeAny_mono (F.run X.A X.stack s2 H2 ⟨[], ks.zip ws⟩ (g ws) (gV zs) Q E hr I2.env0 (.of_eq (hb kV doc pm an cdv ct ws lw)) r2 q2) fun r s' hq => ?_)
  cases r with
  | error e => exact hx pins σ H2 s2 e s' I2 hq
  | ok fl =>
    cases fl with
    | ret u => exact I2.after hq
    | next => exact False.elim hq
    | brk => exact False.elim hq
    | cont => exact False.elim hq
end
section
variable {o : Option Addr} {σ : L2.St} {G : Hp} {t : T}
theorem ev_kw {C : Option Addr → Hp → List V → T → Prop} {E : XK} {ta : TA} {ts : List T} {n : Nat} {gV : List V → List V} (hn : ts.length = n) (ha : EvA o ta σ G ts)
    (hc : ∀ G' vs, Ex G G' → AllU G' ts vs → ∃ o' t', (o' = o ∨ o' = none) ∧ C o' G' (gV vs) t' ∧ ∀ G'' v, Ex G' G'' → U t' G'' v → U t G'' v) : Ev o (tKw (spC C) n gV E ta) σ G t := fun G1 H1 a kn Q q =>
  ha G1 H1 a kn _ fun vs G2 H2 g2 w2 => ⟨w2.len.trans hn, by
    obtain ⟨o', t', ho, c, k⟩ := hc G2 vs (a.trans g2.gg) w2
    rcases ho with rfl | rfl
    · exact ⟨o', G2, t', g2.kn, c, fun v G3 H3 g3 w3 => q v G3 H3 (g2.trans g3) (k G3 v g3.gg w3)⟩
    · exact ⟨none, G2, t', g2.kn.pure, c, fun v G3 H3 g3 w3 => q v G3 H3 (g2.trans (g3.pure g2.kn)) (k G3 v g3.gg w3)⟩⟩
end

/-! ### operations of several kinds -/
section
variable {X : Cx} {o : Option Addr} {σ : L2.St} {G : Hp} {ta tb te : TE} {s t u : T} {x y v : V} {K : PySem.W.Frag}
/-- a list and the empty list -/
def rNil (K : PySem.W.Frag) (neg : Bool) : R2 := fun x y H Q => ∃ a b xs, x = .ref a ∧ y = .ref b ∧ SqL K H a xs ∧ SqL K H b [] ∧ Q (.bl (if neg then !xs.isEmpty else xs.isEmpty)) H
theorem op_eqNil (hu : X.A.units + 64 < cLine) : OpR X (compareOp .Eq) (rNil X.K false) := by
  intro pins s σ H x y v u Q I rx ry h
  obtain ⟨a, b, xs, rfl, rfl, ha, hb, q⟩ := h
  cases (show v = Value.ref a from rx)
  cases (show u = Value.ref b from ry)
  obtain ⟨us, r1, p1, _⟩ := I.list ha
  obtain ⟨ws, r2, p2, _⟩ := I.list hb
  have w0 : ws = [] := by cases r2; rfl
  subst w0
  show wpAny _ _ (richCompare .Eq _ _) _ _ s
  cases xs with
  | nil =>
    have u0 : us = [] := by cases r1; rfl
    subst u0
    exact SeqAt.RcAt.lists (e := fun _ => true) p1.isList p2.isList rfl (by omega) (fun j h1 => absurd h1 (Nat.not_lt_zero j)) _ _ _ _ ⟨.bl true, H, I, rfl, q⟩
  | cons z zs =>
    cases r1 with
    | cons r r' => exact SeqAt.RcAt.lists_lengths p1.isList p2.isList (by rfl) (by omega) _ _ _ _ ⟨.bl false, H, I, rfl, q⟩
theorem op_neNil (hu : X.A.units + 64 < cLine) : OpR X (compareOp .NotEq) (rNil X.K true) := by
  intro pins s σ H x y v u Q I rx ry h
  obtain ⟨a, b, xs, rfl, rfl, ha, hb, q⟩ := h
  cases (show v = Value.ref a from rx)
  cases (show u = Value.ref b from ry)
  obtain ⟨us, r1, p1, _⟩ := I.list ha
  obtain ⟨ws, r2, p2, _⟩ := I.list hb
  have w0 : ws = [] := by cases r2; rfl
  subst w0
  show wpAny _ _ (richCompare .NotEq _ _) _ _ s
  cases xs with
  | nil =>
    have u0 : us = [] := by cases r1; rfl
    subst u0
    exact SeqAt.RcNeAt.lists (e := fun _ => true) p1.isList p2.isList rfl (by omega) (fun j h1 => absurd h1 (Nat.not_lt_zero j)) _ _ _ _ ⟨.bl false, H, I, rfl, q⟩
  | cons z zs =>
    cases r1 with
    | cons r r' => exact SeqAt.RcNeAt.lists_lengths p1.isList p2.isList (by rfl) (by omega) _ _ _ _ ⟨.bl true, H, I, rfl, q⟩
abbrev rEqG (K : PySem.W.Frag) : R2 := fun x y H Q => rEq x y H Q ∨ (rNil K false x y H Q ∨ rEqD K x y H Q)
abbrev rNeG (K : PySem.W.Frag) : R2 := fun x y H Q => rNe x y H Q ∨ (rNil K true x y H Q ∨ rNeD K x y H Q)
theorem gEq (hu : X.A.units + 64 < cLine) : OpR X (compareOp .Eq) (rEqG X.K) := op_eq.or ((op_eqNil hu).or (op_eqD hu))
theorem gNe (hu : X.A.units + 64 < cLine) : OpR X (compareOp .NotEq) (rNeG X.K) := op_ne.or ((op_neNil hu).or (op_neD hu))
def rAddS : R2 := fun x y H Q => ∃ i j, x = .str i ∧ y = .str j ∧ i.length + j.length ≤ sizeLine ∧ Q (.str (i ++ j)) H
abbrev rAddG (K : PySem.W.Frag) : R2 := fun x y H Q => rI0 (fun i j => .int (i + j)) x y H Q ∨ (rAddS x y H Q ∨ (rCat x y H Q ∨ rCatT K x y H Q))
theorem gAdd : OpR X (binaryOp .Add) (rAddG X.K) := op_add.or ((op_add_str (X := X)).or (op_cat.or op_catT))
abbrev rMulG : R2 := fun x y H Q => rI CMul (fun i j => .int (i * j)) x y H Q ∨ rRep x y H Q
theorem gMul : OpR X (binaryOp .Mult) rMulG := op_mul.or op_rep
def rInS (neg : Bool) : R2 := fun x y H Q => ∃ (c : Nat) (z : Str), x = .str ⟨#[c]⟩ ∧ y = .str z ∧ Q (.bl (if neg then !decide (c ∈ z.cps.toList) else decide (c ∈ z.cps.toList))) H
abbrev rInG (K : PySem.W.Frag) (neg : Bool) : R2 := fun x y H Q => rIn K neg x y H Q ∨ rInS neg x y H Q
theorem gIn : OpR X (compareOp .In) (rInG X.K false) := op_in_seq.or (op_in_sign (X := X))
theorem gNotIn : OpR X (compareOp .NotIn) (rInG X.K true) := op_notIn_seq.or (op_notIn_sign (X := X))
theorem gLt : OpR X (compareOp .Lt) (rI0 fun i j => .bl (decide (i < j))) := op_lt
abbrev rLen (K : PySem.W.Frag) : List V → Hp → VK → Prop := fun xs H Q => (∃ p ys, xs = [.ref p] ∧ (SqL K H p ys ∨ SqT K H p ys) ∧ Q (.int ys.length) H) ∨ ∃ z, xs = [.str z] ∧ z.length ≤ sizeLine ∧ Q (.int z.length) H
theorem gLen : CallR X (.builtin "len") (rLen X.K) := call_len_seq.or call_len_str
abbrev rSlG (K : PySem.W.Frag) : V → Option Int → Option Int → Hp → VK → Prop := fun x lo hi H Q => rSlL K x lo hi H Q ∨ (rSlS x lo hi H Q ∨ rSlT K x lo hi H Q)
theorem gSl : SlR X (rSlG X.K) := sl_list.or (sl_str.or sl_tup)

/-! ### by kinds -/
variable {r r' : R2}
theorem RO.lft (h : RO o r x y G t) : RO o (fun x y H Q => r x y H Q ∨ r' x y H Q) x y G t := fun G1 H1 a kn Q q => .inl (h G1 H1 a kn Q q)
theorem RO.rgt (h : RO o r' x y G t) : RO o (fun x y H Q => r x y H Q ∨ r' x y H Q) x y G t := fun G1 H1 a kn Q q => .inr (h G1 H1 a kn Q q)
/-- equal scalars, told -/
theorem ro_eqS {b : Bool} (h : scal x y = true) (e : decide (x = y) = b) : RO o (rEqG K) x y G (tIs (.bl b)) := .lft (by rw [← e]; exact ro_eq h)
theorem ro_neS {b : Bool} (h : scal x y = true) (e : (!decide (x = y)) = b) : RO o (rNeG K) x y G (tIs (.bl b)) := .lft (by rw [← e]; exact ro_ne h)
theorem ro_eqN {a b : Addr} {xs : List V} (ha : SqL K G a xs) (hb : SqL K G b []) : RO o (rEqG K) (.ref a) (.ref b) G (tIs (.bl xs.isEmpty)) :=
  .rgt (.lft (ro_q u_is fun G1 H1 e kn Q q => ⟨a, b, xs, rfl, rfl, ex_l (e.trans kn.sub) ha, ex_l (e.trans kn.sub) hb, q⟩))
theorem ro_neN {a b : Addr} {xs : List V} (ha : SqL K G a xs) (hb : SqL K G b []) : RO o (rNeG K) (.ref a) (.ref b) G (tIs (.bl (!xs.isEmpty))) :=
  .rgt (.lft (ro_q u_is fun G1 H1 e kn Q q => ⟨a, b, xs, rfl, rfl, ex_l (e.trans kn.sub) ha, ex_l (e.trans kn.sub) hb, q⟩))
theorem ro_addI {i j : Int} : RO o (rAddG K) (.int i) (.int j) G (tIs (.int (i + j))) := .lft ro_I0
theorem ro_mulI {i j : Int} (h : CMul i j) : RO o rMulG (.int i) (.int j) G (tIs (.int (i * j))) := .lft (ro_I h)
theorem ro_addS {i j : Str} (h : i.length + j.length ≤ 100000) : RO o (rAddG K) (.str i) (.str j) G (tIs (.str (i ++ j))) := .rgt (.lft (ro_q u_is fun G1 H1 e kn Q q => ⟨i, j, rfl, rfl, Evl.sz_of h, q⟩))
theorem rc_lenS {z : Str} (h : z.length ≤ 100000) : RC o (rLen K) [.str z] G (tIs (.int z.length)) := rc_q u_is fun G1 H1 e kn Q q => .inr ⟨z, rfl, Evl.sz_of h, q⟩
theorem rc_lenL {a : Addr} {xs : List V} (h : SqL K G a xs) : RC o (rLen K) [.ref a] G (tIs (.int xs.length)) := rc_q u_is fun G1 H1 e kn Q q => .inl ⟨a, xs, rfl, .inl (ex_l (e.trans kn.sub) h), q⟩
theorem rc_lenT {a : Addr} {xs : List V} (h : SqT K G a xs) : RC o (rLen K) [.ref a] G (tIs (.int xs.length)) := rc_q u_is fun G1 H1 e kn Q q => .inl ⟨a, xs, rfl, .inr (ex_t (e.trans kn.sub) h), q⟩
theorem ro_inS {neg : Bool} {c : Nat} {z : Str} : RO o (rInG K neg) (.str ⟨#[c]⟩) (.str z) G (tIs (.bl (if neg then !decide (c ∈ z.cps.toList) else decide (c ∈ z.cps.toList)))) := .rgt (ro_q u_is fun G1 H1 e kn Q q => ⟨c, z, rfl, rfl, q⟩)
theorem ro_inT {neg : Bool} {a : Addr} {xs : List V} (h : SqT K G a xs) (hx : flatV x = true) (hf : xs.all flatV = true) : RO o (rInG K neg) x (.ref a) G (tIs (.bl (if neg then !inV x xs else inV x xs))) :=
  .lft (ro_q u_is fun G1 H1 e kn Q q => ⟨a, xs, rfl, .inr (ex_t (e.trans kn.sub) h), hx, hf, q⟩)
theorem ro_inL {neg : Bool} {a : Addr} {xs : List V} (h : SqL K G a xs) (hx : flatV x = true) (hf : xs.all flatV = true) : RO o (rInG K neg) x (.ref a) G (tIs (.bl (if neg then !inV x xs else inV x xs))) :=
  .lft (ro_q u_is fun G1 H1 e kn Q q => ⟨a, xs, rfl, .inl (ex_l (e.trans kn.sub) h), hx, hf, q⟩)
/-- items -/
theorem ro_ixL {a : Addr} {xs : List V} {i : Int} (h : SqL K G a xs) (ha : atI xs i = some v) : RO o (rIx K) (.ref a) (.int i) G (tIs v) := .lft (ro_q u_is fun G1 H1 e kn Q q => ⟨a, xs, i, v, rfl, rfl, ex_l (e.trans kn.sub) h, ha, q⟩)
theorem ro_ixT {a : Addr} {xs : List V} {i : Int} (h : SqT K G a xs) (ha : atI xs i = some v) : RO o (rIx K) (.ref a) (.int i) G (tIs v) := .rgt (.lft (ro_q u_is fun G1 H1 e kn Q q => ⟨a, xs, i, v, rfl, rfl, ex_t (e.trans kn.sub) h, ha, q⟩))
/-- slices -/
def EvO (o : Option Addr) (to : TO) (σ : L2.St) (G : Hp) (i : Option Int) : Prop := ∀ G1 H1, Ex G G1 → Kn o G1 H1 → ∀ Q : Option Int → Hp → Prop, (∀ G2 H2, Go o G1 H1 G2 H2 → Q i H2) → to σ H1 Q
theorem eo_none : EvO o tNoPart σ G none := fun G1 H1 e kn Q q => q G1 H1 (.refl kn)
theorem eo_some {i : Int} (h : Ev o te σ G (tIs (.int i))) : EvO o (tPart te) σ G (some i) := fun G1 H1 e kn Q q => h G1 H1 e kn _ fun v G2 H2 g2 w2 => ⟨i, w2.eq, q G2 H2 g2⟩
theorem ev_slS {z : Str} {lo hi : Option Int} {tl th : TO} (h : Ev o te σ G (tIs (.str z))) (hz : z.length ≤ 100000) (hl : EvO o tl σ G lo) (hh : EvO o th σ G hi) : Ev o (tSl (rSlG K) te tl th) σ G (tIs (.str (cutS z lo hi))) := fun G1 H1 e kn Q q =>
  h G1 H1 e kn _ fun v G2 H2 g2 w2 => hl G2 H2 (e.trans g2.gg) g2.kn _ fun G3 H3 g3 => hh G3 H3 ((e.trans g2.gg).trans g3.gg) g3.kn _ fun G4 H4 g4 =>
    .inr (.inl ⟨z, w2.eq, Evl.sz_of hz, q _ G4 H4 ((g2.trans g3).trans g4) u_is⟩)
/-- a slice of a known list: a new list -/
theorem en_slL {lo hi : Option Int} {tl th : TO} {P P' : PL} (h : Ev o te σ G t) (k : ∀ G' v, Ex G G' → U t G' v → ∃ a xs, v = .ref a ∧ SqL K G' a xs ∧ UP P' G' xs) (hl : EvO o tl σ G lo) (hh : EvO o th σ G hi) (hP : ∀ G' xs, P' G' xs → P G' (cutV xs lo hi)) :
    EvN o (tSl (rSlG K) te tl th) σ G P := fun G1 H1 e kn Q q =>
  h G1 H1 e kn _ fun v G2 H2 g2 w2 => hl G2 H2 (e.trans g2.gg) g2.kn _ fun G3 H3 g3 => hh G3 H3 ((e.trans g2.gg).trans g3.gg) g3.kn _ fun G4 H4 g4 => by
    obtain ⟨a, xs, rfl, hs, hp⟩ := k G2 v (e.trans g2.gg) w2
    have g := (g2.trans g3).trans g4
    exact .inl ⟨a, xs, rfl, ex_l ((g3.gg.trans g4.gg).trans g4.kn.sub) hs, fun p hp4 => q p _ G4 _ (g.trans (.tmp g4.kn hp4)) (g.fresh hp4) upd_same (Evl.fresh_back g4.kn.sub hp4) fun G' e' => hP G' xs (hp G' ((g3.gg.trans g4.gg).trans e'))⟩
/-- .. of a new list -/
theorem en_slN {lo hi : Option Int} {tl th : TO} {P P' : PL} (h : EvN o te σ G P') (hl : EvO o tl σ G lo) (hh : EvO o th σ G hi) (hP : ∀ G' xs, P' G' xs → P G' (cutV xs lo hi)) : EvN o (tSl (rSlG K) te tl th) σ G P :=
  en_slL (t := fun G' v => ∃ a xs, v = .ref a ∧ G' a = some (.lst xs) ∧ UP P' G' xs) (P' := P') (h.ev fun G' a xs e ha p0 => ⟨a, xs, rfl, ha, p0⟩) (fun G' v e w => by
    obtain ⟨a, xs, rfl, ha, hp⟩ := w.now
    exact ⟨a, xs, rfl, .of ha, hp⟩) hl hh hP
/-- two new lists, one behind the other -/
theorem en_cat {P P' P2 : PL} (ha : EvN o ta σ G P) (hb : EvN o tb σ G P') (hl : ∀ G' xs, UP P G' xs → xs.length ≤ 50000) (hl2 : ∀ G' xs, UP P' G' xs → xs.length ≤ 50000) (hP : ∀ G' xs ys, UP P G' xs → UP P' G' ys → UP P2 G' (xs ++ ys)) : EvN o (tOp (rAddG K) ta tb) σ G P2 := fun G1 H1 e kn Q q =>
  ha G1 H1 e kn _ fun p xs G2 H2 g2 hp h2 n2 w2 => hb G2 H2 (e.trans g2.gg) g2.kn _ fun p' ys G3 H3 g3 hp' h3 n3 w3 => by
    have hob : o ≠ some p := kn.nbox hp
    have h2' := g3.kp p _ h2 hob
    have g := g2.trans g3
    have l1 := hl G2 xs w2
    have l2 := hl2 G3 ys w3
    exact .inr (.inr (.inl ⟨p, p', xs, ys, rfl, rfl, h2', h3, Evl.sz_of (by omega), fun d hd => q d _ G3 _ (g.trans (.tmp g3.kn hd)) (g.fresh hd) upd_same (Evl.fresh_back g3.kn.sub hd) (hP G3 xs ys (w2.up g3.gg) w3)⟩))
/-- a known list as a new one of its own items is none: the first operand known -/
theorem en_catK {P P' P2 : PL} (ha : Ev o ta σ G t) (k : ∀ G' v, Ex G G' → U t G' v → ∃ a xs, v = .ref a ∧ G' a = some (.lst xs) ∧ UP P G' xs) (hb : EvN o tb σ G P') (hl : ∀ G' xs, UP P G' xs → xs.length ≤ 50000) (hl2 : ∀ G' xs, UP P' G' xs → xs.length ≤ 50000) (hP : ∀ G' xs ys, UP P G' xs → UP P' G' ys → UP P2 G' (xs ++ ys)) : EvN o (tOp (rAddG K) ta tb) σ G P2 := fun G1 H1 e kn Q q =>
  ha G1 H1 e kn _ fun v G2 H2 g2 w2 => hb G2 H2 (e.trans g2.gg) g2.kn _ fun p' ys G3 H3 g3 hp' h3 n3 w3 => by
    obtain ⟨p, xs, rfl, hx, hp⟩ := k G2 v (e.trans g2.gg) w2
    have g := g2.trans g3
    have l1 := hl G2 xs hp
    have l2 := hl2 G3 ys w3
    exact .inr (.inr (.inl ⟨p, p', xs, ys, rfl, rfl, g3.kn.sub _ _ (g3.gg _ _ hx), h3, Evl.sz_of (by omega), fun d hd => q d _ G3 _ (g.trans (.tmp g3.kn hd)) (g.fresh hd) upd_same (Evl.fresh_back g3.kn.sub hd) (hP G3 xs ys (hp.up g3.gg) w3)⟩))
/-- both known -/
theorem en_catKK {P P' P2 : PL} {u : T} (ha : Ev o ta σ G t) (k : ∀ G' v, Ex G G' → U t G' v → ∃ a xs, v = .ref a ∧ G' a = some (.lst xs) ∧ UP P G' xs) (hb : Ev o tb σ G u) (k2 : ∀ G' v, Ex G G' → U u G' v → ∃ a xs, v = .ref a ∧ G' a = some (.lst xs) ∧ UP P' G' xs) (hl : ∀ G' xs, UP P G' xs → xs.length ≤ 50000) (hl2 : ∀ G' xs, UP P' G' xs → xs.length ≤ 50000) (hP : ∀ G' xs ys, UP P G' xs → UP P' G' ys → UP P2 G' (xs ++ ys)) : EvN o (tOp (rAddG K) ta tb) σ G P2 := fun G1 H1 e kn Q q =>
  ha G1 H1 e kn _ fun v G2 H2 g2 w2 => hb G2 H2 (e.trans g2.gg) g2.kn _ fun v' G3 H3 g3 w3 => by
    obtain ⟨p, xs, rfl, hx, hp⟩ := k G2 v (e.trans g2.gg) w2
    obtain ⟨p', ys, rfl, hy, hp'⟩ := k2 G3 v' ((e.trans g2.gg).trans g3.gg) w3
    have g := g2.trans g3
    have l1 := hl G2 xs hp
    have l2 := hl2 G3 ys hp'
    exact .inr (.inr (.inl ⟨p, p', xs, ys, rfl, rfl, g3.kn.sub _ _ (g3.gg _ _ hx), g3.kn.sub _ _ hy, Evl.sz_of (by omega), fun d hd => q d _ G3 _ (g.trans (.tmp g3.kn hd)) (g.fresh hd) upd_same (Evl.fresh_back g3.kn.sub hd) (hP G3 xs ys (hp.up g3.gg) hp')⟩))
/-- a new list, k times -/
theorem en_rep {P P2 : PL} {n : Int} (ha : EvN o ta σ G P) (hb : Ev o tb σ G (tIs (.int n))) (hn : 0 ≤ n ∧ n ≤ 1000) (hl : ∀ G' xs, UP P G' xs → xs.length ≤ 100) (hP : ∀ G' xs, UP P G' xs → UP P2 G' (List.replicate n.toNat xs).flatten) : EvN o (tOp rMulG ta tb) σ G P2 := fun G1 H1 e kn Q q =>
  ha G1 H1 e kn _ fun p xs G2 H2 g2 hp h2 n2 w2 => hb G2 H2 (e.trans g2.gg) g2.kn _ fun v G3 H3 g3 w3 => by
    have hob : o ≠ some p := kn.nbox hp
    have h2' := g3.kp p _ h2 hob
    have g := g2.trans g3
    have l1 := hl G2 xs w2
    refine .inr ⟨p, n, xs, rfl, w3.eq, h2', by omega, by omega, Evl.sz_of ?_, fun d hd => q d _ G3 _ (g.trans (.tmp g3.kn hd)) (g.fresh hd) upd_same (Evl.fresh_back g3.kn.sub hd) (hP G3 xs (w2.up g3.gg))⟩
    have h3 : n.toNat ≤ 1000 := by omega
    exact Nat.le_trans (Nat.mul_le_mul l1 h3) (by decide)
end
end Ty
namespace Ty
open PySem L2
open Evl (Ex ex_l ex_t)
/-! ### more -/
theorem pe_globE {X : Cx} {x : Str} {v : V} {pos : Pos} (hg : Gl X x) (hm : ∃ u, X.mg x = some u ∧ RelV v u) (hd : (x == ("__debug__" : Str)) = false := by decide) : PE X (.Name x pos) (tC v) := by
  obtain ⟨u, h1, h2⟩ := hm
  exact pe_glob hg h1 h2 hd
/-- a promise: a new list -/
def spN (C : Option Addr → Hp → List V → PL → Prop) : Sp := fun vs H Q _ => ∃ o G P, Kn o G H ∧ C o G vs P ∧ ∀ p xs G2 H2, Go o G H G2 H2 → H p = none → H2 p = some (.lst xs) → G2 p = none → UP P G2 xs → Q (.ref p) H2
section
variable {o : Option Addr} {σ : L2.St} {Ge He G H : Hp} {te : TE} {P : PL} {D : Ends}
theorem en_call {C : Option Addr → Hp → List V → PL → Prop} {E : XK} {ta : TA} {ts : List T} (ha : EvA o ta σ G ts)
    (hc : ∀ G' vs, Ex G G' → AllU G' ts vs → ∃ o' P', (o' = o ∨ o' = none) ∧ C o' G' vs P' ∧ ∀ G'' xs, Ex G' G'' → UP P' G'' xs → UP P G'' xs) : EvN o (tCall (spN C) [] E ta) σ G P := fun G1 H1 a kn Q q =>
  ha G1 H1 a kn _ fun vs G2 H2 g2 w2 => by
    obtain ⟨o', P', ho, c, k⟩ := hc G2 vs (a.trans g2.gg) w2
    rw [List.append_nil]
    rcases ho with rfl | rfl
    · exact ⟨o', G2, P', g2.kn, c, fun p xs G3 H3 g3 hp h3 n3 w3 => q p xs G3 H3 (g2.trans g3) (g2.fresh hp) h3 n3 (k G3 xs g3.gg w3)⟩
    · exact ⟨none, G2, P', g2.kn.pure, c, fun p xs G3 H3 g3 hp h3 n3 w3 => q p xs G3 H3 (g2.trans (g3.pure g2.kn)) (g2.fresh hp) h3 n3 (k G3 xs g3.gg w3)⟩
theorem s_retN (g : Go o Ge He G H) (h : EvN o te σ G P) (k : ∀ p xs G2 H2, Go o Ge He G2 H2 → He p = none → H2 p = some (.lst xs) → G2 p = none → UP P G2 xs → D.rt (.ref p) H2) : tRet te D σ H :=
  h G H (Ex.refl _) g.kn _ fun p xs G2 H2 g2 hp h2 n2 w2 => k p xs G2 H2 (g.trans g2) (g.fresh hp) h2 n2 w2
end
end Ty
set_option Elab.async false
set_option linter.all false
set_option maxRecDepth 100000
set_option maxHeartbeats 4000000
/-! Kinds of values, isinstance. -/
namespace Ty
open PySem L2
open Evl (Ex ex_l ex_t)
/-! ### the rules, the written part by its own letter (a block's context has the same) -/
section
variable {X : Cx} {K : PySem.W.Frag}
theorem kIx (e : X.K = K) : IxR X (rIx K) := e ▸ ix_seq
theorem kEq (e : X.K = K) (hu : X.A.units + 64 < cLine) : OpR X (compareOp .Eq) (rEqG K) := e ▸ gEq hu
theorem kNe (e : X.K = K) (hu : X.A.units + 64 < cLine) : OpR X (compareOp .NotEq) (rNeG K) := e ▸ gNe hu
theorem kAdd (e : X.K = K) : OpR X (binaryOp .Add) (rAddG K) := e ▸ gAdd
theorem kIn (e : X.K = K) : OpR X (compareOp .In) (rInG K false) := e ▸ gIn
theorem kNotIn (e : X.K = K) : OpR X (compareOp .NotIn) (rInG K true) := e ▸ gNotIn
theorem kLen (e : X.K = K) : CallR X (.builtin "len") (rLen K) := e ▸ gLen
theorem kSl (e : X.K = K) : SlR X (rSlG K) := e ▸ gSl
theorem kIsi (e : X.K = K) : CallR X (.builtin "isinstance") (rIsi K) := e ▸ call_isi
theorem kIsiT (e : X.K = K) : CallR X (.builtin "isinstance") (rIsiT K) := e ▸ call_isiT
theorem kAll (e : X.K = K) (hc : X.calm = true) : CallR X (.builtin "all") (rAll K) := e ▸ cr_all hc
theorem kAny (e : X.K = K) (hc : X.calm = true) : CallR X (.builtin "any") (rAny K) := e ▸ cr_any hc
theorem kSum (e : X.K = K) (hc : X.calm = true) : CallR X (.builtin "sum") (rSum K) := e ▸ cr_sum hc
def rListOf (K : PySem.W.Frag) : List V → Hp → VK → Prop := fun xs H Q => ∃ p ys, xs = [.ref p] ∧ (SqL K H p ys ∨ SqT K H p ys) ∧ ∀ l, H l = none → Q (.ref l) (upd H l (.lst ys))
theorem kList (e : X.K = K) : CallR X (.type "list") (rListOf K) := e ▸ call_list_of
theorem pi_listK {tg l : Expr} {tl : TE} (e : X.K = K) (hl : PE X l tl) : PI X tg l (iList K tl) := e ▸ pi_list hl
theorem pi_tupK {tg l : Expr} {tl : TE} (e : X.K = K) (hl : PE X l tl) : PI X tg l (iTup K tl) := e ▸ pi_tup hl
end
/-- a value of a built-in kind, as G knows it -/
inductive KT (K : PySem.W.Frag) (G : Hp) : V → String → Prop
  | non : KT K G .non "NoneType"
  | bl (b : Bool) : KT K G (.bl b) "bool"
  | int (i : Int) : KT K G (.int i) "int"
  | str (x : Str) : KT K G (.str x) "str"
  | lst {a : Addr} {xs : List V} : SqL K G a xs → KT K G (.ref a) "list"
  | tup {a : Addr} {xs : List V} : SqT K G a xs → KT K G (.ref a) "tuple"
  | dic {a : Addr} {kvs : List (Key × V)} : G a = some (.dK kvs) → KT K G (.ref a) "dict"
theorem KT.up {K : PySem.W.Frag} {G G' : Hp} {v : V} {n : String} (e : Ex G G') (k : KT K G v n) : KT K G' v n := by
  cases k with
  | non => exact .non
  | bl b => exact .bl b
  | int i => exact .int i
  | str x => exact .str x
  | lst h => exact .lst (ex_l e h)
  | tup h => exact .tup (ex_t e h)
  | dic h => exact .dic (e _ _ h)
theorem KT.ty {K : PySem.W.Frag} {H : Hp} {v : V} {n : String} (k : KT K H v n) : TyX K H v (.type n) := by
  cases k with
  | non => exact .base .non
  | bl b => exact .base (.bl b)
  | int i => exact .base (.int i)
  | str x => exact .base (.str x)
  | lst h =>
    rcases h with (h | ⟨o, h⟩) | ⟨o, its, n, h1, h2, _⟩
    · exact .base (.lst h)
    · exact .base (.frz h)
    · exact .kList h1 h2
  | tup h =>
    rcases h with (h | ⟨o, h⟩) | ⟨o, its, n, h1, h2, _⟩
    · exact .base (.tup h)
    · exact .fTuple h
    · exact .kTuple h1 h2
  | dic h => exact .base (.dK h)
section
variable {K : PySem.W.Frag} {o : Option Addr} {σ : L2.St} {G : Hp} {ta tb te : TE} {s t u : T} {x y v : V}
theorem ev_isi {n : String} {c : String} {b : Bool} (ha : Ev o ta σ G (tIs x)) (k : KT K G x n) (h : kitB n c = some b) : Ev o (tCB (rIsi K) (tCons ta (tCons (tC (.ty c)) tNil))) σ G (tIs (.bl b)) :=
  ev_cb (ea_cons ha (ea_cons ev_k ea_nil)) fun G' vs e a => by
    cases a with
    | cons a1 a => cases a with
      | cons a2 a =>
        cases a
        rw [a1.eq, a2.eq]
        exact rc_q u_is fun G1 H1 e1 kn Q q => ⟨x, .ty c, .type n, .type c, b, rfl, .ty c, (k.up ((e.trans e1).trans kn.sub)).ty, kit_ty h, q⟩
theorem kitAny2 {n c1 c2 : String} {b1 b2 : Bool} (h1 : kitB n c1 = some b1) (h2 : kitB n c2 = some b2) : PySem.W.kitAny K (.type n) [.type c1, .type c2] = some (b1 || b2) :=
  kitAny_cons (kit_ty h1) (fun e => by
    subst e
    exact kitAny_cons (kit_ty h2) (fun e => by subst e; exact kitAny_nil) fun e => by subst e; rfl) fun e => by subst e; rfl
theorem ev_isi2 {n : String} {c1 c2 : String} {b1 b2 : Bool} (ha : Ev o ta σ G (tIs x)) (k : KT K G x n) (h1 : kitB n c1 = some b1) (h2 : kitB n c2 = some b2) :
    Ev o (tCB (rIsiT K) (tCons ta (tCons (tTup (tCons (tC (.ty c1)) (tCons (tC (.ty c2)) tNil))) tNil))) σ G (tIs (.bl (b1 || b2))) := fun G1 H1 e kn Q q =>
  ha G1 H1 e kn _ fun v G2 H2 g2 w2 => by
    refine ⟨by show 2 ≤ sizeLine; decide, fun p hp => ?_⟩
    refine ⟨x, p, [.ty c1, .ty c2], .type n, [.type c1, .type c2], b1 || b2, by rw [w2.eq], upd_same, .cons (.ty c1) (.cons (.ty c2) .nil), (k.up ((e.trans g2.gg).trans (g2.kn.sub.trans (Ex.new hp)))).ty, kitAny2 h1 h2, q _ G2 _ (g2.trans (.tmp g2.kn hp)) u_is⟩
theorem ro_isN : RO o (fun x y H Q => y = .non ∧ Q (.bl (decide (x = .non))) H) x .non G (tIs (.bl (decide (x = .non)))) := ro_q u_is fun _ _ _ _ _ q => ⟨rfl, q⟩
theorem ro_notN : RO o (fun x y H Q => y = .non ∧ Q (.bl (!decide (x = .non))) H) x .non G (tIs (.bl (!decide (x = .non)))) := ro_q u_is fun _ _ _ _ _ q => ⟨rfl, q⟩
theorem ro_isB {a b : Bool} : RO o rIsB (.bl a) (.bl b) G (tIs (.bl (decide (a = b)))) := ro_q u_is fun _ _ _ _ _ q => ⟨a, b, rfl, rfl, q⟩
/-- x is None, told -/
theorem ev_isN {b : Bool} (ha : Ev o ta σ G (tIs x)) (e : decide (x = .non) = b) : Ev o (tOp (fun x y H Q => y = .non ∧ Q (.bl (decide (x = .non))) H) ta (tC .non)) σ G (tIs (.bl b)) := by
  rw [← e]
  exact ev_op2 ha ev_k ro_isN
theorem ev_chain {r r' : R2} {a b : Bool} {z : V} {tc : TE} (ha : Ev o ta σ G (tIs x)) (hb : Ev o tb σ G (tIs y)) (hr : ∀ G', Ex G G' → RO o r x y G' (tIs (.bl a))) (hc : Ev o tc σ G (tIs z)) (hr' : ∀ G', Ex G G' → RO o r' y z G' (tIs (.bl b))) : Ev o (tChain r r' ta tb tc) σ G (tIs (.bl (a && b))) := fun G1 H1 e kn Q q =>
  ha G1 H1 e kn _ fun v1 G2 H2 g2 w2 => hb G2 H2 (e.trans g2.gg) g2.kn _ fun v2 G3 H3 g3 w3 => by
    rw [w2.eq, w3.eq]
    refine hr G3 ((e.trans g2.gg).trans g3.gg) G3 H3 (Ex.refl _) g3.kn _ fun v4 G4 H4 g4 w4 => ⟨a, w4.eq, ?_⟩
    have g := (g2.trans g3).trans g4
    cases a with
    | true =>
      refine hc G4 H4 (e.trans g.gg) g4.kn _ fun v5 G5 H5 g5 w5 => ?_
      rw [w5.eq]
      exact hr' G5 ((e.trans g.gg).trans g5.gg) G5 H5 (Ex.refl _) g5.kn Q fun v6 G6 H6 g6 w6 => q v6 G6 H6 ((g.trans g5).trans g6) w6
    | false => exact q _ G4 H4 g u_is
/-- a test and an item's value, told -/
theorem en_filt {wi : TI} {tt : TT} {j : Nat} {vs : List Nat} {P : PL} (f : V → V) (b : V → Bool) (hi : EvI o wi σ G P) (hw : ∀ x, wipe ((wipe σ vs).set j (some x)) vs = wipe σ vs)
    (hl : ∀ G' xs, Ex G G' → UP P G' xs → xs.length ≤ 100000) (ht : ∀ G' (xs : List V) (i : Nat) x, Ex G G' → UP P G' xs → xs[i]? = some x → EvT o tt ((wipe σ vs).set j (some x)) G' (· = b x))
    (he : ∀ G' (xs : List V) (i : Nat) x, Ex G G' → UP P G' xs → xs[i]? = some x → b x = true → Ev o te ((wipe σ vs).set j (some x)) G' (tIs (f x))) :
    EvN o (tLc wi (gName j) tt te vs) σ G (fun G' ys => ∃ xs, UP P G' xs ∧ ys = (xs.filter b).map f) := fun G1 H1 e kn Q q =>
  en_lc (fun xs i G' acc => acc = ((xs.take i).filter b).map f) hi hw (fun _ _ _ _ _ _ h => h) (fun G' xs e hP => ⟨hl G' xs e hP, rfl⟩) (fun G' xs i x acc e hP hx la r => by
    have hq : xs.take (i + 1) = xs.take i ++ [x] := by
      rw [List.take_succ, hx]; rfl
    refine ⟨_, ht G' xs i x e hP hx, fun hb G3 e3 => ⟨_, (he G' xs i x e hP hx hb.symm).up e3, fun G4 y e4 w4 => ?_⟩, fun hb G3 e3 => ?_⟩
    · rw [w4.eq, r, hq, List.filter_append, List.map_append, List.filter_cons, if_pos hb.symm]
      rfl
    · rw [r, hq, List.filter_append, List.map_append, List.filter_cons, if_neg (by rw [← hb]; simp)]
      simp) G1 H1 e kn Q fun p ys G2 H2 g2 hp h2 n2 w2 => by
    refine q p ys G2 H2 g2 hp h2 n2 fun G' e' => ?_
    obtain ⟨xs, hP, _, r⟩ := w2 G' e'
    rw [List.take_length] at r
    exact ⟨xs, hP, r⟩
/-- a text of at most n signs -/
def tStr (n : Nat) : T := fun _ v => ∃ z : Str, v = .str z ∧ z.length ≤ n
theorem u_str {n : Nat} {z : Str} {G : Hp} (h : z.length ≤ n) : U (tStr n) G (.str z) := fun _ _ => ⟨z, rfl, h⟩
/-- a known value, its text not too long -/
def Kv (K : PySem.W.Frag) (G : Hp) (v : V) : Prop := (∃ n, KT K G v n) ∧ ∀ z : Str, v = .str z → z.length ≤ 1000
def tKv (K : PySem.W.Frag) : T := fun G v => Kv K G v
theorem Kv.up {G' : Hp} (h : Kv K G v) (e : Ex G G') : Kv K G' v := ⟨let ⟨n, k⟩ := h.1; ⟨n, k.up e⟩, h.2⟩
theorem Kv.un (h : Kv K G v) : U (tKv K) G v := fun _ e => h.up e
theorem kv_str {z : Str} (h : z.length ≤ 1000) : Kv K G (.str z) := ⟨⟨_, .str z⟩, fun y e => by cases e; exact h⟩
theorem kv_non : Kv K G .non := ⟨⟨_, .non⟩, fun y e => by cases e⟩
theorem kv_bl {b : Bool} : Kv K G (.bl b) := ⟨⟨_, .bl b⟩, fun y e => by cases e⟩
theorem kv_int {i : Int} : Kv K G (.int i) := ⟨⟨_, .int i⟩, fun y e => by cases e⟩
theorem kv_lst {a : Addr} {xs : List V} (h : SqL K G a xs) : Kv K G (.ref a) := ⟨⟨_, .lst h⟩, fun y e => by cases e⟩
theorem kv_tup {a : Addr} {xs : List V} (h : SqT K G a xs) : Kv K G (.ref a) := ⟨⟨_, .tup h⟩, fun y e => by cases e⟩
theorem kv_dic {a : Addr} {kvs : List (Key × V)} (h : G a = some (.dK kvs)) : Kv K G (.ref a) := ⟨⟨_, .dic h⟩, fun y e => by cases e⟩
theorem ev_dnew : Ev o tDNewK σ G (fun G' v => ∃ d, v = .ref d ∧ G' d = some (.dK [])) := fun G1 H1 e kn Q q d hd => q _ _ _ (.new kn hd) fun G' e' => ⟨d, rfl, e' d _ upd_same⟩
/-- a display of one pair, both flat -/
theorem ev_disp1 {k : Key} {tk tv : TE} (hk : ∀ G', Ev o tk σ G' (tIs (kV k))) (hv : ∀ G', Ev o tv σ G' (tIs v)) : Ev o (tDisp [(tk, tv)]) σ G (fun G' d => ∃ a, d = .ref a ∧ G' a = some (.dK [(k, v)])) := fun G1 H1 e kn Q q p hp => by
  have gp : G1 p = none := Evl.fresh_back kn.sub hp
  have g1 : Go o G1 H1 G1 (upd H1 p (.dK [])) := .tmp kn hp
  have nb := kn.nbox hp
  refine hk G1 _ _ (Ex.refl _) g1.kn _ fun x G2 H2 g2 w2 => hv G2 G2 H2 (Ex.refl _) g2.kn _ fun y G3 H3 g3 w3 => ?_
  have g := (g1.trans g2).trans g3
  have h3 : H3 p = some (.dK []) := g3.kp p _ (g2.kp p _ upd_same nb) nb
  have n3 : G3 p = none := (g2.trans g3).nw p gp (by rw [upd_same]; simp)
  refine ⟨h3, [(k, v)], by rw [w2.eq, w3.eq]; rfl, (by show 1 ≤ 15; decide), q _ (upd G3 p (.dK [(k, v)])) _ ((g.mut hp n3 nb).fix hp upd_same n3 nb) fun G' e' => ⟨p, rfl, e' p _ upd_same⟩⟩
theorem ev_cb1 {r : List V → Hp → VK → Prop} (ha : Ev o ta σ G (tIs x)) (hr : ∀ G', Ex G G' → RC o r [x] G' t) : Ev o (tCB r (tCons ta tNil)) σ G t :=
  ev_cb (ea_cons ha ea_nil) fun G' vs e a => by
    cases a with
    | cons a1 a =>
      cases a
      rw [a1.eq]
      exact hr G' e
theorem EvN.impN {P P' : PL} (h : EvN o te σ G P) (k : ∀ G' xs, P G' xs → P' G' xs) : EvN o te σ G P' := fun G1 H1 e kn Q q => h G1 H1 e kn Q fun p xs G2 H2 g2 hp h2 n2 w2 => q p xs G2 H2 g2 hp h2 n2 fun G' e' => k G' xs (w2 G' e')
/-- two names at once: a known value and a list of one's own -/
theorem q_par1N {Ge He H : Hp} {D : Ends} {tz : TS} {i j : Nat} {P : PL} (g : Go o Ge He G H) (h1 : Ev o ta σ G t) (h2 : EvN o tb σ G P)
    (k : ∀ v p xs G2 H2, Go o Ge He G2 H2 → Go o G H G2 H2 → U t G2 v → He p = none → o ≠ some p → H2 p = some (.lst xs) → G2 p = none → UP P G2 xs → tz D ((σ.set i (some v)).set j (some (.ref p))) H2) :
    tSeq (tPar i j (tCons ta (tCons tb tNil))) tz D σ H :=
  h1 G H (Ex.refl _) g.kn _ fun v G2 H2 g2 w2 => h2 G2 H2 g2.gg g2.kn _ fun p xs G3 H3 g3 hp h3 n3 w3 => ⟨v, .ref p, rfl, k v p xs G3 H3 (g.trans (g2.trans g3)) (g2.trans g3) (w2.up g3.gg) ((g.trans g2).fresh hp) (g2.kn.nbox hp) h3 n3 w3⟩
/-! ### lists, known or one's own -/
def EvQ (o : Option Addr) (te : TE) (σ : L2.St) (G : Hp) (P : PL) : Prop := ∀ G1 H1, Ex G G1 → Kn o G1 H1 → ∀ Q : VK, (∀ p xs G2 H2, Go o G1 H1 G2 H2 → o ≠ some p → H2 p = some (.lst xs) → UP P G2 xs → Q (.ref p) H2) → te σ H1 Q
theorem EvN.q {P : PL} (h : EvN o te σ G P) : EvQ o te σ G P := fun G1 H1 e kn Q q => h G1 H1 e kn Q fun p xs G2 H2 g2 hp h2 n2 w2 => q p xs G2 H2 g2 (kn.nbox hp) h2 w2
theorem Kn.gbox {H : Hp} (kn : Kn o G H) {p : Addr} {z : HO} (h : G p = some z) : o ≠ some p := fun e => by
  rw [(kn.box p e).2] at h
  cases h
theorem Ev.q {P : PL} (h : Ev o te σ G t) (k : ∀ G' v, Ex G G' → U t G' v → ∃ a xs, v = .ref a ∧ G' a = some (.lst xs) ∧ UP P G' xs) : EvQ o te σ G P := fun G1 H1 e kn Q q => h G1 H1 e kn Q fun v G2 H2 g2 w2 => by
  obtain ⟨a, xs, rfl, ha, hp⟩ := k G2 v (e.trans g2.gg) w2
  exact q a xs G2 H2 g2 (g2.kn.gbox ha) (g2.kn.sub _ _ ha) hp
theorem en_catQ {P P' P2 : PL} (ha : EvQ o ta σ G P) (hb : EvQ o tb σ G P') (hl : ∀ G' xs, UP P G' xs → xs.length ≤ 50000) (hl2 : ∀ G' xs, UP P' G' xs → xs.length ≤ 50000) (hP : ∀ G' xs ys, UP P G' xs → UP P' G' ys → UP P2 G' (xs ++ ys)) : EvN o (tOp (rAddG K) ta tb) σ G P2 := fun G1 H1 e kn Q q =>
  ha G1 H1 e kn _ fun p xs G2 H2 g2 hob h2 w2 => hb G2 H2 (e.trans g2.gg) g2.kn _ fun p' ys G3 H3 g3 hob' h3 w3 => by
    have h2' := g3.kp p _ h2 hob
    have g := g2.trans g3
    have l1 := hl G2 xs w2
    have l2 := hl2 G3 ys w3
    exact .inr (.inr (.inl ⟨p, p', xs, ys, rfl, rfl, h2', h3, Evl.sz_of (by omega), fun d hd => q d _ G3 _ (g.trans (.tmp g3.kn hd)) (g.fresh hd) upd_same (Evl.fresh_back g3.kn.sub hd) (hP G3 xs ys (w2.up g3.gg) w3)⟩))
theorem len_app (a b : Str) : (a ++ b).length = a.length + b.length := by
  show (a.cps ++ b.cps).size = _
  rw [Array.size_append]
  rfl
theorem len_join (y : Str) : ∀ ps : List Str, (Str.join y ps).length ≤ (ps.map (·.length)).sum + ps.length * y.length
  | [] => Nat.zero_le _
  | [x] => by
    show x.length ≤ x.length + 0 + 1 * y.length
    omega
  | x :: z :: r => by
    have ih := len_join y (z :: r)
    show (x ++ y ++ Str.join y (z :: r)).length ≤ _
    rw [len_app, len_app, List.map_cons, List.sum_cons, List.length_cons, Nat.succ_mul]
    omega
theorem sum_le {ps : List Str} {m : Nat} (h : ∀ p ∈ ps, p.length ≤ m) : (ps.map (·.length)).sum ≤ ps.length * m := by
  induction ps with
  | nil => exact Nat.zero_le _
  | cons x r ih =>
    have h1 := h x (List.mem_cons_self ..)
    have h2 := ih fun p hp => h p (List.mem_cons_of_mem _ hp)
    rw [List.map_cons, List.sum_cons, List.length_cons, Nat.succ_mul]
    omega
theorem strs_of {n : Nat} {xs : List V} (h : ∀ x ∈ xs, ∃ z : Str, x = .str z ∧ z.length ≤ n) : ∃ ys : List Str, xs = ys.map V.str ∧ ∀ y ∈ ys, y.length ≤ n := by
  induction xs with
  | nil => exact ⟨[], rfl, fun _ h => nomatch h⟩
  | cons x r ih =>
    obtain ⟨z, rfl, hz⟩ := h x (List.mem_cons_self ..)
    obtain ⟨ys, rfl, hy⟩ := ih fun p hp => h p (List.mem_cons_of_mem _ hp)
    exact ⟨z :: ys, rfl, fun y hy' => by
      rcases List.mem_cons.mp hy' with rfl | h'
      · exact hz
      · exact hy y h'⟩
def rJoin (K : PySem.W.Frag) : V → List V → Hp → VK → Prop := fun x xs H Q => ∃ a p, ∃ ys : List Str, x = .str a ∧ xs = [.ref p] ∧ (SqL K H p (ys.map V.str) ∨ SqT K H p (ys.map V.str)) ∧
      (ys.map (·.length)).sum + ys.length * a.length ≤ 16777216 ∧ Q (.str (Txt.join a ys)) H
/-- ''.join of few short texts -/
theorem ev_join {n m : Nat} (ha : Ev o ta σ G (tIs (.str ""))) (hb : EvN o te σ G fun G' xs => xs.length ≤ n ∧ ∀ x ∈ xs, U (tStr m) G' x) (hn : n * m ≤ 100000) : Ev o (tM1 (rJoin K) ta te) σ G (tStr (n * m)) := fun G1 H1 e kn Q q =>
  ha G1 H1 e kn _ fun v G2 H2 g2 w2 => ⟨⟨_, w2.eq⟩, hb G2 H2 (e.trans g2.gg) g2.kn _ fun p xs G3 H3 g3 hp h3 n3 w3 => by
    obtain ⟨hl, hx⟩ := w3.now
    obtain ⟨ys, rfl, hy⟩ := strs_of fun x h => (hx x h).now
    rw [List.length_map] at hl
    have s1 := sum_le hy
    have s2 : ys.length * m ≤ n * m := Nat.mul_le_mul_right m hl
    have z0 : (("" : Str)).length = 0 := by decide +kernel
    refine ⟨"", p, ys, w2.eq, rfl, .inl (.of h3), by rw [z0, Nat.mul_zero]; omega, q _ G3 H3 (g2.trans g3) (u_str ?_)⟩
    rw [TL.join_eq]
    have := len_join "" ys
    rw [z0, Nat.mul_zero] at this
    omega⟩
theorem ev_upper {z : Str} (ha : Ev o ta σ G (tIs (.str z))) (hz : z.length ≤ 100000) : Ev o (tM0 (fun x xs H Q => ∃ a, x = .str a ∧ xs = [] ∧ a.length ≤ 5592405 ∧ Q (.str (Txt.upper a)) H) ta) σ G (tIs (.str (Txt.upper z))) := fun G1 H1 e kn Q q =>
  ha G1 H1 e kn _ fun v G2 H2 g2 w2 => ⟨⟨_, w2.eq⟩, z, w2.eq, rfl, by omega, q _ G2 H2 g2 u_is⟩
theorem Go.unbox {Ge He G2 H2 G3 H3 : Hp} {p : Addr} (a : Go none Ge He G2 H2) (hp : He p = none) (b : Go (some p) G2 H2 G3 H3) : Go none Ge He G3 H3 where
  gg := a.gg.trans b.gg
  kn := b.kn.pure
  kp := fun x y h _ => b.kp x y (a.kp x y h (by simp)) (fun z => by cases z; rw [hp] at h; cases h)
  nw := fun x g h => by
    cases e : He x with
    | none => exact absurd e h
    | some y => exact b.nw x (a.nw x g h) (by rw [a.kp x y e (by simp)]; simp)
end
/-! ### the top's facts -/
theorem df_mk {K : PySem.W.Frag} {h : Heap} {mg : Str → Option Value} {x : Str} {st : Stmt} {f : Addr} {oc : Value} {od an : Option Addr} {osl : Array (Option Value)} {kV doc pm cdv ct : Value} (X : K.In h) (G : h.Ns mainGlobals mg)
    (a : PySem.W.nsIn K mainGlobals x = some (some (.ref f))) (l : K.lookup f = some ⟨oc, od, .func (PySem.W.fnOf x x (defArgs st) (defBody st) (defScope st) .none kV doc pm an cdv ct), osl⟩)
    (c : PySem.W.codeIn K cdv x = true) (k : PySem.W.keepIn K (.ref f) = true) : Df K mg x st := ⟨f, _, fun_mk l c k, PySem.W.mg_of X G a⟩
theorem gl_mk {K : PySem.W.Frag} {h : Heap} {mg : Str → Option Value} {x : Str} {v : V} {u : Value} (X : K.In h) (G : h.Ns mainGlobals mg) (a : PySem.W.nsIn K mainGlobals x = some (some u)) (r : RelV v u) : ∃ u, mg x = some u ∧ RelV v u := ⟨u, PySem.W.mg_of X G a, r⟩
end Ty
set_option Elab.async false
set_option linter.all false
set_option maxRecDepth 100000
set_option maxHeartbeats 4000000
/-! An own exception class over ValueError whose __init__ says super().__init__(x) and keeps x. -/
namespace Ex
open PySem PySem.W PySem.Calls PyProof.Rows
section
variable {prog : Program} {w : World} {A : Around} {E : Value → Shared → Prop} {h : Heap} {g : Array GenState} {d : Drawn} {t : Nat} {os : OsState}
variable {nm q : Str} {C N : Addr} {bs bm : List Value} {hdct : Bool} {sn : List Str} {sub : List Value} {ab : Bool} {col : Option Bool} {dd : Option Addr} {k0 k1 k2 k3 k5 : Option Value}
theorem call_mw {u e t0 : Addr} {rest : List Value} {Q : Value → Shared → Prop}
    (hC : h.get? C = some (excClassObj nm q C N bs bm hdct sn sub ab col dd k0 k1 k2 k3 k5 "ValueError.__new__")) (he : h.get? e = some (HandSPX.excO C t0)) (hu : h.get? u = some (kxs_mw "ValueError.__init__" e)) (hrest : rest.length ≤ sizeLine)
    (hq : ∀ h' t1, (∀ b o, b ≠ e → h.get? b = some o → h'.get? b = some o) → h'.get? e = some (HandSPX.excO C t1) → Q .none ⟨h', g, d, t, os⟩) :
    wpAny (model prog w) A (call (.ref u) rest) Q E ⟨h, g, d, t, os⟩ := by
  refine wpAny_call (codeAny_of_tree ?_)
  show wpAny _ A.in1 (callAny (.ref u) ⟨rest, []⟩) _ _ _
  simp only [callAny]
  refine wpAny_bind (wpAny_load hu ?_)
  simp only [kxs_mw, show (Value.type "method-wrapper" == Value.type "method" || Value.type "method-wrapper" == Value.type "builtin_function_or_method" || Value.type "method-wrapper" == Value.type "method-wrapper") = true by decide, if_true]
  refine KFB.if_so (by decide) ?_
  refine wpAny_bind (check_bound_init F.excBase_ValueError.toExcCallFacts hC he rfl ?_)
  refine wpAny_bind (wpAny_pure (wpAny_pure ?_))
  refine ⟨plainId_quiet F.excBase_ValueError.init.plain _, codeAny_builtin F.excBase_ValueError.initEntry ?_⟩
  exact exc_init_tree (cls := .ref C) (t0 := t0) (dv := none) (c2 := .none) (c3 := .none) (b4 := .bool false) he hrest fun h' k e' t' => hq h' _ k e'
end
end Ex
set_option Elab.async false
set_option linter.all false
set_option maxRecDepth 100000
set_option maxHeartbeats 4000000
namespace Ex
open PySem L2 NdefX
/-- what the written part says of an exception class at C, whose __init__ (of the class at D) says super().__init__(x) -/
structure SupC (K : PySem.W.Frag) (C D : Addr) : Prop where
  oex : OexC K C
  ini : PySem.W.ks_superIn K C D "__init__" = some (some (.builtin "ValueError.__init__"))
  ve : PySem.W.subIn K (.ref C) (.type "ValueError") = some true
  inD : PySem.W.mroIn K C (.ref D) = some true
  no : PySem.W.findIn K (.ref C) "given" = some none
/-- of the class at D, the cell of its name, the code of its __init__, the names -/
structure SupD (K : PySem.W.Frag) (mg : Str → Option Value) (prog : Program) (D cc cda : Addr) : Prop where
  cell : ∃ cl cld csl, K.lookup cc = some ⟨cl, cld, .cell (some (.ref D)), csl⟩
  cls : ∃ cd, PySem.W.clsIn K D = some cd
  code : ∃ ccl cdd vs ccs file tf, K.lookup cda = some ⟨ccl, cdd, .fields vs, ccs⟩ ∧ vs[2]? = some (.str file tf) ∧ ((prog.main.file : Str) == file) = true
  sup : mg "super" = none
  opq : PySem.W.nsIn K PySem.cStatics "thirdparty.any" = some none
  top : (prog.main.scope.names.lookup ("super" : Str)).isSome = false
/-- the promise of that __init__: the exception at a keeps x as given, in a dict of its own -/
def spSup (K : PySem.W.Frag) (D : Addr) : Sp := fun vs H Q _ => ∃ (a C : Addr) (x : V), vs = [.ref a, x] ∧ SupC K C D ∧ H a = some (exo a C none) ∧
  ∀ d, H d = none → d ≠ a → Q .non (upd (upd H d (exd d [("given", x)])) a (exo a C (some d)))
theorem nscS {sc : Scope} (h : nscB ["self", "given", "__class__"] ["self", "given"] ["__class__"] sc = true) : NScope ["self", "given", "__class__"] ["self", "given"] ["__class__"] sc := nscope_by h
abbrev supBody (p0 p1 p2 p3 p4 p5 p6 p7 p8 p9 : Pos) : List Stmt := [.Expr (.Call (.Attribute (.Call (.Name "super" p0) [] [] p1) "__init__" p2) [.Name "given" p3] [] p4) p5, .Assign [.Attribute (.Name "self" p6) "given" p7] (.Name "given" p8) p9]
section
variable {P : Program} {w : World} {K : PySem.W.Frag} {mg : Str → Option Value} {base : Heap} {CX : CXT} {f cc cda D : Addr} {qual : Str} {params : Arguments} {scope : Scope} {p0 p1 p2 p3 p4 p5 p6 p7 p8 p9 : Pos} {dV kV doc pm ct oc : Value} {an od : Option Addr} {osl : Array (Option Value)} {ar : Arg}
/-- super().__init__(given); self.given = given -/
theorem ok_sup (lk : K.lookup f = some ⟨oc, od, .func (PySem.W.ksFn "__init__" qual params (supBody p0 p1 p2 p3 p4 p5 p6 p7 p8 p9) scope dV kV doc pm an (.ref cda) ct cc), osl⟩) (hcd : PySem.W.codeIn K (.ref cda) qual = true)
    (S : NScope ["self", "given", "__class__"] ["self", "given"] ["__class__"] scope) (hks : scope.names.lookup ("super" : Str) = some .globalImplicit) (hp : (params.posonlyargs ++ params.args).head? = some ar) (har : ar.arg = "self") (T : SupD K mg P D cc cda)
    {pl : Env → Sem Bool} (hev : ∀ env : Env, eval (.Call (.Attribute (.Call (.Name "super" p0) [] [] p1) "__init__" p2) [.Name "given" p3] [] p4) env = (do
      let ov ← attributeBase (.Call (.Name "super" p0) [] [] p1) "__init__" env (eval (.Call (.Name "super" p0) [] [] p1) env)
      standAt p2.atName
      let (f, first) ← holding [ov] (getMethod ov "__init__" (pl env))
      callWith p4 f first (backTo p4 (starEach [.Name "given" p3] env)) [])) :
    FnOk P w K mg base CX 1 f (PySem.W.ksFn "__init__" qual params (supBody p0 p1 p2 p3 p4 p5 p6 p7 p8 p9) scope dV kV doc pm an (.ref cda) ct cc) ["self", "given"] (spSup K D) := by
  refine ⟨fun vs H Q E h => by obtain ⟨a, C, x, rfl, _⟩ := h; rfl, fun A outer s H args us vs Q E hr e0 hb r hsp => ?_⟩
  obtain ⟨a, C, x, rfl, TC, ha, k⟩ := hsp
  obtain ⟨clc, cld, csl, hcell⟩ := T.cell
  have KX : K.In s.heap := e0.mod.kin.keeps fun b o e => (e0.bs b o e).1
  have lim : s.heap.NoLimit := e0.mod.nolimit.keeps fun b o e => (e0.bs b o e).1
  have hcc := e0.bs cc _ (e0.mod.kin _ _ hcell)
  have look : ∀ {y : Str} {c : Addr}, List.lookup y [(("__class__" : Str), cc)] = some c → y = "__class__" ∧ c = cc := fun {y c} e => by
    by_cases hy : y = "__class__"
    · subst hy
      exact ⟨rfl, by simpa [List.lookup] using e.symm⟩
    · have z : (y == ("__class__" : Str)) = false := by simpa using hy
      simp [List.lookup, z] at e
  have C0 : CellsAt [(("__class__" : Str), cc)] ["__class__"] [none] s.heap H := {
    len := rfl
    all := fun y c e => by
      obtain ⟨_, rfl⟩ := look e
      exact ⟨hcc.2, _, _, hcc.1, rfl⟩
    inj := fun y z c e1 e2 => (look e1).1.trans (look e2).1.symm
    has := fun i y e => by
      cases i with
      | zero =>
        cases e
        exact ⟨cc, rfl, fun v z => by cases z⟩
      | succ i => cases e }
  refine PySem.ks_codeAny_call_defAt (fd := PySem.W.ksFn "__init__" qual params (supBody p0 p1 p2 p3 p4 p5 p6 p7 p8 p9) scope dV kV doc pm an (.ref cda) ct cc) hr.depth (KX _ _ lk) rfl lim (PySem.W.codeRec_of KX hcd) rfl hb S.nocell (fun ⟨n, _⟩ hy => S.par n (List.of_mem_zip hy).1) (fun h₁ hns kp => ?_) S.co S.gen S.kind
  let F : NF := ⟨"__init__", qual, params, supBody p0 p1 p2 p3 p4 p5 p6 p7 p8 p9, scope, [("__class__", cc)], cda⟩
  have I : Inv (ncx CX P w K mg base ["self", "given", "__class__"] F f A outer s H E) [] (startF ["self", "given", "__class__"] [.ref a, x] [none]) H { s with heap := h₁, toks := s.toks + (["self", "given"].zip us).length } := inv_startN S hr.hd e0 rfl r C0 hns kp
  have KI := I.kIn
  obtain ⟨t1, hoa⟩ := exo_at I.hok ha
  obtain ⟨nm, q, N, bs, bm, sn, sub, ab, col, dd, k0, k1, k2, k3, k5, hC, hbm⟩ := TC.oex.cls
  obtain ⟨cdD, hcdD⟩ := T.cls
  obtain ⟨ccl, cdd, fvs, ccs, file, tf, hcode, hvs, hfile⟩ := T.code
  have ks : Vis scope "self" := .inl (S.par "self" (List.mem_cons_self ..))
  have kg : Vis scope "given" := .inl (S.par "given" (List.mem_cons_of_mem _ (List.mem_cons_self ..)))
  let X : Cx := ncx CX P w K mg base ["self", "given", "__class__"] F f A outer s H E
  have hkc : scope.names.lookup ("__class__" : Str) = some .free := S.frk _ (List.mem_cons_self ..)
  cases r with
  | @cons _ ua _ ur ra r =>
  cases r with
  | @cons _ ux _ ur rx r =>
  cases r
  cases (show ua = Value.ref a from ra)
  obtain ⟨oD, hD1, hD2⟩ : ∃ oD, h₁.get? D = some oD ∧ oD.data = .cls cdD := by
    unfold PySem.W.clsIn at hcdD
    split at hcdD
    · rename_i c d cd' sl ho
      cases hcdD
      exact ⟨_, KI _ _ ho, rfl⟩
    · cases hcdD
  show PySem.wpAt _ _ _ (execs (supBody p0 p1 p2 p3 p4 p5 p6 p7 p8 p9) (envF F f s.heap.objs.size)) _ _ _
  refine PySem.ks_wpAt_execs_cons ?_
  refine PySem.ks_wpAt_Expr_any ?_ I.quiet rfl
  refine PySem.ks_wpAt_MethodCall (pl := pl (envF F f s.heap.objs.size)) ?_ (hev _)
  refine PySem.ks_wpAt_super_base (env := envF F f s.heap.objs.size) hks hkc (by decide +kernel) rfl (kp _ _ (KX _ _ lk)) rfl hp rfl (KI _ _ hcode) rfl hvs hfile T.top ?_
  refine PySem.W.ks_loadName_global S.kind hks ?_
  obtain ⟨mb, b1, b2⟩ := I.mod.blt
  refine PySem.Calls.loadGlobal_builtin (I.mod.glob.keeps I.bk) T.sup (b1.keeps I.bk) ((b2 "super" (by decide)).trans (by first | decide +kernel | rfl)) ⟨rfl, ?_⟩
  refine wpAny_loadName_free S.kind hkc rfl ⟨_, KI _ _ hcell, rfl⟩ ?_
  rw [har]
  refine wpAny_loadName_local S.kind (S.par "self" (List.mem_cons_self ..)) hns (zip_look (i := 0) (by decide +kernel) rfl rfl) ?_
  refine PySem.ks_wpAny_isType_cls hD1 hD2 ⟨rfl, ?_⟩
  refine PySem.ks_wpAny_call_super hD1 hD2 hoa rfl (fun c e => by cases e) (PySem.W.looks_mroIn KI TC.inD) (fun h2 e2 kp2 => ?_)
  have I2 : Inv X [] (startF ["self", "given", "__class__"] [.ref a, x] [none]) H { s with heap := h2, toks := s.toks + (["self", "given"].zip [Value.ref a, ux]).length } := I.kept (h' := h2) (t' := s.toks + (["self", "given"].zip [Value.ref a, ux]).length) kp2
  have K2 := I2.kIn
  obtain ⟨t2, ho2⟩ := exo_at I2.hok ha
  have hin := TC.ini
  cases hcl : PySem.W.clsIn K C with
  | none => unfold PySem.W.ks_superIn at hin; rw [hcl] at hin; cases hin
  | some cd =>
  unfold PySem.W.ks_superIn at hin
  rw [hcl] at hin
  have IA : PySem.W.InstAt h2 a (PySem.HandSPX.excO C t2) C none := ⟨ho2, rfl, rfl, trivial⟩
  refine PySem.W.kxs_getMethod PySem.W.kxs_ValueError e2 (PySem.W.looks_opaque K2 T.opq) (l₀ := cd.mro) (fun A Q E s k q => wpAny_bind ((PySem.W.looks_clsIn K2 hcl) A _ E s k (wpAny_pure q))) rfl K2 hin (IA.type.andThen (PySem.W.looks_subIn K2 TC.ve)) (PySem.W.ks_ne K2 IA hcl) (by decide +kernel) ?_
  have I3 : Inv X [] (startF ["self", "given", "__class__"] [.ref a, x] [none]) H { s with heap := h2.push (PySem.W.kxs_mw "ValueError.__init__" a), toks := s.toks + (["self", "given"].zip [Value.ref a, ux]).length + 1 } :=
    I2.kept (h' := h2.push (PySem.W.kxs_mw "ValueError.__init__" a)) (t' := s.toks + (["self", "given"].zip [Value.ref a, ux]).length + 1) (fun b o e => Heap.get?_push_of_some _ e)
  have hu3 : (h2.push (PySem.W.kxs_mw "ValueError.__init__" a)).get? h2.objs.size = some (PySem.W.kxs_mw "ValueError.__init__" a) := Heap.get?_push_at rfl rfl
  have I4 : Inv X [(h2.objs.size, PySem.W.kxs_mw "ValueError.__init__" a)] (startF ["self", "given", "__class__"] [.ref a, x] [none]) H { s with heap := h2.push (PySem.W.kxs_mw "ValueError.__init__" a), toks := s.toks + (["self", "given"].zip [Value.ref a, ux]).length + 1 } :=
    I3.pins_of fun p hp => by
      rw [List.mem_singleton.mp hp]
      exact ⟨hu3, I2.hok.fresh (Nat.le_refl _), Nat.ne_of_gt I2.lt, I2.nofs (Nat.le_refl _), fun v e => by cases e⟩
  refine PySem.W.kxs_callWith (i := "ValueError.__init__") (x := a) rfl (PySem.Calls.evalArgs_plain ?_)
  have pg : PE X (.Name "given" p3) (tVar 1) := pv 1 rfl kg
  refine thn ((pa_cons pg pa_nil).run p4 _ _ _ H (fun vs H' => vs = [x] ∧ H' = H) I4 ⟨x, rfl, rfl, rfl⟩) fun vs s4 ⟨ws, H', I5, rv, ew, eH⟩ => ?_
  subst ew
  have eH' := eH.symm
  subst eH'
  cases rv with
  | @cons _ ux2 _ ur rx2 rv =>
  cases rv
  obtain ⟨hu5, _⟩ := I5.pin _ (List.mem_cons_self ..)
  obtain ⟨t5, ho5⟩ := exo_at I5.hok ha
  refine ⟨hu5, ?_⟩
  obtain ⟨hh5, g5, d5, tk5, os5⟩ := s4
  show wpAny _ _ (call (.ref h2.objs.size) [ux2]) _ _ _
  refine call_mw (I5.kIn _ _ hC) ho5 hu5 (by show 1 ≤ sizeLine; decide) fun h6 t6 k6 ho6 => ?_
  have I6 : Inv X [] (startF ["self", "given", "__class__"] [.ref a, x] [none]) (upd H a (exo a C none)) ⟨h6, g5, d5, tk5, os5⟩ :=
    I5.unpinned (pins := []).write (x := a) (e := a) (by rw [ha]; exact True.intro) (.inl rfl) k6 ⟨_, ho6⟩ (exo_ok ho6)
  have eu : upd H a (exo a C none) = H := by
    funext b
    by_cases hb : b = a
    · rw [hb, upd_same, ha]
    · rw [upd_ne hb]
  rw [eu] at I6
  have pgs : PSs X [.Assign [.Attribute (.Name "self" p6) "given" p7] (.Name "given" p8) p9] (tOst K "given" (tVar 0) (tVar 1)) := pss_one (ps_ost (X := X) (pv 0 rfl ks) (pv 1 rfl kg) rfl)
  refine wpAt_of_wpAny ?_
  refine wpAny_mono (pgs.run [] _ _ H { nx := fun _ H' => Q .non H', rt := Q } I6 ⟨x, rfl, .ref a, rfl, a, C, rfl, TC.oex, TC.no, .inl ⟨ha, k⟩⟩) (fun fl s' hs => ?_) fun e s' hs => hs
  have fin : ∀ {σ' : L2.St} {H' : Hp} {v : V} {u : Value}, Inv X [] σ' H' s' → L2.RelV v u → Q v H' → CE outer P w H s Q u s' := fun {σ' H' v u} J rv q => ⟨v, H', J.os, J.bare, J.base, J.hok, rv, q⟩
  cases fl with
  | ret u =>
    obtain ⟨v, σ', H', J, rv, q⟩ := hs
    exact fin J rv q
  | next =>
    obtain ⟨σ', H', J, q⟩ := hs
    exact fin (v := V.non) (u := Value.none) J rfl q
  | brk =>
    obtain ⟨_, _, _, q⟩ := hs
    exact False.elim q
  | cont =>
    obtain ⟨_, _, _, q⟩ := hs
    exact False.elim q
end
end Ex
set_option Elab.async false
set_option linter.all false
set_option maxRecDepth 100000
set_option maxHeartbeats 4000000
/-! Several except clauses with a name; isinstance of a caught error that has a dict; calls that may raise, by what the slots are. -/
namespace PySem.W
open PySem PySem.Spec PySem.Calls PyProof.Rows
section
variable {prog : Program} {w : World} {A : Around} {E : Value → Shared → Prop} {s : Shared} {K : Frag} {x D : Addr} {ox : Obj} {od : Option Obj}
theorem findObj_dataD {C : Addr} {name : Str} {a g : Value} (hc : (clsIn K C).isSome = true) (ha : findIn K (.ref C) name = some (some a)) (hg : specialIn K a "__get__" = some (some g)) (ht : takesIn K a = some true) : findObj K C od name = some (.bind g a) := by
  obtain ⟨cd, hc⟩ := Option.isSome_iff_exists.mp hc
  unfold findObj
  rw [hc, Option.bind_some, ha, Option.bind_some]
  simp [hg, ht]
theorem kin_classD {Q : Option Value → Shared → Prop} (hga : findIn K (.ref D) "__getattribute__" = some (some (.builtin "BaseException.__getattribute__"))) (hgt : findIn K (.ref D) "__getattr__" = some none) (hsub : subIn K (.ref D) (.type "BaseException") = some true)
    (hdct : hasDictIn K D = true) (ha : findIn K (.ref D) "__class__" = some (some (.builtin "object.__class__")))
    (hn : specialIn K (.builtin "object.__class__") "__get__" = some (some (.builtin "getset_descriptor.__get__"))) (htk : takesIn K (.builtin "object.__class__") = some true) (hm : mroIn K D (.type "object") = some true)
    (X : K.In s.heap) (I : InstAt s.heap x ox D od) (h : Q (some (.ref D)) { s with toks := s.toks + 1 }) : wpAny (model prog w) A (getAttr? (.ref x) "__class__") Q E s := by
  have hf : findObj K D od "__class__" = some (.bind (.builtin "getset_descriptor.__get__") (.builtin "object.__class__")) := findObj_dataD (by obtain ⟨cd, hc, _⟩ := any_some hdct; rw [hc]; rfl) ha hn htk
  obtain ⟨hp, g, d, t, os⟩ := s
  have L0 := I.type (M := model prog w)
  have L1 := looks_findIn (M := model prog w) X hga
  have L2 := looks_findIn (M := model prog w) X hgt
  have L3 := looks_find (M := model prog w) X I hf
  have sub : Looks (model prog w) hp (isInstance (.ref x) (.type "BaseException")) true := L0.andThen (looks_subIn X hsub)
  have hx0 : (false && onTheHeap (Value.builtin "BaseException.__getattribute__")) = false := rfl
  have hx2 : (Value.builtin "BaseException.__getattribute__" == Value.builtin "object.__getattribute__") = false := by decide +kernel
  have hx1 : (onTheHeap (Value.ref D) && Value.builtin "BaseException.__getattribute__" == Value.builtin "object.__getattribute__") = false := by rw [hx2]; rfl
  unfold getAttr? getAttrBy? getAttrBy
  refine wpAny_bind (wpAny_mkText (wpAny_bind (wpAny_attempt (wpAny_holding (wpAny_bind (L0.at (wpAny_bind (L1.at ?_))))))))
  show wpAny _ _ (if (onTheHeap (Value.ref D) && Value.builtin "BaseException.__getattribute__" == Value.builtin "object.__getattribute__") = true then _ else _) _ _ _
  rw [hx1, if_neg Bool.false_ne_true]
  unfold getAttrByItsOwn hookBefore
  refine wpAny_bind ?_
  rw [if_pos (show onTheHeap (Value.ref D) = true from rfl)]
  refine L2.at ?_
  refine wpAny_bind (wpAny_attempt (wpAny_holding ?_))
  unfold callGetattribute
  rw [hx0, if_neg Bool.false_ne_true]
  unfold boundAndCalled
  rw [PySem.F.excAttr_ValueError.ga.bind (.ref x)]
  refine wpAny_bind (wpAny_pure ?_)
  show wpAny _ _ (call (.builtin "BaseException.__getattribute__") [.ref x, .str "__class__" t]) _ _ _
  refine wpAny_call (codeAny_call_builtin PySem.F.excAttr_ValueError.ga.plain PySem.F.entry_bexc_ga ?_)
  refine @check_slot (model prog w) _ _ ⟨hp, g, d, t + 1, os⟩ "BaseException.__getattribute__" "BaseException" "__getattribute__" (.ref x) [.str "__class__" t] [] _ (by decide +kernel) (by decide +kernel) sub (PySem.F.args_bexc_ga (.ref x) (.str "__class__" t)) ?_
  unfold Builtin.«object.__getattribute__»
  refine wpAny_bind (wpAny_of_eq (a := ((Value.ref x : Value), [Value.str "__class__" t])) (by first | rfl | (simp only [slotArgs]; rfl)) ?_)
  refine wpAny_bind (wpAny_pure (wpAny_bind (L0.at (wpAny_bind (L3.at ?_)))))
  show wpAny _ _ (holding [Value.builtin "object.__class__"] (call (.builtin "getset_descriptor.__get__") [.builtin "object.__class__", .ref x, .ref D]) >>= ret) _ _ _
  refine wpAny_bind (wpAny_holding (wpAny_call (class_get (s := ⟨hp, g, d, t + 1, os⟩) (ox := ox) (od := od) X I hm ?_)))
  refine wpAny_pure ?_
  show wpAny _ _ (handedOut (.ref D)) _ _ _
  rw [handedOut_of (v := .ref D) rfl]
  first
    | exact wpAny_pure (wpAny_pure h)
    | exact wpAny_pure h
    | exact wpAny_pure (wpAny_bind (wpAny_pure (wpAny_pure h)))
theorem kitx_excD (hga : findIn K (.ref D) "__getattribute__" = some (some (.builtin "BaseException.__getattribute__"))) (hgt : findIn K (.ref D) "__getattr__" = some none) (hsub : subIn K (.ref D) (.type "BaseException") = some true) (hdct : hasDictIn K D = true) (ha : findIn K (.ref D) "__class__" = some (some (.builtin "object.__class__")))
    (hn : specialIn K (.builtin "object.__class__") "__get__" = some (some (.builtin "getset_descriptor.__get__"))) (htk : takesIn K (.builtin "object.__class__") = some true) (hm : mroIn K D (.type "object") = some true) :
    KitX K (.ref x) (.ref D) (fun h => InstAt h x ox D od) where
  ty := fun _ _ _ I => I.type
  it := fun _ _ X _ => by
    obtain ⟨cdD, hcD, _⟩ := any_some hdct
    unfold clsIn at hcD
    split at hcD
    · rename_i c' d' cd' sl' ho
      intro A' Q' E' s' k q
      unfold isType loadHead
      exact wpAny_bind (wpAny_loadPart (k _ _ (X _ _ ho)) (wpAny_pure q))
    · cases hcD
  ne := fun h tp dd its n sl X htp => by
    obtain ⟨cdD, hcD, _⟩ := any_some hdct
    refine Bool.eq_false_iff.mpr fun q => ?_
    have e : D = tp := Value.ref.inj (beq_iff_eq.mp q)
    subst e
    unfold clsIn at hcD
    split at hcD
    · rename_i c' d' cd' sl' ho
      have z := (X _ _ ho).symm.trans htp
      cases z
    · cases hcD
  ca := fun X I k => kin_classD hga hgt hsub hdct ha hn htk hm X I k
end
end PySem.W
namespace L2
open PySem PySem.Spec PyProof.Rows
/-- isinstance(e, c), e the exception that the suite holds, with a dict -/
def rIsD (K : PySem.W.Frag) (a : Addr) (cls : Value) (d : Option Addr) : List V → Hp → VK → Prop := fun xs H Q => ∃ (D dd : Addr) (fs : List (Str × V)) (c : V) (cv : Value) (b : Bool), cls = .ref D ∧ d = some dd ∧ ExcC K D ∧ H dd = some (.xd fs) ∧
  xs = [.ref a, c] ∧ (∀ u, RelV c u → u = cv) ∧ PySem.W.kitOne K (.ref D) cv = some b ∧ Q (.bl b) H
theorem call_isD {X : Cx} {a : Addr} {cls : Value} {d : Option Addr} {oe : Obj} {pn : List (Addr × Obj)} (hz : Zc cls d oe) (hf : ∃ vs, oe.data = .fields vs) : CallR (X.suite a ((a, oe) :: pn)) (.builtin "isinstance") (rIsD X.K a cls d) := by
  intro pins s σ H xs us Q I r h
  obtain ⟨D, dd, fs, c, cv, b, rfl, rfl, C, hd, rfl, hcv, e, q⟩ := h
  cases r with
  | cons rx rr =>
    cases rr with
    | cons rt rr =>
      cases rr
      cases rx
      have ec := hcv _ rt
      subst ec
      obtain ⟨hget, _⟩ := I.pin (a, oe) (List.mem_append.mpr (.inl List.mem_cons_self))
      obtain ⟨vs, hv⟩ := hf
      have hx : ObjOk X.prog X.w H s.heap dd (.xd fs) := I.hok dd _ hd
      obtain ⟨mA, hns, hr⟩ := hx
      obtain ⟨od, ho, hl⟩ := lookIn_ns hns
      have J : PySem.W.InstAt s.heap a oe D (some od) := ⟨hget, hz.1, by unfold PySem.W.notCls; rw [hv] <;> rfl, by rw [hz.2]; exact ho⟩
      exact PySem.W.kia_one (PySem.W.kitx_excD C.hg C.hk C.hs C.hd C.ha C.hn C.ht C.hm) I.kIn J e (fun z => nomatch z) fun tk => ⟨.bl b, H, I.kept (t' := tk) fun _ _ z => z, rfl, q⟩
/-! ### several clauses, each with a name -/
def wManyAs (K : PySem.W.Frag) (i : Nat) (Wout : WX) (D : Ends) : List (Value × (Addr → Value → Option Addr → TS)) → WX
  | [] => Wout
  | (c, ts) :: r => fun cls d σ H => ∃ b, PySem.W.exmOne K cls c = some b ∧
      (b = true → ∀ a, H a = none → ts a cls d { nx := fun σ' H' => D.nx (σ'.set i none) H', rt := D.rt, bk := fun σ' H' => D.bk (σ'.set i none) H', ct := fun σ' H' => D.ct (σ'.set i none) H' } (σ.set i (some (.ref a))) H) ∧
      (b = false → wManyAs K i Wout D r cls d σ H)
inductive HdsAs (X : Cx) (n : Str) : List ExceptHandler → List (Value × (Addr → Value → Option Addr → TS)) → Prop
  | nil : HdsAs X n [] []
  | cons {x : Str} {c : Value} {ts : Addr → Value → Option Addr → TS} {b₀ : Stmt} {suite : List Stmt} {np pos' : Pos} {hds : List ExceptHandler} {l : List (Value × (Addr → Value → Option Addr → TS))} (hc : Names X x c)
      (hsu : ∀ (a : Addr) (oe : Obj) (cls : Value) (d : Option Addr) (pn : List (Addr × Obj)), Zc cls d oe → (∃ vs, oe.data = .fields vs) → PSs (X.suite a ((a, oe) :: pn)) (b₀ :: suite) (ts a cls d)) (r : HdsAs X n hds l) :
      HdsAs X n (.ExceptHandler (some (.Name x np)) (some n) (b₀ :: suite) pos' :: hds) ((c, ts) :: l)
section
variable {X : Cx} {n : Str} {i : Nat} {body : List Stmt} {h₀ : ExceptHandler} {hds : List ExceptHandler} {l : List (Value × (Addr → Value → Option Addr → TS))} {pos : Pos} {tb : WX → TS} {Wout : WX}
theorem ps_try_manyAs (hs : X.stack = X.env :: X.outer) (hf : X.env.frame = some X.env.locals) (hN : X.N.Nodup) (hi : X.N[i]? = some n) (hln : X.env.kindOf n = some .local) (tk : Takes X Wout)
    (hb : ∀ (W : WX) (pn : List (Addr × Obj)) (xe : Value → Shared → Prop), Takes (X.tr pn xe) W → PassesOwn (model X.prog X.w) X.A X.env xe → PSs (X.tr pn xe) body (tb W))
    (hh : HdsAs X n (h₀ :: hds) l) : PS X (.Try body (h₀ :: hds) [] [] pos) (fun D σ H => tb (wManyAs X.K i Wout D l) D σ H) := by
  refine ⟨fun pins s σ H D I h => ?_⟩
  have ok := I.ok
  have hfr : X.A.frames = some (X.env :: X.outer) := by rw [ok.frames, hs]
  have hloc : Loc X.env.scope n := .inl hln
  refine wpAny_Try_except ?_
  refine wpAny_mono ((hb (wManyAs X.K i Wout D l) (X.pn ++ pins) (fun e s₁ => wpAny (model X.prog X.w) X.A (noteFrame e X.env) (fun _ s₂ => wpAny (model X.prog X.w) X.A (setFlight e none) (fun _ s₃ =>
    wpAny (model X.prog X.w) X.A (handleBy e X.env (h₀ :: hds)) (SP X pins D) X.xe s₃) X.xe s₂) X.xe s₁) (fun u s' xx => ?_) PassesOwn.looking).run [] s σ H D (I.toTry _) h) (fun f s1 hsp => ?_) (fun e s1 he => he)
  · -- the catch
    obtain ⟨a, B, sI, pins', σ', H', cls, d, rfl, J', nb, up, sky, na, os, ag, w⟩ := xx
    have J : Inv X pins σ' H' sI := J'.ofTry ok
    have sky' : Sky B (X.env :: X.outer) a (Zc cls d) X.env.locals s'.heap := by rw [← hs]; exact sky
    show wpAny (model X.prog X.w) X.A (noteFrame (.ref a) X.env) _ _ _
    refine Sky.land Zc.steady hfr hf sky' fun h3 fl3 up3 => ?_
    have J3 : Inv X pins σ' H' { s' with heap := h3 } := J.landed nb fl3.1 (up.trans up3) os ag
    obtain ⟨oe3, vs3, he3, hz3, hd3⟩ := fl3.there
    have notFr : ∀ {h : Heap} {o : Obj} {vs : Array Value}, h.FunFrames B (X.env :: X.outer) → h.get? a = some o → o.data = .fields vs → a ∉ frs (X.env :: X.outer) := fun {h o vs} ff e dd hm => by
      obtain ⟨_, o', e', hnf⟩ := ff.mem hm
      rw [e] at e'; cases e'
      exact hnf _ dd
    have nfr := notFr fl3.2.2.1 he3 hd3
    have nL : a ≠ X.env.locals := fun z => nfr (List.mem_filterMap.mpr ⟨X.env, List.mem_cons_self, by rw [hf, z]⟩)
    have nF : a ∉ X.fs := fun hm => by
      obtain ⟨e, he, q⟩ := List.mem_filterMap.mp hm
      exact nfr (List.mem_filterMap.mpr ⟨e, List.mem_cons_of_mem _ he, q⟩)
    have S3 := J3.suite he3 hd3 na nL nF
    have go : ∀ {hds' : List ExceptHandler} {l' : List (Value × (Addr → Value → Option Addr → TS))}, HdsAs X n hds' l' → wManyAs X.K i Wout D l' cls d σ' H' →
        wpAny (model X.prog X.w) X.A (handleBy (.ref a) X.env hds') (SP X pins D) X.xe { s' with heap := h3 } := by
      intro hds' l' hk
      induction hk with
      | nil =>
        intro w
        refine wpAny_handleBy_nil ?_
        obtain ⟨k1, k2, k3, oe, vs, T, oT, ts', he, hz, hd, h1, hr⟩ := id fl3
        unfold PySem.passOn
        refine wpAny_bind (wpAny_field he hd h1 ?_)
        rw [if_neg (show ¬ ((Value.ref T == Value.none) = true) from by simp)]
        have fin : wpAny (model X.prog X.w) X.A (setFlight (.ref a) X.env.frame) (fun _ s4 => wpAny (model X.prog X.w) X.A (throw (.ref a) : Sem Flow) (SP X pins D) X.xe s4) X.xe { s' with heap := h3 } := by
          rw [hf]
          refine HandSPX.setFlight_upZ fl3 fun h4 hh4 up4 => wpAny_throw (tk _ _ ?_)
          exact ⟨a, B, sI, pins, σ', H', cls, d, rfl, J, nb, (up.trans up3).trans up4, .inr (.inr (by rw [hs]; exact hh4)), na, os, ag, w⟩
        first
          | exact wpAny_bind (wpAny_pure (wpAny_bind fin))
          | exact wpAny_bind fin
      | @cons x c ts b₀ suite np pos' hds2 l2 hc hsu r ih =>
        intro w
        obtain ⟨b, hb1, hyes, hno⟩ := w
        refine wpAny_handleBy_cons (codeAny_handlers_test ?_) (by intro q; cases q)
        have LT : PySem.W.Looks (model X.prog X.w) h3 (typeOf (.ref a)) cls := fun A Q E s k q => wpAny_typeOf_ref (k _ _ he3) (by rw [hz3.1]; exact q)
        have LM := PySem.W.exm_one (M := model X.prog X.w) (J3.kIn) LT hb1
        have test : ∀ {Q : Value → Shared → Prop} {E : Value → Shared → Prop}, Q c { s' with heap := h3 } → wpAny (model X.prog X.w) (X.A.mark (some (.ref a))) (eval (.Name x np) X.env) Q E { s' with heap := h3 } := fun {Q E} q => by
          obtain ⟨hg, hdbg, hm | ⟨hm, hv, hnn⟩⟩ := hc
          · exact ld_glob (X := X.suite a ((a, oe3) :: (X.pn ++ pins))) S3 hg hm q hdbg
          · exact ld_blt (X := X.suite a ((a, oe3) :: (X.pn ++ pins))) S3 hg hm hv q hnn hdbg
        refine test (LM.here ?_)
        cases b with
        | true =>
          refine codeAny_handlers_suite_as ?_
          refine HandSPX.lands_againZ fl3 fun h4 fl4 up4 => ?_
          have J4 : Inv X pins σ' H' { s' with heap := h4 } := J.landed nb fl4.1 ((up.trans up3).trans up4) os ag
          obtain ⟨oe4, vs4, he4, hz4, hd4⟩ := fl4.there
          have S4 := J4.suite he4 hd4 na nL nF
          refine store_ok (X := X.suite a ((a, oe4) :: (X.pn ++ pins))) (v := .ref a) S4 hN hi hloc rfl (fun s5 S5 => ?_) (.inr hln)
          refine wpAny_mono ((hsu a oe4 cls d (X.pn ++ pins) hz4 ⟨_, hd4⟩).run [] s5 _ H' _ S5 (hyes rfl a na)) (fun f s6 hsp => ?_) (fun _ _ z => False.elim z)
          have end_ : ∀ {σ6 : St} {H6 : Hp} {Q : Shared → Prop}, Inv (X.suite a ((a, oe4) :: (X.pn ++ pins))) [] σ6 H6 s6 → (∀ s7, Inv X pins (σ6.set i none) H6 s7 → Q s7) →
              wpAny (model X.prog X.w) X.A (do bindName X.env n .none; unbindBehindTheSuite X.env n pos') (fun _ s7 => Q s7) X.xe s6 := fun {σ6 H6 Q} S6 hq => gone_ok (S6.unsuite ok) hN hi hln hq
          cases f with
          | next =>
            obtain ⟨σ6, H6, S6, q6⟩ := hsp
            exact end_ S6 fun s7 J7 => ⟨_, _, J7, q6⟩
          | brk =>
            obtain ⟨σ6, H6, S6, q6⟩ := hsp
            exact end_ S6 fun s7 J7 => ⟨_, _, J7, q6⟩
          | cont =>
            obtain ⟨σ6, H6, S6, q6⟩ := hsp
            exact end_ S6 fun s7 J7 => ⟨_, _, J7, q6⟩
          | ret u =>
            obtain ⟨v6, σ6, H6, S6, r6, q6⟩ := hsp
            exact end_ S6 fun s7 J7 => ⟨_, _, _, J7, r6, q6⟩
        | false =>
          show wpAny _ X.A (handleBy (.ref a) X.env hds2) _ _ _
          exact ih (hno rfl)
    exact go hh w
  · cases f with
    | next =>
      obtain ⟨σ', H', J', q⟩ := hsp
      exact wpAny_execs_nil ⟨σ', H', J'.ofTry ok, q⟩
    | brk =>
      obtain ⟨σ', H', J', q⟩ := hsp
      exact ⟨σ', H', J'.ofTry ok, q⟩
    | cont =>
      obtain ⟨σ', H', J', q⟩ := hsp
      exact ⟨σ', H', J'.ofTry ok, q⟩
    | ret u =>
      obtain ⟨v, σ', H', J', r, q⟩ := hsp
      exact ⟨v, σ', H', J'.ofTry ok, r, q⟩
end
end L2
set_option Elab.async false
set_option linter.all false
set_option maxRecDepth 100000
set_option maxHeartbeats 4000000
/-! Calls that may raise, raise, readings from an entry on. -/
namespace Ty
open PySem L2
open Evl (Ex ex_l ex_t)
open Ex (SupC SupD spSup)
abbrev CXo (P : Program) (w : World) : CXT := L2.CX P w
/-! ### the rules -/
def tCallW (sp : Sp) (W : WX) (t : TA) : TE := fun σ H Q => t σ H fun vs H1 => sp vs H1 Q fun cls d H' => W cls d σ H'
def tKwW (sp : Sp) (n : Nat) (gV : List V → List V) (W : WX) (tk : TA) : TE := fun σ H Q => tk σ H fun zs H2 => zs.length = n ∧ sp (gV zs) H2 Q fun cls d H' => W cls d σ H'
section
variable {X : Cx} {k : Nat} {st : Stmt} {ps : List Str} {sp : Sp} {W : WX} {x : Str} {p pos pos' : Pos} {e : Expr} {es : List Expr} {t : TA} {te : TE}
theorem pe_ownW (F : Own X.prog X.w X.K X.mg X.base (CXo X.prog X.w) k x st ps sp) (hb : PosB x st ps) (hr : Room k X.A) (hg : Gl X x) (tk : Takes X W) (ha : PA X (e :: es) t)
    (hdb : (x == ("__debug__" : Str)) = false := by decide) (he : starEach (e :: es) X.env = (false, eval e X.env) :: starEach es X.env := by rfl) (hpl : (backTo pos (starEach es X.env)).any (·.1) = false := by rfl) :
    PE X (.Call (.Name x p) (e :: es) [] pos) (tCallW sp W t) := by
  obtain ⟨f, fd, F, hm, hk, kV, doc, pm, an, cdv, ct, rfl⟩ := F.ex
  refine ⟨fun pins s σ H Q I h => ?_⟩
  refine wpAny_Call_Name_kw (ld_glob I hg hm ?_ hdb)
  refine PySem.W.callWith_K (h₀ := X.base) I.ok.mod.kin hk (thn (ha.run pos pins s σ H _ I h) fun us s1 ⟨vs, H1, I1, r, q⟩ => ⟨I1.kIn, ?_⟩) he hpl
  have hl : us.length = ps.length := by rw [← r.length]; exact F.len _ _ _ _ q
  refine wpAny_call (codeAny_mono (F.run X.A X.stack s1 H1 ⟨us, []⟩ us vs Q _ hr I1.env0 (.of_eq (hb kV doc pm an cdv ct us hl)) r q) fun r s' hq => ?_)
  cases r with
  | error e => exact tk e s' (XE.of_call I1 (fun cls d H' h => h) hq)
  | ok fl =>
    cases fl with
    | ret u => exact I1.after hq
    | next => exact False.elim hq
    | brk => exact False.elim hq
    | cont => exact False.elim hq
theorem pe_ownKW {ks : List Str} {kws : List Keyword} {tk' : TA} {g : List Value → List Value} {gV : List V → List V} (F : Own X.prog X.w X.K X.mg X.base (CXo X.prog X.w) k x st ps sp)
    (hb : ∀ (kV doc pm : Value) (an : Option Addr) (cdv ct : Value) (ws : List Value), ws.length = ks.length → bindArgs (PySem.W.fnOf x x (defArgs st) (defBody st) (defScope st) .none kV doc pm an cdv ct) ⟨[], ks.zip ws⟩ = pure (ps.zip (g ws)))
    (rel : ∀ {zs : List V} {ws : List Value}, zs.length = ks.length → Vals zs ws → Vals (gV zs) (g ws))
    (hr : Room k X.A) (hg : Gl X x) (tk : Takes X W) (hkw : PK X kws tk')
    (hall : (backToKw pos (keywordEach kws X.env)).all (·.1.isSome) = true := by rfl) (hks : (backToKw pos (keywordEach kws X.env)).filterMap (·.1) = ks := by rfl) (hdb : (x == ("__debug__" : Str)) = false := by decide)
    (hpl : ((backTo pos (starEach [] X.env)).any (·.1) || (backToKw pos (keywordEach kws X.env)).any (·.1.isNone)) = false := by rfl) :
    PE X (.Call (.Name x p) [] kws pos) (tKwW sp ks.length gV W tk') := by
  obtain ⟨f, fd, F, hm, hk, kV, doc, pm, an, cdv, ct, rfl⟩ := F.ex
  refine ⟨fun pins s σ H Q I h => ?_⟩
  refine wpAny_Call_Name_kw (ld_glob I hg hm ?_ hdb)
  refine PySem.W.callWith_KW0 (h₀ := X.base) I.ok.mod.kin hk hall ?_ hpl
  refine thn (hkw.run pos pins s σ H _ I h) fun ws s2 ⟨zs, H2, I2, rz, hl, q2⟩ => ⟨I2.kIn, ?_⟩
  rw [hks]
  have lw : ws.length = ks.length := by rw [← rz.length, hl]
  have r2 := rel hl rz
  refine wpAny_call (codeAny_mono (F.run X.A X.stack s2 H2 ⟨[], ks.zip ws⟩ (g ws) (gV zs) Q _ hr I2.env0 (.of_eq (hb kV doc pm an cdv ct ws lw)) r2 q2) fun r s' hq => ?_)
  cases r with
  | error e => exact tk e s' (XE.of_call I2 (fun cls d H' h => h) hq)
  | ok fl =>
    cases fl with
    | ret u => exact I2.after hq
    | next => exact False.elim hq
    | brk => exact False.elim hq
    | cont => exact False.elim hq
end
/-- an own error class with TalkError's __init__: its instances made with one value -/
structure OwnE (P : Program) (w : World) (K : PySem.W.Frag) (mg : Str → Option Value) (base : Heap) (k : Nat) (x : Str) (C D : Addr) : Prop where
  ex : ∃ (fI : Addr) (fd : FuncData), PySem.W.findIn K (.ref C) "__init__" = some (some (.ref fI)) ∧ PySem.W.typeIn K (.ref fI) = some (.type "function") ∧ FnOk P w K mg base CX0 k fI fd ["self", "given"] (spSup K D) ∧ Binds K fd ["self", "given"] []
  sup : SupC K C D
  mg : mg x = some (.ref C)
def tRaise (K : PySem.W.Frag) (C D : Addr) (W : WX) (te : TE) : TS := fun _ σ H => tMkO C (spSup K D) [] (tCons te tNil) σ H fun cls d H' => W cls d σ H'
section
variable {X : Cx} {k : Nat} {W : WX} {x : Str} {C D : Addr} {p pos pos' : Pos} {e : Expr} {te : TE}
theorem ps_raiseE (E : OwnE X.prog X.w X.K X.mg X.base k x C D) (hc : X.calm = true) (tk : Takes X W) (hr : Room (k + 1) X.A) (hg : Gl X x) (he : PE X e te) (hdb : (x == ("__debug__" : Str)) = false := by decide)
    (hs : starEach [e] X.env = (false, eval e X.env) :: starEach [] X.env := by rfl) : PS X (.Raise (some (.Call (.Name x p) [e] [] pos)) none pos') (tRaise X.K C D W te) := by
  obtain ⟨⟨fI, fd, iC, tI, F1, hb⟩, sup, hm⟩ := E
  exact ps_raise hc tk (pmk_oex sup.oex iC tI F1 hr hb .nil pass0 hg hm (pa_cons he pa_nil hs) hdb hs)
end
/-! ### readings from an entry on -/
variable {o : Option Addr} {σ : L2.St} {Ge He G H : Hp} {ta tb te tx : TE} {s t u : T} {tt tt' : TT} {x y v : V} {D : Ends} {tu tw tz : TS} {W : WX}
def EvX (o : Option Addr) (te : TE) (σ : L2.St) (Ge He G : Hp) (t : T) : Prop := ∀ G1 H1, Ex G G1 → Go o Ge He G1 H1 → ∀ Q : VK, (∀ v G2 H2, Go o G1 H1 G2 H2 → U t G2 v → Q v H2) → te σ H1 Q
theorem Ev.toX (h : Ev o te σ G t) : EvX o te σ Ge He G t := fun G1 H1 e g Q q => h G1 H1 e g.kn Q q
theorem EvX.up {G' : Hp} (h : EvX o te σ Ge He G t) (e : Ex G G') : EvX o te σ Ge He G' t := fun G1 H1 a => h G1 H1 (e.trans a)
theorem EvX.imp (h : EvX o te σ Ge He G t) (k : ∀ G' v, Ex G G' → U t G' v → U u G' v) : EvX o te σ Ge He G u := fun G1 H1 a g Q q => h G1 H1 a g Q fun v G2 H2 g2 w => q v G2 H2 g2 (k G2 v (a.trans g2.gg) w)
/-- what a call may raise: a class, the value that it keeps -/
abbrev Er := Value → V → Prop
def noEr : Er := fun _ _ => False
def spR (C : Option Addr → Hp → List V → T → Er → Prop) : Sp := fun vs H Q E => ∃ o G t B, Kn o G H ∧ C o G vs t B ∧ (∀ v G2 H2, Go o G H G2 H2 → U t G2 v → Q v H2) ∧
  (∀ c d x G2 H2, Go o G H G2 H2 → G2 d = some (.xd [("given", x)]) → B c x → E c (some d) H2)
/-- W takes the errors of B -/
def Tk (o : Option Addr) (Ge He : Hp) (W : WX) (σ : L2.St) (B : Er) : Prop := ∀ c d x G2 H2, Go o Ge He G2 H2 → G2 d = some (.xd [("given", x)]) → B c x → W c (some d) σ H2
theorem Tk.no : Tk o Ge He W σ noEr := fun _ _ _ _ _ _ _ z => z.elim
theorem Tk.imp {B B' : Er} (h : Tk o Ge He W σ B) (k : ∀ c x, B' c x → B c x) : Tk o Ge He W σ B' := fun c d x G2 H2 g e b => h c d x G2 H2 g e (k c x b)
def CallsR (C : Option Addr → Hp → List V → T → Er → Prop) (o : Option Addr) (G : Hp) (ts : List T) (t : T) (B : Er) (gV : List V → List V) : Prop :=
  ∀ G' vs, Ex G G' → AllU G' ts vs → ∃ o' t' B', (o' = o ∨ o' = none) ∧ C o' G' (gV vs) t' B' ∧ (∀ G'' v, Ex G' G'' → U t' G'' v → U t G'' v) ∧ ∀ c x, B' c x → B c x
theorem call_run {C : Option Addr → Hp → List V → T → Er → Prop} {vs : List V} {o' : Option Addr} {t' : T} {B' B : Er} {Q : VK} (g : Go o Ge He G H) (tk : Tk o Ge He W σ B) (ho : o' = o ∨ o' = none) (c : C o' G vs t' B') (hb : ∀ c x, B' c x → B c x)
    (q : ∀ v G2 H2, Go o G H G2 H2 → U t' G2 v → Q v H2) : spR C vs H Q fun cls d H' => W cls d σ H' := by
  rcases ho with rfl | rfl
  · exact ⟨o', G, t', B', g.kn, c, q, fun c d x G2 H2 g2 e b => tk c d x G2 H2 (g.trans g2) e (hb c x b)⟩
  · exact ⟨none, G, t', B', g.kn.pure, c, fun v G2 H2 g2 w => q v G2 H2 (g2.pure g.kn) w, fun c d x G2 H2 g2 e b => tk c d x G2 H2 (g.trans (g2.pure g.kn)) e (hb c x b)⟩
theorem ex_call {C : Option Addr → Hp → List V → T → Er → Prop} {ta : TA} {ts : List T} {B : Er} (tk : Tk o Ge He W σ B) (ha : EvA o ta σ G ts) (hc : CallsR C o G ts t B id) : EvX o (tCallW (spR C) W ta) σ Ge He G t := fun G1 H1 a g Q q =>
  ha G1 H1 a g.kn _ fun vs G2 H2 g2 w2 => by
    obtain ⟨o', t', B', ho, c, k, hb⟩ := hc G2 vs (a.trans g2.gg) w2
    exact call_run (g.trans g2) tk ho c hb fun v G3 H3 g3 w3 => q v G3 H3 (g2.trans g3) (k G3 v g3.gg w3)
theorem ex_kw {C : Option Addr → Hp → List V → T → Er → Prop} {ta : TA} {ts : List T} {B : Er} {n : Nat} {gV : List V → List V} (hn : ts.length = n) (tk : Tk o Ge He W σ B) (ha : EvA o ta σ G ts) (hc : CallsR C o G ts t B gV) : EvX o (tKwW (spR C) n gV W ta) σ Ge He G t := fun G1 H1 a g Q q =>
  ha G1 H1 a g.kn _ fun vs G2 H2 g2 w2 => ⟨w2.len.trans hn, by
    obtain ⟨o', t', B', ho, c, k, hb⟩ := hc G2 vs (a.trans g2.gg) w2
    exact call_run (g.trans g2) tk ho c hb fun v G3 H3 g3 w3 => q v G3 H3 (g2.trans g3) (k G3 v g3.gg w3)⟩
theorem ex_if {p : Bool → Prop} (h : EvT o tt σ G p) (h1 : p true → EvX o ta σ Ge He G t) (h2 : p false → EvX o tb σ Ge He G t) : EvX o (tIf tt ta tb) σ Ge He G t := fun G1 H1 e g Q q => h G1 H1 e g.kn _ fun c G2 H2 g2 w2 => by
  cases c with
  | true => exact h1 w2 G2 H2 (e.trans g2.gg) (g.trans g2) Q fun z G3 H3 g3 w3 => q z G3 H3 (g2.trans g3) w3
  | false => exact h2 w2 G2 H2 (e.trans g2.gg) (g.trans g2) Q fun z G3 H3 g3 w3 => q z G3 H3 (g2.trans g3) w3
def EvAX (o : Option Addr) (ta : TA) (σ : L2.St) (Ge He G : Hp) (ts : List T) : Prop := ∀ G1 H1, Ex G G1 → Go o Ge He G1 H1 → ∀ Q : List V → Hp → Prop, (∀ vs G2 H2, Go o G1 H1 G2 H2 → AllU G2 ts vs → Q vs H2) → ta σ H1 Q
theorem eax_nil : EvAX o tNil σ Ge He G [] := fun G1 H1 a g Q q => q [] G1 H1 (.refl g.kn) .nil
theorem eax_cons {tr : TA} {ts : List T} (ha : EvX o ta σ Ge He G s) (hr : EvAX o tr σ Ge He G ts) : EvAX o (tCons ta tr) σ Ge He G (s :: ts) := fun G1 H1 a g Q q =>
  ha G1 H1 a g _ fun x G2 H2 g2 w2 => hr G2 H2 (a.trans g2.gg) (g.trans g2) _ fun xs G3 H3 g3 w3 => q (x :: xs) G3 H3 (g2.trans g3) (.cons (w2.up g3.gg) w3)
/-- a known list of known items -/
def tLs (ts : List T) : T := fun G v => ∃ a vs, v = .ref a ∧ G a = some (.lst vs) ∧ AllU G ts vs
theorem ex_lst {ta : TA} {ts : List T} (h : EvAX o ta σ Ge He G ts) (hl : ts.length ≤ 100000) : EvX o (tLst ta) σ Ge He G (tLs ts) := fun G1 H1 e g Q q =>
  h G1 H1 e g _ fun vs G2 H2 g2 w2 => ⟨Evl.sz_of (by rw [w2.len]; exact hl), fun p hp => q _ _ _ (g2.trans (.new g2.kn hp)) fun G' e' => ⟨p, vs, rfl, e' p _ upd_same, w2.up ((Ex.new (Evl.fresh_back g2.kn.sub hp)).trans e')⟩⟩
theorem s_retX (g : Go o Ge He G H) (h : EvX o te σ Ge He G t) (k : ∀ v G2 H2, Go o Ge He G2 H2 → U t G2 v → D.rt v H2) : tRet te D σ H :=
  h G H (Ex.refl _) g _ fun v G2 H2 g2 w2 => k v G2 H2 (g.trans g2) w2
theorem s_asgX {i : Nat} (g : Go o Ge He G H) (h : EvX o te σ Ge He G t) (k : ∀ v G2 H2, Go o Ge He G2 H2 → Go o G H G2 H2 → U t G2 v → D.nx (σ.set i (some v)) H2) : tAsg te (gName i) D σ H :=
  h G H (Ex.refl _) g _ fun v G2 H2 g2 w2 => k v G2 H2 (g.trans g2) g2 w2
theorem q_asgX {i : Nat} (g : Go o Ge He G H) (h : EvX o te σ Ge He G t) (k : ∀ v G2 H2, Go o Ge He G2 H2 → Go o G H G2 H2 → U t G2 v → tz D (σ.set i (some v)) H2) : tSeq (tAsg te (gName i)) tz D σ H := s_asgX (D := { D with nx := tz D }) g h k
theorem s_dropX (g : Go o Ge He G H) (h : EvX o te σ Ge He G t) (k : ∀ v G2 H2, Go o Ge He G2 H2 → Go o G H G2 H2 → U t G2 v → D.nx σ H2) : tDrop te D σ H :=
  h G H (Ex.refl _) g _ fun v G2 H2 g2 w2 => k v G2 H2 (g.trans g2) g2 w2
theorem q_dropX (g : Go o Ge He G H) (h : EvX o te σ Ge He G t) (k : ∀ v G2 H2, Go o Ge He G2 H2 → Go o G H G2 H2 → U t G2 v → tz D σ H2) : tSeq (tDrop te) tz D σ H := s_dropX (D := { D with nx := tz D }) g h k
/-- raise C(x) -/
theorem s_raise {K : PySem.W.Frag} {C Dd : Addr} (g : Go o Ge He G H) (T : SupC K C Dd) (h : Ev o te σ G (tIs x)) (k : ∀ d G2 H2, Go o Ge He G2 H2 → Go o G H G2 H2 → G2 d = some (.xd [("given", x)]) → W (.ref C) (some d) σ H2) : tRaise K C Dd W te D σ H := by
  unfold tRaise tMkO
  refine (ea_cons h ea_nil) G H (Ex.refl _) g.kn _ fun vs G2 H2 g2 w2 => ?_
  cases w2 with
  | cons a1 a =>
    cases a
    rw [a1.eq]
    refine ⟨by show 1 ≤ 1000; decide, fun a na => ⟨a, C, x, rfl, T, upd_same, fun d nd ne => ⟨rfl, d, [("given", x)], upd_same, by rw [upd_ne ne, upd_same], by rw [upd_ne ne] at nd; exact nd, ?_⟩⟩⟩
    have nd' : H2 d = none := by rw [upd_ne ne] at nd; exact nd
    have e : upd (del (upd (upd (upd H2 a (exo a C none)) d (exd d [("given", x)])) a (exo a C (some d))) a) d (.xd [("given", x)]) = upd H2 d (.xd [("given", x)]) := by
      funext b
      by_cases hb : b = d
      · rw [hb, upd_same, upd_same]
      · rw [upd_ne hb, upd_ne hb]
        by_cases ha : b = a
        · rw [ha, del_same, na]
        · rw [del_ne ha, upd_ne ha, upd_ne hb, upd_ne ha]
    show W (.ref C) (some d) σ _
    rw [e]
    have g3 : Go o G H (upd G2 d (.xd [("given", x)])) (upd H2 d (.xd [("given", x)])) := g2.trans (.new g2.kn nd')
    exact k d _ _ (g.trans g3) g3 upd_same
/-! ### in a clause -/
/-- e.given -/
theorem ev_given {K : PySem.W.Frag} {a d C : Addr} {dd : Option Addr} {cls : Value} (h : Ev o te σ G (tIs (.ref a))) (hc : cls = .ref C) (hd : dd = some d) (hg : G d = some (.xd [("given", x)])) : Ev o (tXf a cls dd C "given" te) σ G (tIs x) := fun G1 H1 e kn Q q =>
  h G1 H1 e kn _ fun v G2 H2 g2 w2 => ⟨w2.eq, hc, d, [("given", x)], x, hd, g2.kn.sub _ _ ((e.trans g2.gg) _ _ hg), by simp [List.lookup], q x G2 H2 g2 u_is⟩
theorem ev_isD {K : PySem.W.Frag} {a d C c : Addr} {dd : Option Addr} {cls : Value} {b : Bool} {fs : List (Str × V)} (h : Ev o te σ G (tIs (.ref a))) (hc : cls = .ref C) (hd : dd = some d) (T : ExcC K C) (hg : G d = some (.xd fs)) (hk : PySem.W.kitOne K (.ref C) (.ref c) = some b) :
    Ev o (tCB (rIsD K a cls dd) (tCons te (tCons (tC (.ref c)) tNil))) σ G (tIs (.bl b)) :=
  ev_cb (ea_cons h (ea_cons ev_k ea_nil)) fun G' vs e al => by
    cases al with
    | cons a1 al => cases al with
      | cons a2 al =>
        cases al
        rw [a1.eq, a2.eq]
        exact rc_q u_is fun G1 H1 e1 kn Q q => ⟨C, d, fs, .ref c, .ref c, b, hc, hd, T, kn.sub _ _ ((e.trans e1) _ _ hg), rfl, fun u r => r, hk, q⟩
end Ty
set_option Elab.async false
set_option linter.all false
set_option maxRecDepth 100000
set_option maxHeartbeats 4000000
/-! Values as data: kinds, equality, items. -/
namespace Ty
open PySem L2 PySem.Spec PyProof.Rows
open Evl (Ex ex_l ex_t)
/-! ### a < b < c < d -/
section
variable {X : Cx} {a b c d : Expr} {ta tb tc td : TE} {pos : Pos}
def tChain3 (r r' r2 : R2) (ta tb tc td : TE) : TE := fun σ H Q => ta σ H fun x H1 => tb σ H1 fun y H2 => r x y H2 fun z H3 => ∃ k, z = .bl k ∧
  (if k = true then tc σ H3 fun w' H4 => r' y w' H4 fun z2 H5 => ∃ k2, z2 = .bl k2 ∧ (if k2 = true then td σ H5 fun w2 H6 => r2 w' w2 H6 Q else Q (.bl false) H5) else Q (.bl false) H3)
theorem pe_chain3 {op op' op2 : CmpOp} {r r' r2 : R2} (ho : OpR X (compareOp op) r) (ho' : OpR X (compareOp op') r') (ho2 : OpR X (compareOp op2) r2) (ha : PE X a ta) (hb : PE X b tb) (hc : PE X c tc) (hd : PE X d td)
    (hm : lastMarks [op, op', op2] [b, c, d] = false := by with_unfolding_all rfl) : PE X (.Compare a [op, op', op2] [b, c, d] pos) (tChain3 r r' r2 ta tb tc td) := by
  refine ⟨fun pins s σ H Q I h => ?_⟩
  refine Compare_chain (thn (ha.run pins s σ H _ I h) fun v s1 ⟨x, H1, I1, r1, q1⟩ => chain_link (thn (hb.run pins s1 σ H1 _ I1 q1) fun u s2 ⟨y, H2, I2, r2, q2⟩ =>
    thn (ho pins s2 σ H2 x y v u _ I2 r1 r2 q2) fun d s3 ⟨z, H3, I3, r3, k, e, q3⟩ => ?_)) hm
  subst e
  cases r3
  refine wpAny_truthy_bool ?_
  cases k with
  | false => exact ite_ff ⟨.bl false, H3, I3, rfl, q3⟩
  | true =>
    refine ite_tt (chain_link (thn (hc.run pins s3 σ H3 _ I3 q3) fun w' s4 ⟨z', H4, I4, r4, q4⟩ => thn (ho' pins s4 σ H4 y z' u w' _ I4 r2 r4 q4) fun d2 s5 ⟨z2, H5, I5, r5, k2, e2, q5⟩ => ?_))
    subst e2
    cases r5
    refine wpAny_truthy_bool ?_
    cases k2 with
    | false => exact ite_ff ⟨.bl false, H5, I5, rfl, q5⟩
    | true => exact ite_tt (chain_last (thn (hd.run pins s5 σ H5 _ I5 q5) fun w2 s6 ⟨z3, H6, I6, r6, q6⟩ => ho2 pins s6 σ H6 z' z3 w' w2 Q I6 r4 r6 q6))
/-- x in a tuple of data -/
def rInTD (K : PySem.W.Frag) : R2 := fun x y H Q => ∃ d ds, Dp K H x d ∧ Dp K H y (.tuple ds) ∧ SeqAt.shaped d = true ∧ SeqAt.shaped (.tuple ds) = true ∧ Q (.bl (ds.any fun z => PyData.eqv z d)) H
theorem room_inT {A : Around} {d : PyData} {xs : List PyData} (h : SeqAt.shaped d = true) (hu : A.units + 65 < cLine) : A.units + 1 + min (PyData.depthAll xs) d.depth < cLine := by
  have h1 := SeqAt.depth_of_shaped h
  have h2 : min (PyData.depthAll xs) d.depth ≤ d.depth := Nat.min_le_right _ _
  omega
theorem op_inTD (hu : X.A.units + 65 < cLine) : OpR X (compareOp .In) (rInTD X.K) := by
  intro pins s σ H x y v u Q I rx ry h
  obtain ⟨d, ds, hd, he, sd, se, q⟩ := h
  obtain ⟨as, r1⟩ := Dp.reads I d x v hd rx
  obtain ⟨bs, r2⟩ := Dp.reads I (.tuple ds) y u he ry
  exact SeqAt.in_tuple_reads r2 r1 (SeqAt.canLay_of_shaped se) (SeqAt.canLay_of_shaped sd) (room_inT sd hu) ⟨.bl _, H, I, rfl, q⟩
theorem kInTD {K : PySem.W.Frag} (e : X.K = K) (hu : X.A.units + 65 < cLine) : OpR X (compareOp .In) (rInTD K) := e ▸ op_inTD hu
theorem kInD {K : PySem.W.Frag} (e : X.K = K) (hu : X.A.units + 65 < cLine) : OpR X (compareOp .In) (rInD K) := e ▸ op_inD hu
theorem kNotInD {K : PySem.W.Frag} (e : X.K = K) (hu : X.A.units + 65 < cLine) : OpR X (compareOp .NotIn) (rNotInD K) := e ▸ op_notInD hu
end
/-! ### data, as G knows it -/
section
variable {K : PySem.W.Frag} {o : Option Addr} {σ : L2.St} {G G' Ge He H : Hp} {ta tb tc td te : TE} {s t u : T} {x y v : V} {d e : PyData}
mutual
theorem dp_up (e : Ex G G') : ∀ (d : PyData) {v : V}, Dp K G v d → Dp K G' v d
  | .none, _, h => by cases h; exact .non
  | .bool b, _, h => by cases h; exact .bl b
  | .int i, _, h => by cases h; exact .int i
  | .str x, _, h => by cases h; exact .str x
  | .list ds, _, h => by
    cases h with
    | lst a b => exact .lst (ex_l e a) (dps_up e ds b)
  | .tuple ds, _, h => by
    cases h with
    | tup a b => exact .tup (ex_t e a) (dps_up e ds b)
  | .dict _, _, h => by cases h
theorem dps_up (e : Ex G G') : ∀ (ds : List PyData) {vs : List V}, DpAll K G vs ds → DpAll K G' vs ds
  | [], _, h => by cases h; exact .nil
  | d :: ds, _, h => by
    cases h with
    | cons a b => exact .cons (dp_up e d a) (dps_up e ds b)
end
/-- a dict's items as data -/
def kD : Key → PyData
  | .inl i => .int i
  | .inr z => .str z
inductive DKs (K : PySem.W.Frag) (G : Hp) : List (Key × V) → List (PyData × PyData) → Prop
  | nil : DKs K G [] []
  | cons {k : Key} {v : V} {d : PyData} {kvs : List (Key × V)} {es : List (PyData × PyData)} : Dp K G v d → DKs K G kvs es → DKs K G ((k, v) :: kvs) ((kD k, d) :: es)
theorem DKs.up (e : Ex G G') : ∀ {kvs : List (Key × V)} {es : List (PyData × PyData)}, DKs K G kvs es → DKs K G' kvs es
  | _, _, .nil => .nil
  | _, _, .cons a r => .cons (dp_up e _ a) (r.up e)
theorem DKs.len : ∀ {kvs : List (Key × V)} {es : List (PyData × PyData)}, DKs K G kvs es → kvs.length = es.length
  | _, _, .nil => rfl
  | _, _, .cons _ r => congrArg (· + 1) r.len
theorem DKs.nil' {kvs : List (Key × V)} (h : DKs K G kvs []) : kvs = [] := by cases h; rfl
/-- .. or a dict of data -/
def Vl (K : PySem.W.Frag) (G : Hp) (v : V) (d : PyData) : Prop := Dp K G v d ∨ ∃ a kvs es, v = .ref a ∧ d = .dict es ∧ G a = some (.dK kvs) ∧ DKs K G kvs es
def tV (K : PySem.W.Frag) (d : PyData) : T := fun G v => Vl K G v d
theorem Vl.up (h : Vl K G v d) (e : Ex G G') : Vl K G' v d := h.imp (dp_up e d) fun ⟨a, kvs, es, e1, e2, e3, e4⟩ => ⟨a, kvs, es, e1, e2, e _ _ e3, e4.up e⟩
theorem Vl.toU (h : Vl K G v d) : U (tV K d) G v := fun _ e => h.up e
theorem vl_non : Vl K G .non .none := .inl .non
theorem vl_bl {b : Bool} : Vl K G (.bl b) (.bool b) := .inl (.bl b)
theorem vl_int {i : Int} : Vl K G (.int i) (.int i) := .inl (.int i)
theorem vl_str {z : Str} : Vl K G (.str z) (.str z) := .inl (.str z)
theorem Vl.int {i : Int} (h : Vl K G v (.int i)) : v = .int i := by
  rcases h with h | ⟨_, _, _, _, e, _⟩
  · cases h; rfl
  · cases e
theorem Vl.bl {b : Bool} (h : Vl K G v (.bool b)) : v = .bl b := by
  rcases h with h | ⟨_, _, _, _, e, _⟩
  · cases h; rfl
  · cases e
theorem Vl.str {z : Str} (h : Vl K G v (.str z)) : v = .str z := by
  rcases h with h | ⟨_, _, _, _, e, _⟩
  · cases h; rfl
  · cases e
theorem Vl.non (h : Vl K G v .none) : v = .non := by
  rcases h with h | ⟨_, _, _, _, e, _⟩
  · cases h; rfl
  · cases e
theorem Vl.tup {ds : List PyData} (h : Vl K G v (.tuple ds)) : ∃ a xs, v = .ref a ∧ SqT K G a xs ∧ DpAll K G xs ds := by
  rcases h with h | ⟨_, _, _, _, e, _⟩
  · cases h with
    | tup a b => exact ⟨_, _, rfl, a, b⟩
  · cases e
theorem Vl.lst {ds : List PyData} (h : Vl K G v (.list ds)) : ∃ a xs, v = .ref a ∧ SqL K G a xs ∧ DpAll K G xs ds := by
  rcases h with h | ⟨_, _, _, _, e, _⟩
  · cases h with
    | lst a b => exact ⟨_, _, rfl, a, b⟩
  · cases e
theorem Vl.dp (h : Vl K G v d) (s : SeqAt.shaped d = true) : Dp K G v d := by
  rcases h with h | ⟨_, _, _, _, e, _⟩
  · exact h
  · subst e
    exact absurd (SeqAt.canLay_of_shaped s) (by simp [PyData.canLay0])
theorem dps_len : ∀ {xs : List V} {ds : List PyData}, DpAll K G xs ds → xs.length = ds.length
  | _, _, .nil => rfl
  | _, _, .cons _ r => congrArg (· + 1) (dps_len r)
theorem dps_at : ∀ {xs : List V} {ds : List PyData} {i : Nat} {d : PyData}, DpAll K G xs ds → ds[i]? = some d → ∃ x, xs[i]? = some x ∧ Dp K G x d
  | _, _, _, _, .nil, h => by simp at h
  | _, _, 0, _, .cons a _, h => by
    cases (show some _ = some _ from h)
    exact ⟨_, rfl, a⟩
  | _, _, i + 1, _, .cons _ r, h => dps_at (i := i) r h
/-! kinds -/
def kd : PyData → String
  | .none => "NoneType"
  | .bool _ => "bool"
  | .int _ => "int"
  | .str _ => "str"
  | .list _ => "list"
  | .tuple _ => "tuple"
  | .dict _ => "dict"
theorem Vl.kt (h : Vl K G v d) : Ty.KT K G v (kd d) := by
  rcases h with h | ⟨a, _, _, rfl, rfl, e, _⟩
  · cases h with
    | non => exact .non
    | bl b => exact .bl b
    | int i => exact .int i
    | str z => exact .str z
    | lst a _ => exact .lst a
    | tup a _ => exact .tup a
  · exact .dic e
def isInt : PyData → Bool
  | .bool _ => true
  | .int _ => true
  | _ => false
def isBool : PyData → Bool
  | .bool _ => true
  | _ => false
def isStr : PyData → Bool
  | .str _ => true
  | _ => false
def isList : PyData → Bool
  | .list _ => true
  | _ => false
def isTup : PyData → Bool
  | .tuple _ => true
  | _ => false
def isDict : PyData → Bool
  | .dict _ => true
  | _ => false
theorem ki_int : kitB (kd d) "int" = some (isInt d) := by
  cases d with
  | none => exact (show kitB "NoneType" "int" = some false from by decide +kernel)
  | bool _ => exact (show kitB "bool" "int" = some true from by decide +kernel)
  | int _ => exact (show kitB "int" "int" = some true from by decide +kernel)
  | str _ => exact (show kitB "str" "int" = some false from by decide +kernel)
  | list _ => exact (show kitB "list" "int" = some false from by decide +kernel)
  | tuple _ => exact (show kitB "tuple" "int" = some false from by decide +kernel)
  | dict _ => exact (show kitB "dict" "int" = some false from by decide +kernel)
theorem ki_bool : kitB (kd d) "bool" = some (isBool d) := by
  cases d with
  | none => exact (show kitB "NoneType" "bool" = some false from by decide +kernel)
  | bool _ => exact (show kitB "bool" "bool" = some true from by decide +kernel)
  | int _ => exact (show kitB "int" "bool" = some false from by decide +kernel)
  | str _ => exact (show kitB "str" "bool" = some false from by decide +kernel)
  | list _ => exact (show kitB "list" "bool" = some false from by decide +kernel)
  | tuple _ => exact (show kitB "tuple" "bool" = some false from by decide +kernel)
  | dict _ => exact (show kitB "dict" "bool" = some false from by decide +kernel)
theorem ki_str : kitB (kd d) "str" = some (isStr d) := by
  cases d with
  | none => exact (show kitB "NoneType" "str" = some false from by decide +kernel)
  | bool _ => exact (show kitB "bool" "str" = some false from by decide +kernel)
  | int _ => exact (show kitB "int" "str" = some false from by decide +kernel)
  | str _ => exact (show kitB "str" "str" = some true from by decide +kernel)
  | list _ => exact (show kitB "list" "str" = some false from by decide +kernel)
  | tuple _ => exact (show kitB "tuple" "str" = some false from by decide +kernel)
  | dict _ => exact (show kitB "dict" "str" = some false from by decide +kernel)
theorem ki_list : kitB (kd d) "list" = some (isList d) := by
  cases d with
  | none => exact (show kitB "NoneType" "list" = some false from by decide +kernel)
  | bool _ => exact (show kitB "bool" "list" = some false from by decide +kernel)
  | int _ => exact (show kitB "int" "list" = some false from by decide +kernel)
  | str _ => exact (show kitB "str" "list" = some false from by decide +kernel)
  | list _ => exact (show kitB "list" "list" = some true from by decide +kernel)
  | tuple _ => exact (show kitB "tuple" "list" = some false from by decide +kernel)
  | dict _ => exact (show kitB "dict" "list" = some false from by decide +kernel)
theorem ki_tup : kitB (kd d) "tuple" = some (isTup d) := by
  cases d with
  | none => exact (show kitB "NoneType" "tuple" = some false from by decide +kernel)
  | bool _ => exact (show kitB "bool" "tuple" = some false from by decide +kernel)
  | int _ => exact (show kitB "int" "tuple" = some false from by decide +kernel)
  | str _ => exact (show kitB "str" "tuple" = some false from by decide +kernel)
  | list _ => exact (show kitB "list" "tuple" = some false from by decide +kernel)
  | tuple _ => exact (show kitB "tuple" "tuple" = some true from by decide +kernel)
  | dict _ => exact (show kitB "dict" "tuple" = some false from by decide +kernel)
theorem ki_dict : kitB (kd d) "dict" = some (isDict d) := by
  cases d with
  | none => exact (show kitB "NoneType" "dict" = some false from by decide +kernel)
  | bool _ => exact (show kitB "bool" "dict" = some false from by decide +kernel)
  | int _ => exact (show kitB "int" "dict" = some false from by decide +kernel)
  | str _ => exact (show kitB "str" "dict" = some false from by decide +kernel)
  | list _ => exact (show kitB "list" "dict" = some false from by decide +kernel)
  | tuple _ => exact (show kitB "tuple" "dict" = some false from by decide +kernel)
  | dict _ => exact (show kitB "dict" "dict" = some true from by decide +kernel)
theorem ev_isiV {c : String} {b : Bool} (ha : Ev o ta σ G (tV K d)) (h : kitB (kd d) c = some b) : Ev o (tCB (rIsi K) (tCons ta (tCons (tC (.ty c)) tNil))) σ G (tIs (.bl b)) :=
  ev_cb (ea_cons ha (ea_cons ev_k ea_nil)) fun G' vs e a => by
    cases a with
    | cons a1 a => cases a with
      | cons a2 a =>
        cases a
        rw [a2.eq]
        exact rc_q u_is fun G1 H1 e1 kn Q q => ⟨_, .ty c, .type (kd d), .type c, b, rfl, .ty c, ((a1.now.up (e1.trans kn.sub)).kt).ty, kit_ty h, q⟩
/-! readings -/
theorem ev_v {i : Nat} (h : σ[i]? = some (some v)) (w : Vl K G v d) : Ev o (tVar i) σ G (tV K d) := ev_var h w.toU
theorem Ev.isInt {i : Int} (h : Ev o te σ G (tV K (.int i))) : Ev o te σ G (tIs (.int i)) := h.imp fun _ _ _ w => by rw [w.now.int]; exact u_is
theorem Ev.isBl {b : Bool} (h : Ev o te σ G (tV K (.bool b))) : Ev o te σ G (tIs (.bl b)) := h.imp fun _ _ _ w => by rw [w.now.bl]; exact u_is
theorem Ev.isStr {z : Str} (h : Ev o te σ G (tV K (.str z))) : Ev o te σ G (tIs (.str z)) := h.imp fun _ _ _ w => by rw [w.now.str]; exact u_is
theorem Ev.vInt {i : Int} (h : Ev o te σ G (tIs (.int i))) : Ev o te σ G (tV K (.int i)) := h.imp fun _ _ _ w => by rw [w.eq]; exact vl_int.toU
theorem Ev.vBl {b : Bool} (h : Ev o te σ G (tIs (.bl b))) : Ev o te σ G (tV K (.bool b)) := h.imp fun _ _ _ w => by rw [w.eq]; exact vl_bl.toU
theorem Ev.vStr {z : Str} (h : Ev o te σ G (tIs (.str z))) : Ev o te σ G (tV K (.str z)) := h.imp fun _ _ _ w => by rw [w.eq]; exact vl_str.toU
theorem Ev.vNon (h : Ev o te σ G (tIs .non)) : Ev o te σ G (tV K .none) := h.imp fun _ _ _ w => by rw [w.eq]; exact vl_non.toU
inductive AllV (K : PySem.W.Frag) : List T → List PyData → Prop
  | nil : AllV K [] []
  | cons {d : PyData} {ts : List T} {ds : List PyData} : AllV K ts ds → AllV K (tV K d :: ts) (d :: ds)
theorem allV : ∀ ds : List PyData, AllV K (ds.map (tV K)) ds
  | [] => .nil
  | _ :: r => .cons (allV r)
theorem dps_of : ∀ {ds : List PyData} {vs : List V}, (∀ d' ∈ ds, SeqAt.shaped d' = true) → AllU G (ds.map (tV K)) vs → DpAll K G vs ds
  | [], _, _, h => by cases h; exact .nil
  | d :: ds, _, hs, h => by
    cases h with
    | cons a b => exact .cons (a.now.dp (hs d (List.mem_cons_self ..))) (dps_of (fun d' h' => hs d' (List.mem_cons_of_mem _ h')) b)
theorem ev_tupV {ta : TA} {ds : List PyData} (h : EvA o ta σ G (ds.map (tV K))) (hs : ∀ d' ∈ ds, SeqAt.shaped d' = true) (hl : ds.length ≤ 100000) : Ev o (tTup ta) σ G (tV K (.tuple ds)) :=
  (ev_tup (K := K) h (by rw [List.length_map]; exact hl)).imp fun G' v e w => by
    obtain ⟨a, vs, rfl, hs', hu⟩ := w.now
    exact Vl.toU (.inl (.tup hs' (dps_of hs hu)))
theorem ev_lstV {ta : TA} {ds : List PyData} (h : EvA o ta σ G (ds.map (tV K))) (hs : ∀ d' ∈ ds, SeqAt.shaped d' = true) (hl : ds.length ≤ 100000) : Ev o (tLst ta) σ G (tV K (.list ds)) :=
  (en_lst h (by rw [List.length_map]; exact hl)).ev fun G' a xs e ha hp => .inl (.lst (.of ha) (dps_of hs hp.now))
theorem ev_eqV {b : Bool} (ha : Ev o ta σ G (tV K d)) (hb : Ev o tb σ G (tV K e)) (sd : SeqAt.shaped d = true) (se : SeqAt.shaped e = true) (h : PyData.eqv d e = b) : Ev o (tOp (rEqG K) ta tb) σ G (tIs (.bl b)) := by
  subst h
  exact ev_op ha hb fun G' x y e' hx hy => .rgt (.rgt (ro_q u_is fun G1 H1 e1 kn Q q => ⟨d, e, (hx.now.up (e1.trans kn.sub)).dp sd, (hy.now.up (e1.trans kn.sub)).dp se, sd, se, q⟩))
theorem ev_neV {b : Bool} (ha : Ev o ta σ G (tV K d)) (hb : Ev o tb σ G (tV K e)) (sd : SeqAt.shaped d = true) (se : SeqAt.shaped e = true) (h : (!PyData.eqv d e) = b) : Ev o (tOp (rNeG K) ta tb) σ G (tIs (.bl b)) := by
  subst h
  exact ev_op ha hb fun G' x y e' hx hy => .rgt (.rgt (ro_q u_is fun G1 H1 e1 kn Q q => ⟨d, e, (hx.now.up (e1.trans kn.sub)).dp sd, (hy.now.up (e1.trans kn.sub)).dp se, sd, se, q⟩))
theorem ev_inTV {ds : List PyData} {b : Bool} (ha : Ev o ta σ G (tV K d)) (hb : Ev o tb σ G (tV K (.tuple ds))) (sd : SeqAt.shaped d = true) (se : SeqAt.shaped (.tuple ds) = true) (h : (ds.any fun z => PyData.eqv z d) = b) : Ev o (tOp (rInTD K) ta tb) σ G (tIs (.bl b)) := by
  subst h
  exact ev_op ha hb fun G' x y e' hx hy => ro_q u_is fun G1 H1 e1 kn Q q => ⟨d, ds, (hx.now.up (e1.trans kn.sub)).dp sd, (hy.now.up (e1.trans kn.sub)).dp se, sd, se, q⟩
theorem ev_ixT {ds : List PyData} {i : Nat} (ha : Ev o ta σ G (tV K (.tuple ds))) (hb : Ev o tb σ G (tIs (.int i))) (h : ds[i]? = some d) : Ev o (tOp (rIx K) ta tb) σ G (tV K d) :=
  ev_op ha hb fun G' x y e' hx hy => by
    obtain ⟨a, xs, rfl, hs, hd⟩ := hx.now.tup
    obtain ⟨v, hv, hp⟩ := dps_at hd h
    rw [hy.eq]
    exact fun G1 H1 e1 kn Q q => ro_ixT hs (at_of rfl hv) G1 H1 e1 kn Q fun v' G3 H3 g3 w3 => q v' G3 H3 g3 (by rw [w3.eq]; exact Vl.toU (.inl (dp_up (e1.trans g3.gg) _ hp)))
theorem ev_ixLV {ds : List PyData} {i : Nat} (ha : Ev o ta σ G (tV K (.list ds))) (hb : Ev o tb σ G (tIs (.int i))) (h : ds[i]? = some d) : Ev o (tOp (rIx K) ta tb) σ G (tV K d) :=
  ev_op ha hb fun G' x y e' hx hy => by
    obtain ⟨a, xs, rfl, hs, hd⟩ := hx.now.lst
    obtain ⟨v, hv, hp⟩ := dps_at hd h
    rw [hy.eq]
    exact fun G1 H1 e1 kn Q q => ro_ixL hs (at_of rfl hv) G1 H1 e1 kn Q fun v' G3 H3 g3 w3 => q v' G3 H3 g3 (by rw [w3.eq]; exact Vl.toU (.inl (dp_up (e1.trans g3.gg) _ hp)))
theorem ev_lenT {ds : List PyData} (ha : Ev o ta σ G (tV K (.tuple ds))) : Ev o (tCB (rLen K) (tCons ta tNil)) σ G (tIs (.int ds.length)) :=
  ev_cb (ea_cons ha ea_nil) fun G' vs e a => by
    cases a with
    | cons a1 a =>
      cases a
      obtain ⟨p, xs, rfl, hs, hd⟩ := a1.now.tup
      rw [← dps_len hd]
      exact rc_lenT hs
theorem ev_lenLV {ds : List PyData} (ha : Ev o ta σ G (tV K (.list ds))) : Ev o (tCB (rLen K) (tCons ta tNil)) σ G (tIs (.int ds.length)) :=
  ev_cb (ea_cons ha ea_nil) fun G' vs e a => by
    cases a with
    | cons a1 a =>
      cases a
      obtain ⟨p, xs, rfl, hs, hd⟩ := a1.now.lst
      rw [← dps_len hd]
      exact rc_lenL hs
def isNon : PyData → Bool
  | .none => true
  | _ => false
theorem ev_isNV (ha : Ev o ta σ G (tV K d)) : Ev o (tOp (fun x y H Q => y = .non ∧ Q (.bl (decide (x = .non))) H) ta (tC .non)) σ G (tIs (.bl (isNon d))) :=
  ev_op ha ev_k fun G' x y e hx hy => by
    rw [hy.eq]
    have hd : decide (x = .non) = isNon d := by
      have w := hx.now
      rcases w with h | ⟨a, _, _, rfl, rfl, _⟩
      · cases h <;> rfl
      · rfl
    rw [← hd]
    exact ro_isN
/-! ints -/
theorem ev_i0 {g : Int → Int → V} {i j : Int} (ha : Ev o ta σ G (tIs (.int i))) (hb : Ev o tb σ G (tIs (.int j))) : Ev o (tOp (rI0 g) ta tb) σ G (tIs (g i j)) := ev_op2 ha hb ro_I0
theorem ev_iC {C : Int → Int → Prop} {g : Int → Int → V} {i j : Int} (ha : Ev o ta σ G (tIs (.int i))) (hb : Ev o tb σ G (tIs (.int j))) (hc : C i j) : Ev o (tOp (rI C g) ta tb) σ G (tIs (g i j)) := ev_op2 ha hb (ro_I hc)
theorem ev_addI {i j : Int} (ha : Ev o ta σ G (tIs (.int i))) (hb : Ev o tb σ G (tIs (.int j))) : Ev o (tOp (rAddG K) ta tb) σ G (tIs (.int (i + j))) := ev_op2 ha hb ro_addI
theorem ev_chain2 {f f' : Int → Int → Bool} {i j k : Int} (ha : Ev o ta σ G (tIs (.int i))) (hb : Ev o tb σ G (tIs (.int j))) (hc : Ev o tc σ G (tIs (.int k))) :
    Ev o (tChain (rI0 fun i j => .bl (f i j)) (rI0 fun i j => .bl (f' i j)) ta tb tc) σ G (tIs (.bl (f i j && f' j k))) := ev_chain ha hb (fun _ _ => ro_I0) hc fun _ _ => ro_I0
theorem ev_chain3 {f f' f2 : Int → Int → Bool} {i j k l : Int} (ha : Ev o ta σ G (tIs (.int i))) (hb : Ev o tb σ G (tIs (.int j))) (hc : Ev o tc σ G (tIs (.int k))) (hd : Ev o td σ G (tIs (.int l))) :
    Ev o (tChain3 (rI0 fun i j => .bl (f i j)) (rI0 fun i j => .bl (f' i j)) (rI0 fun i j => .bl (f2 i j)) ta tb tc td) σ G (tIs (.bl (f i j && (f' j k && f2 k l)))) := fun G1 H1 e kn Q q =>
  ha G1 H1 e kn _ fun v1 G2 H2 g2 w2 => hb G2 H2 (e.trans g2.gg) g2.kn _ fun v2 G3 H3 g3 w3 => by
    rw [w2.eq, w3.eq]
    refine ⟨i, j, rfl, rfl, f i j, rfl, ?_⟩
    have g := g2.trans g3
    revert q
    generalize f i j = b1
    intro q
    cases b1 with
    | false => exact q _ G3 H3 g u_is
    | true =>
      refine hc G3 H3 (e.trans g.gg) g3.kn _ fun v4 G4 H4 g4 w4 => ?_
      rw [w4.eq]
      refine ⟨j, k, rfl, rfl, f' j k, rfl, ?_⟩
      revert q
      generalize f' j k = b2
      intro q
      cases b2 with
      | false => exact q _ G4 H4 (g.trans g4) u_is
      | true =>
        refine hd G4 H4 (e.trans (g.trans g4).gg) g4.kn _ fun v5 G5 H5 g5 w5 => ?_
        rw [w5.eq]
        exact ⟨k, l, rfl, rfl, q _ G5 H5 ((g.trans g4).trans g5) u_is⟩
end
/-! ### an object of one's own, known for a while -/
section
variable {o : Option Addr} {G H G2 H2 : Hp} {a : Addr} {x : HO}
theorem Go.lend (k : Kn o G H) (ga : G a = none) (ha : H a = some x) (ho : o ≠ some a) : Kn o (upd G a x) H := ⟨fun b y h => by
  by_cases e : b = a
  · rw [e, upd_same] at h; rw [e, ha, h]
  · rw [upd_ne e] at h; exact k.sub b y h, fun b z => by
  obtain ⟨q, q2⟩ := k.box b z
  exact ⟨q, by rw [upd_ne (fun e => ho (by rw [z, e]))]; exact q2⟩⟩
theorem Go.back (g : Go o (upd G a x) H G2 H2) (ga : G a = none) : Go o G H (L2.del G2 a) H2 where
  gg := fun b y h => by
    have e : b ≠ a := fun z => by rw [z, ga] at h; cases h
    rw [L2.del_ne e]
    exact g.gg b y (by rw [upd_ne e]; exact h)
  kn := ⟨fun b y h => by
    by_cases e : b = a
    · rw [e, L2.del_same] at h; cases h
    · rw [L2.del_ne e] at h; exact g.kn.sub b y h, fun b z => by
    obtain ⟨q, q2⟩ := g.kn.box b z
    refine ⟨q, ?_⟩
    by_cases e : b = a
    · rw [e, L2.del_same]
    · rw [L2.del_ne e]; exact q2⟩
  kp := g.kp
  nw := fun c h n => by
    by_cases e : c = a
    · rw [e, L2.del_same]
    · rw [L2.del_ne e]; exact g.nw c (by rw [upd_ne e]; exact h) n
end
end Ty
set_option Elab.async false
set_option linter.all false
set_option maxRecDepth 100000
set_option maxHeartbeats 4000000
/-! Dicts: len, a copy, walks under a lock; values that are the same; copies, errors that keep the very value. -/
namespace Ty
open PySem L2 PySem.Spec PyProof.Rows
open Evl (Ex ex_l ex_t)
section
variable {X : Cx} {K : PySem.W.Frag}
def rLenD : List V → Hp → VK → Prop := fun xs H Q => ∃ a kvs, xs = [.ref a] ∧ Rd H a (.dK kvs) ∧ Q (.int (List.length (α := Key × V) kvs)) H
theorem call_lenD : CallR X (.builtin "len") rLenD := by
  intro pins s σ H xs us Q I r h
  obtain ⟨a, kvs, rfl, e, q⟩ := h
  obtain ⟨u, rfl, rx⟩ := vals1 r
  cases (show u = Value.ref a from rx)
  exact d_len I e fun t s' I' => ⟨.int kvs.length, H, I', ⟨t, rfl⟩, q⟩
abbrev rLenA (K : PySem.W.Frag) : List V → Hp → VK → Prop := fun xs H Q => rLen K xs H Q ∨ rLenD xs H Q
theorem kLenA (e : X.K = K) : CallR X (.builtin "len") (rLenA K) := e ▸ gLen.or call_lenD
def rDictOf : List V → Hp → VK → Prop := fun xs H Q => ∃ (a : Addr) (kvs : List (Key × V)), xs = [.ref a] ∧ Rd H a (.dK kvs) ∧ ∀ p, H p = none → Q (.ref p) (upd H p (.dK kvs))
theorem call_dictOf : CallR X (.type "dict") rDictOf := by
  intro pins s σ H xs us Q I r h
  obtain ⟨a, kvs, rfl, e, q⟩ := h
  obtain ⟨u, rfl, rx⟩ := vals1 r
  cases (show u = Value.ref a from rx)
  exact d_copyOf I e fun p s' hp I' => ⟨.ref p, _, I', rfl, q p hp⟩
end
section
variable {K : PySem.W.Frag} {o : Option Addr} {σ : L2.St} {G G' Ge He H G2 H2 : Hp} {ta tb tc td te : TE} {s t u : T} {x y v : V} {d e : PyData} {D : Ends} {tz : TS}
/-! ### a lock -/
theorem Kn.lock {b : Addr} {z : HO} (k : Kn .none G H) : Kn .none (upd G b z) (upd H b z) := ⟨fun c y h => by
  by_cases e : c = b
  · rw [e, upd_same] at h ⊢; exact h
  · rw [upd_ne e] at h ⊢; exact k.sub c y h, fun _ z => by cases z⟩
theorem Go.unlock {b : Addr} {z w : HO} (k : Kn .none G H) (gb : G b = some w) (hb : H b = some w) (g : Go .none (upd G b z) (upd H b z) G2 H2) : Go .none G H (upd G2 b w) (upd H2 b w) where
  gg := fun c y h => by
    by_cases e : c = b
    · rw [e, gb] at h; rw [e, upd_same]; exact h
    · rw [upd_ne e]; exact g.gg c y (by rw [upd_ne e]; exact h)
  kn := g.kn.lock
  kp := fun c y h _ => by
    by_cases e : c = b
    · rw [e, hb] at h; rw [e, upd_same]; exact h
    · rw [upd_ne e]; exact g.kp c y (by rw [upd_ne e]; exact h) (by simp)
  nw := fun c h n => by
    by_cases e : c = b
    · rw [e, gb] at h; cases h
    · rw [upd_ne e]; exact g.nw c (by rw [upd_ne e]; exact h) (by rw [upd_ne e]; exact n)
/-- a reading under a lock of what is known -/
theorem ev_lock {b : Addr} {w : HO} (gb : ∀ G', Ex G G' → G' b = some w) (mu : Mut (some w)) (h : ∀ G' od, Ex G G' → Ev .none te σ (upd G' b (.frz od w)) (tIs v)) : Ev .none (tLockE te) σ G (tIs v) := fun G1 H1 e kn Q q => by
  have g1 := gb G1 e
  have h1 := kn.sub _ _ g1
  refine ⟨b, w, h1, mu, fun od => h G1 od e _ _ (Ex.refl _) kn.lock _ fun v2 G2 H2 g2 w2 => ?_⟩
  exact ⟨g2.kn.sub _ _ (g2.gg b _ upd_same), q v2 _ _ (Go.unlock kn g1 h1 g2) (by rw [w2.eq]; exact u_is)⟩
theorem ei_keys {kvs : List (Key × V)} {a : Addr} {od : Obj} {P : PL} (h : Ev o td σ G (tIs (.ref a))) (hg : G a = some (.frz od (.dK kvs))) (k : ∀ G', Ex G G' → UP P G' (kvs.map fun kv => kV kv.1)) : EvI o (iKeys td) σ G P := fun G1 H1 e kn R r =>
  h G1 H1 e kn _ fun v G2 H2 g2 w2 => by
    have g3 : G2 a = some (.frz od (.dK kvs)) := g2.gg _ _ (e _ _ hg)
    refine ⟨a, od, w2.eq, .inl ⟨kvs, g2.kn.sub _ _ g3, r _ G2 H2 (kvs.map fun kv => kV kv.1) g2 ?_ (k G2 (e.trans g2.gg))⟩⟩
    rw [List.length_map]
    refine walk_keys.mono (fun H' e' => e' _ _ g3) fun i H' x H'' hi _ y => ?_
    obtain ⟨e1, k, v, hk, e2⟩ := y
    refine ⟨e1, ?_⟩
    rw [List.getElem?_map, hk, e2]
    rfl
theorem Rd.up {a : Addr} {w : HO} (h : Rd G a w) (e : Ex G G') : Rd G' a w := by
  rcases h with h | ⟨od, h⟩
  · exact .inl (e _ _ h)
  · exact .inr ⟨od, e _ _ h⟩
theorem ev_dget {a : Addr} {kvs : List (Key × V)} {k : Key} (h : Ev o td σ G (tIs (.ref a))) (hk : Ev o tb σ G (tIs (kV k))) (hr : Rd G a (.dK kvs)) (hv : valV kvs k = some v) : Ev o (tDGet td tb) σ G (tIs v) := fun G1 H1 e kn Q q =>
  h G1 H1 e kn _ fun v2 G2 H2 g2 w2 => hk G2 H2 (e.trans g2.gg) g2.kn _ fun v3 G3 H3 g3 w3 => by
    have g := g2.trans g3
    exact ⟨a, v, w2.eq, .inl ⟨kvs, k, Rd.up hr ((e.trans g.gg).trans g3.kn.sub), w3.eq, hv.symm⟩, q v G3 H3 g u_is⟩
theorem ev_dnotin {a : Addr} {kvs : List (Key × V)} {k : Key} {b : Bool} (hk : Ev o tb σ G (tIs (kV k))) (h : Ev o td σ G (tIs (.ref a))) (hr : Rd G a (.dK kvs)) (hv : (!(valV kvs k).isSome) = b) : Ev o (tDNotIn tb td) σ G (tIs (.bl b)) := fun G1 H1 e kn Q q =>
  hk G1 H1 e kn _ fun v2 G2 H2 g2 w2 => h G2 H2 (e.trans g2.gg) g2.kn _ fun v3 G3 H3 g3 w3 => by
    have g := g2.trans g3
    exact ⟨a, _, w3.eq, .inl ⟨kvs, k, Rd.up hr ((e.trans g.gg).trans g3.kn.sub), w2.eq, rfl⟩, q _ G3 H3 g (by rw [hv]; exact u_is)⟩
theorem ev_din {a : Addr} {kvs : List (Key × V)} {k : Key} {b : Bool} (hk : Ev o tb σ G (tIs (kV k))) (h : Ev o td σ G (tIs (.ref a))) (hr : Rd G a (.dK kvs)) (hv : (valV kvs k).isSome = b) : Ev o (tDIn tb td) σ G (tIs (.bl b)) := fun G1 H1 e kn Q q =>
  hk G1 H1 e kn _ fun v2 G2 H2 g2 w2 => h G2 H2 (e.trans g2.gg) g2.kn _ fun v3 G3 H3 g3 w3 => by
    have g := g2.trans g3
    exact ⟨a, _, w3.eq, .inl ⟨kvs, k, Rd.up hr ((e.trans g.gg).trans g3.kn.sub), w2.eq, rfl⟩, q _ G3 H3 g (by rw [hv]; exact u_is)⟩
theorem valV_has {kvs : List (Key × V)} {i : Nat} {k : Key} {v : V} (h : kvs[i]? = some (k, v)) : ∃ w, valV kvs k = some w ∧ ∃ j : Key, (j, w) ∈ kvs := by
  have hm : (k, v) ∈ kvs := List.mem_of_getElem? h
  have hs : (valV kvs k).isSome = true := by
    rw [← valV_any]
    exact List.any_eq_true.mpr ⟨_, hm, by simp⟩
  obtain ⟨w, hw⟩ := Option.isSome_iff_exists.mp hs
  refine ⟨w, hw, ?_⟩
  unfold valV at hw
  obtain ⟨p, hp, e⟩ := Option.map_eq_some_iff.mp hw
  exact ⟨p.1, by rw [← e]; exact List.mem_of_find?_eq_some hp⟩
theorem rc_lenA {vs : List V} (h : RC o (rLen K) vs G t) : RC o (rLenA K) vs G t := fun G1 H1 a kn Q q => .inl (h G1 H1 a kn Q q)
theorem rc_lenDA {a : Addr} {kvs : List (Key × V)} (h : G a = some (.dK kvs)) : RC o (rLenA K) [.ref a] G (tIs (.int kvs.length)) := rc_q u_is fun G1 H1 e kn Q q => .inr ⟨a, kvs, rfl, .inl (kn.sub _ _ (e _ _ h)), q⟩
/-! ### the same, place by place -/
def fl : V → Bool
  | .non => true
  | .bl _ => true
  | .int _ => true
  | .str _ => true
  | _ => false
/-- .. without dicts -/
def Sm0 (K : PySem.W.Frag) : Nat → Hp → V → V → Prop
  | 0, _, _, _ => False
  | n + 1, G, x, y => (x = y ∧ fl x = true) ∨ (∃ a b xs ys, x = .ref a ∧ y = .ref b ∧ SqL K G a xs ∧ SqL K G b ys ∧ xs.length ≤ 1000 ∧ Paired (Sm0 K n G) xs ys) ∨
      (∃ a b xs ys, x = .ref a ∧ y = .ref b ∧ SqT K G a xs ∧ SqT K G b ys ∧ xs.length ≤ 1000 ∧ Paired (Sm0 K n G) xs ys)
theorem Sm0.up {K : PySem.W.Frag} {G G' : Hp} (e : Ex G G') : ∀ {n : Nat} {x y : V}, Sm0 K n G x y → Sm0 K n G' x y
  | 0, _, _, h => h
  | n + 1, x, y, h => by
    rcases h with h | ⟨a, b, xs, ys, e1, e2, h1, h2, hl, h3⟩ | ⟨a, b, xs, ys, e1, e2, h1, h2, hl, h3⟩
    · exact .inl h
    · exact .inr (.inl ⟨a, b, xs, ys, e1, e2, ex_l e h1, ex_l e h2, hl, L2.Paired.mapP h3 fun _ _ => Sm0.up e⟩)
    · exact .inr (.inr ⟨a, b, xs, ys, e1, e2, ex_t e h1, ex_t e h2, hl, L2.Paired.mapP h3 fun _ _ => Sm0.up e⟩)
theorem sqL_lock {b c : Addr} {z : HO} {xs : List V} {kvs : List (Key × V)} (h : SqL K G c xs) (hb : G b = some (.dK kvs)) : SqL K (upd G b z) c xs := by
  rcases h with (h | ⟨od, h⟩) | h
  · exact .inl (.inl (by rw [upd_ne (fun q => by rw [q, hb] at h; cases h)]; exact h))
  · exact .inl (.inr ⟨od, by rw [upd_ne (fun q => by rw [q, hb] at h; cases h)]; exact h⟩)
  · exact .inr h
theorem sqT_lock {b c : Addr} {z : HO} {xs : List V} {kvs : List (Key × V)} (h : SqT K G c xs) (hb : G b = some (.dK kvs)) : SqT K (upd G b z) c xs := by
  rcases h with (h | ⟨od, h⟩) | h
  · exact .inl (.inl (by rw [upd_ne (fun q => by rw [q, hb] at h; cases h)]; exact h))
  · exact .inl (.inr ⟨od, by rw [upd_ne (fun q => by rw [q, hb] at h; cases h)]; exact h⟩)
  · exact .inr h
theorem Sm0.lock {b : Addr} {z : HO} {kvs : List (Key × V)} (hb : G b = some (.dK kvs)) : ∀ {n : Nat} {x y : V}, Sm0 K n G x y → Sm0 K n (upd G b z) x y
  | 0, _, _, h => h
  | n + 1, x, y, h => by
    rcases h with h | ⟨c, d, xs, ys, e1, e2, h1, h2, hl, h3⟩ | ⟨c, d, xs, ys, e1, e2, h1, h2, hl, h3⟩
    · exact .inl h
    · exact .inr (.inl ⟨c, d, xs, ys, e1, e2, sqL_lock h1 hb, sqL_lock h2 hb, hl, L2.Paired.mapP h3 fun _ _ => Sm0.lock hb⟩)
    · exact .inr (.inr ⟨c, d, xs, ys, e1, e2, sqT_lock h1 hb, sqT_lock h2 hb, hl, L2.Paired.mapP h3 fun _ _ => Sm0.lock hb⟩)
theorem Sm0.more : ∀ {n : Nat} {x y : V}, Sm0 K n G x y → Sm0 K (n + 1) G x y
  | 0, _, _, h => h.elim
  | n + 1, x, y, h => by
    rcases h with h | ⟨a, b, xs, ys, e1, e2, h1, h2, hl, h3⟩ | ⟨a, b, xs, ys, e1, e2, h1, h2, hl, h3⟩
    · exact .inl h
    · exact .inr (.inl ⟨a, b, xs, ys, e1, e2, h1, h2, hl, L2.Paired.mapP h3 fun _ _ => Sm0.more⟩)
    · exact .inr (.inr ⟨a, b, xs, ys, e1, e2, h1, h2, hl, L2.Paired.mapP h3 fun _ _ => Sm0.more⟩)
def Sm (K : PySem.W.Frag) : Nat → Hp → V → V → Prop
  | 0, _, _, _ => False
  | n + 1, G, x, y => (x = y ∧ fl x = true) ∨ (∃ a b xs ys, x = .ref a ∧ y = .ref b ∧ SqL K G a xs ∧ SqL K G b ys ∧ xs.length ≤ 1000 ∧ Paired (Sm K n G) xs ys) ∨
      (∃ a b xs ys, x = .ref a ∧ y = .ref b ∧ SqT K G a xs ∧ SqT K G b ys ∧ xs.length ≤ 1000 ∧ Paired (Sm K n G) xs ys) ∨
      ∃ a b kvs kvs', x = .ref a ∧ y = .ref b ∧ G a = some (.dK kvs) ∧ G b = some (.dK kvs') ∧ kvs.length = kvs'.length ∧ kvs'.length ≤ 1000 ∧ ∀ kv ∈ kvs', ∃ u v, valV kvs kv.1 = some u ∧ valV kvs' kv.1 = some v ∧ Sm0 K n G u v
theorem Sm.up {K : PySem.W.Frag} {G G' : Hp} (e : Ex G G') : ∀ {n : Nat} {x y : V}, Sm K n G x y → Sm K n G' x y
  | 0, _, _, h => h
  | n + 1, x, y, h => by
    rcases h with h | ⟨a, b, xs, ys, e1, e2, h1, h2, hl, h3⟩ | ⟨a, b, xs, ys, e1, e2, h1, h2, hl, h3⟩ | ⟨a, b, kvs, kvs', e1, e2, h1, h2, hl, h3, h4⟩
    · exact .inl h
    · exact .inr (.inl ⟨a, b, xs, ys, e1, e2, ex_l e h1, ex_l e h2, hl, L2.Paired.mapP h3 fun _ _ => Sm.up e⟩)
    · exact .inr (.inr (.inl ⟨a, b, xs, ys, e1, e2, ex_t e h1, ex_t e h2, hl, L2.Paired.mapP h3 fun _ _ => Sm.up e⟩))
    · exact .inr (.inr (.inr ⟨a, b, kvs, kvs', e1, e2, e _ _ h1, e _ _ h2, hl, h3, fun kv m => by
        obtain ⟨u, v, q1, q2, q3⟩ := h4 kv m
        exact ⟨u, v, q1, q2, q3.up e⟩⟩))
theorem Sm.flat {n : Nat} {x : V} (h : fl x = true) : Sm K (n + 1) G x x := .inl ⟨rfl, h⟩
theorem Sm.more : ∀ {n : Nat} {x y : V}, Sm K n G x y → Sm K (n + 1) G x y
  | 0, _, _, h => h.elim
  | n + 1, x, y, h => by
    rcases h with h | ⟨a, b, xs, ys, e1, e2, h1, h2, hl, h3⟩ | ⟨a, b, xs, ys, e1, e2, h1, h2, hl, h3⟩ | ⟨a, b, kvs, kvs', e1, e2, h1, h2, hl, h3, h4⟩
    · exact .inl h
    · exact .inr (.inl ⟨a, b, xs, ys, e1, e2, h1, h2, hl, L2.Paired.mapP h3 fun _ _ => Sm.more⟩)
    · exact .inr (.inr (.inl ⟨a, b, xs, ys, e1, e2, h1, h2, hl, L2.Paired.mapP h3 fun _ _ => Sm.more⟩))
    · exact .inr (.inr (.inr ⟨a, b, kvs, kvs', e1, e2, h1, h2, hl, h3, fun kv m => by
        obtain ⟨u, v, q1, q2, q3⟩ := h4 kv m
        exact ⟨u, v, q1, q2, q3.more⟩⟩))
theorem Sm0.sm : ∀ {n : Nat} {x y : V}, Sm0 K n G x y → Sm K n G x y
  | 0, _, _, h => h.elim
  | n + 1, x, y, h => by
    rcases h with h | ⟨a, b, xs, ys, e1, e2, h1, h2, hl, h3⟩ | ⟨a, b, xs, ys, e1, e2, h1, h2, hl, h3⟩
    · exact .inl h
    · exact .inr (.inl ⟨a, b, xs, ys, e1, e2, h1, h2, hl, L2.Paired.mapP h3 fun _ _ => Sm0.sm⟩)
    · exact .inr (.inr (.inl ⟨a, b, xs, ys, e1, e2, h1, h2, hl, L2.Paired.mapP h3 fun _ _ => Sm0.sm⟩))
theorem sm_dict {n : Nat} {a : Addr} {kvs : List (Key × V)} (h : G a = some (.dK kvs)) (hl : kvs.length ≤ 1000) (hx : ∀ kv ∈ kvs, Sm0 K n G kv.2 kv.2) : Sm K (n + 1) G (.ref a) (.ref a) :=
  .inr (.inr (.inr ⟨a, a, kvs, kvs, rfl, rfl, h, h, rfl, hl, fun kv m => by
    obtain ⟨i, hi⟩ := List.getElem?_of_mem m
    obtain ⟨w, hw, j, hj⟩ := valV_has (k := kv.1) (v := kv.2) hi
    exact ⟨w, w, hw, hw, hx _ hj⟩⟩))
theorem Paired.at' {α β : Type} {R : α → β → Prop} : ∀ {xs : List α} {ys : List β} {i : Nat}, Paired R xs ys → i < xs.length → ∃ x y, xs[i]? = some x ∧ ys[i]? = some y ∧ R x y
  | _, _, i, .nil, h => absurd h (Nat.not_lt_zero i)
  | _, _, 0, .cons r _, _ => ⟨_, _, rfl, rfl, r⟩
  | _, _, i + 1, .cons _ t, h => Paired.at' (i := i) t (Nat.lt_of_succ_lt_succ h)
def cSame (K : PySem.W.Frag) (n : Nat) (o : Option Addr) (G : Hp) (vs : List V) (t : T) : Prop := o = none ∧ ∃ x y, vs = [x, y] ∧ Sm K n G x y ∧ t = tIs (.bl true)
def tNilL : T := fun G v => ∃ a, v = .ref a ∧ G a = some (.lst [])
theorem ev_nilL {te : TE} {P : PL} (h : EvN o te σ G P) (k : ∀ G' xs, UP P G' xs → xs = []) : Ev o te σ G tNilL :=
  h.ev fun G' a xs _ ha hp => ⟨a, rfl, by rw [ha, k G' xs hp]⟩
theorem ev_nil : Ev o (tLst tNil) σ G tNilL := ev_nilL (en_lst ea_nil (by decide)) fun G' xs h => by
  have a := h.now
  cases a
  rfl
theorem ev_eqNil {te : TE} (h : Ev o te σ G tNilL) : Ev o (tOp (rEqG K) te (tLst tNil)) σ G (tIs (.bl true)) :=
  ev_op h ev_nil fun G' x y _ hx hy => by
    obtain ⟨a, rfl, ha⟩ := hx.now
    obtain ⟨b, rfl, hb⟩ := hy.now
    exact ro_eqN (xs := []) (.of ha) (.of hb)
/-! ### data are the same as themselves -/
/-- not deeper than n, no list of more than 900 -/
def okn : Nat → PyData → Bool
  | 0, _ => false
  | n + 1, .list ds => decide (ds.length ≤ 900) && ds.all (okn n)
  | n + 1, .tuple ds => decide (ds.length ≤ 900) && ds.all (okn n)
  | n + 1, .dict es => decide (es.length ≤ 900) && es.all (fun p => okn n p.2)
  | _ + 1, _ => true
theorem sm_dp : ∀ {n : Nat} {v : V} {d : PyData}, okn n d = true → Dp K G v d → Sm0 K n G v v
  | 0, v, d, h, _ => by cases h
  | n + 1, v, d, h, w => by
    have all : ∀ {xs : List V} {ds : List PyData}, DpAll K G xs ds → ds.all (okn n) = true → Paired (Sm0 K n G) xs xs := fun {xs ds} a => by
      intro hh
      induction ds generalizing xs with
      | nil => cases a; exact .nil
      | cons d ds ih =>
        cases a with
        | cons a b =>
          rw [List.all_cons, Bool.and_eq_true] at hh
          exact .cons (sm_dp hh.1 a) (ih b hh.2)
    cases w with
    | non => exact .inl ⟨rfl, rfl⟩
    | bl b => exact .inl ⟨rfl, rfl⟩
    | int i => exact .inl ⟨rfl, rfl⟩
    | str z => exact .inl ⟨rfl, rfl⟩
    | @lst a xs ds hs hd =>
      have h' := Bool.and_eq_true_iff.mp h
      have hl := of_decide_eq_true h'.1
      exact .inr (.inl ⟨_, _, _, _, rfl, rfl, hs, hs, by rw [dps_len hd]; omega, all hd h'.2⟩)
    | @tup a xs ds hs hd =>
      have h' := Bool.and_eq_true_iff.mp h
      have hl := of_decide_eq_true h'.1
      exact .inr (.inr ⟨_, _, _, _, rfl, rfl, hs, hs, by rw [dps_len hd]; omega, all hd h'.2⟩)
theorem sm_vl : ∀ {n : Nat} {v : V} {d : PyData}, okn n d = true → Vl K G v d → Sm K n G v v
  | 0, _, _, h, _ => by cases h
  | n + 1, v, d, h, w => by
    have all : ∀ {xs : List V} {ds : List PyData}, DpAll K G xs ds → ds.all (okn n) = true → Paired (Sm K n G) xs xs := fun {xs ds} a => by
      intro hh
      induction ds generalizing xs with
      | nil => cases a; exact .nil
      | cons d ds ih =>
        cases a with
        | cons a b =>
          rw [List.all_cons, Bool.and_eq_true] at hh
          exact .cons (sm_vl hh.1 (.inl a)) (ih b hh.2)
    rcases w with w | ⟨a, kvs, es, rfl, rfl, e, hk⟩
    · cases w with
      | non => exact .flat rfl
      | bl b => exact .flat rfl
      | int i => exact .flat rfl
      | str z => exact .flat rfl
      | @lst a xs ds hs hd =>
        have h' := Bool.and_eq_true_iff.mp h
        have hl := of_decide_eq_true h'.1
        exact .inr (.inl ⟨_, _, _, _, rfl, rfl, hs, hs, by rw [dps_len hd]; omega, all hd h'.2⟩)
      | @tup a xs ds hs hd =>
        have h' := Bool.and_eq_true_iff.mp h
        have hl := of_decide_eq_true h'.1
        exact .inr (.inr (.inl ⟨_, _, _, _, rfl, rfl, hs, hs, by rw [dps_len hd]; omega, all hd h'.2⟩))
    · have h' := Bool.and_eq_true_iff.mp h
      have hl := of_decide_eq_true h'.1
      refine sm_dict e (by rw [hk.len]; omega) ?_
      have hh := h'.2
      clear hl h' h e
      induction hk with
      | nil => exact fun kv m => nomatch m
      | @cons k v d kvs es a b ih =>
        rw [List.all_cons, Bool.and_eq_true] at hh
        intro kv m
        rcases List.mem_cons.mp m with rfl | m
        · exact sm_dp hh.1 a
        · exact ih hh.2 kv m
/-! ### a fresh copy; what a test of the very value may take -/
/-- v is a list or a dict of one's own, of flat items, or neither -/
def Mv (K : PySem.W.Frag) (o : Option Addr) (H0 G H : Hp) (v : V) : Prop :=
  (Sm K 50 G v v ∧ ∃ n, Ty.KT K G v n ∧ kitB n "list" = some false ∧ kitB n "dict" = some false) ∨
  (∃ a xs, v = .ref a ∧ H0 a = none ∧ G a = none ∧ o ≠ some a ∧ H a = some (.lst xs) ∧ xs.length ≤ 900 ∧ ∀ x ∈ xs, Sm K 49 G x x) ∨
  ∃ a kvs, v = .ref a ∧ H0 a = none ∧ G a = none ∧ o ≠ some a ∧ H a = some (.dK kvs) ∧ kvs.length ≤ 900 ∧ ∀ kv ∈ kvs, Sm0 K 49 G kv.2 kv.2
def spBlame (K : PySem.W.Frag) : Sp := fun vs H Q _ => ∃ o G0 H0 G v, Go o G0 H0 G H ∧ vs = [v, v] ∧ Mv K o H0 G H v ∧ ∀ G2 H2, Go o G0 H0 G2 H2 → Q (.bl true) H2
theorem dps_mem {n : Nat} : ∀ {xs : List V} {ds : List PyData}, DpAll K G xs ds → ds.all (okn n) = true → ∀ x ∈ xs, Sm K n G x x
  | _, _, .nil, _, x, hx => nomatch hx
  | _, _, .cons a b, h, x, hx => by
    rw [List.all_cons, Bool.and_eq_true] at h
    rcases List.mem_cons.mp hx with rfl | hx
    · exact sm_vl h.1 (.inl a)
    · exact dps_mem b h.2 x hx
theorem dks_mem {n : Nat} : ∀ {kvs : List (Key × V)} {es : List (PyData × PyData)}, DKs K G kvs es → es.all (fun p => okn n p.2) = true → ∀ kv ∈ kvs, Sm0 K n G kv.2 kv.2
  | _, _, .nil, _, x, hx => nomatch hx
  | _, _, .cons a b, h, x, hx => by
    rw [List.all_cons, Bool.and_eq_true] at h
    rcases List.mem_cons.mp hx with rfl | hx
    · exact sm_dp h.1 a
    · exact dks_mem b h.2 x hx
/-- v' is what the copy of d gives -/
def Cp (K : PySem.W.Frag) (o : Option Addr) (H0 G2 H2 : Hp) (d : PyData) (v' : V) : Prop :=
  (Vl K G2 v' d ∧ isList d = false ∧ isDict d = false) ∨
  (∃ a xs ds, d = .list ds ∧ v' = .ref a ∧ H0 a = none ∧ G2 a = none ∧ o ≠ some a ∧ H2 a = some (.lst xs) ∧ DpAll K G2 xs ds) ∨
  ∃ a kvs es, d = .dict es ∧ v' = .ref a ∧ H0 a = none ∧ G2 a = none ∧ o ≠ some a ∧ H2 a = some (.dK kvs) ∧ DKs K G2 kvs es
def spCopy (K : PySem.W.Frag) : Sp := fun vs H Q _ => ∃ o G v d, Kn o G H ∧ vs = [v] ∧ Vl K G v d ∧ ∀ v' G2 H2, Go o G H G2 H2 → Cp K o H G2 H2 d v' → Q v' H2
theorem Cp.go {H0 G3 H3 : Hp} {v' : V} (c : Cp K o H0 G2 H2 d v') (g : Go o G2 H2 G3 H3) : Cp K o H0 G3 H3 d v' := by
  rcases c with ⟨w, h1, h2⟩ | ⟨a, xs, ds, rfl, rfl, h0, h2, ho, ha, hd⟩ | ⟨a, kvs, es, rfl, rfl, h0, h2, ho, ha, hk⟩
  · exact .inl ⟨w.up g.gg, h1, h2⟩
  · exact .inr (.inl ⟨a, xs, ds, rfl, rfl, h0, g.nw a h2 (by rw [ha]; simp), ho, g.kp a _ ha ho, dps_up g.gg _ hd⟩)
  · exact .inr (.inr ⟨a, kvs, es, rfl, rfl, h0, g.nw a h2 (by rw [ha]; simp), ho, g.kp a _ ha ho, hk.up g.gg⟩)
theorem Cp.mv {H0 H1 : Hp} {v' : V} (c : Cp K o H0 G2 H2 d v') (h : okn 50 d = true) (k : ∀ a, H0 a = none → H1 a = none) : Mv K o H1 G2 H2 v' := by
  rcases c with ⟨w, h1, h2⟩ | ⟨a, xs, ds, rfl, rfl, h0, h2, ho, ha, hd⟩ | ⟨a, kvs, es, rfl, rfl, h0, h2, ho, ha, hk⟩
  · exact .inl ⟨sm_vl h w, kd d, w.kt, by rw [ki_list, h1], by rw [ki_dict, h2]⟩
  · have h' := Bool.and_eq_true_iff.mp h
    have hl := of_decide_eq_true h'.1
    exact .inr (.inl ⟨a, xs, rfl, k a h0, h2, ho, ha, by rw [dps_len hd]; omega, dps_mem hd h'.2⟩)
  · have h' := Bool.and_eq_true_iff.mp h
    have hl := of_decide_eq_true h'.1
    exact .inr (.inr ⟨a, kvs, rfl, k a h0, h2, ho, ha, by rw [hk.len]; omega, dks_mem hk h'.2⟩)
/-- a copy may be lent: it stands for the same data -/
theorem Cp.lend {H0 : Hp} {v' : V} (c : Cp K o H0 G2 H2 d v') (kn : Kn o G2 H2) : ∃ G3, Ex G2 G3 ∧ Kn o G3 H2 ∧ Vl K G3 v' d ∧
    ∀ G4 H4, Go o G3 H2 G4 H4 → ∃ G5, Go o G2 H2 G5 H4 ∧ Cp K o H0 G5 H4 d v' ∧ (∀ p y, G4 p = some y → H2 p = none → G5 p = some y) ∧ Ex G5 G4 := by
  rcases c with ⟨w, h1, h2⟩ | ⟨a, xs, ds, rfl, rfl, h0, h2, ho, ha, hd⟩ | ⟨a, kvs, es, rfl, rfl, h0, h2, ho, ha, hk⟩
  · exact ⟨G2, Ex.refl _, kn, w, fun G4 H4 g => ⟨G4, g, .inl ⟨w.up g.gg, h1, h2⟩, fun p y h _ => h, Ex.refl _⟩⟩
  · refine ⟨upd G2 a (.lst xs), Ex.new h2, Go.lend kn h2 ha ho, .inl (.lst (.of upd_same) (dps_up (Ex.new h2) _ hd)), fun G4 H4 g => ?_⟩
    have gb := g.back h2
    refine ⟨_, gb, .inr (.inl ⟨a, xs, ds, rfl, rfl, h0, L2.del_same, ho, g.kp a _ ha ho, dps_up gb.gg _ hd⟩), fun p y h n => ?_, fun p y h => ?_⟩
    · rw [L2.del_ne (fun z => by rw [z, ha] at n; cases n)]; exact h
    · by_cases z : p = a
      · rw [z, L2.del_same] at h; cases h
      · rw [L2.del_ne z] at h; exact h
  · refine ⟨upd G2 a (.dK kvs), Ex.new h2, Go.lend kn h2 ha ho, .inr ⟨a, kvs, es, rfl, rfl, upd_same, hk.up (Ex.new h2)⟩, fun G4 H4 g => ?_⟩
    refine ⟨_, g.back h2, .inr (.inr ⟨a, kvs, es, rfl, rfl, h0, L2.del_same, ho, g.kp a _ ha ho, hk.up (g.back h2).gg⟩), fun p y h n => ?_, fun p y h => ?_⟩
    · rw [L2.del_ne (fun z => by rw [z, ha] at n; cases n)]; exact h
    · by_cases z : p = a
      · rw [z, L2.del_same] at h; cases h
      · rw [L2.del_ne z] at h; exact h
/-! ### statements while something of one's own is known -/
variable {tt : TT} {tu tw : TS} {a : Addr} {w : HO}
theorem q_whenL {p : Bool → Prop} (g : Go o Ge He G H) (ga : G a = none) (ha : H a = some w) (ho : o ≠ some a) (h : EvT o tt σ (upd G a w) p) (hf : ¬ p true)
    (h2 : ∀ G2 H2, Go o Ge He G2 H2 → Go o G H G2 H2 → G2 a = none → H2 a = some w → tz D σ H2) : tSeq (tIfS tt tu tNext) tz D σ H :=
  h _ H (Ex.refl _) (Go.lend g.kn ga ha ho) _ fun b G2 H2 g2 pb => by
    cases b with
    | true => exact (hf pb).elim
    | false =>
      have gb := g2.back ga
      exact h2 _ H2 (g.trans gb) gb L2.del_same (g2.kp a _ ha ho)
theorem q_whenLT {p : Bool → Prop} (g : Go o Ge He G H) (ga : G a = none) (ha : H a = some w) (ho : o ≠ some a) (h : EvT o tt σ (upd G a w) p) (hf : ¬ p false)
    (h2 : ∀ G2 H2, Go o Ge He G2 H2 → Go o G H G2 H2 → G2 a = none → H2 a = some w → tu { D with nx := tz D } σ H2) : tSeq (tIfS tt tu tNext) tz D σ H :=
  h _ H (Ex.refl _) (Go.lend g.kn ga ha ho) _ fun b G2 H2 g2 pb => by
    cases b with
    | false => exact (hf pb).elim
    | true =>
      have gb := g2.back ga
      exact h2 _ H2 (g.trans gb) gb L2.del_same (g2.kp a _ ha ho)
theorem s_retL (g : Go o Ge He G H) (ga : G a = none) (ha : H a = some w) (ho : o ≠ some a) (h : Ev o te σ (upd G a w) (tIs v)) (k : ∀ G2 H2, Go o Ge He G2 H2 → D.rt v H2) : tRet te D σ H :=
  h _ H (Ex.refl _) (Go.lend g.kn ga ha ho) _ fun v' G2 H2 g2 w2 => by
    rw [w2.eq]
    exact k _ H2 (g.trans (g2.back ga))
theorem putK_all {p : V → Prop} {kvs : List (Key × V)} {k : Key} {v : V} (h : ∀ kv ∈ kvs, p kv.2) (hv : p v) : ∀ kv ∈ putK kvs k v, p kv.2 := by
  unfold putK
  split
  · intro kv m
    obtain ⟨q, hq, rfl⟩ := List.mem_map.mp m
    split
    · exact hv
    · exact h q hq
  · intro kv m
    rcases List.mem_append.mp m with m | m
    · exact h kv m
    · rw [List.mem_singleton.mp m]; exact hv
theorem putK_fl {kvs : List (Key × V)} {k : Key} {v : V} (h : kvs.all (fun kv => fl kv.2) = true) (hv : fl v = true) : (putK kvs k v).all (fun kv => fl kv.2) = true := by
  unfold putK
  split
  · rw [List.all_map]
    refine List.all_eq_true.mpr fun kv hkv => ?_
    show fl (if kv.1 = k then (kv.1, v) else kv).2 = true
    split
    · exact hv
    · exact List.all_eq_true.mp h kv hkv
  · rw [List.all_append, h]
    simp [hv]
end
theorem u65 {k : Nat} {A : Around} (r : Room k A) : A.units + 65 < cLine := by have z := r.un; omega
end Ty
set_option Elab.async false
set_option linter.all false
set_option maxRecDepth 100000
set_option maxHeartbeats 4000000
/-! except C as e: return [w if isinstance(e, D) else '', e.given], several of them. -/
namespace Ty
open PySem L2
open Evl (Ex ex_l ex_t)
theorem all1 {G' : Hp} {x : V} {vs : List V} (h : AllU G' [tIs x] vs) : vs = [x] := by
  cases h with
  | cons a1 h =>
    cases h
    rw [a1.eq]
theorem all2 {G' : Hp} {x y : V} {vs : List V} (h : AllU G' [tIs x, tIs y] vs) : vs = [x, y] := by
  cases h with
  | cons a1 h =>
    rw [a1.eq, all1 h]
theorem all3 {G' : Hp} {x y z : V} {vs : List V} (h : AllU G' [tIs x, tIs y, tIs z] vs) : vs = [x, y, z] := by
  cases h with
  | cons a1 h =>
    rw [a1.eq, all2 h]
section
variable {K : PySem.W.Frag} {o : Option Addr} {σ : L2.St} {Ge He G H : Hp} {De : Ends} {Dt : Addr} {i : Nat} {Wout : WX}
/-- return [.., f(..)] -/
theorem s_retLX {tl : TA} {ts : List T} (g : Go o Ge He G H) (h : EvAX o tl σ Ge He G ts) (hl : ts.length ≤ 100000)
    (k : ∀ p xs G2 H2, Go o Ge He G2 H2 → He p = none → H2 p = some (.lst xs) → G2 p = none → (∀ G', Ex G2 G' → AllU G' ts xs) → De.rt (.ref p) H2) : tRet (tLst tl) De σ H :=
  h G H (Ex.refl _) g _ fun vs G2 H2 g2 w2 => ⟨Evl.sz_of (by rw [w2.len]; exact hl), fun p hp => k p vs G2 _ ((g.trans g2).trans (.tmp g2.kn hp)) ((g.trans g2).fresh hp) upd_same (Evl.fresh_back g2.kn.sub hp) fun G' e' => w2.up e'⟩
abbrev suiteIs (K : PySem.W.Frag) (i : Nat) (Dt : Addr) (w : Str) (C : Addr) : Addr → Value → Option Addr → TS := fun a cls d =>
  tRet (tLst (tCons (tIf (tB (tCB (rIsD K a cls d) (tCons (tVar i) (tCons (tC (.ref Dt)) tNil)))) (tC (.str w)) (tC (.str ""))) (tCons (tXf a cls d C "given" (tVar i)) tNil)))
abbrev clauses (K : PySem.W.Frag) (i : Nat) (Dt : Addr) (l : List (Str × Addr)) : List (Value × (Addr → Value → Option Addr → TS)) := l.map fun p => (Value.ref p.2, suiteIs K i Dt p.1 p.2)
def ExmL (K : PySem.W.Frag) : List (Str × Addr) → Prop
  | [] => True
  | p :: r => PySem.W.exmOne K (.ref p.2) (.ref p.2) = some true ∧ (∀ q ∈ r, PySem.W.exmOne K (.ref q.2) (.ref p.2) = some false) ∧ ExmL K r
theorem tk_many {good : Str → V → Prop} (hσ : i < σ.length) : ∀ {l : List (Str × Addr)}, (∀ p ∈ l, ExcC K p.2 ∧ PySem.W.kitOne K (.ref p.2) (.ref Dt) = some true) → ExmL K l →
    (∀ w x p xs G3 H3, good w x → Go o Ge He G3 H3 → He p = none → H3 p = some (.lst xs) → G3 p = none → xs = [.str w, x] → De.rt (.ref p) H3) →
    Tk o Ge He (wManyAs K i Wout De (clauses K i Dt l)) σ fun c x => ∃ p ∈ l, c = .ref p.2 ∧ good p.1 x
  | [], _, _, _ => fun _ _ _ _ _ _ _ ⟨_, z, _⟩ => nomatch z
  | p :: r, hx, he, kk => fun c dd x G2 H2 g2 e ⟨q, hq, hc, hg⟩ => by
    subst hc
    have own : q.2 = p.2 → q.1 = p.1 → wManyAs K i Wout De (clauses K i Dt (p :: r)) (.ref q.2) (some dd) σ H2 := fun e2 e1 => by
      rw [e2]
      rw [e1] at hg
      refine ⟨true, he.1, fun _ a na => ?_, fun z => nomatch z⟩
      obtain ⟨hX, hk⟩ := hx p (List.mem_cons_self ..)
      have hs : (σ.set i (some (.ref a)))[i]? = some (some (V.ref a)) := by simp [hσ]
      exact s_retN g2 (en_lst (ea_cons (s := tIs (.str p.1)) (ev_if (p := (· = true)) (et_b (ev_isD (ev_x hs) rfl rfl hX e hk)) (fun _ => ev_k) fun z => nomatch z) (ea_cons (ev_given (K := K) (ev_x hs) rfl rfl e) ea_nil)) (show 2 ≤ 100000 by decide)) fun b xs G3 H3 g3 hp h3 n3 w3 =>
        kk p.1 x b xs G3 H3 hg g3 hp h3 n3 (all2 w3.now)
    rcases List.mem_cons.mp hq with rfl | hq
    · exact own rfl rfl
    · exact ⟨false, he.2.1 q hq, (fun z => nomatch z), fun _ => tk_many hσ (fun p hp => hx p (List.mem_cons_of_mem _ hp)) he.2.2 kk _ dd x G2 H2 g2 e ⟨q, hq, rfl, hg⟩⟩
end
end Ty
set_option Elab.async false
set_option linter.all false
set_option maxRecDepth 100000
set_option maxHeartbeats 4000000
/-! Written items as data; list(range(n)); tuples joined; values that may be compared and copied. -/
namespace Ty
open PySem L2
open Evl (Ex ex_l ex_t)
def shD (d : PyData) : Bool := isDict d || SeqAt.shaped d
theorem sh_str {z : Str} (h : PyData.strOk z = true) : SeqAt.shaped (.str z) = true := by simp [SeqAt.shaped, PyData.canLay0, PyData.depth, h]
theorem sh_int {i : Int} : SeqAt.shaped (.int i) = true := by simp [SeqAt.shaped, PyData.canLay0, PyData.depth]
theorem sh_bl {b : Bool} : SeqAt.shaped (.bool b) = true := by simp [SeqAt.shaped, PyData.canLay0, PyData.depth]
theorem sh_non : SeqAt.shaped .none = true := by simp [SeqAt.shaped, PyData.canLay0, PyData.depth]
theorem sh_all {ds : List PyData} (h : ds.all SeqAt.shaped = true) : ∀ d' ∈ ds, SeqAt.shaped d' = true := fun d' h' => List.all_eq_true.mp h d' h'
theorem sh_nil : ∀ d' ∈ ([] : List PyData), SeqAt.shaped d' = true := fun _ z => nomatch z
theorem sh_cons {d : PyData} {ds : List PyData} (h : SeqAt.shaped d = true) (r : ∀ d' ∈ ds, SeqAt.shaped d' = true) : ∀ d' ∈ d :: ds, SeqAt.shaped d' = true := fun d' h' => by
  rcases List.mem_cons.mp h' with rfl | h'
  · exact h
  · exact r d' h'
/-- a value that may be compared, copied -/
def tOk (K : PySem.W.Frag) : T := fun G v => ∃ d, Vl K G v d ∧ okn 50 d = true ∧ shD d = true
section
variable {K : PySem.W.Frag} {o : Option Addr} {σ : L2.St} {Ge He G H : Hp} {te tl ti tb : TE} {d : PyData} {s t : T}
theorem tOk.u {v : V} (h : Vl K G v d) (h1 : okn 50 d = true) (h2 : shD d = true) : U (tOk K) G v := fun _ e => ⟨d, h.up e, h1, h2⟩
theorem okd (h : Ev o te σ G (tV K d)) (h1 : okn 50 d = true) (h2 : shD d = true) : Ev o te σ G (tOk K) := h.imp fun G' v _ w => tOk.u w.now h1 h2
theorem ev_neg {i : Int} (h : Ev o te σ G (tIs (.int i))) : Ev o (tUn (rU fun i => .int (-i)) te) σ G (tIs (.int (-i))) :=
  ev_un h fun G' x e hx => by
    rw [hx.eq]
    exact ru_q u_is fun _ _ _ _ _ q => ⟨i, rfl, q⟩
theorem ev_dnewV : Ev o tDNewK σ G (tV K (.dict [])) := ev_dnew.imp fun G' v _ w => by
  obtain ⟨a, rfl, ha⟩ := w.now
  exact Vl.toU (.inr ⟨a, [], [], rfl, rfl, ha, .nil⟩)
/-- list(a tuple) -/
theorem ev_listOfT {ds : List PyData} (h : Ev o te σ G (tV K (.tuple ds))) : Ev o (tCB (rListOf K) (tCons te tNil)) σ G (tV K (.list ds)) := fun G1 H1 e kn Q q =>
  (ea_cons h ea_nil) G1 H1 e kn _ fun vs G2 H2 g2 w2 => by
    cases w2 with
    | cons a1 w2 =>
      cases w2
      obtain ⟨a, xs, rfl, hs, hd⟩ := a1.now.tup
      exact ⟨a, xs, rfl, .inr (ex_t g2.kn.sub hs), fun l hl => q (.ref l) _ _ (g2.trans (.new g2.kn hl)) (Vl.toU (.inl (.lst (.of upd_same) (dps_up (Ex.new (Evl.fresh_back g2.kn.sub hl)) _ hd))))⟩
theorem dps_app : ∀ {xs ys : List V} {ds es : List PyData}, DpAll K G xs ds → DpAll K G ys es → DpAll K G (xs ++ ys) (ds ++ es)
  | _, _, _, _, .nil, b => b
  | _, _, _, _, .cons a r, b => .cons a (dps_app r b)
/-- list(range(n)) -/
theorem en_listRg {n : Int} (h : Ev o te σ G (tIs (.int n))) (h0 : 0 ≤ n ∧ n ≤ 100000) : EvN o (tLstRg (tRg1 te)) σ G (fun _ xs => xs = rgV 0 n) := fun G1 H1 e kn Q q =>
  h G1 H1 e kn _ fun v G2 H2 g2 w2 => ⟨n, w2.eq, .of_le (by decide) (by omega) (by decide) h0.1, fun p hp => q p _ G2 _ (g2.trans (.tmp g2.kn hp)) (g2.fresh hp) upd_same (Evl.fresh_back g2.kn.sub hp) fun _ _ => rfl⟩
theorem rgV_mem {n : Int} {x : V} (h : x ∈ rgV 0 n) : ∃ i : Int, x = .int i ∧ 0 ≤ i ∧ i < n := by
  unfold rgV at h
  obtain ⟨i, hi, rfl⟩ := List.mem_map.mp h
  have := List.mem_range.mp hi
  exact ⟨_, rfl, by omega, by omega⟩
/-- a known list of at most n items of the type t -/
def tList (n : Nat) (t : T) : T := fun G v => ∃ a xs, v = .ref a ∧ G a = some (.lst xs) ∧ xs.length ≤ n ∧ ∀ x ∈ xs, U t G x
theorem tList.u {n : Nat} {a : Addr} {xs : List V} (h : G a = some (.lst xs)) (hl : xs.length ≤ n) (hx : ∀ x ∈ xs, U t G x) : U (tList n t) G (.ref a) := fun _ e => ⟨a, xs, rfl, e _ _ h, hl, fun x hm => (hx x hm).up e⟩
def pAll (n : Nat) (t : T) : PL := fun G xs => xs.length ≤ n ∧ ∀ x ∈ xs, U t G x
theorem pAll.up {n : Nat} {xs : List V} (h : pAll n t G xs) : UP (pAll n t) G xs := fun _ e => ⟨h.1, fun x hm => (h.2 x hm).up e⟩
theorem EvN.list {n : Nat} (h : EvN o te σ G (pAll n t)) : Ev o te σ G (tList n t) := h.ev fun G' a xs _ ha hp => ⟨a, xs, rfl, ha, hp.now.1, hp.now.2⟩
theorem allU_mem : ∀ {n : Nat} {vs : List V}, AllU G (List.replicate n t) vs → vs.length = n ∧ ∀ v ∈ vs, U t G v
  | 0, _, h => by cases h; exact ⟨rfl, fun _ z => nomatch z⟩
  | n + 1, _, h => by
    cases h with
    | cons a r =>
      obtain ⟨h1, h2⟩ := allU_mem r
      exact ⟨congrArg (· + 1) h1, fun v hv => (List.mem_cons.mp hv).elim (fun e => e ▸ a) (h2 v)⟩
theorem en_items {tl : TA} {n : Nat} (h : EvA o tl σ G (List.replicate n t)) (hl : n ≤ 100000) : EvN o (tLst tl) σ G (pAll n t) :=
  (en_lst h (by rw [List.length_replicate]; exact hl)).impN fun G' xs u => by
    obtain ⟨h1, h2⟩ := allU_mem u
    exact ⟨Nat.le_of_eq h1, h2⟩
/-- known + new -/
theorem en_catL {n m : Nat} (ha : Ev o te σ G (tList n t)) (hb : EvN o tb σ G (pAll m t)) (hn : n ≤ 50000) (hm : m ≤ 50000) : EvN o (tOp (rAddG K) te tb) σ G (pAll (n + m) t) :=
  en_catQ (P := pAll n t) (P' := pAll m t) (ha.q fun G' v _ w => by
    obtain ⟨a, xs, rfl, h1, h2, h3⟩ := w.now
    exact ⟨a, xs, rfl, h1, pAll.up ⟨h2, h3⟩⟩) hb.q (fun _ _ h => by have := h.now.1; omega) (fun _ _ h => by have := h.now.1; omega) fun G' xs ys h1 h2 => pAll.up ⟨by
      have l1 := h1.now.1
      have l2 := h2.now.1
      rw [List.length_append]; omega, fun x hx => (List.mem_append.mp hx).elim (h1.now.2 x) (h2.now.2 x)⟩
/-- an item of a known list -/
theorem ev_ixA {n : Nat} {a : Addr} {xs : List V} {i : Int} (ha : Ev o te σ G (tIs (.ref a))) (hb : Ev o tb σ G (tIs (.int i))) (h : G a = some (.lst xs)) (hx : ∀ x ∈ xs, U t G x) (hi : 0 ≤ i ∧ i < xs.length) : Ev o (tOp (rIx K) te tb) σ G t :=
  ev_op ha hb fun G' x y e hx' hy => by
    rw [hx'.eq, hy.eq]
    have hlt : i.toNat < xs.length := by omega
    exact fun G1 H1 e1 kn1 Q q => ro_ixL (.of (e _ _ h)) (at_of (v := xs[i.toNat]) (j := i.toNat) (by omega) (List.getElem?_eq_getElem hlt)) G1 H1 e1 kn1 Q fun v' G3 H3 g3 w3 => q v' G3 H3 g3 (by rw [w3.eq]; exact (hx _ (List.getElem_mem hlt)).up ((e.trans e1).trans g3.gg))
end
end Ty
set_option Elab.async false
set_option linter.all false
set_option maxRecDepth 100000
set_option maxHeartbeats 4000000
/-! given = copy(value); told = asked(.., given); if told[0] != w or not blamed(told[1], given): return False -/
namespace Ty
open PySem L2
open Evl (Ex ex_l ex_t)
/-- a copy of d, known, made behind Gs -/
def tCp (K : PySem.W.Frag) (Gs : Hp) (d : PyData) : T := fun G v => (Vl K G v d ∧ isList d = false ∧ isDict d = false) ∨
  (∃ a xs ds G1, d = .list ds ∧ v = .ref a ∧ Ex Gs G1 ∧ Ex G1 G ∧ G1 a = none ∧ G a = some (.lst xs) ∧ DpAll K G1 xs ds) ∨
  ∃ a kvs es G1, d = .dict es ∧ v = .ref a ∧ Ex Gs G1 ∧ Ex G1 G ∧ G1 a = none ∧ G a = some (.dK kvs) ∧ DKs K G1 kvs es
section
variable {K : PySem.W.Frag} {o : Option Addr} {σ : L2.St} {Ge He G H G2 H2 H0 Gs : Hp} {te tl ti tb ta tc : TE} {d : PyData} {s t : T} {De : Ends} {tz tu : TS} {v v' : V} {E : XK}
theorem tCp.up {G' : Hp} (c : tCp K Gs d G v) (e : Ex G G') : tCp K Gs d G' v := by
  rcases c with ⟨w, h⟩ | ⟨a, xs, ds, G1, e1, e2, e3, e4, h1, h2, h3⟩ | ⟨a, kvs, es, G1, e1, e2, e3, e4, h1, h2, h3⟩
  · exact .inl ⟨w.up e, h⟩
  · exact .inr (.inl ⟨a, xs, ds, G1, e1, e2, e3, e4.trans e, h1, e _ _ h2, h3⟩)
  · exact .inr (.inr ⟨a, kvs, es, G1, e1, e2, e3, e4.trans e, h1, e _ _ h2, h3⟩)
theorem tCp.vl (c : tCp K Gs d G v) : Vl K G v d := by
  rcases c with ⟨w, h⟩ | ⟨a, xs, ds, G1, rfl, rfl, e3, e4, h1, h2, h3⟩ | ⟨a, kvs, es, G1, rfl, rfl, e3, e4, h1, h2, h3⟩
  · exact w
  · exact .inl (.lst (.of h2) (dps_up e4 _ h3))
  · exact .inr ⟨a, kvs, es, rfl, rfl, h2, h3.up e4⟩
theorem ev_copy (h : Ev o te σ G (tV K d)) : Ev o (tCall (spCopy K) [] E (tCons te tNil)) σ G (tCp K G d) := fun G1 H1 e kn Q q => by
  show tCons te tNil σ H1 fun vs H2 => spCopy K (vs ++ []) H2 Q E
  refine (ea_cons h ea_nil) G1 H1 e kn _ fun vs G2 H2 g2 w2 => ?_
  cases w2 with
  | cons a1 w2 =>
    cases w2
    refine ⟨o, G2, _, d, g2.kn, rfl, a1.now, fun v' G3 H3 g3 c => ?_⟩
    have g := g2.trans g3
    rcases c with ⟨w, h1, h2⟩ | ⟨a, xs, ds, rfl, rfl, h0, n3, ho, ha, hd⟩ | ⟨a, kvs, es, rfl, rfl, h0, n3, ho, ha, hd⟩
    · exact q v' G3 H3 g fun G' e' => .inl ⟨w.up e', h1, h2⟩
    · refine q _ _ H3 (g.fix (g2.fresh h0) ha n3 ho) fun G' e' => .inr (.inl ⟨a, xs, ds, G3, rfl, rfl, e.trans g.gg, (Ex.new n3).trans e', n3, e' _ _ upd_same, hd⟩)
    · refine q _ _ H3 (g.fix (g2.fresh h0) ha n3 ho) fun G' e' => .inr (.inr ⟨a, kvs, es, G3, rfl, rfl, e.trans g.gg, (Ex.new n3).trans e', n3, e' _ _ upd_same, hd⟩)
theorem Go.forget {a : Addr} (g : Go o Ge He G H) (ga : Ge a = none) : Go o Ge He (L2.del G a) H where
  gg := fun b y h => by
    rw [L2.del_ne (fun z => by rw [z, ga] at h; cases h)]
    exact g.gg b y h
  kn := ⟨fun b y h => by
    by_cases e : b = a
    · rw [e, L2.del_same] at h; cases h
    · rw [L2.del_ne e] at h; exact g.kn.sub b y h, fun b z => by
    obtain ⟨q, q2⟩ := g.kn.box b z
    refine ⟨q, ?_⟩
    by_cases e : b = a
    · rw [e, L2.del_same]
    · rw [L2.del_ne e]; exact q2⟩
  kp := g.kp
  nw := fun c h n => by
    by_cases e : c = a
    · rw [e, L2.del_same]
    · rw [L2.del_ne e]; exact g.nw c h n
/-- what was copied may be one's own again -/
theorem tCp.mv (g : Go o Ge He G H) (c : tCp K Ge d G v) (h : okn 50 d = true) : ∃ G2, Go o Ge He G2 H ∧ Mv K o He G2 H v := by
  have fr : ∀ {a : Addr} {x : HO} {G1 : Hp}, Ex Ge G1 → G1 a = none → G a = some x → Ge a = none ∧ He a = none ∧ o ≠ some a ∧ H a = some x := fun {a x G1} e n h => by
    have n0 : Ge a = none := by
      cases z : Ge a with
      | none => rfl
      | some y => rw [e a y z] at n; cases n
    refine ⟨n0, ?_, g.kn.gbox h, g.kn.sub _ _ h⟩
    cases z : He a with
    | none => rfl
    | some y => rw [g.nw a n0 (by rw [z]; simp)] at h; cases h
  rcases c with ⟨w, h1, h2⟩ | ⟨a, xs, ds, G1, rfl, rfl, e3, e4, h1, h2, h3⟩ | ⟨a, kvs, es, G1, rfl, rfl, e3, e4, h1, h2, h3⟩
  · exact ⟨G, g, .inl ⟨sm_vl h w, kd d, w.kt, by rw [ki_list, h1], by rw [ki_dict, h2]⟩⟩
  · obtain ⟨n0, n1, n2, n3⟩ := fr e3 h1 h2
    have h' := Bool.and_eq_true_iff.mp h
    have hl := of_decide_eq_true h'.1
    have e5 : Ex G1 (L2.del G a) := fun b y q => by
      rw [L2.del_ne (fun z => by rw [z, h1] at q; cases q)]
      exact e4 b y q
    exact ⟨_, g.forget n0, .inr (.inl ⟨a, xs, rfl, n1, L2.del_same, n2, n3, by rw [dps_len h3]; omega, dps_mem (dps_up e5 _ h3) h'.2⟩)⟩
  · obtain ⟨n0, n1, n2, n3⟩ := fr e3 h1 h2
    have h' := Bool.and_eq_true_iff.mp h
    have hl := of_decide_eq_true h'.1
    have e5 : Ex G1 (L2.del G a) := fun b y q => by
      rw [L2.del_ne (fun z => by rw [z, h1] at q; cases q)]
      exact e4 b y q
    exact ⟨_, g.forget n0, .inr (.inr ⟨a, kvs, rfl, n1, L2.del_same, n2, n3, by rw [h3.len]; omega, dks_mem (h3.up e5) h'.2⟩)⟩
theorem s_blame {w : Str} (g : Go o Ge He G H) (c : U (tCp K Ge d) G v') (hd : okn 50 d = true) (h0 : Ev o ta σ G (tIs (.str w))) (h1 : Ev o tb σ G (tIs v')) (h2 : Ev o tc σ G (tIs v')) (k : ∀ G2 H2, Go o Ge He G2 H2 → De.nx σ H2) :
    tIfS (tOr (tTest (tOp (rNeG K) ta (tC (.str w)))) (tNot (tB (tCall (spBlame K) [] E (tCons tb (tCons tc tNil)))))) tu tNext De σ H := by
  have t1 : EvT o (tTest (tOp (rNeG K) ta (tC (.str w)))) σ G (· = false) := et_test (ev_op2 h0 ev_k (ro_neS rfl (by simp)))
  have a2 : EvA o (tCons tb (tCons tc tNil)) σ G [tIs v', tIs v'] := ea_cons h1 (ea_cons h2 ea_nil)
  refine t1 G H (Ex.refl _) g.kn _ fun b G2 H2 g2 hb => ?_
  subst hb
  rw [if_neg (by decide)]
  show tCons tb (tCons tc tNil) σ H2 fun vs H1 => spBlame K (vs ++ []) H1 (fun x H' => ∃ k, x = .bl k ∧ (if (!k) = true then tu De σ H' else tNext De σ H')) E
  refine a2 G2 H2 g2.gg g2.kn _ fun vs G3 H3 g3 w3 => ?_
  rw [all2 w3]
  have g23 := g2.trans g3
  obtain ⟨G4, g4, mv⟩ := tCp.mv (g.trans g23) (c.up g23.gg).now hd
  exact ⟨o, Ge, He, G4, v', g4, rfl, mv, fun G5 H5 g5 => ⟨true, rfl, k G5 H5 g5⟩⟩
def tKL (l : List V) : T := fun G v => ∃ a, v = .ref a ∧ G a = some (.lst l)
theorem ev_lst1 {x : V} (h : Ev o ta σ G (tIs x)) : Ev o (tLst (tCons ta tNil)) σ G (tKL [x]) := (en_lst (ea_cons h ea_nil) (by show 1 ≤ 100000; decide)).ev fun G' a xs e ha hp => ⟨a, rfl, by rw [ha, all1 hp.now]⟩
theorem ev_lst2 {x y : V} (h : Ev o ta σ G (tIs x)) (h2 : Ev o tb σ G (tIs y)) : Ev o (tLst (tCons ta (tCons tb tNil))) σ G (tKL [x, y]) := (en_lst (ea_cons h (ea_cons h2 ea_nil)) (by show 2 ≤ 100000; decide)).ev fun G' a xs e ha hp => ⟨a, rfl, by rw [ha, all2 hp.now]⟩
end
end Ty
namespace Ty
open PySem L2
open Evl (Ex ex_l ex_t)
section
variable {K : PySem.W.Frag} {o : Option Addr} {σ : L2.St} {Ge He G H G2 H2 H0 Gs : Hp} {te tl ti tb ta tc : TE} {d : PyData} {s t : T} {D : Ends} {tz tu : TS} {v v' : V} {E : XK}
theorem tCp.down {Gs' : Hp} (e : Ex Gs' Gs) (c : tCp K Gs d G v) : tCp K Gs' d G v := by
  rcases c with h | ⟨a, xs, ds, G1, e1, e2, e3, e4, h1, h2, h3⟩ | ⟨a, kvs, es, G1, e1, e2, e3, e4, h1, h2, h3⟩
  · exact .inl h
  · exact .inr (.inl ⟨a, xs, ds, G1, e1, e2, e.trans e3, e4, h1, h2, h3⟩)
  · exact .inr (.inr ⟨a, kvs, es, G1, e1, e2, e.trans e3, e4, h1, h2, h3⟩)
theorem ev_copyD {Gs : Hp} (e : Ex Gs G) (h : Ev o te σ G (tV K d)) : Ev o (tCall (spCopy K) [] E (tCons te tNil)) σ G (tCp K Gs d) := (ev_copy h).imp fun _ _ _ u G'' e2 => tCp.down e (u G'' e2)
/-- a for whose target is any -/
theorem s_forG {wi : TI} {tg : TG} {P : PL} (g : Go o Ge He G H) (hi : EvI o wi σ G P) (I : List V → Nat → L2.St → Hp → Hp → Prop)
    (h0 : ∀ xs G' H', Go o Ge He G' H' → Go o G H G' H' → UP P G' xs → I xs 0 σ G' H')
    (hs : ∀ Gs (xs : List V), Ex G Gs → UP P Gs xs → ∀ (i : Nat) x σ' G' H', xs[i]? = some x → Go o Ge He G' H' → Ex Gs G' → I xs i σ' G' H' →
      tg x σ' H' fun σ3 H3 => tu { D with nx := fun σ2 H2 => ∃ G2, Go o Ge He G2 H2 ∧ Ex Gs G2 ∧ I xs (i + 1) σ2 G2 H2, ct := fun σ2 H2 => ∃ G2, Go o Ge He G2 H2 ∧ Ex Gs G2 ∧ I xs (i + 1) σ2 G2 H2, bk := D.nx } σ3 H3)
    (hd : ∀ xs σ' G' H', Go o Ge He G' H' → Ex G G' → UP P G' xs → I xs xs.length σ' G' H' → D.nx σ' H') : tFor wi tg tu D σ H :=
  hi G H (Ex.refl _) g.kn _ fun J G2 H2 xs g2 w hP => by
    refine for_it w (fun i σ' H' => ∃ G', Go o Ge He G' H' ∧ Ex G2 G' ∧ I xs i σ' G' H') ⟨G2, g.trans g2, Ex.refl _, h0 xs G2 H2 (g.trans g2) g2 hP⟩ (fun i σ' H' _ p => ?_) (fun i x σ' H' H'' hlt p y => ?_) (fun σ' H' p => ?_)
    · obtain ⟨G', a, b, _⟩ := p
      exact b.trans a.kn.sub
    · obtain ⟨G', a, b, c⟩ := p
      obtain ⟨e1, hx⟩ := y
      subst e1
      exact hs G2 xs g2.gg hP i x σ' G' H'' hx a b c
    · obtain ⟨G', a, b, c⟩ := p
      exact hd xs σ' G' H' a (g2.gg.trans b) (hP.up b) c
theorem tg_pair {i j : Nat} {a : Addr} {x y : V} {Q : L2.St → Hp → Prop} (kn : Kn o G H) (h : SqT K G a [x, y]) (q : Q ((σ.set i (some x)).set j (some y)) H) : gTup K 2 (gCons (gName i) (gCons (gName j) gNil)) (.ref a) σ H Q :=
  ⟨a, _, rfl, ex_t kn.sub h, rfl, _, _, rfl, _, _, rfl, rfl, q⟩
end
end Ty
set_option Elab.async false
set_option linter.all false
set_option maxRecDepth 100000
set_option maxHeartbeats 4000000
/-! What the written part says of the error classes, as one test. -/
namespace Ty
open PySem L2 PySem.W
open Ex (SupC SupD spSup)
def oexCls (K : Frag) (C : Addr) : Bool := match K.lookup C with
  | some ⟨.type "type", _, .cls cd, sl⟩ => (match cd.mro, sl.toList with
    | .ref C' :: bm, [_, _, _, _, some (.builtin n), _] => C' == C && n == "ValueError.__new__" && !cd.hasDel && cd.hasDict && PySem.HandSPX.refsVE bm
    | _, _ => false)
  | _ => false
theorem oexCls_of {K : Frag} {C : Addr} (q : oexCls K C = true) : ∃ nm qn N bs bm sn sub ab col dd k0 k1 k2 k3 k5, K.lookup C = some (excClassObj nm qn C N bs bm true sn sub ab col dd k0 k1 k2 k3 k5 "ValueError.__new__") ∧ PySem.HandSPX.refsVE bm = true := by
  unfold oexCls at q
  split at q
  · rename_i dd cd sl ho
    split at q
    · rename_i C' bm k0 k1 k2 k3 n k5 hm hs
      simp only [Bool.and_eq_true, beq_iff_eq, Bool.not_eq_true'] at q
      obtain ⟨⟨⟨⟨rfl, rfl⟩, hdel⟩, hd⟩, ht⟩ := q
      obtain ⟨nm, bs, mro, ns, qn, hdd, sn, sub, ab, col, del⟩ := cd
      dsimp only at hm hdel hd
      subst hm hdel hd
      have hsl : sl = #[k0, k1, k2, k3, some (.builtin "ValueError.__new__"), k5] := by
        obtain ⟨l⟩ := sl
        simp only at hs
        rw [hs]
      subst hsl
      exact ⟨nm, qn, ns, bs, bm, sn, sub, ab, col, dd, k0, k1, k2, k3, k5, ho, ht⟩
    · cases q
  · cases q
/-- an error class at C, TalkError at D, its __init__ at fI -/
def errB (K : Frag) (C D fI : Addr) : Bool := oexCls K C && (decide (findIn K (.ref C) "__setattr__" = some (some (.builtin "object.__setattr__"))) && (decide (subIn K (.ref C) (.type "BaseException") = some true) && (decide (typeIn K (.ref C) = some (.type "type")) && (keepIn K (.ref C) &&
  (decide (ks_superIn K C D "__init__" = some (some (.builtin "ValueError.__init__"))) && (decide (subIn K (.ref C) (.type "ValueError") = some true) && (decide (mroIn K C (.ref D) = some true) && (decide (findIn K (.ref C) "given" = some none) &&
  (decide (findIn K (.ref C) "__init__" = some (some (.ref fI))) && (decide (findIn K (.ref C) "__getattribute__" = some (some (.builtin "BaseException.__getattribute__"))) && (decide (findIn K (.ref C) "__getattr__" = some none) && (hasDictIn K C &&
  (decide (findIn K (.ref C) "__class__" = some (some (.builtin "object.__class__"))) && (decide (mroIn K C (.type "object") = some true) && decide (kitOne K (.ref C) (.ref D) = some true)))))))))))))))
/-- what is common to all -/
def comB (K : Frag) (D fI : Addr) : Bool := decide (specialIn K (.builtin "object.__class__") "__get__" = some (some (.builtin "getset_descriptor.__get__"))) && (decide (takesIn K (.builtin "object.__class__") = some true) && (decide (typeIn K (.ref fI) = some (.type "function")) &&
  (decide (nsIn K PySem.cStatics "thirdparty.any" = some none) && (clsIn K D).isSome)))
structure ErrF (K : Frag) (C D fI : Addr) : Prop where
  sup : SupC K C D
  ini : findIn K (.ref C) "__init__" = some (some (.ref fI))
  tI : typeIn K (.ref fI) = some (.type "function")
  xf : XfC K C
  ex : ExcC K C
  kit : kitOne K (.ref C) (.ref D) = some true
theorem errB_ok {K : Frag} {C D fI : Addr} (h : errB K C D fI = true) (h' : comB K D fI = true) : ErrF K C D fI := by
  unfold errB at h
  unfold comB at h'
  simp only [Bool.and_eq_true, decide_eq_true_eq] at h h'
  obtain ⟨a1, a2, a3, a4, a5, a6, a7, a8, a9, a10, a11, a12, a13, a14, a15, a16⟩ := h
  obtain ⟨b1, b2, b3, b4, b5⟩ := h'
  exact ⟨⟨⟨oexCls_of a1, a2, a3, a4, a5⟩, a6, a7, a8, a9⟩, a10, b3, ⟨a11, a12, a3, a13⟩, ⟨a11, a12, a3, a13, a14, b1, b2, a15⟩, a16⟩
theorem supD_mk {K : Frag} {mg : Str → Option Value} {P : Program} {D cc cda fI : Addr} {cl : Value} {cld : Option Addr} {csl : Array (Option Value)} {ccl : Value} {cdd : Option Addr} {vs : Array Value} {ccs : Array (Option Value)} {file : Str} {tf : Tok}
    (h' : comB K D fI = true) (hc : K.lookup cc = some ⟨cl, cld, .cell (some (.ref D)), csl⟩) (hk : K.lookup cda = some ⟨ccl, cdd, .fields vs, ccs⟩) (hv : vs[2]? = some (.str file tf)) (hf : ((P.main.file : Str) == file) = true) (sup : mg "super" = none)
    (top : (P.main.scope.names.lookup ("super" : Str)).isSome = false) : SupD K mg P D cc cda := by
  unfold comB at h'
  simp only [Bool.and_eq_true, decide_eq_true_eq] at h'
  obtain ⟨b1, b2, b3, b4, b5⟩ := h'
  exact ⟨⟨cl, cld, csl, hc⟩, Option.isSome_iff_exists.mp b5, ⟨ccl, cdd, vs, ccs, file, tf, hk, hv, hf⟩, sup, b4, top⟩
theorem ownE_mk {P : Program} {w : World} {K : Frag} {mg : Str → Option Value} {base : Heap} {k : Nat} {x : Str} {C D fI : Addr} {fd : FuncData} (e : ErrF K C D fI) (F : FnOk P w K mg base CX0 k fI fd ["self", "given"] (spSup K D)) (hb : Binds K fd ["self", "given"] []) (hm : mg x = some (.ref C)) :
    OwnE P w K mg base k x C D := ⟨⟨fI, fd, e.ini, e.tI, F, hb⟩, e.sup, hm⟩
end Ty
set_option Elab.async false
set_option linter.all false
set_option maxRecDepth 100000
set_option maxHeartbeats 4000000
/-! l.extend(a tuple); lists of one's own: tests, pops. -/
namespace PySem.AutoSeq1
open PySem
theorem ext_tuple (l : Addr) (items : Array Value) (n : Nat) (b : Addr) (items2 : Array Value) (n2 : Nat) (dd : Option Addr) (sl : Array (Option Value)) (hs0 : ¬(!items.isEmpty && Builtin.List.listTooLong (items.size + items2.size)) = true) (hs1 : items.size ≤ sizeLine) (hs2 : items.size + items2.size ≤ sizeLine + 1) :
    Meets (Builtin.«list.extend» ⟨[.ref l, .ref b], []⟩) (fun _ R s => s.heap.get? l = some { cls := .type "list", dict := none, data := .seq items n, slots := #[] } ∧ s.heap.get? b = some { cls := .type "tuple", dict := dd, data := .seq items2 n2, slots := sl } ∧ R (.ok (.ret Value.none)) { s with heap := s.heap.update l (Obj.mapSeq fun x => x ++ items2), toks := s.toks }) :=
  .of_wp fun prog w A R s h => by
    obtain ⟨hp, g, d, tk, os⟩ := s; obtain ⟨hl, hb, h⟩ := h; have f1 := idx_int; have f2 := sub_tuple_tuple; have f3 := sub_list_list; have f4 := sub_tuple_list; have f5 := sub_list_tuple;
    have hz' : (items ++ items2).size ≤ sizeLine + 1 := by rw [Array.size_append]; exact hs2
    wp_walk using (wpAny_updateSeq hl rfl (hz := hs1) (_hz' := hz')), wpAny_loadPart' hl, wpAny_loadPart' hb; exact ⟨_, rfl, h⟩
end PySem.AutoSeq1
namespace L2
open PySem PySem.Spec PyProof.Rows
def rExtT (K : PySem.W.Frag) : V → List V → Hp → VK → Prop := fun x vs H Q => ∃ l b xs zs, x = .ref l ∧ vs = [.ref b] ∧ H l = some (.lst xs) ∧ SqT K H b zs ∧ xs.length + zs.length ≤ sizeLine ∧ Q .non (upd H l (.lst (xs ++ zs)))
theorem mt_extT {X : Cx} : MtM X "list.extend" (rExtT X.K) := by
  intro pins s σ H x vs v us Q I rx rv h
  obtain ⟨l, b, xs, zs, rfl, rfl, hH, hB, hz, q⟩ := h
  cases rx
  obtain ⟨u, rfl, ru⟩ := rv.one
  cases ru
  obtain ⟨z, its, n, r, hl, e⟩ := I.lstM hH
  obtain ⟨its2, r2, ⟨⟨c2, d2, da2, sl2⟩, ho2, hc2, n2, hd2⟩, hl2⟩ := I.tuple hB
  simp only at hc2 hd2
  subst hc2 hd2
  have l2 := r2.length
  have hsz : its.toArray.size + its2.toArray.size ≤ sizeLine := by rw [List.size_toArray, List.size_toArray]; omega
  have hlong : ¬ (!its.toArray.isEmpty && Builtin.List.listTooLong (its.toArray.size + its2.toArray.size)) = true := by
    rw [notLongL hsz, Bool.and_false]
    exact Bool.false_ne_true
  refine call_meets F.slot_list_extend ⟨_, e, rfl⟩ F.entry_list_extend (F.args_list_extend_2 _ _)
    (PySem.AutoSeq1.ext_tuple l its.toArray n b its2.toArray n2 d2 sl2 hlong (by rw [List.size_toArray]; omega) (by omega)) ⟨e, ho2, ?_⟩
  refine ⟨.non, _, I.lset (its' := its ++ its2) hH e (by simp) (r.append r2) ?_, rfl, q⟩
  rw [List.length_append]
  omega
theorem MtM.or' {X : Cx} {id : String} {r r' : V → List V → Hp → VK → Prop} (h : MtM X id r) (h' : MtM X id r') : MtM X id (fun x xs H Q => r x xs H Q ∨ r' x xs H Q) := fun pins s σ H x xs v us Q I rx rxs q => q.elim (h pins s σ H x xs v us Q I rx rxs) (h' pins s σ H x xs v us Q I rx rxs)
abbrev rExtA (K : PySem.W.Frag) : V → List V → Hp → VK → Prop := fun x xs H Q => rExtend x xs H Q ∨ rExtT K x xs H Q
theorem mt_extA {X : Cx} : MtM X "list.extend" (rExtA X.K) := mt_extend.or' mt_extT
end L2
namespace Ty
open PySem L2
open Evl (Ex ex_l ex_t)
section
variable {K : PySem.W.Frag} {o : Option Addr} {σ : L2.St} {Ge He G H : Hp} {te ta tb : TE} {s t : T} {tt : TT} {D : Ends} {tz tu tw : TS} {l : Addr} {xs : List V} {w : HO}
/-- a test while something of one's own is known -/
theorem at_L {p : Bool → Prop} (kn : Kn o G H) (ga : G l = none) (ha : H l = some w) (ho : o ≠ some l) (h : EvT o tt σ (upd G l w) p) : AtT o tt σ G H p := fun Q q =>
  h _ H (Ex.refl _) (Go.lend kn ga ha ho) _ fun b G2 H2 g2 pb => q b _ H2 (g2.back ga) pb
theorem q_ifL {p : Bool → Prop} (g : Go o Ge He G H) (ga : G l = none) (ha : H l = some w) (ho : o ≠ some l) (h : EvT o tt σ (upd G l w) p)
    (h1 : p true → ∀ G2 H2, Go o Ge He G2 H2 → Go o G H G2 H2 → G2 l = none → H2 l = some w → tu { D with nx := tz D } σ H2) (h2 : p false → ∀ G2 H2, Go o Ge He G2 H2 → Go o G H G2 H2 → G2 l = none → H2 l = some w → tz D σ H2) : tSeq (tIfS tt tu tNext) tz D σ H :=
  h _ H (Ex.refl _) (Go.lend g.kn ga ha ho) _ fun b G2 H2 g2 pb => by
    have gb := g2.back ga
    cases b with
    | true => exact h1 pb _ H2 (g.trans gb) gb L2.del_same (g2.kp l _ ha ho)
    | false => exact h2 pb _ H2 (g.trans gb) gb L2.del_same (g2.kp l _ ha ho)
/-- x = l.pop() -/
theorem q_pop {j : Nat} {y : V} (g : Go o Ge He G H) (he : He l = none) (ga : G l = none) (ho : o ≠ some l) (hl : H l = some (.lst xs)) (hy : xs[xs.length - 1]? = some y) (ha : Ev o ta σ G (tIs (.ref l)))
    (k : ∀ G2 H2, Go o Ge He G2 (upd H2 l (.lst xs.dropLast)) → Go o G H G2 H2 → G2 l = none → tz D (σ.set j (some y)) (upd H2 l (.lst xs.dropLast))) : tSeq (tAsg (tBM0 K "list" rPop ta) (gName j)) tz D σ H :=
  ha G H (Ex.refl _) g.kn _ fun v G2 H2 g2 w2 => by
    have e := w2.eq
    subst e
    have h2 := g2.kp l _ hl ho
    have n2 : G2 l = none := g2.nw l ga (by rw [hl]; simp)
    exact ⟨.inl ⟨rfl, xs, .of h2⟩, l, xs, y, rfl, rfl, h2, hy, k G2 H2 ((g.trans g2).mut he n2 ho) g2 n2⟩
/-- l.extend(a known tuple) -/
theorem s_extT {zs : List V} (g : Go o Ge He G H) (he : He l = none) (ga : G l = none) (ho : o ≠ some l) (hl : H l = some (.lst xs)) (ha : Ev o ta σ G (tIs (.ref l))) {P : PL} (hb : ∀ G', Ex G G' → Ev o tb σ G' (fun G v => ∃ b zs, v = .ref b ∧ SqT K G b zs ∧ UP P G zs)) (hz : xs.length ≤ 50000) (hp : ∀ G' zs, UP P G' zs → zs.length ≤ 50000)
    (k : ∀ zs G2 H2, Go o Ge He G2 (upd H2 l (.lst (xs ++ zs))) → Go o G H G2 H2 → G2 l = none → UP P G2 zs → D.nx σ (upd H2 l (.lst (xs ++ zs)))) : tDrop (tBM K "list" (rExtA K) ta (tCons tb tNil)) D σ H :=
  ha G H (Ex.refl _) g.kn _ fun v G2 H2 g2 w2 => by
    have e := w2.eq
    subst e
    have h2 := g2.kp l _ hl ho
    refine ⟨.inl ⟨rfl, xs, .of h2⟩, hb G2 g2.gg G2 H2 (Ex.refl _) g2.kn _ fun v G3 H3 g3 w3 => ?_⟩
    obtain ⟨b, zs, rfl, hs, hu⟩ := w3.now
    have h3 := g3.kp l _ h2 ho
    have g13 := g2.trans g3
    have n3 : G3 l = none := g13.nw l ga (by rw [hl]; simp)
    have lz := hp G3 zs hu
    exact .inr ⟨l, b, xs, zs, rfl, rfl, h3, ex_t g3.kn.sub hs, Evl.sz_of (by omega), k zs G3 H3 ((g.trans g13).mut he n3 ho) g13 n3 hu⟩
end
end Ty
set_option Elab.async false
set_option linter.all false
set_option maxRecDepth 100000
set_option maxHeartbeats 4000000
/-! set(a list of texts), its len. (The two walks are the library's for one text, HandS.Strs, turned to any number.) -/
namespace SS
open PySem PySem.Spec PyProof.Rows
def ddS (l : List Str) (x : Str) : List Str := if l.any (· == x) = true then l else l ++ [x]
def fmS (xs : List Str) (i : Nat) : List Str := (xs.take i).foldl ddS []
theorem fmS_succ {xs : List Str} {i : Nat} (h : i < xs.length) : fmS xs (i + 1) = ddS (fmS xs i) (xs.getD i Str.empty) := by
  unfold fmS
  rw [List.take_succ, List.getElem?_eq_getElem h, List.foldl_append]
  simp [List.getD, List.getElem?_eq_getElem h]
theorem fmS_le (xs : List Str) : ∀ i, (fmS xs i).length ≤ i
  | 0 => Nat.le_refl _
  | i + 1 => by
    by_cases h : i < xs.length
    · rw [fmS_succ h]
      have := fmS_le xs i
      unfold ddS
      split
      · omega
      · rw [List.length_append, List.length_singleton]; omega
    · have e : fmS xs (i + 1) = fmS xs i := by
        unfold fmS
        rw [List.take_of_length_le (by omega), List.take_of_length_le (by omega)]
      rw [e]
      have := fmS_le xs i
      omega
theorem dd_any (l : List Str) (x k : Str) : (l.any (· == k) || decide (k = x)) = (ddS l x).any (· == k) := by
  unfold ddS
  by_cases h : l.any (· == x) = true
  · rw [if_pos h]
    by_cases e : k = x
    · subst e; rw [h]; simp
    · simp [e]
  · rw [if_neg h, List.any_append]
    by_cases e : k = x
    · subst e; simp
    · have hb : (x == k) = false := beq_eq_false_iff_ne.mpr fun q => e q.symm
      simp [hb, e]
theorem dd_len (l : List Str) (x : Str) : (if l.any (· == x) = true then l.length else l.length + 1) = (ddS l x).length := by
  unfold ddS
  split <;> simp
end SS
namespace SS
open PySem PySem.Spec PyProof.Rows L2
/-! ### a set of texts, its members known -/
def keyT (e : Int × Value) : Str := match e.2 with
  | .str z _ => z
  | _ => Str.empty
def GoodT (P : Program) (w : World) (e : Int × Value) : Prop := ∃ z tk, e.2 = Value.str z tk ∧ e.1 = (PySem.strKind P w).hash z
def SetT (P : Program) (w : World) (h : Heap) (a : Addr) (us : List Str) : Prop :=
  ∃ o es ep t, h.get? a = some o ∧ o.ExactSet ∧ o.data = .set es ep t ∧ ((∀ e ∈ es.toList, GoodT P w e) ∧ (es.toList.map keyT).Perm us ∧ us.Nodup) ∧
    (es.size < scanBound ∧ t.fits es.size = true) ∧ Ris t.place.toList ∧ (w.params.followText "set-order" = true ∨ t.led = true)
section
variable {P : Program} {w : World} {h h' : Heap} {a : Addr} {us : List Str}
theorem SetT.at (R : SetT P w h a us) (k : ∀ o, h.get? a = some o → h'.get? a = some o) : SetT P w h' a us := by
  obtain ⟨o, es, ep, t, ho, r⟩ := R
  exact ⟨o, es, ep, t, k o ho, r⟩
theorem els_of {l : List (Int × Value)} (g : ∀ e ∈ l, GoodT P w e) : ElemsOf (PySem.strKind P w) l := fun e he => by
  obtain ⟨z, tk, h1, h2⟩ := g e he
  exact ⟨⟨z, by rw [h1]; exact strKind_is P w z tk, h2⟩, by rw [h1] <;> rfl⟩
theorem is_key {e : Int × Value} (g : GoodT P w e) (z : Str) : (PySem.strKind P w).is z e.2 = true ↔ keyT e = z := by
  obtain ⟨x, tk, h1, _⟩ := g
  unfold keyT
  rw [h1]
  show ((x == z) = true) ↔ x = z
  exact beq_iff_eq
theorem mem_key {l : List (Int × Value)} (g : ∀ e ∈ l, GoodT P w e) (z : Str) : z ∈ l.map keyT ↔ ∃ e ∈ l, (PySem.strKind P w).is z e.2 = true := by
  rw [List.mem_map]
  exact ⟨fun ⟨e, he, q⟩ => ⟨e, he, (is_key (g e he) z).2 q⟩, fun ⟨e, he, q⟩ => ⟨e, he, (is_key (g e he) z).1 q⟩⟩
theorem SetT.setOf (R : SetT P w h a us) : h.SetOf (PySem.strKind P w) a (fun z => us.any (· == z)) us.length := by
  obtain ⟨o, es, ep, t, ho, hx, hd, ⟨g, pm, nd⟩, ⟨hb, hf⟩, _⟩ := R
  refine ⟨o, es, ep, t, ho, hx, hd, els_of g, fun z => ?_, hb, hf, ?_⟩
  · rw [← mem_key g z, pm.mem_iff]; simp
  · rw [← pm.length_eq, List.length_map, Array.length_toList]
end
theorem dd_nodup {l : List Str} (h : l.Nodup) (x : Str) : (ddS l x).Nodup := by
  unfold ddS
  split
  · exact h
  · rename_i n
    refine List.nodup_append.mpr ⟨h, by simp, fun a ha b hb e => n ?_⟩
    rw [List.mem_singleton.mp hb] at e
    subst e
    simp [ha]
section
variable {P : Program} {w : World} {A : Around} {E : Value → Shared → Prop} {s : Shared} {a : Addr} {us : List Str}
theorem tailT {g : Bool → Sem Unit} (hg : ∀ (b : Bool) (s₁ : Shared) (Q' : Unit → Shared → Prop), Q' () s₁ → wpAny (model P w) A (g b) Q' E s₁)
    {o : Obj} {es : Array (Int × Value)} {ep : Nat} {t : SetTable} (ho : s.heap.get? a = some o) (hex : o.ExactSet) (hd : o.data = .set es ep t)
    {es1 : Array (Int × Value)} {t2 : SetTable} {us' : List Str} (g1 : (∀ e ∈ es1.toList, GoodT P w e) ∧ (es1.toList.map keyT).Perm us' ∧ us'.Nodup)
    (hb1 : es1.size < scanBound) (hf2 : t2.fits es1.size = true) (hr : Ris t2.place.toList) (hl : w.params.followText "set-order" = true ∨ t2.led = true) {wasDummy : Bool} {R : Option Bool → Shared → Prop}
    (hR : ∀ h', Heap.SameBut a s.heap h' → SetT P w h' a us' → R (some true) { s with heap := h' }) :
    wpAny (model P w) A (do
        storeSet a es1 t2
        if (!wasDummy && t2.tooFull) = true then do
            g (relayAll t2 es1 (SetTable.grown es1.size)).2.2
            storeSet a (relayAll t2 es1 (SetTable.grown es1.size)).1 (relayAll t2 es1 (SetTable.grown es1.size)).2.1
            pure (some true)
          else pure (some true)) R E s := by
  refine wpAny_bind (wpAny_storeSet_of ho hd ?_ (fits_of_scanBound hb1))
  have n1 := store_at (es' := es1) (t' := t2) ho hd
  have b1 := Heap.SameBut.update s.heap a (Obj.putSet es1 t2)
  split
  · have pm := relayAll_perm t2 es1 (SetTable.grown es1.size)
    have f3 := relayAll_fits t2 es1 (SetTable.grown es1.size)
    have r3 := relayAll_ris t2 es1 (SetTable.grown es1.size)
    have l3 := relayAll_led t2 es1 (SetTable.grown es1.size)
    generalize relayAll t2 es1 (SetTable.grown es1.size) = Z at pm f3 r3 l3 ⊢
    obtain ⟨es2, t3, gave⟩ := Z
    dsimp only at pm f3 r3 l3 ⊢
    have hsz : es2.size = es1.size := by rw [← Array.length_toList, pm.length_eq, Array.length_toList]
    have b2 : es2.size < scanBound := hsz ▸ hb1
    refine wpAny_bind (hg _ _ _ ?_)
    refine wpAny_bind (wpAny_storeSet_of n1 rfl ?_ (fits_of_scanBound b2))
    have n2 := store_at (es' := es2) (t' := t3) n1 rfl
    refine wpAny_pure (hR _ (b1.trans (Heap.SameBut.update _ a _)) ⟨_, es2, _, t3, n2, hex, rfl, ⟨fun e he => g1.1 e (pm.mem_iff.mp he), (pm.map keyT).trans g1.2.1, g1.2.2⟩, ⟨b2, f3⟩, r3, hl.imp id fun z => by rw [l3]; exact z⟩)
  · exact wpAny_pure (hR _ b1 ⟨_, es1, _, t2, n1, hex, rfl, g1, ⟨hb1, hf2⟩, hr, hl⟩)
/-- what adding a text leaves -/
theorem addT {z : Str} {tk : Tok} {Q : Bool → Shared → Prop} (R : SetT P w s.heap a us) (room : us.length + 1 < scanBound)
    (hQ : ∀ b h', Heap.SameBut a s.heap h' → SetT P w h' a (ddS us z) → Q b { s with heap := h' }) :
    wpAny (model P w) A (setAddHashed a (.str z tk) ((PySem.strKind P w).hash z)) Q E s := by
  obtain ⟨o, es, ep, t, ho, hex, hd, ⟨g, pu, nd⟩, ⟨hb, hf⟩, hr, hl⟩ := R
  have hkey : (PySem.strKind P w).is z (.str z tk) = true := strKind_is P w z tk
  have hsc : (Value.str z tk).scannable = true := rfl
  have hel := els_of g
  unfold setAddHashed setAddHashedIn
  refine wpAny_holding (wpAny_bind (wpAny_setState_of ho hd hf ?_))
  dsimp only
  rw [byScan_of hsc hb hel]
  simp only [↓reduceIte]
  unfold setAddByScan
  refine wpAny_bind ?_
  refine wpAny_bind (wpAny_rule ?_)
  refine wpAny_bind (wpAny_setScan_of hkey ho hd hf hel ?_)
  cases hfi : List.findIdx? (fun e => (PySem.strKind P w).is z e.2) es.toList with
  | some j =>
    dsimp only
    obtain ⟨hj, pj, _⟩ := List.findIdx?_eq_some_iff_getElem.mp hfi
    have hm : z ∈ us := pu.mem_iff.mp ((mem_key g z).2 ⟨es.toList[j], List.getElem_mem hj, pj⟩)
    refine wpAny_pure (wpAny_pure (hQ _ s.heap (Heap.SameBut.refl a s.heap) ?_))
    have e1 : ddS us z = us := by unfold ddS; rw [if_pos (by simp [hm])]
    rw [e1]
    exact ⟨o, es, ep, t, ho, hex, hd, ⟨g, pu, nd⟩, ⟨hb, hf⟩, hr, hl⟩
  | none =>
    dsimp only
    have hn : z ∉ us := fun m => by
      obtain ⟨e, he, q⟩ := (mem_key (P := P) (w := w) g z).1 (pu.mem_iff.mpr m)
      have c := List.findIdx?_eq_none_iff.mp hfi e he
      rw [q] at c
      cases c
    have e1 : ddS us z = us ++ [z] := by unfold ddS; rw [if_neg (by simp [hn])]
    have hgw : ∀ (b : Bool) {s₁ : Shared} {Q' : Unit → Shared → Prop}, Q' () s₁ → wpAny (model P w) A (match b with | true => rule "set.scan.the-table-gave-way" | false => pure ()) Q' E s₁ :=
      fun b s₁ Q' q => by cases b <;> first | exact wpAny_pure q | exact wpAny_rule q
    have pm := layNew_perm t es ((PySem.strKind P w).hash z) (.str z tk)
    have f1 := layNew_fits t es ((PySem.strKind P w).hash z) (.str z tk)
    have r1 := layNew_ris t es ((PySem.strKind P w).hash z) (.str z tk) hr
    have l1 := layNew_led t es ((PySem.strKind P w).hash z) (.str z tk)
    generalize layNew t es ((PySem.strKind P w).hash z) (.str z tk) = Z at pm f1 r1 l1 ⊢
    obtain ⟨es1, t1, wasDummy, gave⟩ := Z
    dsimp only at pm f1 r1 l1 ⊢
    rw [Array.toList_push] at pm
    have pk : (es1.toList.map keyT).Perm (us ++ [z]) := by
      have q := pm.map keyT
      rw [List.map_append] at q
      exact q.trans (pu.append_right _)
    have g1 : ∀ e ∈ es1.toList, GoodT P w e := fun e he => by
      rcases List.mem_append.mp (pm.mem_iff.mp he) with m | m
      · exact g e m
      · rw [List.mem_singleton.mp m]; exact ⟨z, tk, rfl, rfl⟩
    have nd1 : (us ++ [z]).Nodup := e1 ▸ dd_nodup nd z
    have hb1 : es1.size < scanBound := by
      have q := pk.length_eq
      rw [List.length_map, Array.length_toList, List.length_append, List.length_singleton] at q
      omega
    have hled : w.params.followText "set-order" = true ∨ t1.led = true := hl.imp id fun z => by rw [l1]; exact z
    have fin : ∀ h', Heap.SameBut a s.heap h' → SetT P w h' a (us ++ [z]) → Q true { s with heap := h' } := fun h' sb r => hQ _ h' sb (e1 ▸ r)
    refine wpAny_bind (hgw _ ?_)
    split
    · refine wpAny_bind ?_
      rw [hashByValue_scannable 8 hsc]
      refine wpAny_pure ?_
      refine tailT ?_ ho hex hd ⟨g1, pk, nd1⟩ hb1 ?_ ?_ ?_ ?_
      · intro b s₁ Q' q; cases b <;> first | exact wpAny_pure q | exact wpAny_rule q
      · first | (split <;> first | exact f1 | exact SetTable.fits_plain_off f1) | exact f1
      · first | (split <;> exact r1) | exact r1
      · first | (split <;> exact hled) | exact hled
      · intro h' sb r; dsimp only; exact wpAny_pure (fin h' sb r)
    · refine wpAny_bind (wpAny_pure ?_)
      simp only [↓reduceIte]
      refine tailT ?_ ho hex hd ⟨g1, pk, nd1⟩ hb1 f1 r1 hled ?_
      · intro b s₁ Q' q; cases b <;> first | exact wpAny_pure q | exact wpAny_rule q
      · intro h' sb r; dsimp only; exact wpAny_pure (fin h' sb r)
end
theorem newT {P : Program} {w : World} {h : Heap} {a : Addr} (ho : h.get? a = some { cls := .type "set", dict := none, data := .set #[] 0 (.fresh 0 0 (!w.params.followText "set-order")) }) : SetT P w h a [] :=
  ⟨_, #[], 0, _, ho, ⟨rfl, rfl, rfl⟩, rfl, ⟨(fun e he => by simp at he), List.Perm.refl _, List.nodup_nil⟩, ⟨by decide, rfl⟩, List.Pairwise.nil, by
    show _ ∨ (!w.params.followText "set-order") = true
    cases w.params.followText "set-order"
    · exact .inr rfl
    · exact .inl rfl⟩
section
variable {prog : Program} {w : World} {A : Around} {R : Result → Shared → Prop} {I : Addr} {fp wr : List Addr} {G : Array GenState → Array GenState → Prop} {n : Nat} {P : Nat → Value → Prop} {St : Nat → Shared → Prop}
theorem loopStrN (W : WalksS prog w A.in1 I fp wr G n P St) (S : Addr) (hSf : S ∉ fp) (xs : List Str) (hsz : xs.length = n) (hn1 : n + 1 < scanBound)
    (hval : ∀ i v, P i v → ∃ t, v = .str (xs.getD i Str.empty) t) :
    ∀ (k i : Nat) (s : Shared), n - i = k → i ≤ n → St i s →
      SetT prog w s.heap S (fmS xs i) →
      (∀ s', Moved (S :: wr) G s s' → SetT prog w s'.heap S (fmS xs n) → R (.ok (.ret .none)) s') →
      codeAny (model prog w) A (.builtin "set.update.loop" ⟨[.ref S, .ref I], []⟩) R s := by
  have hSw : S ∉ wr := fun h => hSf (W.sub _ h)
  have hsub : ∀ b ∈ wr, b ∈ S :: wr := fun b hb => List.mem_cons_of_mem _ hb
  intro k
  induction k with
  | zero =>
    intro i s hk hi hst hS hR
    have hin : i = n := by omega
    subst hin
    refine codeAny_builtin PyProof.Rows.F.entry_set_update_loop ?_
    rw [Around.under_plainId PyProof.Rows.F.plain_set_update_loop _]
    show wpAny _ A.in1 (pyNext (.ref I) >>= _) _ _ s
    refine wpAny_bind (W.done s _ _ hst fun s' hm => ?_)
    show wpAny _ A.in1 (ret Value.none) _ _ s'
    exact wpAny_pure (hR s' (hm.mono hsub) (by
      exact hS.at fun o e => hm.heap S o hSw e))
  | succ k ih =>
    intro i s hk hi hst hS hR
    have hlt : i < n := by omega
    refine codeAny_builtin PyProof.Rows.F.entry_set_update_loop ?_
    rw [Around.under_plainId PyProof.Rows.F.plain_set_update_loop _]
    show wpAny _ A.in1 (pyNext (.ref I) >>= _) _ _ s
    refine wpAny_bind (W.item i s _ _ hlt hst fun v s' hP hst' hm => ?_)
    obtain ⟨t, rfl⟩ := hval i v hP
    have hS' : SetT prog w s'.heap S (fmS xs i) := hS.at fun o e => hm.heap S o hSw e
    show wpAny _ A.in1 (holding [Value.str (xs.getD i Str.empty) t] (setAdd S (.str (xs.getD i Str.empty) t)) >>= _) _ _ s'
    refine wpAny_bind (wpAny_holding ?_)
    unfold setAdd
    refine wpAny_holding ?_
    refine wpAny_bind ((PySem.strKind prog w).pyHash (k := xs.getD i Str.empty) (strKind_is _ _ _ _) ?_)
    have hle := fmS_le xs i
    refine addT (s := { s' with toks := s'.toks + 1 }) hS' (by omega) fun _ h' hsb hS2 => ?_
    have hSi : SetT prog w h' S (fmS xs (i + 1)) := by
      rw [fmS_succ (by omega)]
      exact hS2
    refine wpAny_pure ⟨plainId_quiet PyProof.Rows.F.plain_set_update_loop _, ih (i + 1) _ (by omega) hlt (W.frame _ s' _ _ hst' (Nat.le_succ _) fun b hb o e => ?_) hSi fun s'' hm'' hS'' => ?_⟩
    · rw [hsb.2 b (fun h : b = S => hSf (by rw [← h]; exact hb))]; exact e
    · refine hR s'' (Moved.trans W.gtrans ((hm.mono hsub).then_heap (Nat.le_succ _) fun b o hb e => ?_) hm'') hS''
      rw [hsb.2 b (fun h : b = S => hb (by rw [h]; exact List.mem_cons_self))]; exact e
end
end SS
namespace SS
open PySem PySem.Spec PyProof.Rows
section
variable {prog : Program} {w : World} {A : Around} {E : Value → Shared → Prop} {s : Shared}
set_option maxHeartbeats 6400000 in
theorem call_setN {l : Addr} {items : Array Value} {xs : List Str} {Q : Value → Shared → Prop}
    (hh : A.handled = none) (hl : s.heap.IsList l items) (hi : PyProof.Rows.StrsAre items.toList xs) (hn1 : xs.length + 1 < scanBound)
    (h : ∀ (h' : Heap) (tk : Nat), SetT prog w h' s.heap.objs.size (fmS xs items.size) →
      (∀ b o, b < s.heap.objs.size → s.heap.get? b = some o → h'.get? b = some o) → Q (.ref s.heap.objs.size) { s with heap := h', toks := tk }) :
    wpAny (model prog w) A (call (.type "set") [.ref l]) Q E s := by
  obtain ⟨c, tl, hmro⟩ := PySem.F.called_set.mro
  have hmade := PySem.F.called_set.made
  have hsub := PySem.F.called_set.sub
  refine wpAny_call (codeAny_of_tree ?_)
  show wpAny _ _ (callAny (.type "set") _) _ _ _
  refine wpAny_pure ⟨Code.quiet_builtin _ (by decide +kernel), codeAny_builtin PySem.F.entry_type_call ?_⟩
  rw [Around.under_plain (weight_type_call_type "set" [.ref l] []) rfl]
  have h1 := PySem.F.called_set.notType
  have h2 := PySem.F.called_set.canCreate
  have hct := PySem.F.typeCall_set_1 (.ref l)
  repeat (any_goals (first | assumption | wp_step))
  refine codeAny_mono (L2.code_set_led1 (.ref l) (E := E) (Q₁ := fun obj s₁ => obj = .ref s.heap.objs.size ∧ s₁ = { s with heap := s.heap.push { cls := .type "set", dict := none, data := .set #[] 0 (.fresh 0 0 (!w.params.followText "set-order")) } }) ⟨rfl, rfl⟩) fun r s₁ hr => ?_
  cases r with
  | error e => exact hr
  | ok fl =>
    cases fl with
    | ret obj =>
      obtain ⟨rfl, rfl⟩ := hr
      have hS : (s.heap.push { cls := .type "set", dict := none, data := .set #[] 0 (.fresh 0 0 (!w.params.followText "set-order")) }).get? s.heap.objs.size = some { cls := .type "set", dict := none, data := .set #[] 0 (.fresh 0 0 (!w.params.followText "set-order")) } := Heap.get?_push_size _ rfl
      have hT : Shared.TypeIs { s with heap := s.heap.push { cls := .type "set", dict := none, data := .set #[] 0 (.fresh 0 0 (!w.params.followText "set-order")) } } (.ref s.heap.objs.size) "set" := ⟨_, hS, rfl⟩
      have hli := PySem.F.called_set.init.lookup
      have hbi := PySem.F.called_set.init.bind (.ref s.heap.objs.size)
      repeat (any_goals (first | assumption | wp_step))
      refine codeAny_mono (codeAny_call_builtin (R := wants (fun r s₂ => r = .none ∧ ∃ h' tk, s₂ = { s with heap := h', toks := tk } ∧
          SetT prog w h' s.heap.objs.size (fmS xs items.size) ∧
          (∀ b o, b < s.heap.objs.size → s.heap.get? b = some o → h'.get? b = some o)) E) PySem.F.called_set.init.plain PySem.F.entry_set_init (check_set_init_1 hT ?_)) fun r₂ s₂ hr₂ => ?_
      · obtain ⟨ol, hol, hcl, nl, hdl⟩ := hl
        obtain ⟨ocls, odict, odata, oslots⟩ := ol
        simp only at hcl hdl
        subst hcl; subst hdl
        have hol' : (s.heap.push { cls := .type "set", dict := none, data := .set #[] 0 (.fresh 0 0 (!w.params.followText "set-order")) }).get? l = some { cls := .type "list", dict := odict, data := .seq items nl, slots := oslots } := Heap.get?_push_of_some _ hol
        have hsls := PySem.F.sub_list_set
        have hslf := PySem.F.sub_list_frozenset
        have hne : (Value.type "list" == Value.type "dict") = false := by decide
        have hl1 : (s.heap.push { cls := .type "set", dict := none, data := .set #[] 0 (.fresh 0 0 (!w.params.followText "set-order")) }).IsList l items := ⟨_, hol', rfl, nl, rfl⟩
        unfold Builtin.«set.__init__» noKeywords Builtin.Frozenset.updateFrom
        generalize hPI : pyIter = PI
        wp_walk
        subst hPI
        refine wpAny_pyIter_list hl1 ?_
        refine wpAny_bind (wpAny_runValue ?_)
        have hlS : l < s.heap.objs.size := Heap.lt_size hol
        have hh3 : A.in1.in1.in1.handled = none := by simp [hh]
        have hneI : l ≠ (s.heap.push { cls := .type "set", dict := none, data := .set #[] 0 (.fresh 0 0 (!w.params.followText "set-order")) }).objs.size := by
          rw [Heap.size_push]; exact Nat.ne_of_lt (Nat.lt_succ_of_lt hlS)
        have hSf : s.heap.objs.size ∉ [(s.heap.push { cls := .type "set", dict := none, data := .set #[] 0 (.fresh 0 0 (!w.params.followText "set-order")) }).objs.size, l] := by
          rw [Heap.size_push]; simp only [List.mem_cons, List.mem_singleton, List.not_mem_nil, or_false, not_or]
          exact ⟨Nat.ne_of_lt (Nat.lt_succ_self _), Nat.ne_of_gt hlS⟩
        have hsz : xs.length = items.size := by rw [← StrsAre.len_eq hi, Array.length_toList]
        have hval : ∀ (i : Nat) (v : Value), items[i]? = some v → ∃ t, v = .str (xs.getD i Str.empty) t := fun i v hv => strs_at hi i v (by rw [Array.getElem?_toList]; exact hv)
        refine loopStrN ((Walks.list hh3 _ l hneI items).toS) s.heap.objs.size
          hSf xs hsz (by rw [← hsz]; exact hn1) hval (items.size - 0) 0 _ (by omega) (Nat.zero_le _)
          ⟨⟨_, Heap.get?_push_size _ rfl, rfl, rfl⟩, (hl1.push _)⟩ ?hS0 ?hR
        case hS0 =>
          have hget : ((s.heap.push { cls := .type "set", dict := none, data := .set #[] 0 (.fresh 0 0 (!w.params.followText "set-order")) }).push { cls := .type "list_iterator", data := .fields #[.ref l, .int 0 0] }).get? s.heap.objs.size
              = some { cls := .type "set", dict := none, data := .set #[] 0 (.fresh 0 0 (!w.params.followText "set-order")) } := Heap.get?_push_of_some _ hS
          exact newT hget
        case hR =>
          intro s' hm hS'
          obtain ⟨h', g', d', tk', os'⟩ := s'
          have eg : g' = s.gens := hm.gens
          have ed : d' = s.drawn := hm.drawn
          have eo : os' = s.os := hm.os
          subst eg; subst ed; subst eo
          show wpAny _ _ _ _ _ _
          refine wpAny_pure ?_
          show wpAny _ _ (ret Value.none) _ _ _
          refine wpAny_pure ⟨rfl, h', tk', rfl, hS', fun b o hb e => ?_⟩
          have hb1 : b ≠ s.heap.objs.size := Nat.ne_of_lt hb
          have hb2 : b ≠ (s.heap.push { cls := .type "set", dict := none, data := .set #[] 0 (.fresh 0 0 (!w.params.followText "set-order")) }).objs.size := by
            rw [Heap.size_push]; exact Nat.ne_of_lt (Nat.lt_succ_of_lt hb)
          exact hm.heap b o (by simp only [List.mem_cons, List.mem_singleton, List.not_mem_nil, or_false, not_or]; exact ⟨hb1, hb2⟩) (Heap.get?_push_of_some _ (Heap.get?_push_of_some _ e))
      · cases r₂ with
        | error e => exact hr₂
        | ok fl₂ =>
          cases fl₂ with
          | ret r =>
            obtain ⟨rfl, h', tk, rfl, hS', hk'⟩ := hr₂
            repeat (any_goals (first | assumption | wp_step))
            exact h _ _ hS' hk'
          | _ => exact hr₂.elim
    | _ => exact hr.elim
end
end SS
namespace SS
open PySem PySem.Spec PyProof.Rows L2
section
variable {P : Program} {w : World} {A : Around} {E : Value → Shared → Prop} {s : Shared} {a : Addr} {us : List Str}
theorem strs_keys : ∀ l : List Value, (∀ v ∈ l, ∃ z tk, v = Value.str z tk) → StrsAre l (l.map fun v => keyT (0, v))
  | [], _ => .nil
  | v :: l, h => by
    obtain ⟨z, tk, rfl⟩ := h v List.mem_cons_self
    exact .cons z tk (strs_keys l fun u hu => h u (List.mem_cons_of_mem _ hu))
/-- sorted(a set of texts) -/
theorem sortedT {Q : Value → Shared → Prop} (R : SetT P w s.heap a us) (hh : A.handled = none) (h64 : us.length < 64)
    (hQ : ∀ s' p (out : Array Value) (c : Nat) (ys : List Str), (∀ b o, s.heap.get? b = some o → s'.heap.get? b = some o) → s'.gens = s.gens → s'.os = s.os → s.heap.objs.size ≤ p →
      s'.heap.get? p = some (seqObj "list" out c) → StrsAre out.toList ys → ys.Perm us → sortedS ys = true → Q (.ref p) s') :
    wpAny (model P w) A (call (.builtin "sorted") [.ref a]) Q E s := by
  obtain ⟨o, es, ep, t, ho, hex, hd, ⟨g, pu, nd⟩, ⟨hb, hf⟩, hr, hl⟩ := R
  refine Calls.call_function_entry kind_sorted plain_sorted entry_sorted (args_sorted1 _) ?_
  unfold Builtin.«sorted»
  refine wpAny_bind (m := checkCount "sorted" 1 1 _) (wpAny_pure ?_)
  refine wpAny_bind (collect_set (A := A.in1) hh ⟨o, ho, hex.1, hd⟩ hf hb hr hl fun s1 vs k1 hz g1 o1 pm => ?_)
  have pk : (vs.map fun v => keyT (0, v)).Perm us := by
    have q := pm.map fun v => keyT (0, v)
    rw [List.map_map] at q
    exact q.trans pu
  have hvl : vs.length < 64 := by
    have q := pk.length_eq
    rw [List.length_map] at q
    omega
  have hS : StrsAre vs (vs.map fun v => keyT (0, v)) := strs_keys vs fun v hv => by
    obtain ⟨e, he, q⟩ := List.mem_map.mp (pm.mem_iff.mp hv)
    obtain ⟨z, tk, h1, _⟩ := g e he
    exact ⟨z, tk, by rw [← q]; exact h1⟩
  refine wpAny_bind (wpAny_newList ?_ (by rw [sizeLine_eq]; omega))
  have hoL : (s1.heap.push (seqObj "list" vs.toArray 0)).get? s1.heap.objs.size = some (seqObj "list" vs.toArray 0) := Heap.get?_push_size _ rfl
  refine wpAny_bind (wpAny_holding (wpAny_call_entry slot_list_sort ⟨_, hoL, rfl⟩ entry_list_sort
    (list_sort_treeK strKind_oneLt (s := { s1 with heap := s1.heap.push (seqObj "list" vs.toArray 0) }) hoL hS.keysOf (fun v₁ v₂ rest e => keyKind_strs (by rw [← e]; exact hS)) hvl fun st' hp hs => ⟨_, rfl, ?_⟩)
    (args_list_sort _)))
  obtain ⟨ys, y1, y2, y3⟩ := sorted_out_str hS hp hs
  obtain ⟨e', he'⟩ := sortedHeap_at (vs := vs) (out := (arrOf st').map (·.2)) hoL
  refine wpAny_pure ⟨_, rfl, hQ _ s1.heap.objs.size _ e' ys (fun b u e => ?_) g1 o1 hz he' y1 (y2.trans pk) y3⟩
  have q := k1 b u e
  have hlt := Heap.lt_size q
  show (sortedHeap _ _ _ _).get? b = some u
  rw [sortedHeap_old (Nat.ne_of_lt hlt) (by rw [size_push']; exact Nat.lt_succ_of_lt hlt)]
  exact Heap.get?_push_of_some _ q
end
end SS
namespace L2
open PySem PySem.Spec PyProof.Rows SS
/-- the set of texts -/
def SetS (P : Program) (w : World) (a : Addr) (us : List Str) : HO := .ext fun h => SetT P w h a us
theorem setS_new {w : World} {P : Program} {H : Hp} {h : Heap} {a : Addr} {us : List Str} (R : SetT P w h a us) : ObjOk P w H h a (SetS P w a us) := by
  have ⟨o, _, _, _, ho, _⟩ := R
  exact ⟨R, ⟨o, ho⟩, fun h1 h2 p k => SetT.at p k⟩
theorem fm_le (zs : List Str) : (fmS zs zs.length).length ≤ zs.length := fmS_le zs _
section
variable {X : Cx}
def rSetOfS (K : PySem.W.Frag) (P : Program) (w : World) : List V → Hp → VK → Prop := fun xs H Q => ∃ (a : Addr) (zs : List Str), xs = [.ref a] ∧ SqL K H a (zs.map V.str) ∧ zs.length ≤ 1000 ∧
  ∀ p, H p = none → Q (.ref p) (upd H p (SetS P w p (fmS zs zs.length)))
theorem cr_setOfS (hc : X.calm = true) : CallR X (.type "set") (rSetOfS X.K X.prog X.w) := by
  intro pins s σ H xs us Q I r h
  obtain ⟨a, zs, rfl, hs, hl, q⟩ := h
  obtain ⟨its, rv, pl, _⟩ := I.list hs
  rw [Vals.ref1 r]
  have hi : StrsAre its.toArray.toList zs := rv.strs
  have hz : its.toArray.size = zs.length := by
    rw [List.size_toArray]
    have := rv.length
    rw [List.length_map] at this
    exact this.symm
  refine call_setN (I.ok.hd hc) pl.isList hi (by unfold scanBound; omega) fun h' tk hS hk => ?_
  rw [hz] at hS
  exact ⟨.ref s.heap.objs.size, upd H s.heap.objs.size (SetS X.prog X.w s.heap.objs.size (fmS zs zs.length)),
    I.laid (t' := tk) (fun b o e => hk b o (Heap.lt_size e) e) (Nat.le_refl _) (setS_new hS), rfl, q _ (I.hok.fresh (Nat.le_refl _))⟩
def rLenS (P : Program) (w : World) : List V → Hp → VK → Prop := fun xs H Q => ∃ (a : Addr) (us : List Str), xs = [.ref a] ∧ H a = some (SetS P w a us) ∧ us.length ≤ 100000 ∧ Q (.int us.length) H
theorem cr_lenS : CallR X (.builtin "len") (rLenS X.prog X.w) := by
  intro pins s σ H xs vs Q I r h
  obtain ⟨a, us, rfl, hs, hl, q⟩ := h
  rw [Vals.ref1 r]
  have R : s.heap.SetOf (PySem.strKind X.prog X.w) a (fun z => us.any (· == z)) us.length := SetT.setOf (I.hok a _ hs).1
  obtain ⟨o, es, ep, t, ho, hex, hd, hel, hmem, hx, hf, hn⟩ := R
  refine call_len_set ho hex hd hf (by omega) ⟨.int us.length, H, I.kept (t' := s.toks + 1 + 1) fun _ _ e => e, ⟨_, by rw [hn]⟩, q⟩
/-- sorted(a set of texts) -/
def rSortS (P : Program) (w : World) : List V → Hp → VK → Prop := fun xs H Q => ∃ (a : Addr) (us : List Str), xs = [.ref a] ∧ H a = some (SetS P w a us) ∧ us.length < 64 ∧
  ∀ ys p, ys.Perm us → sortedS ys = true → H p = none → Q (.ref p) (upd H p (.lst (ys.map V.str)))
theorem cr_sortS (hc : X.calm = true) : CallR X (.builtin "sorted") (rSortS X.prog X.w) := by
  intro pins s σ H vs xs Q I r h
  obtain ⟨a, us, rfl, ha, h64, q⟩ := h
  have R : SetT X.prog X.w s.heap a us := (I.hok a _ ha).1
  rw [Vals.ref1 r]
  refine sortedT R (I.ok.hd hc) h64 fun s' p out c ys k g o hp hg hi hpm hso => ?_
  have hlen : (ys.map V.str).length ≤ sizeLine := by rw [List.length_map, hpm.length_eq, sizeLine_eq]; omega
  have hn : H p = none := I.hok.fresh hp
  have J : Inv X pins σ (upd H p (.lst (ys.map V.str))) { s with heap := s'.heap, gens := s'.gens, drawn := s'.drawn, toks := s'.toks } :=
    I.call (ch := []) (Un.laid k hp hn) (I.hok.laid k hp ⟨hlen, out.toList, c, vals_of_strs hi, hg⟩) (by rw [g]; exact I.bare) (fun _ z => nomatch z)
  have e : s' = { s with heap := s'.heap, gens := s'.gens, drawn := s'.drawn, toks := s'.toks } := by
    cases s'
    cases s
    cases o
    rfl
  rw [e]
  exact ⟨.ref p, _, J, rfl, q ys p hpm hso hn⟩
end
end L2
namespace Ty
open PySem L2 PySem.Spec PyProof.Rows
section
variable {X : Cx} {P : Program} {w : World} {K : PySem.W.Frag}
theorem kSetS (e : X.K = K) (e1 : X.prog = P) (e2 : X.w = w) (hc : X.calm = true) : CallR X (.type "set") (rSetOfS K P w) := by subst e e1 e2; exact cr_setOfS hc
theorem kLenS (e1 : X.prog = P) (e2 : X.w = w) : CallR X (.builtin "len") (rLenS P w) := by subst e1 e2; exact cr_lenS
theorem kSortS (e1 : X.prog = P) (e2 : X.w = w) (hc : X.calm = true) : CallR X (.builtin "sorted") (rSortS P w) := by subst e1 e2; exact cr_sortS hc
end
open Evl (Ex ex_l ex_t)
section
variable {P : Program} {w : World} {K : PySem.W.Frag} {o : Option Addr} {σ : L2.St} {G : Hp} {te : TE} {zs us : List Str}
def tSet (P : Program) (w : World) (us : List Str) : T := fun G v => ∃ p, v = .ref p ∧ G p = some (SetS P w p us)
theorem ev_setS (h : Ev o te σ G (fun G' v => ∃ a, v = .ref a ∧ SqL K G' a (zs.map V.str))) (hl : zs.length ≤ 1000) : Ev o (tCB (rSetOfS K P w) (tCons te tNil)) σ G (tSet P w (SS.fmS zs zs.length)) := fun G1 H1 e kn Q q =>
  h G1 H1 e kn _ fun x G2 H2 g2 w2 => by
    obtain ⟨a, rfl, hs⟩ := w2.now
    exact ⟨a, zs, rfl, ex_l g2.kn.sub hs, hl, fun p hp => q _ _ _ (g2.trans (.new g2.kn hp)) fun G' e' => ⟨p, rfl, e' p _ upd_same⟩⟩
theorem ev_lenSet (h : Ev o te σ G (tSet P w us)) (hl : us.length ≤ 100000) : Ev o (tCB (rLenS P w) (tCons te tNil)) σ G (tIs (.int us.length)) := fun G1 H1 e kn Q q =>
  h G1 H1 e kn _ fun x G2 H2 g2 w2 => by
    obtain ⟨a, rfl, hs⟩ := w2.now
    exact ⟨a, us, rfl, g2.kn.sub _ _ hs, hl, q _ _ _ g2 u_is⟩
theorem en_sortS (h : Ev o te σ G (tSet P w us)) (h64 : us.length < 64) : EvN o (tCB (rSortS P w) (tCons te tNil)) σ G (fun _ xs => ∃ ys, xs = ys.map V.str ∧ ys.Perm us ∧ sortedS ys = true) := fun G1 H1 e kn Q q =>
  h G1 H1 e kn _ fun x G2 H2 g2 w2 => by
    obtain ⟨a, rfl, hs⟩ := w2.now
    exact ⟨a, us, rfl, g2.kn.sub _ _ hs, h64, fun ys p h1 h2 hp => q p _ G2 _ (g2.trans (.tmp g2.kn hp)) (g2.fresh hp) upd_same (Evl.fresh_back g2.kn.sub hp) fun _ _ => ⟨ys, rfl, h1, h2⟩⟩
end
end Ty
set_option Elab.async false
set_option linter.all false
set_option maxRecDepth 100000
set_option maxHeartbeats 4000000
/-! Walks whose items are pairs made on the way (d.items(), zip, enumerate), two names as the target. -/
namespace Ty
open PySem L2
open Evl (Ex ex_l ex_t)
section
variable {X : Cx} {K : PySem.W.Frag}
theorem pg_tupK {es : List Expr} {k : Nat} {t : TGs} {n : Nat} {pos : Pos} (e : X.K = K) (hc : X.calm = true) (h : PGs X es t)
    (hn : (assignEach es X.env).length = n := by rfl) (hst : (assignEach es X.env).findIdx? (·.1) = none := by rfl) : PG X (.Tuple es k pos) (gTup K n t) := e ▸ pg_tup hc h hn hst
/-- a tuple of data against () -/
def rEqT0 (K : PySem.W.Frag) : R2 := fun x y H Q => ∃ ds, Dp K H x (.tuple ds) ∧ Dp K H y (.tuple []) ∧ (PyData.tuple ds).canLay0 = true ∧ Q (.bl ds.isEmpty) H
theorem op_eqT0 (e : X.K = K) (hu : X.A.units + 64 < cLine) : OpR X (compareOp .Eq) (rEqT0 K) := by
  subst e
  intro pins s σ H x y v u Q I rx ry h
  obtain ⟨ds, hd, he, sd, q⟩ := h
  obtain ⟨as, r1⟩ := Dp.reads I _ x v hd rx
  obtain ⟨bs, r2⟩ := Dp.reads I _ y u he ry
  have hr : X.A.units + min (PyData.tuple ds).depth (PyData.tuple []).depth < cLine := by
    have h2 : min (PyData.tuple ds).depth (PyData.tuple []).depth ≤ (PyData.tuple []).depth := Nat.min_le_right _ _
    have h3 : (PyData.tuple []).depth ≤ 1 := by decide
    omega
  refine PySem.SeqAt.compareEq_reads r1 r2 sd (by decide) hr ?_
  have e0 : PyData.eqv (.tuple ds) (.tuple []) = ds.isEmpty := by cases ds <;> rfl
  rw [e0]
  exact ⟨.bl _, H, I, rfl, q⟩
end
section
variable {K : PySem.W.Frag} {o : Option Addr} {σ : L2.St} {Ge He G H : Hp} {ta tb td te : TE} {s t : T} {tt : TT} {D : Ends} {tz tu : TS} {a : Addr} {od : Obj}
def YPr (ps : List (V × V)) : Nat → Hp → V → Hp → Prop := fun i H x H' => ∃ p a b, ps[i]? = some (a, b) ∧ x = .ref p ∧ H p = none ∧ H' = upd H p (.tup [a, b])
abbrev PLP := Hp → List (V × V) → Prop
def EvJ (o : Option Addr) (wi : TI) (σ : L2.St) (G : Hp) (P : PLP) : Prop := ∀ G1 H1, Ex G G1 → Kn o G1 H1 → ∀ R : It → Hp → Prop,
  (∀ J G2 H2 ps, Go o G1 H1 G2 H2 → Walk J ps.length (Ex G2) (YPr ps) → (∀ G', Ex G2 G' → P G' ps) → R J H2) → wi σ H1 R
def prs (kvs : List (Key × V)) : List (V × V) := kvs.map fun kv => (kV kv.1, kv.2)
theorem walk_prs {d : Addr} {kvs : List (Key × V)} : Walk (Iti d od kvs) kvs.length (fun H => H d = some (.frz od (.dK kvs))) (YPr (prs kvs)) :=
  ⟨fun i H hi q => ⟨q, hi⟩, fun H q => ⟨q, Nat.le_refl _⟩, fun i H x H' hi q y => by
    obtain ⟨p, k, v, hk, e1, e2, e3⟩ := y
    refine ⟨p, kV k, v, ?_, e1, e2, e3⟩
    unfold prs
    rw [List.getElem?_map, hk]
    rfl⟩
theorem ej_items {kvs : List (Key × V)} {P : PLP} (h : Ev o td σ G (tIs (.ref a))) (hg : G a = some (.frz od (.dK kvs))) (k : ∀ G', Ex G G' → P G' (prs kvs)) : EvJ o (iItems td) σ G P := fun G1 H1 e kn R r =>
  h G1 H1 e kn _ fun v G2 H2 g2 w2 => by
    have g3 : G2 a = some (.frz od (.dK kvs)) := g2.gg _ _ (e _ _ hg)
    refine ⟨a, od, kvs, w2.eq, g2.kn.sub _ _ g3, r _ G2 H2 (prs kvs) g2 ?_ fun G' e' => k G' ((e.trans g2.gg).trans e')⟩
    have l : (prs kvs).length = kvs.length := List.length_map ..
    rw [l]
    exact walk_prs.mono (fun H' e' => e' _ _ g3) fun _ _ _ _ _ _ y => y
/-- [e for x, y in pairs if ..] -/
theorem en_lcP {wi : TI} {i1 j1 : Nat} {vs : List Nat} {P : PLP} (R : List (V × V) → Nat → Hp → List V → Prop) (hi : EvJ o wi σ G P) (hw : ∀ x y, wipe (((wipe σ vs).set i1 (some x)).set j1 (some y)) vs = wipe σ vs)
    (hup : ∀ xs i G' G'' acc, Ex G' G'' → R xs i G' acc → R xs i G'' acc)
    (h0 : ∀ G' xs, Ex G G' → P G' xs → xs.length ≤ 100000 ∧ R xs 0 G' [])
    (hs : ∀ G' (xs : List (V × V)) (i : Nat) x y acc, Ex G G' → P G' xs → xs[i]? = some (x, y) → acc.length ≤ i → R xs i G' acc → ∃ p, EvT o tt (((wipe σ vs).set i1 (some x)).set j1 (some y)) G' p ∧
      (p true → ∀ G1, Ex G' G1 → ∃ s, Ev o te (((wipe σ vs).set i1 (some x)).set j1 (some y)) G1 s ∧ ∀ G2 z, Ex G1 G2 → U s G2 z → R xs (i + 1) G2 (acc ++ [z])) ∧ (p false → ∀ G1, Ex G' G1 → R xs (i + 1) G1 acc)) :
    EvN o (tLc wi (gTup K 2 (gCons (gName i1) (gCons (gName j1) gNil))) tt te vs) σ G (fun G' ys => ∃ xs, P G' xs ∧ ys.length ≤ xs.length ∧ R xs xs.length G' ys) := fun G1 H1 e kn Q q =>
  hi G1 H1 e kn _ fun J G2 H2 xs g2 w hP D hD => by
    obtain ⟨hl, r0⟩ := h0 G2 xs (e.trans g2.gg) (hP G2 (Ex.refl _))
    have hob : o ≠ some D := fun z => by
      obtain ⟨⟨_, _, _, _, q2⟩, _⟩ := g2.kn.box D z
      rw [hD] at q2; cases q2
    have gD : G2 D = none := Evl.fresh_back g2.kn.sub hD
    have hD1 : H1 D = none := by
      cases z : H1 D with
      | none => rfl
      | some y => rw [g2.kp D y z (fun z => hob z)] at hD; cases hD
    refine lc_it w (fun i H => ∃ G' acc, Go o G2 H2 G' H ∧ G' D = none ∧ H D = some (.lst acc) ∧ acc.length ≤ i ∧ R xs i G' acc) ⟨G2, [], .tmp g2.kn hD, gD, upd_same, Nat.le_refl _, r0⟩ (fun i H _ p => ?_) (fun i x H H' hlt p y => ?_) (fun H p => ?_)
    · obtain ⟨G', acc, g, _⟩ := p
      exact g.gg.trans g.kn.sub
    · obtain ⟨G0, acc, g0, n0, hH0, la, r0⟩ := p
      obtain ⟨p1, u1, u2, hx, rfl, hp1, rfl⟩ := y
      have gn : Go o G0 H _ _ := Go.new (x := .tup [u1, u2]) g0.kn hp1
      have g := g0.trans gn
      have hDp : D ≠ p1 := fun z => by rw [z, hp1] at hH0; cases hH0
      have n1 : upd G0 p1 (.tup [u1, u2]) D = none := by rw [upd_ne hDp]; exact n0
      have hH : upd H p1 (.tup [u1, u2]) D = some (.lst acc) := by rw [upd_ne hDp]; exact hH0
      have r := hup _ _ _ _ _ gn.gg r0
      have hk : upd G0 p1 (.tup [u1, u2]) p1 = some (.tup [u1, u2]) := upd_same
      generalize upd G0 p1 (.tup [u1, u2]) = G' at gn g n1 r hk
      generalize upd H p1 (.tup [u1, u2]) = H' at gn g hH
      refine tg_pair g.kn (.of hk) ⟨hw u1 u2, ?_⟩
      have eG : Ex G G' := (e.trans g2.gg).trans g.gg
      obtain ⟨p, ht, hy, hn⟩ := hs G' xs i u1 u2 acc eG (hP G' g.gg) hx la r
      refine ht G' H' (Ex.refl _) g.kn _ fun b G3 H3 g3 pb => ?_
      have n3 : G3 D = none := g3.nw D n1 (by rw [hH]; simp)
      have h3 : H3 D = some (.lst acc) := g3.kp D _ hH hob
      cases b with
      | false =>
        show ∃ G' acc, _
        exact ⟨G3, acc, g.trans g3, n3, h3, by omega, hn pb G3 g3.gg⟩
      | true =>
        show te _ _ _
        obtain ⟨s, hev, hR⟩ := hy pb G3 g3.gg
        refine hev G3 H3 (Ex.refl _) g3.kn _ fun v G4 H4 g4 w4 => ?_
        have n4 : G4 D = none := g4.nw D n3 (by rw [h3]; simp)
        have h4 : H4 D = some (.lst acc) := g4.kp D _ h3 hob
        refine ⟨acc, h4, Evl.sz_lt (by omega), G4, acc ++ [v], ?_, n4, upd_same, by rw [List.length_append]; simp; omega, hR G4 v g4.gg w4⟩
        have g5 := (g.trans g3).trans g4
        refine ⟨g5.gg, ⟨fun a z ha => ?_, fun b z => ?_⟩, fun a z ha hb => ?_, g5.nw⟩
        · rw [upd_ne (fun z => by rw [z] at ha; rw [n4] at ha; cases ha)]; exact g5.kn.sub a _ ha
        · obtain ⟨⟨n, gg, r, c, q1⟩, q2⟩ := g5.kn.box b z
          exact ⟨⟨n, gg, r, c, by rw [upd_ne (fun z2 => hob (by rw [z, z2]))]; exact q1⟩, q2⟩
        · rw [upd_ne (ne_of_none ha hD)]; exact g5.kp a _ ha hb
    · obtain ⟨G', acc, g, n1, hH, la, r⟩ := p
      have g' := g2.trans g
      exact q D acc G' H g' hD1 hH n1 fun G'' e'' => ⟨xs, hP _ (g.gg.trans e''), la, hup _ _ _ _ _ e'' r⟩
/-- no test, each item's value told -/
theorem en_mapP {wi : TI} {i1 j1 : Nat} {vs : List Nat} {P : PLP} (f : V × V → V) (hi : EvJ o wi σ G P) (hw : ∀ x y, wipe (((wipe σ vs).set i1 (some x)).set j1 (some y)) vs = wipe σ vs)
    (hl : ∀ G' xs, Ex G G' → P G' xs → xs.length ≤ 100000) (he : ∀ G' (xs : List (V × V)) (i : Nat) x y, Ex G G' → P G' xs → xs[i]? = some (x, y) → Ev o te (((wipe σ vs).set i1 (some x)).set j1 (some y)) G' (tIs (f (x, y)))) :
    EvN o (tLc wi (gTup K 2 (gCons (gName i1) (gCons (gName j1) gNil))) tYes te vs) σ G (fun G' ys => ∃ xs, P G' xs ∧ ys = xs.map f) := fun G1 H1 e kn Q q =>
  en_lcP (K := K) (fun xs i G' acc => acc = (xs.take i).map f) hi hw (fun _ _ _ _ _ _ h => h) (fun G' xs e hP => ⟨hl G' xs e hP, rfl⟩) (fun G' xs i x y acc e hP hx la r => ⟨(· = true), fun G2 H2 e2 kn2 Q2 q2 => q2 true G2 H2 (.refl kn2) rfl,
    fun _ G3 e3 => ⟨_, (he G' xs i x y e hP hx).up e3, fun G4 y e4 w4 => by
      rw [w4.eq, r, List.take_succ, hx, List.map_append]
      rfl⟩, fun z => by cases z⟩) G1 H1 e kn Q fun p ys G2 H2 g2 hp h2 n2 w2 => by
    refine q p ys G2 H2 g2 hp h2 n2 fun G' e' => ?_
    obtain ⟨xs, hP, _, r⟩ := w2 G' e'
    rw [List.take_length] at r
    exact ⟨xs, hP, r⟩
theorem ev_allN {te : TE} {bs : List Bool} (h : EvN o te σ G (fun _ xs => xs = bs.map V.bl)) : Ev o (tCB (rAll K) (tCons te tNil)) σ G (tIs (.bl (bs.all id))) :=
  ev_cb (ea_cons (s := fun G' v => ∃ a, v = .ref a ∧ G' a = some (.lst (bs.map V.bl))) (h.ev fun G' a xs _ ha hp => ⟨a, rfl, by rw [ha, hp.now]⟩) ea_nil) fun G' vs e a => by
    cases a with
    | cons a1 a =>
      cases a
      obtain ⟨p, rfl, hp⟩ := a1.now
      exact rc_q u_is fun G1 H1 e1 kn1 Q q => ⟨p, _, rfl, .of (kn1.sub _ _ (e1 _ _ hp)), q⟩
mutual
theorem dp_lock {b : Addr} {z : HO} {kvs : List (Key × V)} (hb : G b = some (.dK kvs)) : ∀ (d : PyData) {v : V}, Dp K G v d → Dp K (upd G b z) v d
  | .none, _, h => by cases h; exact .non
  | .bool b, _, h => by cases h; exact .bl b
  | .int i, _, h => by cases h; exact .int i
  | .str x, _, h => by cases h; exact .str x
  | .list ds, _, h => by
    cases h with
    | lst a r => exact .lst (sqL_lock a hb) (dps_lock hb ds r)
  | .tuple ds, _, h => by
    cases h with
    | tup a r => exact .tup (sqT_lock a hb) (dps_lock hb ds r)
  | .dict _, _, h => by cases h
theorem dps_lock {b : Addr} {z : HO} {kvs : List (Key × V)} (hb : G b = some (.dK kvs)) : ∀ (ds : List PyData) {vs : List V}, DpAll K G vs ds → DpAll K (upd G b z) vs ds
  | [], _, h => by cases h; exact .nil
  | d :: ds, _, h => by
    cases h with
    | cons a r => exact .cons (dp_lock hb d a) (dps_lock hb ds r)
end
theorem DKs.lock {b : Addr} {z : HO} {kvs : List (Key × V)} (hb : G b = some (.dK kvs)) : ∀ {ks : List (Key × V)} {es : List (PyData × PyData)}, DKs K G ks es → DKs K (upd G b z) ks es
  | _, _, .nil => .nil
  | _, _, .cons a r => .cons (dp_lock hb _ a) (r.lock hb)
theorem Vl.dic {v : V} {es : List (PyData × PyData)} (h : Vl K G v (.dict es)) : ∃ a kvs, v = .ref a ∧ G a = some (.dK kvs) ∧ DKs K G kvs es := by
  rcases h with h | ⟨a, kvs, es', e1, e2, e3, e4⟩
  · cases h
  · cases e2; exact ⟨a, kvs, e1, e3, e4⟩
theorem DKs.at : ∀ {kvs : List (Key × V)} {es : List (PyData × PyData)} {i : Nat} {k : Key} {v : V}, DKs K G kvs es → kvs[i]? = some (k, v) → ∃ d, es[i]? = some (kD k, d) ∧ Dp K G v d
  | _, _, _, _, _, .nil, h => by simp at h
  | _, _, 0, _, _, .cons a _, h => by
    cases (show some _ = some _ from h)
    exact ⟨_, rfl, a⟩
  | _, _, i + 1, _, _, .cons _ r, h => DKs.at (i := i) r h
theorem dp_key {k : Key} : Dp K G (kV k) (kD k) := by
  cases k with
  | inl i => exact .int i
  | inr z => exact .str z
end
end Ty
set_option Elab.async false
set_option linter.all false
set_option maxRecDepth 100000
set_option maxHeartbeats 4000000
/-! Three names at once; l.extend(a new list); list(a known tuple); rows of types. -/
namespace SS
theorem mem_dd {l : List PySem.Str} {x z : PySem.Str} : z ∈ ddS l x ↔ z ∈ l ∨ z = x := by
  unfold ddS
  split
  · rename_i h
    have h' : x ∈ l := by simpa using h
    exact ⟨.inl, fun h => h.elim id fun e => e ▸ h'⟩
  · simp
theorem mem_fold {z : PySem.Str} : ∀ (r l : List PySem.Str), z ∈ r.foldl ddS l ↔ z ∈ l ∨ z ∈ r
  | [], l => by simp
  | x :: r, l => by
    rw [List.foldl_cons, mem_fold r, mem_dd, List.mem_cons, or_assoc]
theorem nd_fold : ∀ (r l : List PySem.Str), l.Nodup → (r.foldl ddS l).Nodup
  | [], l, h => h
  | x :: r, l, h => nd_fold r _ (dd_nodup h x)
theorem mem_fm {zs : List PySem.Str} {z : PySem.Str} : z ∈ fmS zs zs.length ↔ z ∈ zs := by
  unfold fmS
  rw [List.take_length, mem_fold]
  simp
theorem nd_fm (zs : List PySem.Str) : (fmS zs zs.length).Nodup := nd_fold _ _ List.nodup_nil
end SS
namespace Ty
open PySem L2
open Evl (Ex ex_l ex_t)
section
variable {K : PySem.W.Frag} {o : Option Addr} {σ : L2.St} {Ge He G H : Hp} {te ta tb tc : TE} {s t u : T} {tt : TT} {De D : Ends} {tz tw : TS} {l : Addr} {xs : List V} {P : PL}
theorem AllU.app : ∀ {ts us : List T} {vs ws : List V}, AllU G ts vs → AllU G us ws → AllU G (ts ++ us) (vs ++ ws)
  | _, _, _, _, .nil, b => b
  | _, _, _, _, .cons a r, b => .cons a (r.app b)
theorem AllU.at : ∀ {ts : List T} {vs : List V} {i : Nat} {v : V}, AllU G ts vs → vs[i]? = some v → ∃ t, ts[i]? = some t ∧ U t G v
  | _, _, _, _, .nil, h => by simp at h
  | _, _, 0, _, .cons a _, h => by
    cases (show some _ = some _ from h)
    exact ⟨_, rfl, a⟩
  | _, _, i + 1, _, .cons _ r, h => AllU.at (i := i) r h
theorem q_par3N {i j l : Nat} (g : Go o Ge He G H) (h1 : EvN o ta σ G P) (h2 : ∀ G', Ex G G' → Ev o tb σ G' t) (h3 : ∀ G', Ex G G' → Ev o tc σ G' u)
    (k : ∀ p xs v w G2 H2, Go o Ge He G2 H2 → Go o G H G2 H2 → He p = none → o ≠ some p → H2 p = some (.lst xs) → G2 p = none → UP P G2 xs → U t G2 v → U u G2 w → tz De (((σ.set i (some (.ref p))).set j (some v)).set l (some w)) H2) :
    tSeq (tPar3 i j l (tCons ta (tCons tb (tCons tc tNil)))) tz De σ H :=
  h1 G H (Ex.refl _) g.kn _ fun p xs G2 H2 g2 hp h2' n2 w2 => h2 G2 g2.gg G2 H2 (Ex.refl _) g2.kn _ fun v G3 H3 g3 w3 => h3 G3 (g2.gg.trans g3.gg) G3 H3 (Ex.refl _) g3.kn _ fun w G4 H4 g4 w4 => by
    have hob := g.kn.nbox hp
    have g34 := g3.trans g4
    exact ⟨.ref p, v, w, rfl, k p xs v w G4 H4 (g.trans (g2.trans g34)) (g2.trans g34) (g.fresh hp) hob (g34.kp p _ h2' hob) (g34.nw p n2 (by rw [h2']; simp)) (w2.up g34.gg) (w3.up g4.gg) w4⟩
/-- l.extend(a new list) -/
theorem s_extN (g : Go o Ge He G H) (he : He l = none) (ga : G l = none) (ho : o ≠ some l) (hl : H l = some (.lst xs)) (ha : Ev o ta σ G (tIs (.ref l))) (hb : ∀ G', Ex G G' → EvN o tb σ G' P) (hz : xs.length ≤ 50000) (hp : ∀ G' zs, UP P G' zs → zs.length ≤ 50000)
    (k : ∀ zs G2 H2, Go o Ge He G2 (upd H2 l (.lst (xs ++ zs))) → Go o G H G2 H2 → G2 l = none → UP P G2 zs → D.nx σ (upd H2 l (.lst (xs ++ zs)))) : tDrop (tBM K "list" (rExtA K) ta (tCons tb tNil)) D σ H :=
  ha G H (Ex.refl _) g.kn _ fun v G2 H2 g2 w2 => by
    have e := w2.eq
    subst e
    have h2 := g2.kp l _ hl ho
    refine ⟨.inl ⟨rfl, xs, .of h2⟩, hb G2 g2.gg G2 H2 (Ex.refl _) g2.kn _ fun p zs G3 H3 g3 hp0 hp3 n3p w3 => ?_⟩
    have h3 := g3.kp l _ h2 ho
    have g13 := g2.trans g3
    have n3 : G3 l = none := g13.nw l ga (by rw [hl]; simp)
    have lz := hp G3 zs w3
    exact .inl ⟨l, p, xs, zs, rfl, rfl, h3, hp3, Evl.sz_of (by omega), k zs G3 H3 ((g.trans g13).mut he n3 ho) g13 n3 w3⟩
/-- list(a known tuple), a new list -/
theorem en_listT (h : Ev o te σ G (fun G v => ∃ b zs, v = .ref b ∧ SqT K G b zs ∧ UP P G zs)) : EvN o (tCB (rListOf K) (tCons te tNil)) σ G P := fun G1 H1 e kn Q q =>
  h G1 H1 e kn _ fun v G2 H2 g2 w2 => by
    obtain ⟨b, zs, rfl, hs, hp⟩ := w2.now
    exact ⟨b, zs, rfl, .inr (ex_t g2.kn.sub hs), fun l hl => q l zs G2 _ (g2.trans (.tmp g2.kn hl)) (g2.fresh hl) upd_same (Evl.fresh_back g2.kn.sub hl) hp⟩
/-- list(a known list), a new list -/
theorem en_listL (h : Ev o te σ G (fun G v => ∃ b zs, v = .ref b ∧ SqL K G b zs ∧ UP P G zs)) : EvN o (tCB (rListOf K) (tCons te tNil)) σ G P := fun G1 H1 e kn Q q =>
  h G1 H1 e kn _ fun v G2 H2 g2 w2 => by
    obtain ⟨b, zs, rfl, hs, hp⟩ := w2.now
    exact ⟨b, zs, rfl, .inl (ex_l g2.kn.sub hs), fun l hl => q l zs G2 _ (g2.trans (.tmp g2.kn hl)) (g2.fresh hl) upd_same (Evl.fresh_back g2.kn.sub hl) hp⟩
/-- items of the types ts, made one by one over a walk of known values -/
theorem en_row {wi : TI} {j : Nat} {vs : List Nat} {zs : List V} (ts : List T) (hi : EvI o wi σ G fun _ ys => ys = zs) (hw : ∀ x, wipe ((wipe σ vs).set j (some x)) vs = wipe σ vs) (hl : zs.length ≤ 100000) (hz : zs.length = ts.length)
    (he : ∀ G' (i : Nat) z t, Ex G G' → zs[i]? = some z → ts[i]? = some t → Ev o te ((wipe σ vs).set j (some z)) G' t) : EvN o (tLc wi (gName j) tYes te vs) σ G fun G' ys => AllU G' ts ys := by
  refine (en_lc (fun xs i G' acc => AllU G' (ts.take i) acc) hi hw (fun _ _ _ _ _ e h => h.up e) (fun G' xs e h => ⟨by rw [h.now]; exact hl, .nil⟩) fun G' xs i x acc e h hx _ r => ?_).impN fun G' ys h => ?_
  · rw [h.now] at hx
    obtain ⟨t, ht⟩ : ∃ t, ts[i]? = some t := by
      have : i < ts.length := by rw [← hz]; exact (List.getElem?_eq_some_iff.mp hx).1
      exact ⟨_, List.getElem?_eq_getElem this⟩
    refine ⟨(· = true), fun G2 H2 e2 kn2 Q2 q2 => q2 true G2 H2 (.refl kn2) rfl, fun _ G1 e1 => ⟨t, he G1 i x t (e.trans e1) hx ht, fun G2 y e2 u => ?_⟩, fun z => nomatch z⟩
    rw [List.take_succ, ht]
    exact (r.up (e1.trans e2)).app (.cons u .nil)
  · obtain ⟨xs, hp, _, r⟩ := h
    rw [hp.now, hz, List.take_length] at r
    exact r
/-- two new lists of one's own -/
theorem q_parNN {P2 : PL} {i j : Nat} (g : Go o Ge He G H) (h1 : EvN o ta σ G P) (h2 : ∀ G', Ex G G' → EvN o tb σ G' P2)
    (k : ∀ p xs q ys G2 H2, Go o Ge He G2 H2 → Go o G H G2 H2 → He p = none → He q = none → o ≠ some p → o ≠ some q → q ≠ p → H2 p = some (.lst xs) → H2 q = some (.lst ys) → G2 p = none → G2 q = none → UP P G2 xs → UP P2 G2 ys → tz De ((σ.set i (some (.ref p))).set j (some (.ref q))) H2) :
    tSeq (tPar i j (tCons ta (tCons tb tNil))) tz De σ H :=
  h1 G H (Ex.refl _) g.kn _ fun p xs G2 H2 g2 hp h2' n2 w2 => h2 G2 g2.gg G2 H2 (Ex.refl _) g2.kn _ fun q ys G3 H3 g3 hq h3 n3 w3 => by
    have hob := g.kn.nbox hp
    have hqp : q ≠ p := fun e => by rw [e, h2'] at hq; cases hq
    exact ⟨.ref p, .ref q, rfl, k p xs q ys G3 H3 (g.trans (g2.trans g3)) (g2.trans g3) (g.fresh hp) ((g.trans g2).fresh hq) hob (g2.kn.nbox hq) hqp (g3.kp p _ h2' hob) h3 (g3.nw p n2 (by rw [h2']; simp)) n3 (w2.up g3.gg) w3⟩
/-- [x for x in known values if ..] -/
theorem en_pick {wi : TI} {j : Nat} {vs : List Nat} {zs : List V} (b : V → Bool) (hi : EvI o wi σ G fun _ ys => ys = zs) (hw : ∀ x, wipe ((wipe σ vs).set j (some x)) vs = wipe σ vs) (hl : zs.length ≤ 100000)
    (ht : ∀ G' x, Ex G G' → x ∈ zs → EvT o tt ((wipe σ vs).set j (some x)) G' (· = b x)) (he : ∀ G' x, Ex G G' → x ∈ zs → Ev o te ((wipe σ vs).set j (some x)) G' (tIs x)) :
    EvN o (tLc wi (gName j) tt te vs) σ G fun _ ys => ys = zs.filter b := by
  refine (en_lc (fun xs i _ acc => acc = (zs.take i).filter b) hi hw (fun _ _ _ _ _ _ h => h) (fun G' xs e h => ⟨by rw [h.now]; exact hl, rfl⟩) fun G' xs i x acc e h hx _ r => ?_).impN fun G' ys h => ?_
  · rw [h.now] at hx
    have hm := List.mem_of_getElem? hx
    have e1 : zs.take (i + 1) = zs.take i ++ [x] := by rw [List.take_succ, hx]; rfl
    refine ⟨(· = b x), ht G' x e hm, fun hb G1 e1' => ⟨tIs x, he G1 x (e.trans e1') hm, fun G2 y e2 u => ?_⟩, fun hb G1 e1' => ?_⟩
    · rw [u.eq, r, e1, List.filter_append]
      simp [show b x = true from hb.symm]
    · rw [r, e1, List.filter_append]
      simp [show b x = false from hb.symm]
  · obtain ⟨xs, hp, _, r⟩ := h
    rw [r, hp.now, List.take_length]
/-- slices whose ends are not told -/
def EvOU (o : Option Addr) (to : TO) (σ : L2.St) (G : Hp) : Prop := ∀ G1 H1, Ex G G1 → Kn o G1 H1 → ∀ Q : Option Int → Hp → Prop, (∀ i G2 H2, Go o G1 H1 G2 H2 → Q i H2) → to σ H1 Q
theorem eu_none : EvOU o tNoPart σ G := fun G1 H1 e kn Q q => q none G1 H1 (.refl kn)
theorem eu_some (h : Ev o te σ G (fun _ v => ∃ i : Int, v = .int i)) : EvOU o (tPart te) σ G := fun G1 H1 e kn Q q => h G1 H1 e kn _ fun v G2 H2 g2 w2 => by
  obtain ⟨i, e⟩ := w2.now
  exact ⟨i, e, q _ G2 H2 g2⟩
theorem en_slA {tl th : TO} {P P' : PL} (h : EvN o te σ G P') (hl : EvOU o tl σ G) (hh : EvOU o th σ G) (hP : ∀ G' xs lo hi, P' G' xs → P G' (cutV xs lo hi)) : EvN o (tSl (rSlG K) te tl th) σ G P := fun G1 H1 e kn Q q =>
  (h.ev (t := fun G v => ∃ a xs, v = .ref a ∧ G a = some (.lst xs) ∧ UP P' G xs) fun G' a xs e ha p0 => ⟨a, xs, rfl, ha, p0⟩) G1 H1 e kn _ fun v G2 H2 g2 w2 => hl G2 H2 (e.trans g2.gg) g2.kn _ fun lo G3 H3 g3 => hh G3 H3 ((e.trans g2.gg).trans g3.gg) g3.kn _ fun hi G4 H4 g4 => by
    obtain ⟨a, xs, rfl, hs, hp⟩ := w2.now
    have g := (g2.trans g3).trans g4
    exact .inl ⟨a, xs, rfl, .of (((g3.gg.trans g4.gg).trans g4.kn.sub) _ _ hs), fun p hp4 => q p _ G4 _ (g.trans (.tmp g4.kn hp4)) (g.fresh hp4) upd_same (Evl.fresh_back g4.kn.sub hp4) fun G' e' => hP G' xs lo hi (hp G' ((g3.gg.trans g4.gg).trans e'))⟩
theorem cut_mem {xs : List V} {lo hi : Option Int} {x : V} (h : x ∈ cutV xs lo hi) : x ∈ xs := by
  unfold cutV at h
  exact List.mem_of_mem_drop (List.mem_of_mem_take h)
theorem cut_len {xs : List V} {lo hi : Option Int} : (cutV xs lo hi).length ≤ xs.length := by
  unfold cutV
  rw [List.length_take, List.length_drop]
  omega
/-- dict(a list of pairs) -/
def rDictP (K : PySem.W.Frag) : List V → Hp → VK → Prop := fun xs H Q => ∃ (a : Addr) (ps : List Addr) (kvs : List (Key × V)), xs = [.ref a] ∧ SqL K H a (ps.map V.ref) ∧ Paired (fun p kv => SqT K H p [kV kv.1, kv.2]) ps kvs ∧
    ∀ p, H p = none → Q (.ref p) (upd H p (.dK (mergeK [] kvs)))
theorem kDictP {X : Cx} (e : X.K = K) (hc : X.calm = true) : CallR X (.type "dict") (rDictP K) := by subst e; exact call_dictP hc
/-- a pair (key, value) of a kind -/
def tPr (K : PySem.W.Frag) (p : Key × V → Prop) : T := fun G v => ∃ a kv, v = .ref a ∧ SqT K G a [kV kv.1, kv.2] ∧ p kv
theorem prs_of {p : Key × V → Prop} : ∀ {xs : List V}, (∀ x ∈ xs, U (tPr K p) G x) → ∃ (ps : List Addr) (kvs : List (Key × V)), xs = ps.map V.ref ∧ Paired (fun a kv => SqT K G a [kV kv.1, kv.2]) ps kvs ∧ ∀ kv ∈ kvs, p kv
  | [], _ => ⟨[], [], rfl, .nil, fun _ z => nomatch z⟩
  | x :: xs, h => by
    obtain ⟨a, kv, rfl, h1, h2⟩ := (h x (List.mem_cons_self ..)).now
    obtain ⟨ps, kvs, rfl, h3, h4⟩ := prs_of fun y hy => h y (List.mem_cons_of_mem _ hy)
    exact ⟨a :: ps, kv :: kvs, rfl, .cons h1 h3, fun kv' m => (List.mem_cons.mp m).elim (fun e => e ▸ h2) (h4 kv')⟩
theorem put_mem {kvs : List (Key × V)} {k : Key} {v : V} {kv : Key × V} (h : kv ∈ putK kvs k v) : kv ∈ kvs ∨ kv = (k, v) := by
  unfold putK at h
  split at h
  · obtain ⟨q, hq, rfl⟩ := List.mem_map.mp h
    split
    · rename_i e
      exact .inr (by rw [e])
    · exact .inl hq
  · rcases List.mem_append.mp h with m | m
    · exact .inl m
    · exact .inr (List.mem_singleton.mp m)
theorem merge_mem {kv : Key × V} : ∀ (more kvs : List (Key × V)), kv ∈ mergeK kvs more → kv ∈ kvs ∨ kv ∈ more
  | [], _, h => .inl h
  | q :: more, kvs, h => by
    rcases merge_mem more _ h with m | m
    · exact (put_mem m).elim .inl fun e => .inr (e ▸ List.mem_cons_self ..)
    · exact .inr (List.mem_cons_of_mem _ m)
theorem ev_dictP {p : Key × V → Prop} {n : Nat} (h : EvN o te σ G (fun G xs => xs.length ≤ n ∧ ∀ x ∈ xs, U (tPr K p) G x)) : Ev o (tCB (rDictP K) (tCons te tNil)) σ G (fun G v => ∃ a kvs, v = .ref a ∧ G a = some (.dK kvs) ∧ kvs.length ≤ n ∧ ∀ kv ∈ kvs, p kv) := fun G1 H1 e kn Q q =>
  (h.ev (t := fun G v => ∃ a xs, v = .ref a ∧ G a = some (.lst xs) ∧ xs.length ≤ n ∧ ∀ x ∈ xs, U (tPr K p) G x) fun G' a xs e ha hp => ⟨a, xs, rfl, ha, hp.now⟩) G1 H1 e kn _ fun v G2 H2 g2 w2 => by
    obtain ⟨a, xs, rfl, hs, hl, hx⟩ := w2.now
    obtain ⟨ps, kvs, rfl, h3, h4⟩ := prs_of hx
    have hl' : kvs.length ≤ n := by
      have := Paired.length h3
      rw [List.length_map] at hl
      omega
    refine ⟨a, ps, kvs, rfl, .of (g2.kn.sub _ _ hs), L2.Paired.mapP h3 fun _ _ z => ex_t g2.kn.sub z, fun d hd => q _ _ _ (g2.trans (.new g2.kn hd)) fun G' e' => ⟨d, _, rfl, e' d _ upd_same, ?_, fun kv m => (merge_mem kvs [] m).elim (fun z => nomatch z) (h4 kv)⟩⟩
    have := length_mergeK kvs []
    rw [List.length_nil] at this
    omega
theorem sm_dict2 {n : Nat} {a b : Addr} {kvs : List (Key × V)} (h : G a = some (.dK kvs)) (h2 : G b = some (.dK kvs)) (hl : kvs.length ≤ 1000) (hx : ∀ kv ∈ kvs, Sm0 K n G kv.2 kv.2) : Sm K (n + 1) G (.ref a) (.ref b) :=
  .inr (.inr (.inr ⟨a, b, kvs, kvs, rfl, rfl, h, h2, rfl, hl, fun kv m => by
    obtain ⟨i, hi⟩ := List.getElem?_of_mem m
    obtain ⟨w, hw, j, hj⟩ := valV_has (k := kv.1) (v := kv.2) hi
    exact ⟨w, w, hw, hw, hx _ hj⟩⟩))
theorem ev_dictOf {a : Addr} {kvs : List (Key × V)} (h : Ev o te σ G (tIs (.ref a))) (hg : G a = some (.dK kvs)) : Ev o (tCB rDictOf (tCons te tNil)) σ G (fun G v => ∃ b, v = .ref b ∧ G b = some (.dK kvs)) := fun G1 H1 e kn Q q =>
  h G1 H1 e kn _ fun v G2 H2 g2 w2 => by
    rw [w2.eq]
    exact ⟨a, kvs, rfl, .inl (g2.kn.sub _ _ (g2.gg _ _ (e _ _ hg))), fun p hp => q _ _ _ (g2.trans (.new g2.kn hp)) fun G' e' => ⟨p, rfl, e' p _ upd_same⟩⟩
/-- what was new since the entry may be one's own -/
theorem Go.own {a : Addr} {x : HO} (g : Go o Ge He G H) (n : Ge a = none) (h : G a = some x) : He a = none ∧ o ≠ some a ∧ H a = some x := by
  refine ⟨?_, g.kn.gbox h, g.kn.sub _ _ h⟩
  cases z : He a with
  | none => rfl
  | some y => rw [g.nw a n (by rw [z]; simp)] at h; cases h
theorem q_parV {i j : Nat} {s t : T} (g : Go o Ge He G H) (h1 : Ev o te σ G s) (h2 : Ev o tb σ G t)
    (k : ∀ v u G2 H2, Go o Ge He G2 H2 → Go o G H G2 H2 → U s G2 v → U t G2 u → tz De ((σ.set i (some v)).set j (some u)) H2) : tSeq (tPar i j (tCons te (tCons tb tNil))) tz De σ H :=
  h1 G H (Ex.refl _) g.kn _ fun v G2 H2 g2 w2 => h2 G2 H2 g2.gg g2.kn _ fun u G3 H3 g3 w3 => ⟨v, u, rfl, k v u G3 H3 (g.trans (g2.trans g3)) (g2.trans g3) (w2.up g3.gg) w3⟩
theorem sm0_flat {n : Nat} {x : V} (h : fl x = true) : Sm0 K (n + 1) G x x := .inl ⟨rfl, h⟩
theorem sm_strs {n : Nat} : ∀ zs : List PySem.Str, Paired (Sm K (n + 1) G) (zs.map V.str) (zs.map V.str)
  | [] => .nil
  | _ :: zs => .cons (.flat rfl) (sm_strs zs)
end
end Ty
set_option Elab.async false
set_option linter.all false
set_option maxRecDepth 100000
set_option maxHeartbeats 4000000
/-! {k: v for x, y in pairs}; a reading under a lock, of any type. -/
namespace Ty
open PySem L2
open Evl (Ex ex_l ex_t)
theorem dc_it {J : It} {n : Nat} {Gp : Hp → Prop} {Y : Nat → Hp → V → Hp → Prop} (w : Walk J n Gp Y) {g : TG} {tt : TT} {tk tv : TE} {vs : List Nat} {σ : L2.St} {H1 : Hp} {D : Addr} {Qd : Hp → Prop} (Pv : Nat → Hp → Prop) (h0 : Pv 0 (upd H1 D (.dK []))) (hG : ∀ i H, i ≤ n → Pv i H → Gp H)
    (hs : ∀ i x H H', i < n → Pv i H → Y i H x H' → g x (wipe σ vs) H' fun σ2 H2 => wipe σ2 vs = wipe σ vs ∧ tt σ2 H2 fun b H3 =>
      if b = true then tk σ2 H3 fun y H4 => tv σ2 H4 fun z H5 => ∃ kvs k, y = kV k ∧ H5 D = some (.dK kvs) ∧ kvs.length < PySem.sizeLine ∧ Pv (i + 1) (upd H5 D (.dK (putK kvs k z))) else Pv (i + 1) H3) (hd : ∀ H, Pv n H → Qd H) :
    ∃ W : Nat → Nat → Hp → Prop, (∃ m, W 0 m (upd H1 D (.dK []))) ∧ ∀ i m H, W i m H →
      (J.stop i H ∧ Qd H) ∨ (J.go i H ∧ ∃ Nx : Hp → Prop, (∀ H', Nx H' → ∃ m', m' < m ∧ W (i + 1) m' H') ∧ ∀ x H', J.yld i H x H' → g x (wipe σ vs) H' fun σ2 H2 => wipe σ2 vs = wipe σ vs ∧ tt σ2 H2 fun b H3 =>
        if b = true then tk σ2 H3 fun y H4 => tv σ2 H4 fun z H5 => ∃ kvs k, y = kV k ∧ H5 D = some (.dK kvs) ∧ kvs.length < PySem.sizeLine ∧ Nx (upd H5 D (.dK (putK kvs k z))) else Nx H3) := by
  refine ⟨fun i m H => m = n - i ∧ i ≤ n ∧ Pv i H, ⟨n, by simp, Nat.zero_le _, h0⟩, ?_⟩
  rintro i m H ⟨rfl, hi, p⟩
  have q := hG i H hi p
  by_cases hlt : i < n
  · exact .inr ⟨w.goes i H hlt q, Pv (i + 1), fun H' p' => ⟨n - (i + 1), by omega, rfl, hlt, p'⟩, fun x H' y => hs i x H H' hlt p (w.yields i H x H' hlt q y)⟩
  · have e : i = n := by omega
    subst e
    exact .inl ⟨w.stops H q, hd H p⟩
section
variable {K : PySem.W.Frag} {o : Option Addr} {σ : L2.St} {Ge He G H : Hp} {ta tb td te tk tv : TE} {s t : T} {tt : TT}
theorem merge_snoc {l : List (Key × V)} {p : Key × V} : mergeK [] (l ++ [p]) = putK (mergeK [] l) p.1 p.2 := by
  unfold mergeK
  rw [List.foldl_append]
  rfl
/-- {k: v for x, y in pairs}, key and value told -/
theorem ev_dcP {wi : TI} {i1 j1 : Nat} {vs : List Nat} {P : PLP} (f : V × V → Key × V) (hi : EvJ o wi σ G P) (hw : ∀ x y, wipe (((wipe σ vs).set i1 (some x)).set j1 (some y)) vs = wipe σ vs) (hl : ∀ G' xs, Ex G G' → P G' xs → xs.length ≤ 50000)
    (hk : ∀ G' (xs : List (V × V)) (i : Nat) x y, Ex G G' → P G' xs → xs[i]? = some (x, y) → Ev o tk (((wipe σ vs).set i1 (some x)).set j1 (some y)) G' (tIs (kV (f (x, y)).1)))
    (hv : ∀ G' (xs : List (V × V)) (i : Nat) x y, Ex G G' → P G' xs → xs[i]? = some (x, y) → Ev o tv (((wipe σ vs).set i1 (some x)).set j1 (some y)) G' (tIs (f (x, y)).2)) :
    Ev o (tDc wi (gTup K 2 (gCons (gName i1) (gCons (gName j1) gNil))) tYes tk tv vs) σ G (fun G' v => ∃ a xs, v = .ref a ∧ P G' xs ∧ G' a = some (.dK (mergeK [] (xs.map f)))) := fun G1 H1 e kn Q q =>
  hi G1 H1 e kn _ fun J G2 H2 xs g2 w hP D hD => by
    have hob : o ≠ some D := fun z => by
      obtain ⟨⟨_, _, _, _, q2⟩, _⟩ := g2.kn.box D z
      rw [hD] at q2; cases q2
    have gD : G2 D = none := Evl.fresh_back g2.kn.sub hD
    have hD1 : H1 D = none := by
      cases z : H1 D with
      | none => rfl
      | some y => rw [g2.kp D y z (fun z => hob z)] at hD; cases hD
    have hlx := hl G2 xs (e.trans g2.gg) (hP G2 (Ex.refl _))
    refine dc_it w (fun i H => ∃ G', Go o G2 H2 G' H ∧ G' D = none ∧ H D = some (.dK (mergeK [] ((xs.take i).map f)))) ⟨G2, .tmp g2.kn hD, gD, upd_same⟩ (fun i H _ p => ?_) (fun i x H H' hlt p y => ?_) (fun H p => ?_)
    · obtain ⟨G', g, _⟩ := p
      exact g.gg.trans g.kn.sub
    · obtain ⟨G0, g0, n0, hH0⟩ := p
      obtain ⟨p1, u1, u2, hx, rfl, hp1, rfl⟩ := y
      have gn : Go o G0 H _ _ := Go.new (x := .tup [u1, u2]) g0.kn hp1
      have g := g0.trans gn
      have hDp : D ≠ p1 := fun z => by rw [z, hp1] at hH0; cases hH0
      have n1 : upd G0 p1 (.tup [u1, u2]) D = none := by rw [upd_ne hDp]; exact n0
      have hH : upd H p1 (.tup [u1, u2]) D = some (.dK (mergeK [] ((xs.take i).map f))) := by rw [upd_ne hDp]; exact hH0
      have hk1 : upd G0 p1 (.tup [u1, u2]) p1 = some (.tup [u1, u2]) := upd_same
      generalize upd G0 p1 (.tup [u1, u2]) = G' at gn g n1 hk1
      generalize upd H p1 (.tup [u1, u2]) = H' at gn g hH
      refine tg_pair g.kn (.of hk1) ⟨hw u1 u2, ?_⟩
      have eG : Ex G G' := (e.trans g2.gg).trans g.gg
      show tk _ H' fun y H4 => tv _ H4 fun z H5 => _
      refine hk G' xs i u1 u2 eG (hP G' g.gg) hx G' H' (Ex.refl _) g.kn _ fun y G3 H3 g3 w3 => hv G3 xs i u1 u2 (eG.trans g3.gg) (hP G3 (g.gg.trans g3.gg)) hx G3 H3 (Ex.refl _) g3.kn _ fun z G4 H4 g4 w4 => ?_
      have g34 := g3.trans g4
      have n4 : G4 D = none := g34.nw D n1 (by rw [hH]; simp)
      have h4 : H4 D = some (.dK (mergeK [] ((xs.take i).map f))) := g34.kp D _ hH hob
      have hlm := length_mergeK ((xs.take i).map f) []
      rw [List.length_map, List.length_nil] at hlm
      have hlt2 : (xs.take i).length ≤ i := by rw [List.length_take]; omega
      refine ⟨_, (f (u1, u2)).1, w3.eq, h4, Evl.sz_lt (by omega), G4, ?_, n4, ?_⟩
      · have g5 := g.trans g34
        refine ⟨g5.gg, ⟨fun a z ha => ?_, fun b z => ?_⟩, fun a z ha hb => ?_, g5.nw⟩
        · rw [upd_ne (fun z => by rw [z] at ha; rw [n4] at ha; cases ha)]; exact g5.kn.sub a _ ha
        · obtain ⟨⟨n, gg, r, c, q1⟩, q2⟩ := g5.kn.box b z
          exact ⟨⟨n, gg, r, c, by rw [upd_ne (fun z2 => hob (by rw [z, z2]))]; exact q1⟩, q2⟩
        · rw [upd_ne (ne_of_none ha hD)]; exact g5.kp a _ ha hb
      · rw [upd_same, w4.eq, List.take_succ, hx]
        show some (HO.dK (putK _ _ _)) = some (HO.dK (mergeK [] ((xs.take i ++ [(u1, u2)]).map f)))
        rw [List.map_append]
        exact congrArg (fun z => some (HO.dK z)) merge_snoc.symm
    · obtain ⟨G', g, n1, hH⟩ := p
      rw [List.take_length] at hH
      have g' := g2.trans g
      exact q (.ref D) _ H (g'.fix hD1 hH n1 hob) fun G'' e'' => ⟨D, xs, rfl, hP _ (g.gg.trans ((Ex.new n1).trans e'')), e'' _ _ upd_same⟩
/-- a reading under a lock of what is known -/
theorem ev_lockT {b : Addr} {w : HO} (gb : ∀ G', Ex G G' → G' b = some w) (mu : Mut (some w)) (h : ∀ G' od, Ex G G' → Ev .none te σ (upd G' b (.frz od w)) t) (ht : ∀ G2 G' od v, G2 b = some (.frz od w) → U t G2 v → Ex (upd G2 b w) G' → s G' v) : Ev .none (tLockE te) σ G s := fun G1 H1 e kn Q q => by
  have g1 := gb G1 e
  have h1 := kn.sub _ _ g1
  refine ⟨b, w, h1, mu, fun od => h G1 od e _ _ (Ex.refl _) kn.lock _ fun v2 G2 H2 g2 w2 => ?_⟩
  exact ⟨g2.kn.sub _ _ (g2.gg b _ upd_same), q v2 _ _ (Go.unlock kn g1 h1 g2) fun G' e' => ht G2 G' od v2 (g2.gg b _ upd_same) w2 e'⟩
end
end Ty
set_option Elab.async false
set_option linter.all false
set_option maxRecDepth 100000
set_option maxHeartbeats 4000000
/-! An own __init__ that says super().__init__(..), which finds a def, and then keeps its own. -/
namespace Ex
open PySem L2 NdefX Ty
/-- of an instance's class C: super at C1 finds the def at fT -/
structure SubC (K : PySem.W.Frag) (C C1 fT : Addr) : Prop where
  oex : OexC K C
  ini : PySem.W.ks_superIn K C C1 "__init__" = some (some (.ref fT))
  inD : PySem.W.mroIn K C (.ref C1) = some true
def noX : XK := fun _ _ _ => False
/-- the promise of such an __init__ -/
def spOwn (n : Nat) (N : List Str) (K : PySem.W.Frag) (C1 fT : Addr) (spT : Sp) (dvs : List V) (t : TA) (ts : TS) : Sp := fun vs H Q _ => ∃ (a C : Addr) (xs : List V), vs = .ref a :: xs ∧ xs.length = n ∧ SubC K C C1 fT ∧ H a = some (exo a C none) ∧
  t (startF N vs [none]) H fun ws H1 => spT (.ref a :: (ws ++ dvs)) H1 (fun _ H2 => ts { nx := fun _ H' => Q .non H', rt := Q } (startF N vs [none]) H2) noX
abbrev ownBody (p0 p1 p2 p4 p5 : Pos) (es : List Expr) (rest : List Stmt) : List Stmt := .Expr (.Call (.Attribute (.Call (.Name "super" p0) [] [] p1) "__init__" p2) es [] p4) p5 :: rest
theorem cw_M {prog : Program} {w : World} {A : Around} {E : Value → Shared → Prop} {K : PySem.W.Frag} {s : Shared} {q g : Addr} {self : Value} {pos : Pos} {l : List (Bool × Sem Value)} {Q : Value → Shared → Prop} (hf : PySem.W.fnIn K g = true) (hp : l.any (·.1) = false) (hl : ∃ p l', l = p :: l')
    (h : wpAny (model prog w) A (spliced l) (fun vs s₁ => PySem.W.MethP K q g self s₁.heap ∧ wpAny (model prog w) A (call (.ref q) vs) Q E s₁) E s) : wpAny (model prog w) A (callWith pos (.ref q) [] l []) Q E s := by
  obtain ⟨p, rest, rfl⟩ := hl
  obtain ⟨b, x⟩ := p
  have hb : b = false := by
    cases b
    · rfl
    · simp at hp
  subst hb
  exact PySem.W.callWith_of (P := PySem.W.MethP K q g self) (by rw [hp]; rfl) (PySem.W.keeps_M hf) (PySem.Calls.evalArgs_plain h)
section
variable {P : Program} {w : World} {K : PySem.W.Frag} {mg : Str → Option Value} {base : Heap} {CX CX' : CXT} {f cc cda C1 fT : Addr} {qual : Str} {params : Arguments} {scope : Scope} {p0 p1 p2 p4 p5 : Pos} {dV kV doc pm ct oc : Value} {an od : Option Addr} {osl : Array (Option Value)} {ar : Arg}
  {k n : Nat} {N ps psT : List Str} {es : List Expr} {rest : List Stmt} {fdT : FuncData} {spT : Sp} {dvs : List V} {ds : List Value} {t : TA} {ts : TS}
theorem run_fnC {X : Cx} {pins : List (Addr × Obj)} {σ : L2.St} {H : Hp} {s : Shared} {Q : VK} {us : List Value} {vs : List V} {E : XK} (F : FnOk X.prog X.w X.K X.mg X.base CX k f fdT psT spT) (hr : Room k X.A) (hb : Binds X.K fdT psT ds) (hd : Vals dvs ds) (hx : Passes CX X E)
    (I : Inv X pins σ H s) (r : Vals vs us) (h : spT (vs ++ dvs) H Q E) : codeAny (model X.prog X.w) X.A (.call (.ref f) ⟨us, []⟩) (fun r s' => match r with | .ok (.ret v) => EP X pins σ Q v s' | .ok _ => False | .error e => X.xe e s') s := by
  have r2 : Vals (vs ++ dvs) (us ++ ds) := r.append hd
  have hl : (us ++ ds).length = psT.length := by rw [← r2.length]; exact F.len _ _ _ _ h
  refine codeAny_mono (F.run X.A X.stack s H ⟨us, []⟩ (us ++ ds) (vs ++ dvs) Q E hr I.env0 (hb s us I.kIn hl) r2 h) fun r s' hq => ?_
  cases r with
  | error e => exact hx pins σ H s e s' I hq
  | ok fl =>
    cases fl with
    | ret u => exact I.after hq
    | next => exact False.elim hq
    | brk => exact False.elim hq
    | cont => exact False.elim hq
theorem ok_own (lk : K.lookup f = some ⟨oc, od, .func (PySem.W.ksFn "__init__" qual params (ownBody p0 p1 p2 p4 p5 es rest) scope dV kV doc pm an (.ref cda) ct cc), osl⟩) (hcd : PySem.W.codeIn K (.ref cda) qual = true)
    (S : NScope N ("self" :: ps) ["__class__"] scope) (hks : scope.names.lookup ("super" : Str) = some .globalImplicit) (hp : (params.posonlyargs ++ params.args).head? = some ar) (har : ar.arg = "self") (hn : ps.length = n) (T : SupD K mg P C1 cc cda)
    (F1 : FnOk P w K mg base CX' k fT fdT psT spT) (hb : Binds K fdT psT ds) (hd : Vals dvs ds) (hx : ∀ X : Cx, Passes CX' X noX) (hfn : PySem.W.fnIn K fT = true) (htI : PySem.W.typeIn K (.ref fT) = some (.type "function"))
    (ha : ∀ A outer s H E, PA (ncx CX P w K mg base N ⟨"__init__", qual, params, ownBody p0 p1 p2 p4 p5 es rest, scope, [("__class__", cc)], cda⟩ f A outer s H E) es t)
    (hss : ∀ A outer s H E, PSs (ncx CX P w K mg base N ⟨"__init__", qual, params, ownBody p0 p1 p2 p4 p5 es rest, scope, [("__class__", cc)], cda⟩ f A outer s H E) rest ts)
    (hes : (∃ e es', es = e :: es' ∧ ∀ env : Env, ∃ p l, backTo p4 (starEach es env) = p :: l) ∨ (es = [] ∧ t = tNil))
    {pl : Env → Sem Bool} (hpl : ∀ env : Env, (backTo p4 (starEach es env)).any (·.1) = false) (hev : ∀ env : Env, eval (.Call (.Attribute (.Call (.Name "super" p0) [] [] p1) "__init__" p2) es [] p4) env = (do
      let ov ← attributeBase (.Call (.Name "super" p0) [] [] p1) "__init__" env (eval (.Call (.Name "super" p0) [] [] p1) env)
      standAt p2.atName
      let (f, first) ← holding [ov] (getMethod ov "__init__" (pl env))
      callWith p4 f first (backTo p4 (starEach es env)) [])) :
    FnOk P w K mg base CX (k + 1) f (PySem.W.ksFn "__init__" qual params (ownBody p0 p1 p2 p4 p5 es rest) scope dV kV doc pm an (.ref cda) ct cc) ("self" :: ps) (spOwn n N K C1 fT spT dvs t ts) := by
  refine ⟨fun vs H Q E h => by obtain ⟨a, C, xs, rfl, hl, _⟩ := h; simp [hl, hn], fun A outer s H args us vs Q E hr e0 hbi r hsp => ?_⟩
  obtain ⟨a, C, xs, rfl, hxl, TC, ha0, k0⟩ := hsp
  obtain ⟨clc, cld, csl, hcell⟩ := T.cell
  have KX : K.In s.heap := e0.mod.kin.keeps fun b o e => (e0.bs b o e).1
  have lim : s.heap.NoLimit := e0.mod.nolimit.keeps fun b o e => (e0.bs b o e).1
  have hcc := e0.bs cc _ (e0.mod.kin _ _ hcell)
  have look : ∀ {y : Str} {c : Addr}, List.lookup y [(("__class__" : Str), cc)] = some c → y = "__class__" ∧ c = cc := fun {y c} e => by
    by_cases hy : y = "__class__"
    · subst hy
      exact ⟨rfl, by simpa [List.lookup] using e.symm⟩
    · have z : (y == ("__class__" : Str)) = false := by simpa using hy
      simp [List.lookup, z] at e
  have C0 : CellsAt [(("__class__" : Str), cc)] ["__class__"] [none] s.heap H := {
    len := rfl
    all := fun y c e => by
      obtain ⟨_, rfl⟩ := look e
      exact ⟨hcc.2, _, _, hcc.1, rfl⟩
    inj := fun y z c e1 e2 => (look e1).1.trans (look e2).1.symm
    has := fun i y e => by
      cases i with
      | zero =>
        cases e
        exact ⟨cc, rfl, fun v z => by cases z⟩
      | succ i => cases e }
  refine PySem.ks_codeAny_call_defAt (fd := PySem.W.ksFn "__init__" qual params (ownBody p0 p1 p2 p4 p5 es rest) scope dV kV doc pm an (.ref cda) ct cc) hr.depth (KX _ _ lk) rfl lim (PySem.W.codeRec_of KX hcd) rfl hbi S.nocell (fun ⟨n, _⟩ hy => S.par n (List.of_mem_zip hy).1) (fun h₁ hns kp => ?_) S.co S.gen S.kind
  let F : NF := ⟨"__init__", qual, params, ownBody p0 p1 p2 p4 p5 es rest, scope, [("__class__", cc)], cda⟩
  have I : Inv (ncx CX P w K mg base N F f A outer s H E) [] (startF N (.ref a :: xs) [none]) H { s with heap := h₁, toks := s.toks + ((("self" : Str) :: ps).zip us).length } := inv_startN (F := F) S hr.hd e0 (by simp [hxl, hn]) r C0 hns kp
  have KI := I.kIn
  obtain ⟨t1, hoa⟩ := exo_at I.hok ha0
  obtain ⟨cdD, hcdD⟩ := T.cls
  obtain ⟨ccl, cdd, fvs, ccs, file, tf, hcode, hvs, hfile⟩ := T.code
  let X : Cx := ncx CX P w K mg base N F f A outer s H E
  have hkc : scope.names.lookup ("__class__" : Str) = some .free := S.frk _ (List.mem_cons_self ..)
  have ndP : (("self" : Str) :: ps).Nodup := by
    have q := S.pre
    have q2 : (N.take ((("self" : Str) :: ps).length + [("__class__" : Str)].length)).Nodup := (S.nd).sublist (List.take_sublist _ _)
    rw [q] at q2
    exact (List.nodup_append.mp q2).1
  cases r with
  | @cons _ ua _ ur ra r =>
  cases (show ua = Value.ref a from ra)
  obtain ⟨oD, hD1, hD2⟩ : ∃ oD, h₁.get? C1 = some oD ∧ oD.data = .cls cdD := by
    unfold PySem.W.clsIn at hcdD
    split at hcdD
    · rename_i c d cd' sl ho
      cases hcdD
      exact ⟨_, KI _ _ ho, rfl⟩
    · cases hcdD
  show PySem.wpAt _ _ _ (execs (ownBody p0 p1 p2 p4 p5 es rest) (envF F f s.heap.objs.size)) _ _ _
  refine PySem.ks_wpAt_execs_cons ?_
  refine PySem.ks_wpAt_Expr_any ?_ I.quiet rfl
  refine PySem.ks_wpAt_MethodCall (pl := pl (envF F f s.heap.objs.size)) ?_ (hev _)
  refine PySem.ks_wpAt_super_base (env := envF F f s.heap.objs.size) hks hkc (by decide +kernel) rfl (kp _ _ (KX _ _ lk)) rfl hp rfl (KI _ _ hcode) rfl hvs hfile T.top ?_
  refine PySem.W.ks_loadName_global S.kind hks ?_
  obtain ⟨mb, b1, b2⟩ := I.mod.blt
  refine PySem.Calls.loadGlobal_builtin (I.mod.glob.keeps I.bk) T.sup (b1.keeps I.bk) ((b2 "super" (by decide)).trans (by first | decide +kernel | rfl)) ⟨rfl, ?_⟩
  refine wpAny_loadName_free S.kind hkc rfl ⟨_, KI _ _ hcell, rfl⟩ ?_
  rw [har]
  refine wpAny_loadName_local S.kind (S.par "self" (List.mem_cons_self ..)) hns (zip_look (i := 0) ndP rfl rfl) ?_
  refine PySem.ks_wpAny_isType_cls hD1 hD2 ⟨rfl, ?_⟩
  refine PySem.ks_wpAny_call_super hD1 hD2 hoa rfl (fun c e => by cases e) (PySem.W.looks_mroIn KI TC.inD) (fun h2 e2 kp2 => ?_)
  have I2 : Inv X [] (startF N (.ref a :: xs) [none]) H { s with heap := h2, toks := s.toks + ((("self" : Str) :: ps).zip (Value.ref a :: ur)).length } := I.kept (h' := h2) (t' := s.toks + ((("self" : Str) :: ps).zip (Value.ref a :: ur)).length) kp2
  have K2 := I2.kIn
  obtain ⟨t2, ho2⟩ := exo_at I2.hok ha0
  have hin := TC.ini
  cases hcl : PySem.W.clsIn K C with
  | none => unfold PySem.W.ks_superIn at hin; rw [hcl] at hin; cases hin
  | some cd =>
  unfold PySem.W.ks_superIn at hin
  rw [hcl] at hin
  have IA : PySem.W.InstAt h2 a (PySem.HandSPX.excO C t2) C none := ⟨ho2, rfl, rfl, trivial⟩
  obtain ⟨of, hof, hofc⟩ : ∃ of, h2.get? fT = some of ∧ of.cls = .type "function" := by
    have ht' : (K.lookup fT).map (·.cls) = some (.type "function") := htI
    cases z : K.lookup fT with
    | none => rw [z] at ht'; cases ht'
    | some of => rw [z] at ht'; exact ⟨of, K2 _ _ z, Option.some.inj ht'⟩
  refine PySem.ks_wpAny_getMethod_super e2 (PySem.W.looks_opaque K2 T.opq) (l₀ := cd.mro) (fun A Q E s k q => wpAny_bind ((PySem.W.looks_clsIn K2 hcl) A _ E s k (wpAny_pure q))) rfl K2 hin hof hofc (PySem.W.ks_ne K2 IA hcl) (by decide +kernel) ?_
  have I4 : Inv X [(h2.objs.size, PySem.W.methodObj (.ref fT) (.ref a))] (startF N (.ref a :: xs) [none]) H { s with heap := h2.push (PySem.W.methodObj (.ref fT) (.ref a)), toks := s.toks + ((("self" : Str) :: ps).zip (Value.ref a :: ur)).length + 1 } := ClX.met_new I2
  let QE : Value → Shared → Prop := EP X [(h2.objs.size, PySem.W.methodObj (.ref fT) (.ref a))] (startF N (.ref a :: xs) [none]) fun _ H2 => ts { nx := fun _ H' => Q .non H', rt := Q } (startF N (.ref a :: xs) [none]) H2
  have go : ∀ {vs : List Value} {ws : List V} {s4 : Shared} {H' : Hp} (I5 : Inv X [(h2.objs.size, PySem.W.methodObj (.ref fT) (.ref a))] (startF N (.ref a :: xs) [none]) H' s4), Vals ws vs → spT (.ref a :: (ws ++ dvs)) H' (fun _ H2 => ts { nx := fun _ H' => Q .non H', rt := Q } (startF N (.ref a :: xs) [none]) H2) noX →
      wpAny (model X.prog X.w) X.A (call (.ref h2.objs.size) vs) QE X.xe s4 := fun {vs ws s4 H'} I5 rv q5 =>
    wpAny_call (PySem.W.method_call (ClX.pin_at I5) (run_fnC (X := X) (us := .ref a :: vs) (vs := .ref a :: ws) F1 (hr.deeper _) hb hd (hx _) I5 (.cons rfl rv) q5))
  refine PySem.wpAny_mono (Q := QE) (E := X.xe) ?_ (fun u s6 h6 => ?_) (fun _ _ z => z)
  · rcases hes with ⟨e, es', rfl, hne⟩ | ⟨rfl, rfl⟩
    · refine cw_M (K := K) (g := fT) (self := .ref a) hfn (hpl _) (hne _) ?_
      exact thn ((ha A outer s H E).run p4 _ _ _ H _ I4 k0) fun vs s4 ⟨ws, H', I5, rv, q5⟩ => ⟨⟨ClX.pin_at I5, I5.kIn⟩, go I5 rv q5⟩
    · exact PySem.W.callWith_M0 (K := K) (self := .ref a) (first := []) ⟨ClX.pin_at I4, I4.kIn⟩ hfn (go I4 .nil k0)
  obtain ⟨v6, H6, I6, _, q6⟩ := ClX.unpinE h6
  refine wpAt_of_wpAny ?_
  refine wpAny_mono ((hss A outer s H E).run [] _ _ H6 { nx := fun _ H' => Q .non H', rt := Q } I6 q6) (fun fl s' hs => ?_) fun e s' hs => hs
  have fin : ∀ {σ' : L2.St} {H' : Hp} {v : V} {u : Value}, Inv X [] σ' H' s' → L2.RelV v u → Q v H' → CE outer P w H s Q u s' := fun {σ' H' v u} J rv q => ⟨v, H', J.os, J.bare, J.base, J.hok, rv, q⟩
  cases fl with
  | ret u =>
    obtain ⟨v, σ', H', J, rv, q⟩ := hs
    exact fin J rv q
  | next =>
    obtain ⟨σ', H', J, q⟩ := hs
    exact fin (v := V.non) (u := Value.none) J rfl q
  | brk =>
    obtain ⟨_, _, _, q⟩ := hs
    exact False.elim q
  | cont =>
    obtain ⟨_, _, _, q⟩ := hs
    exact False.elim q
end
end Ex
set_option Elab.async false
set_option linter.all false
set_option maxRecDepth 100000
set_option maxHeartbeats 4000000
/-! raise C(), C an own class whose __init__(self) says super().__init__(). -/
namespace Ty
open PySem L2
open Evl (Ex ex_l ex_t)
open Ex (SupC SubC SupD spSup spOwn noX)
abbrev sp0 (K : PySem.W.Frag) (C D fT : Addr) : Sp := spOwn 0 ["self", "__class__"] K C fT (spSup K D) [.non] tNil tNext
theorem pmk_oex0 {X : Cx} {p pos : Pos} {CX : CXT} {x : Str} {C fI : Addr} {k : Nat} {fd : FuncData} {ps : List Str} {sp : Sp} {ds : List Value} {dvs : List V} (T : OexC X.K C) (iC : PySem.W.findIn X.K (.ref C) "__init__" = some (some (.ref fI))) (tI : PySem.W.typeIn X.K (.ref fI) = some (.type "function"))
    (F1 : FnOk X.prog X.w X.K X.mg X.base CX k fI fd ps sp) (hr : Room (k + 1) X.A) (hb : Binds X.K fd ps ds) (hd : Vals dvs ds) (hx : Passes CX X (fun _ _ _ => False)) (hg : Gl X x) (hm : X.mg x = some (.ref C))
    (hdb : (x == ("__debug__" : Str)) = false := by decide) :
    PMk X (.Call (.Name x p) [] [] pos) (tMkO C sp dvs tNil) := by
  intro pins s σ H Q I h
  obtain ⟨nm, q, N, bs, bm, sn, sub, ab, col, dd, k0, k1, k2, k3, k5, hC, hbm⟩ := T.cls
  refine wpAny_Call_Name_kw (ld_glob I hg hm ?_ hdb)
  refine PySem.W.callWith_K0 I.kIn T.kC ?_
  obtain ⟨hz, q1⟩ : ([] : List V).length ≤ 1000 ∧ ∀ a, H a = none → sp (.ref a :: ([] ++ dvs)) (upd H a (exo a C none))
    (fun v H2 => v = .non ∧ ∃ (d : Addr) (fs : List (Str × V)), H2 a = some (exo a C (some d)) ∧ H2 d = some (exd d fs) ∧ H d = none ∧ Q (.ref C) (some d) (upd (del H2 a) d (.xd fs))) (fun _ _ _ => False) := h
  show wpAny _ _ (call (.ref C) []) _ _ _
  obtain ⟨hp, g, dr, tk, os⟩ := s
  have hsz : hp.objs.size ≤ hp.objs.size + 1 := Nat.le_succ _
  have hn : H (hp.objs.size + 1) = none := I.hok.fresh hsz
  have hq := q1 (hp.objs.size + 1) hn
  rw [List.nil_append] at hq
  have kk : ∀ b o, hp.get? b = some o → ((hp.push (PySem.W.kdv_tup [])).push (PySem.HandSPX.excO C hp.objs.size)).get? b = some o := fun b o e => Heap.get?_push_of_some _ (Heap.get?_push_of_some _ e)
  have hget : ((hp.push (PySem.W.kdv_tup [])).push (PySem.HandSPX.excO C hp.objs.size)).get? (hp.objs.size + 1) = some (PySem.HandSPX.excO C hp.objs.size) := by heap_get
  have I2 : Inv X pins σ (upd H (hp.objs.size + 1) (exo (hp.objs.size + 1) C none)) ⟨(hp.push (PySem.W.kdv_tup [])).push (PySem.HandSPX.excO C hp.objs.size), g, dr, tk, os⟩ :=
    I.laid (t' := tk) (a := hp.objs.size + 1) (o := exo (hp.objs.size + 1) C none) (h' := (hp.push (PySem.W.kdv_tup [])).push (PySem.HandSPX.excO C hp.objs.size)) kk hsz (exo_ok hget)
  have r2 : Vals (V.ref (hp.objs.size + 1) :: dvs) (Value.ref (hp.objs.size + 1) :: ds) := .cons rfl hd
  have hl : ([Value.ref (hp.objs.size + 1)] ++ ds).length = ps.length := by
    have e := r2.length
    rw [F1.len _ _ _ _ hq] at e
    exact e.symm
  refine wpAny_call (PySem.HandSPX.call_own F.excBase_ValueError (fun Y => PySem.HandSPX.refsVE_contains Y bm hbm) (I.kIn _ _ hC) (PySem.W.looks_findIn I.kIn iC) (fun self => PySem.W.bind_fn I.kIn self tI) (by rw [sizeLine_eq]; exact Nat.zero_le _)
    (codeAny_mono (F1.run _ X.stack _ _ ⟨[Value.ref (hp.objs.size + 1)], []⟩ ([Value.ref (hp.objs.size + 1)] ++ ds) _ _ (fun _ _ _ => False) (hr.make C [] []) (I2.env0.make C [] []) (hb _ [Value.ref (hp.objs.size + 1)] I2.kIn hl) r2 hq) fun r s' hq' => ?_))
  cases r with
  | error er => exact hx pins σ _ _ er s' I2 hq'
  | ok fl =>
    cases fl with
    | ret u =>
      obtain ⟨v, H2, os2, bare2, un2, hok2, rv, ev, d, fs, ea, ed, hd1, q2⟩ := hq'
      subst ev
      obtain ⟨h2, g2, d2, t2, os'⟩ := s'
      exact ⟨rv, mk_end (raises_own T.exC T.tyC) I hsz kk un2 hok2 os2 bare2 ea ed hd1 q2⟩
    | next => exact False.elim hq'
    | brk => exact False.elim hq'
    | cont => exact False.elim hq'
/-- an own error class without attributes of its own -/
structure OwnE0 (P : Program) (w : World) (K : PySem.W.Frag) (mg : Str → Option Value) (base : Heap) (k : Nat) (x : Str) (C D : Addr) : Prop where
  ex : ∃ (fI fT : Addr) (fd : FuncData), PySem.W.findIn K (.ref C) "__init__" = some (some (.ref fI)) ∧ PySem.W.typeIn K (.ref fI) = some (.type "function") ∧ FnOk P w K mg base CX0 k fI fd ["self"] (sp0 K C D fT) ∧ Binds K fd ["self"] [] ∧ SubC K C C fT
  sup : SupC K C D
  mg : mg x = some (.ref C)
def tRaise0 (K : PySem.W.Frag) (C D : Addr) (W : WX) : TS := fun _ σ H => ∀ fT, SubC K C C fT → tMkO C (sp0 K C D fT) [] tNil σ H fun cls d H' => W cls d σ H'
section
variable {X : Cx} {k : Nat} {W : WX} {x : Str} {C D : Addr} {p pos pos' : Pos}
theorem ps_raise0 (E : OwnE0 X.prog X.w X.K X.mg X.base k x C D) (hc : X.calm = true) (tk : Takes X W) (hr : Room (k + 1) X.A) (hg : Gl X x) (hdb : (x == ("__debug__" : Str)) = false := by decide) :
    PS X (.Raise (some (.Call (.Name x p) [] [] pos)) none pos') (tRaise0 X.K C D W) := by
  obtain ⟨⟨fI, fT, fd, iC, tI, F1, hb, sub⟩, sup, hm⟩ := E
  have h := ps_raise (pos := pos') hc tk (pmk_oex0 (p := p) (pos := pos) sup.oex iC tI F1 hr hb .nil pass0 hg hm hdb)
  exact ⟨fun pins s σ H D I q => h.run pins s σ H D I (q fT sub)⟩
end
section
variable {o : Option Addr} {σ : L2.St} {Ge He G H : Hp} {D : Ends} {W : WX}
theorem s_raise0 {K : PySem.W.Frag} {C Dd : Addr} (g : Go o Ge He G H) (T : SupC K C Dd) (k : ∀ d G2 H2, Go o Ge He G2 H2 → Go o G H G2 H2 → G2 d = some (.xd [("given", .non)]) → W (.ref C) (some d) σ H2) : tRaise0 K C Dd W D σ H := by
  unfold tRaise0 tMkO
  intro fT S
  refine ⟨by decide, fun a na => ⟨a, C, [], rfl, rfl, S, upd_same, a, C, .non, rfl, T, upd_same, fun d nd ne => ⟨rfl, d, [("given", .non)], upd_same, by rw [upd_ne ne, upd_same], by rw [upd_ne ne] at nd; exact nd, ?_⟩⟩⟩
  have nd' : H d = none := by rw [upd_ne ne] at nd; exact nd
  have e : upd (del (upd (upd (upd H a (exo a C none)) d (exd d [("given", .non)])) a (exo a C (some d))) a) d (.xd [("given", .non)]) = upd H d (.xd [("given", .non)]) := by
    funext b
    by_cases hb : b = d
    · rw [hb, upd_same, upd_same]
    · rw [upd_ne hb, upd_ne hb]
      by_cases ha : b = a
      · rw [ha, del_same, na]
      · rw [del_ne ha, upd_ne ha, upd_ne hb, upd_ne ha]
  show W (.ref C) (some d) σ _
  rw [e]
  have g3 : Go o G H (upd G d (.xd [("given", .non)])) (upd H d (.xd [("given", .non)])) := .new g.kn nd'
  exact k d _ _ (g.trans g3) g3 upd_same
end
section
variable {K : PySem.W.Frag} {o : Option Addr} {σ : L2.St} {Ge He G H : Hp} {De : Ends} {Dt : Addr} {i : Nat} {Wout : WX}
/-! as Ex4's, with clauses that tell None in the place of e.given -/
abbrev suiteM (K : PySem.W.Frag) (i : Nat) (Dt : Addr) (w : Str) (C : Addr) (m : Bool) : Addr → Value → Option Addr → TS := fun a cls d =>
  tRet (tLst (tCons (tIf (tB (tCB (rIsD K a cls d) (tCons (tVar i) (tCons (tC (.ref Dt)) tNil)))) (tC (.str w)) (tC (.str ""))) (tCons (if m then tXf a cls d C "given" (tVar i) else tC .non) tNil)))
abbrev clausesM (K : PySem.W.Frag) (i : Nat) (Dt : Addr) (l : List (Str × Addr × Bool)) : List (Value × (Addr → Value → Option Addr → TS)) := l.map fun p => (Value.ref p.2.1, suiteM K i Dt p.1 p.2.1 p.2.2)
def ExmM (K : PySem.W.Frag) : List (Str × Addr × Bool) → Prop
  | [] => True
  | p :: r => PySem.W.exmOne K (.ref p.2.1) (.ref p.2.1) = some true ∧ (∀ q ∈ r, PySem.W.exmOne K (.ref q.2.1) (.ref p.2.1) = some false) ∧ ExmM K r
theorem tk_manyM {good : Str → V → Prop} (hσ : i < σ.length) : ∀ {l : List (Str × Addr × Bool)}, (∀ p ∈ l, ExcC K p.2.1 ∧ PySem.W.kitOne K (.ref p.2.1) (.ref Dt) = some true ∧ (p.2.2 = false → ∀ x, good p.1 x → x = .non)) → ExmM K l →
    (∀ w x p xs G3 H3, good w x → Go o Ge He G3 H3 → He p = none → H3 p = some (.lst xs) → G3 p = none → xs = [.str w, x] → De.rt (.ref p) H3) →
    Tk o Ge He (wManyAs K i Wout De (clausesM K i Dt l)) σ fun c x => ∃ p ∈ l, c = .ref p.2.1 ∧ good p.1 x
  | [], _, _, _ => fun _ _ _ _ _ _ _ ⟨_, z, _⟩ => nomatch z
  | p :: r, hx, he, kk => fun c dd x G2 H2 g2 e ⟨q, hq, hc, hg⟩ => by
    subst hc
    have own : q = p → wManyAs K i Wout De (clausesM K i Dt (p :: r)) (.ref q.2.1) (some dd) σ H2 := fun e2 => by
      subst e2
      refine ⟨true, he.1, fun _ a na => ?_, fun z => nomatch z⟩
      obtain ⟨hX, hk, hm⟩ := hx q (List.mem_cons_self ..)
      have hs : (σ.set i (some (.ref a)))[i]? = some (some (V.ref a)) := by simp [hσ]
      have eg : Ev o (if q.2.2 then tXf a (.ref q.2.1) (some dd) q.2.1 "given" (tVar i) else tC .non) (σ.set i (some (.ref a))) G2 (tIs x) := by
        cases hb : q.2.2 with
        | true => exact ev_given (K := K) (ev_x hs) rfl rfl e
        | false =>
          rw [hm hb x hg]
          exact ev_k
      exact s_retN g2 (en_lst (ea_cons (s := tIs (.str q.1)) (ev_if (p := (· = true)) (et_b (ev_isD (ev_x hs) rfl rfl hX e hk)) (fun _ => ev_k) fun z => nomatch z) (ea_cons eg ea_nil)) (show 2 ≤ 100000 by decide)) fun b xs G3 H3 g3 hp h3 n3 w3 =>
        kk q.1 x b xs G3 H3 hg g3 hp h3 n3 (all2 w3.now)
    rcases List.mem_cons.mp hq with h | hq
    · exact own h
    · exact ⟨false, he.2.1 q hq, (fun z => nomatch z), fun _ => tk_manyM hσ (fun p hp => hx p (List.mem_cons_of_mem _ hp)) he.2.2 kk _ dd x G2 H2 g2 e ⟨q, hq, rfl, hg⟩⟩
end
end Ty
set_option Elab.async false
set_option linter.all false
set_option maxRecDepth 100000
set_option maxHeartbeats 4000000
namespace K14
open PySem L2 Ty
open Evl (Ex ex_l ex_t)
def top (i : Nat) : Stmt := PySem.Challenge.pw_onetalk_k14_what_sums_make.main.body.getD i (.Pass ⟨0, 0, 0, 0⟩)
abbrev s__law_box : Stmt := top 35
theorem sc__law_box : FnScope ["great"] ["great"] (defScope s__law_box) := ⟨rfl, rfl, rfl, by decide +kernel, rfl, by decide +kernel, by decide +kernel⟩
theorem pb__law_box : PosB "_law_box" s__law_box ["great"] := fun _ _ _ _ _ _ us hl => match us, hl with | [_], _ => rfl
abbrev s__law_take : Stmt := top 36
theorem sc__law_take : FnScope ["box", "many", "digit"] ["box", "many"] (defScope s__law_take) := ⟨rfl, rfl, rfl, by decide +kernel, rfl, by decide +kernel, by decide +kernel⟩
theorem pb__law_take : PosB "_law_take" s__law_take ["box", "many"] := fun _ _ _ _ _ _ us hl => match us, hl with | [_, _], _ => rfl
abbrev s__law_cell : Stmt := top 37
theorem sc__law_cell : FnScope ["script", "k"] ["script", "k"] (defScope s__law_cell) := ⟨rfl, rfl, rfl, by decide +kernel, rfl, by decide +kernel, by decide +kernel⟩
theorem pb__law_cell : PosB "_law_cell" s__law_cell ["script", "k"] := fun _ _ _ _ _ _ us hl => match us, hl with | [_, _], _ => rfl
abbrev s__law_mixed : Stmt := top 41
theorem sc__law_mixed : FnScope ["box", "items", "left", "found"] ["box", "items"] (defScope s__law_mixed) := ⟨rfl, rfl, rfl, by decide +kernel, rfl, by decide +kernel, by decide +kernel⟩
theorem pb__law_mixed : PosB "_law_mixed" s__law_mixed ["box", "items"] := fun _ _ _ _ _ _ us hl => match us, hl with | [_, _], _ => rfl
abbrev s__law_same : Stmt := top 38
theorem sc__law_same : FnScope ["told", "due", "key", "k"] ["told", "due"] (defScope s__law_same) := ⟨rfl, rfl, rfl, by decide +kernel, rfl, by decide +kernel, by decide +kernel⟩
theorem pb__law_same : PosB "_law_same" s__law_same ["told", "due"] := fun _ _ _ _ _ _ us hl => match us, hl with | [_, _], _ => rfl
abbrev s__law_copy : Stmt := top 39
theorem sc__law_copy : FnScope ["value"] ["value"] (defScope s__law_copy) := ⟨rfl, rfl, rfl, by decide +kernel, rfl, by decide +kernel, by decide +kernel⟩
theorem pb__law_copy : PosB "_law_copy" s__law_copy ["value"] := fun _ _ _ _ _ _ us hl => match us, hl with | [_], _ => rfl
abbrev s__law_blamed : Stmt := top 40
theorem sc__law_blamed : FnScope ["given", "value"] ["given", "value"] (defScope s__law_blamed) := ⟨rfl, rfl, rfl, by decide +kernel, rfl, by decide +kernel, by decide +kernel⟩
theorem pb__law_blamed : PosB "_law_blamed" s__law_blamed ["given", "value"] := fun _ _ _ _ _ _ us hl => match us, hl with | [_, _], _ => rfl
-- OV _law_same: {"call:len(told)": "(kLenA (K := K) rfl)", "call:len(due)": "(kLenA (K := K) rfl)", "iter:due": "(pi_keys (pv 1))", "lock:[key for key in due if key not in told or not _law_same(told[key], due[key])] == []": "", "told[key]": "(pe_dget (Nat.lt_of_le_of_lt (Nat.add_le_add_left (by decide) _) hr.units) (pv 0) (pv 2) (fun _ _ => rfl))", "due[key]": "(pe_dget (Nat.lt_of_le_of_lt (Nat.add_le_add_left (by decide) _) hr.units) (pv 1) (pv 2) (fun _ _ => rfl))", "test:key not in told": "(pt_cmp (pc_dnotin (Nat.lt_of_le_of_lt (Nat.add_le_add_left (by decide) _) hr.units) (pv 2) (pv 0)))"}
-- OV _law_blamed: {"stmt:value['more'] = 1": "(ps_dput (Nat.lt_of_le_of_lt (Nat.add_le_add_left (by decide) _) hr.units) (pv 1) pe_str pe_int rfl)"}

/-- what the walk asks of the top's names -/
structure Txt (K : PySem.W.Frag) (mg : Str → Option Value) : Prop where
  n_isinstance : mg "isinstance" = none
  n_str : mg "str" = none
  n_bool : mg "bool" = none
  n_int : mg "int" = none
  n_list : mg "list" = none
  n_tuple : mg "tuple" = none
  n_dict : mg "dict" = none
  n_len : mg "len" = none
  n_all : mg "all" = none
  n_abs : mg "abs" = none
  n_sum : mg "sum" = none
  n_max : mg "max" = none
  n_min : mg "min" = none
  n_range : mg "range" = none
section
variable {P : Program} {w : World} {K : PySem.W.Frag} {mg : Str → Option Value} {base : Heap}
/-! ### the drawer -/
def pBox : PL := fun _ xs => ∃ (n : Int) (g : Bool) (r c : Int), xs = [.int n, .bl g, .int r, .int c]
def cBox (o : Option Addr) (G : Hp) (vs : List V) (p : PL) : Prop := o = none ∧ ∃ n : Int, vs = [.int n] ∧ p = pBox
theorem rc_int {o : Option Addr} {G : Hp} {ta : TA} {σ : L2.St} {n : Int} (ha : EvA o ta σ G [tIs (.int n)]) {r : List V → Hp → VK → Prop} {z : V} (h : ∀ H (Q : VK), Q z H → r [.int n] H Q) : Ev o (tCB r ta) σ G (tIs z) :=
  ev_cb ha fun G' vs e a => by
    cases a with
    | cons a b =>
      cases b
      rw [a.eq]
      exact rc_q u_is fun G1 H1 e kn Q q => h H1 Q q
theorem ok_box (T : Txt K mg) (d : Df K mg "_law_box" s__law_box) : Own P w K mg base CX0 1 "_law_box" s__law_box ["great"] (spN cBox) :=
  d.own fun f fd F => F.ok sc__law_box (fun vs H Q E h => by obtain ⟨o, G, p, kn, ⟨_, n, rfl, _⟩, _⟩ := h; rfl) (fun cdv A outer s H vs Q E hr h => by
    obtain ⟨o, G, p, kn, ⟨rfl, n, rfl, rfl⟩, k⟩ := h
    refine ⟨_, (pss_one (ps_ret (pe_lst (pa_cons (pe_callB call_abs (by rfl) T.n_abs (by decide +kernel) (pa_cons (pv 0) pa_nil)) (pa_cons (pe_cmpR op_ge (pe_callB call_abs (by rfl) T.n_abs (by decide +kernel) (pa_cons (pv 0) pa_nil)) (pe_op op_pow pe_int pe_int) (nomark _)) (pa_cons (pe_op op_mod (pe_callTy call_int1 (by rfl) T.n_int (by decide +kernel) (pa_cons (pe_callB call_abs (by rfl) T.n_abs (by decide +kernel) (pa_cons (pv 0) pa_nil)) pa_nil)) pe_int) (pa_cons pe_int pa_nil))))))), ?_⟩
    have g0 := Go.refl kn
    have ab : ∀ G', Ev none (tCB (fun xs H Q => ∃ i, xs = [.int i] ∧ Q (.int (if i < 0 then -i else i)) H) (tCons (tVar 0) tNil)) (start ["great"] [.int n]) G' (tIs (.int (if n < 0 then -n else n))) := fun G' =>
      rc_int (ea_cons (ev_x rfl) ea_nil) fun H Q q => ⟨n, rfl, q⟩
    refine s_retN g0 (en_lst (ea_cons (ab _) (ea_cons (ev_op2 (ab _) (ev_op2 ev_k ev_k (ro_I ⟨by decide, by decide, by decide⟩)) ro_I0)
      (ea_cons (ev_op2 (rc_int (ea_cons (ab _) ea_nil) fun H Q q => .inl ⟨_, rfl, q⟩) ev_k (ro_I (by decide))) (ea_cons ev_k ea_nil)))) (by show 4 ≤ 100000; decide)) fun p xs G2 H2 g2 hp h2 n2 w2 => k p xs G2 H2 g2 hp h2 n2 fun G' e' => ?_
    have a := w2 G' e'
    cases a with
    | cons a1 a => cases a with
      | cons a2 a => cases a with
        | cons a3 a => cases a with
          | cons a4 a =>
            cases a
            exact ⟨_, _, _, _, by rw [a1.eq, a2.eq, a3.eq, a4.eq]⟩)
def tRng (lo hi : Int) : T := fun _ v => ∃ i : Int, v = .int i ∧ lo ≤ i ∧ i < hi
def tInt : T := fun _ v => ∃ i : Int, v = .int i
def cTake (o : Option Addr) (G : Hp) (vs : List V) (t : T) : Prop := ∃ (b : Addr) (n : Int), o = some b ∧ vs = [.ref b, .int n] ∧ (0 < n ∧ n < 1073741824) ∧ t = tRng 0 n
theorem go_set {b : Addr} {G H : Hp} (kn : Kn (some b) G H) {n : Int} {g : Bool} {r c : Int} : Go (some b) G H G (upd H b (.lst [.int n, .bl g, .int r, .int c])) := by
  have gb : G b = none := (kn.box b rfl).2
  refine ⟨Ex.refl G, ⟨fun a x h => ?_, fun a e => ?_⟩, fun a x h e => ?_, fun a h _ => h⟩
  · rw [upd_ne (fun z => by rw [z, gb] at h; cases h)]; exact kn.sub a x h
  · cases e; exact ⟨⟨n, g, r, c, upd_same⟩, gb⟩
  · rw [upd_ne (fun z => e (by rw [z]))]; exact h
theorem at0 {a b c d : V} : atI [a, b, c, d] (0 : Int) = some a := atI_nat (j := 0) rfl
theorem at1 {a b c d : V} : atI [a, b, c, d] (1 : Int) = some b := atI_nat (j := 1) rfl
theorem at2 {a b c d : V} : atI [a, b, c, d] (2 : Int) = some c := atI_nat (j := 2) rfl
theorem at3 {a b c d : V} : atI [a, b, c, d] (3 : Int) = some d := atI_nat (j := 3) rfl
theorem ok_take (T : Txt K mg) (d : Df K mg "_law_take" s__law_take) : Own P w K mg base CX0 1 "_law_take" s__law_take ["box", "many"] (spC cTake) :=
  d.own fun f fd F => F.ok sc__law_take (fun vs H Q E h => by obtain ⟨o, G, p, kn, ⟨b, n, _, rfl, _⟩, _⟩ := h; rfl) (fun cdv A outer s H vs Q E hr h => by
    obtain ⟨o, G, p, kn, ⟨b, n, rfl, rfl, ⟨h0, h1⟩, rfl⟩, k⟩ := h
    refine ⟨_, (pss_cons (ps_if (PW.pt (pw_and (pt_val (pe_ix (kIx (K := K) rfl) (pv 0) pe_int (fun _ _ => rfl))) (pw_and1 (pt_cmpR op_gt (pe_ix (kIx (K := K) rfl) (pv 0) pe_int (fun _ _ => rfl)) pe_int (nomark _))))) (pss_cons (ps_set (i := 2) sc__law_take.nd rfl (Or.inl rfl) (pe_op op_mod (pe_callTy call_int1 (by rfl) T.n_int (by decide +kernel) (pa_cons (pe_ix (kIx (K := K) rfl) (pv 0) pe_int (fun _ _ => rfl)) pa_nil)) (pv 1)))
   (pss_cons (ps_asg (pe_op op_fdiv (pe_callTy call_int1 (by rfl) T.n_int (by decide +kernel) (pa_cons (pe_ix (kIx (K := K) rfl) (pv 0) pe_int (fun _ _ => rfl)) pa_nil)) (pv 1)) (pg_sub (pv 0) pe_int set_list))
   (pss_one (ps_ret (pv 2))))) pss_nil)
   (pss_cons (ps_asg (pe_op (kAdd (K := K) rfl) (pe_ix (kIx (K := K) rfl) (pv 0) pe_int (fun _ _ => rfl)) pe_int) (pg_sub (pv 0) pe_int set_list))
   (pss_cons (ps_asg (pe_op op_mod (pe_op (kAdd (K := K) rfl) (pe_op (kAdd (K := K) rfl) (pe_op gMul (pe_ix (kIx (K := K) rfl) (pv 0) pe_int (fun _ _ => rfl)) pe_int) (pe_op gMul pe_int (pe_ix (kIx (K := K) rfl) (pv 0) pe_int (fun _ _ => rfl)))) pe_int) pe_int) (pg_sub (pv 0) pe_int set_list))
   (pss_one (ps_ret (pe_op op_mod (pe_op op_fdiv (pe_ix (kIx (K := K) rfl) (pv 0) pe_int (fun _ _ => rfl)) pe_int) (pv 1))))))), ?_⟩
    obtain ⟨⟨m, g, r, c, hb⟩, gb⟩ := kn.box b rfl
    have ix : ∀ {H' : Hp} {m g r c v : V} {i : Int} {Q : VK}, H' b = some (.lst [m, g, r, c]) → atI [m, g, r, c] i = some v → Q v H' → rIx K (.ref b) (.int i) H' Q := fun h1 h2 q => .inl ⟨b, _, _, _, rfl, rfl, .of h1, h2, q⟩
    have rest : ∀ r c (q : Q (.int ((r * 69621 + 1355 * (c + 1) + 45) % 2147483629 / 64 % n)) (upd (upd H b (.lst [.int m, .bl g, .int r, .int (c + 1)])) b (.lst [.int m, .bl g, .int ((r * 69621 + 1355 * (c + 1) + 45) % 2147483629), .int (c + 1)]))), True := fun _ _ _ => trivial
    have fin : Q (.int ((r * 69621 + 1355 * (c + 1) + 45) % 2147483629 / 64 % n)) (upd (upd H b (.lst [.int m, .bl g, .int r, .int (c + 1)])) b (.lst [.int m, .bl g, .int ((r * 69621 + 1355 * (c + 1) + 45) % 2147483629), .int (c + 1)])) :=
      k _ G _ (by rw [upd_upd]; exact go_set kn) fun G' e' => ⟨_, rfl, Int.emod_nonneg _ (by omega), Int.emod_lt_of_pos _ h0⟩
    have tail : (tSeq (tAsg (tOp (rAddG K) (tOp (rIx K) (tVar 0) (tC (.int 3))) (tC (.int 1))) (gSub (tVar 0) (tC (.int 3)) rSetL))
      (tSeq (tAsg (tOp (rI (fun _ j => 0 < j) fun i j => .int (i % j)) (tOp (rAddG K) (tOp (rAddG K) (tOp rMulG (tOp (rIx K) (tVar 0) (tC (.int 2))) (tC (.int 69621))) (tOp rMulG (tC (.int 1355)) (tOp (rIx K) (tVar 0) (tC (.int 3))))) (tC (.int 45))) (tC (.int 2147483629))) (gSub (tVar 0) (tC (.int 2)) rSetL))
        (tRet (tOp (rI (fun _ j => 0 < j) fun i j => .int (i % j)) (tOp (rI CDiv fun i j => .int (i / j)) (tOp (rIx K) (tVar 0) (tC (.int 2))) (tC (.int 64))) (tVar 1))))) { nx := fun _ H' => Q .non H', rt := Q } (start ["box", "many", "digit"] [.ref b, .int n]) H := by
      refine ⟨_, rfl, ix hb at3 (.inl ⟨c, 1, rfl, rfl, _, rfl, b, _, 3, 3, rfl, rfl, hb, rfl, ?_⟩)⟩
      refine ⟨_, rfl, ix upd_same at2 (.inl ⟨r, 69621, rfl, rfl, .inr ⟨by decide, by decide⟩, _, rfl, ix upd_same at3 (.inl ⟨1355, c + 1, rfl, rfl, .inl ⟨by decide, by decide⟩, .inl ⟨_, _, rfl, rfl, .inl ⟨_, 45, rfl, rfl, _, 2147483629, rfl, rfl, (show (0 : Int) < 2147483629 by decide), _, rfl, b, _, 2, 2, rfl, rfl, upd_same, rfl, ?_⟩⟩⟩)⟩)⟩
      exact ⟨_, rfl, ix upd_same at2 ⟨_, 64, rfl, rfl, ⟨by decide, by decide⟩, _, rfl, _, n, rfl, rfl, h0, fin⟩⟩
    refine ⟨_, rfl, ix hb at1 ⟨g, rfl, ?_⟩⟩
    cases g with
    | false => exact iteF (iteF tail)
    | true =>
      refine iteT ⟨_, rfl, ix hb at0 ⟨m, 0, rfl, rfl, _, rfl, ite2 (fun hm => ?_) fun hm => tail⟩⟩
      refine ⟨_, rfl, ix hb at0 (.inl ⟨m, rfl, _, rfl, m, n, rfl, rfl, h0, ?_⟩)⟩
      refine ⟨_, rfl, ix hb at0 (.inl ⟨m, rfl, _, rfl, m, n, rfl, rfl, ⟨h0, h1⟩, _, rfl, b, _, 0, 0, rfl, rfl, hb, rfl, ?_⟩)⟩
      exact ⟨_, rfl, k _ G _ (go_set kn) fun G' e' => ⟨_, rfl, Int.emod_nonneg _ (by omega), Int.emod_lt_of_pos _ h0⟩⟩)
def cCell (K : PySem.W.Frag) (o : Option Addr) (G : Hp) (vs : List V) (t : T) : Prop := o = none ∧ ∃ (a : Addr) (ns : List Int) (k : Int), vs = [.ref a, .int k] ∧ SqL K G a (ns.map V.int) ∧ (0 ≤ k ∧ k < 1000) ∧ t = tInt
theorem cut_ints (ns : List Int) (lo hi : Option Int) : cutV (ns.map V.int) lo hi = ((ns.drop (HT.sIx ns.length 0 lo)).take (HT.sIx ns.length ns.length hi - HT.sIx ns.length 0 lo)).map V.int := by
  unfold cutV
  rw [List.length_map, ← List.map_drop, ← List.map_take]
theorem ok_cell (T : Txt K mg) (d : Df K mg "_law_cell" s__law_cell) : Own P w K mg base CX0 1 "_law_cell" s__law_cell ["script", "k"] (spC (cCell K)) :=
  d.own fun f fd F => F.ok sc__law_cell (fun vs H Q E h => by obtain ⟨o, G, p, kn, ⟨_, a, ns, k, rfl, _⟩, _⟩ := h; rfl) (fun cdv A outer s H vs Q E hr h => by
    obtain ⟨o, G, p, kn, ⟨rfl, a, ns, kk, rfl, hs, ⟨h0, h1⟩, rfl⟩, k⟩ := h
    refine ⟨_, (pss_one (ps_ret (pe_ifExp (pt_cmpR gLt (pv 1) (pe_callB (kLen (K := K) rfl) (by rfl) T.n_len (by decide +kernel) (pa_cons (pv 0) pa_nil)) (nomark _)) (pe_ix (kIx (K := K) rfl) (pv 0) (pv 1) (fun _ _ => rfl)) (pe_op (kAdd (K := K) rfl) (pe_op gMul pe_int (pv 1)) (pe_op op_mod (pe_callB (kSum (K := K) rfl rfl) (by rfl) T.n_sum (by decide +kernel) (pa_cons (pe_slice (kSl (K := K) rfl) (pv 0) po_none (po_some pe_int)) pa_nil)) pe_int))))), ?_⟩
    have g0 := Go.refl kn
    refine s_ret (t := tInt) g0 (ev_if (p := (· = decide (kk < ns.length))) (et_test (ev_op2 (ev_x rfl) (ev_cb (ea_cons (ev_x rfl) ea_nil) fun G' vs e x => ?_) ro_I0)) (fun hk => ?_) (fun _ => ?_)) fun v G2 H2 g2 w2 => k v G2 H2 g2 w2
    · cases x with
      | cons x y =>
        cases y
        rw [x.eq]
        have := rc_lenL (o := none) (ex_l e hs)
        rw [List.length_map] at this
        exact this
    · have hk : kk < ns.length := of_decide_eq_true hk.symm
      have hj : kk.toNat < ns.length := by omega
      refine (ev_op2 (ev_x rfl) (ev_x rfl) (ro_ixL (v := .int ns[kk.toNat]) hs ?_)).imp fun G' v _ w => w.imp fun _ _ e => ⟨_, e⟩
      have e : kk = ((kk.toNat : Nat) : Int) := by omega
      exact at_of e (by rw [List.getElem?_map, List.getElem?_eq_getElem hj]; rfl)
    · refine ev_op (s := tInt) (u := tInt) ((ev_op2 ev_k (ev_x rfl) (ro_mulI (.inl ⟨by decide, by decide⟩))).imp fun G' v _ w => w.imp fun _ _ e => ⟨_, e⟩)
        (ev_op (s := tInt) (u := tIs (.int 1000033)) ?_ ev_k fun G' x y _ hx hy => ?_) fun G' x y _ hx hy => ?_
      · have hn : EvN none (tSl (rSlG K) (tVar 0) tNoPart (tPart (tC (.int 1)))) (start ["script", "k"] [.ref a, .int kk]) G (fun _ xs => ∃ ms : List Int, xs = ms.map V.int) :=
          en_slL (t := tIs (.ref a)) (P' := fun _ xs => xs = ns.map V.int) (ev_x rfl) (fun G' v e w => ⟨a, _, w.eq, ex_l e hs, fun _ _ => rfl⟩) eo_none (eo_some ev_k) fun G' xs e => by
            subst e
            exact ⟨_, cut_ints ns none (some 1)⟩
        have hv : Ev none (tSl (rSlG K) (tVar 0) tNoPart (tPart (tC (.int 1)))) (start ["script", "k"] [.ref a, .int kk]) G (fun G' v => ∃ (a : Addr) (ms : List Int), v = .ref a ∧ G' a = some (.lst (ms.map V.int))) :=
          hn.ev fun G' a xs e ha hp => by
            obtain ⟨ms, rfl⟩ := hp.now
            exact ⟨a, ms, rfl, ha⟩
        refine ev_cb (ea_cons hv ea_nil) fun G' vs e x => ?_
        cases x with
        | cons x y =>
          cases y
          obtain ⟨a, ms, rfl, ha⟩ := x.now
          refine rc_q (z := .int ms.sum) (fun _ _ => ⟨_, rfl⟩) fun G1 H1 e1 kn1 Q q => ⟨a, ms, rfl, .of (kn1.sub _ _ (e1 _ _ ha)), q⟩
      · obtain ⟨i, rfl⟩ := hx.now
        rw [hy.eq]
        exact ro_q (z := .int (i % 1000033)) (fun _ _ => ⟨_, rfl⟩) fun _ _ _ _ _ q => ⟨i, 1000033, rfl, rfl, (show (0 : Int) < 1000033 by decide), q⟩
      · obtain ⟨i, rfl⟩ := hx.now
        obtain ⟨j, rfl⟩ := hy.now
        exact ro_q (z := .int (i + j)) (fun _ _ => ⟨_, rfl⟩) fun _ _ _ _ _ q => .inl ⟨i, j, rfl, rfl, q⟩)
def cMixed (K : PySem.W.Frag) (o : Option Addr) (G : Hp) (vs : List V) (p : PL) : Prop := ∃ (b a : Addr) (xs : List V), o = some b ∧ vs = [.ref b, .ref a] ∧ SqL K G a xs ∧ xs.length ≤ 1000 ∧ p = fun _ ys => ys.Perm xs
theorem perm_erase {α : Type} : ∀ {ys : List α} {k : Nat} {y : α}, ys[k]? = some y → (y :: ys.eraseIdx k).Perm ys
  | [], _, _, h => by cases h
  | z :: r, 0, y, h => by
    cases h
    exact .refl _
  | z :: r, k + 1, y, h => by
    have ih := perm_erase (ys := r) (k := k) (y := y) h
    exact (List.Perm.swap z y _).trans (ih.cons z)
theorem perm_pop {α : Type} {xs ys zs : List α} {k : Nat} {y : α} (h : (zs ++ ys).Perm xs) (e : ys[k]? = some y) : ((zs ++ [y]) ++ ys.eraseIdx k).Perm xs := by
  refine List.Perm.trans ?_ h
  rw [List.append_assoc]
  refine List.Perm.append_left zs ?_
  exact perm_erase e
theorem ok_mixed (T : Txt K mg) (d : Df K mg "_law_mixed" s__law_mixed) (G__law_take : Own P w K mg base CX0 1 "_law_take" s__law_take ["box", "many"] (spC cTake)) : Own P w K mg base CX0 2 "_law_mixed" s__law_mixed ["box", "items"] (spN (cMixed K)) :=
  d.own fun f fd F => F.ok sc__law_mixed (fun vs H Q E h => by obtain ⟨o, G, p, kn, ⟨b, a, xs, _, rfl, _⟩, _⟩ := h; rfl) (fun cdv A outer s H vs Q E hr h => by
    obtain ⟨o, G, p, kn, ⟨b, a, xs, rfl, rfl, hs, hx, rfl⟩, k⟩ := h
    refine ⟨_, (pss_cons (ps_par (i := 2) (j := 3) (by rfl) sc__law_mixed.nd rfl rfl (by decide) rfl rfl (pa_cons (pe_callTy (kList (K := K) rfl) (by rfl) T.n_list (by decide +kernel) (pa_cons (pv 1) pa_nil)) (pa_cons (pe_lst pa_nil) pa_nil)) (by rfl))
   (pss_cons (ps_while PassesOwn.never (pt_cmpR (kNe (K := K) rfl hr.units) (pv 2) (pe_lst pa_nil) (nomark _)) (pss_one (ps_expr (pe_bm PySem.F.plainAttrs_list PySem.F.slot_list_append PySem.F.type_list_append mt_append (pv 3) (pa_cons (pe_bm PySem.F.plainAttrs_list PySem.F.slot_list_pop PySem.F.type_list_pop mt_popAt (pv 2) (pa_cons (pe_own G__law_take pb__law_take (hr.mono (by first | decide | exact Nat.le_refl _ | omega)) rfl pass0 (pa_cons (pv 0) (pa_cons (pe_callB (kLen (K := K) rfl) (by rfl) T.n_len (by decide +kernel) (pa_cons (pv 2) pa_nil)) pa_nil))) pa_nil)) pa_nil)))))
   (pss_one (ps_ret (pv 3))))), ?_⟩
    refine ⟨.ref a, rfl, a, xs, rfl, .inl (ex_l kn.sub hs), fun l hl => ⟨Nat.zero_le _, fun p hp => ⟨_, _, rfl, ?_⟩⟩⟩
    have g1 : Go (some b) G H G (upd H l (.lst xs)) := .tmp kn hl
    have g2 : Go (some b) G H G (upd (upd H l (.lst xs)) p (.lst [])) := g1.trans (.tmp g1.kn hp)
    have npl : p ≠ l := fun e => by rw [e, upd_same] at hp; cases hp
    have nbl : some b ≠ some l := kn.nbox hl
    have nbp : some b ≠ some p := g1.kn.nbox hp
    have hp0 : H p = none := by rw [upd_ne npl] at hp; exact hp
    refine q_whileA g2 (fun m σ' G' H' => ∃ ys zs : List V, σ' = [some (.ref b), some (.ref a), some (.ref l), some (.ref p)] ∧ G' l = none ∧ G' p = none ∧ H' l = some (.lst ys) ∧ H' p = some (.lst zs) ∧ (zs ++ ys).Perm xs ∧ m = ys.length) xs.length
      ⟨xs, [], rfl, Evl.fresh_back kn.sub hl, Evl.fresh_back kn.sub hp0, by rw [upd_ne npl.symm, upd_same], upd_same, .refl _, rfl⟩ fun m σ' G' H' g' e' i => ?_
    obtain ⟨ys, zs, rfl, gl, gp, hl', hp', pm, rfl⟩ := i
    have lz : zs.length ≤ 1000 := by
      have := pm.length_eq
      rw [List.length_append] at this
      omega
    have ly : ys.length ≤ 1000 := by
      have := pm.length_eq
      rw [List.length_append] at this
      omega
    refine ⟨(· = !ys.isEmpty), fun Q2 q2 => ⟨.ref l, rfl, Nat.zero_le _, fun c hc => .inr (.inl ⟨l, c, ys, rfl, rfl, .of (by rw [upd_ne (ne_of_none hl' hc)]; exact hl'), .of upd_same, _, rfl, q2 _ G' _ (.tmp g'.kn hc) rfl⟩)⟩, fun hb G1 H1 g1' g1 => ?_, fun hb G1 H1 g1' g1 => ?_⟩
    · have hl1 := g1.kp l _ hl' nbl
      have hp1 := g1.kp p _ hp' nbp
      have hpos : 0 < ys.length := by
        cases ys with
        | nil => cases hb
        | cons _ _ => exact Nat.succ_pos _
      refine ⟨.ref p, rfl, .inl ⟨rfl, zs, .of hp1⟩, .ref l, rfl, .inl ⟨rfl, ys, .of hl1⟩, .ref b, rfl, .ref l, rfl, .inl ⟨l, ys, rfl, .inl (.of hl1), ?_⟩⟩
      refine ⟨some b, G1, tRng 0 ys.length, g1.kn, ⟨b, (ys.length : Int), rfl, rfl, ⟨by omega, by omega⟩, rfl⟩, fun v G2 H2 g3 w3 => ?_⟩
      obtain ⟨i, rfl, i0, i1⟩ := w3.now
      have hl2 := g3.kp l _ hl1 nbl
      have hp2 := g3.kp p _ hp1 nbp
      have gl2 : G2 l = none := g3.nw l (g1.nw l gl (by rw [hl']; simp)) (by rw [hl1]; simp)
      have gp2 : G2 p = none := g3.nw p (g1.nw p gp (by rw [hp']; simp)) (by rw [hp1]; simp)
      have hk : i.toNat < ys.length := by omega
      have hix : ixN ys.length i = some i.toNat := by
        unfold ixN
        rw [if_pos i0, if_pos i1]
      refine ⟨l, ys, i, i.toNat, ys[i.toNat], rfl, rfl, hl2, by omega, by omega, (ixN_seq hix).1, List.getElem?_eq_getElem hk, ?_⟩
      have g4 := ((g1'.trans g3).mut hl gl2 nbl (x := .lst (ys.eraseIdx i.toNat)))
      refine ⟨p, zs, ys[i.toNat], rfl, rfl, by rw [upd_ne npl]; exact hp2, Evl.sz_lt (by omega), (ys.eraseIdx i.toNat).length, G2, ?_, g4.mut hp0 gp2 nbp, (e'.trans g1.gg).trans g3.gg, ys.eraseIdx i.toNat, zs ++ [ys[i.toNat]], rfl, gl2, gp2, by rw [upd_ne npl.symm, upd_same], upd_same, perm_pop pm (List.getElem?_eq_getElem hk), rfl⟩
      rw [List.length_eraseIdx_of_lt hk]
      omega
    · have hp1 := g1.kp p _ hp' nbp
      have gp1 : G1 p = none := g1.nw p gp (by rw [hp']; simp)
      refine ⟨.ref p, rfl, k p zs G1 H1 g1' hp0 hp1 gp1 fun _ _ => ?_⟩
      cases ys with
      | nil => rw [List.append_nil] at pm; exact pm
      | cons _ _ => cases hb)
theorem ok_same (T : Txt K mg) (d : Df K mg "_law_same" s__law_same) : ∀ n, Own P w K mg base CX0 n "_law_same" s__law_same ["told", "due"] (spC (cSame K n))
  | 0 => d.own fun f fd F => ⟨fun vs H Q E h => by obtain ⟨o, G, t, _, ⟨_, x, y, _, z, _⟩, _⟩ := h; exact z.elim, fun A outer s H args us vs Q E hr he hb hv h => by obtain ⟨o, G, t, _, ⟨_, x, y, _, z, _⟩, _⟩ := h; exact z.elim⟩
  | n + 1 => d.own fun f fd F => F.ok sc__law_same (fun vs H Q E h => by obtain ⟨o, G, t, _, ⟨_, x, y, rfl, _⟩, _⟩ := h; rfl) (fun cdv A outer s H vs Q E hr h => by
    have G__law_same := ok_same T d n
    obtain ⟨o, G, t, kn, ⟨rfl, x, y, rfl, sm, rfl⟩, k⟩ := h
    refine ⟨_, (pss_cons (ps_if (PW.pt (pw_or (pt_cmpR op_isN (pv 1) pe_non (nomark _)) (pw_or1 (pt_val (pe_callB (kIsi (K := K) rfl) (by rfl) T.n_isinstance (by decide +kernel) (pa_cons (pv 1) (pa_cons (pe_bltn (v := .ty "bool") (by rfl) T.n_bool (by decide +kernel) rfl) pa_nil))))))) (pss_one (ps_ret (pe_ifExp (pt_cmpR op_isN (pv 1) pe_non (nomark _)) (pe_cmpR op_isN (pv 0) pe_non (nomark _)) (pe_and (pe_callB (kIsi (K := K) rfl) (by rfl) T.n_isinstance (by decide +kernel) (pa_cons (pv 0) (pa_cons (pe_bltn (v := .ty "bool") (by rfl) T.n_bool (by decide +kernel) rfl) pa_nil))) (pe_one (pe_cmpR (kEq (K := K) rfl hr.units) (pe_cmpR op_isBl (pv 0) pe_bl (nomark _)) (pe_cmpR op_isBl (pv 1) pe_bl (nomark _)) (nomark _))))))) pss_nil)
   (pss_cons (ps_if (pt_val (pe_callB (kIsi (K := K) rfl) (by rfl) T.n_isinstance (by decide +kernel) (pa_cons (pv 1) (pa_cons (pe_bltn (v := .ty "int") (by rfl) T.n_int (by decide +kernel) rfl) pa_nil)))) (pss_one (ps_ret (pe_and (pe_callB (kIsi (K := K) rfl) (by rfl) T.n_isinstance (by decide +kernel) (pa_cons (pv 0) (pa_cons (pe_bltn (v := .ty "int") (by rfl) T.n_int (by decide +kernel) rfl) pa_nil))) (pe_and (pe_not (pe_callB (kIsi (K := K) rfl) (by rfl) T.n_isinstance (by decide +kernel) (pa_cons (pv 0) (pa_cons (pe_bltn (v := .ty "bool") (by rfl) T.n_bool (by decide +kernel) rfl) pa_nil)))) (pe_one (pe_cmpR (kEq (K := K) rfl hr.units) (pv 0) (pv 1) (nomark _))))))) pss_nil)
   (pss_cons (ps_if (pt_val (pe_callB (kIsi (K := K) rfl) (by rfl) T.n_isinstance (by decide +kernel) (pa_cons (pv 1) (pa_cons (pe_bltn (v := .ty "str") (by rfl) T.n_str (by decide +kernel) rfl) pa_nil)))) (pss_one (ps_ret (pe_and (pe_callB (kIsi (K := K) rfl) (by rfl) T.n_isinstance (by decide +kernel) (pa_cons (pv 0) (pa_cons (pe_bltn (v := .ty "str") (by rfl) T.n_str (by decide +kernel) rfl) pa_nil))) (pe_one (pe_cmpR (kEq (K := K) rfl hr.units) (pv 0) (pv 1) (nomark _)))))) pss_nil)
   (pss_cons (ps_if (pt_val (pe_callB (kIsi (K := K) rfl) (by rfl) T.n_isinstance (by decide +kernel) (pa_cons (pv 1) (pa_cons (pe_bltn (v := .ty "dict") (by rfl) T.n_dict (by decide +kernel) rfl) pa_nil)))) (pss_cons (ps_if (PW.pt (pw_or (pt_not (pt_val (pe_callB (kIsi (K := K) rfl) (by rfl) T.n_isinstance (by decide +kernel) (pa_cons (pv 0) (pa_cons (pe_bltn (v := .ty "dict") (by rfl) T.n_dict (by decide +kernel) rfl) pa_nil))))) (pw_or1 (pt_cmpR (kNe (K := K) rfl hr.units) (pe_callB (kLenA (K := K) rfl) (by rfl) T.n_len (by decide +kernel) (pa_cons (pv 0) pa_nil)) (pe_callB (kLenA (K := K) rfl) (by rfl) T.n_len (by decide +kernel) (pa_cons (pv 1) pa_nil)) (nomark _))))) (pss_one (ps_ret pe_bl)) pss_nil)
   (pss_one (ps_ret (pe_lock (pe_cmpR (kEq (K := K) rfl hr.units) (pe_lc (own := [("key", 2)]) rfl sc__law_same.nd (pi_keys (pv 1)) (blkOk_by (own := [("key", 2)]) (N := ["told", "due", "key", "k"]) (sc := defScope s__law_same) (by decide +kernel)) (fun _ _ _ _ _ => (pg_name (i := 2) sc__law_same.nd rfl (Or.inl rfl))) (fun _ _ _ _ _ => (pts_one (PW.pt (pw_or (pt_cmp (pc_dnotin (Nat.lt_of_le_of_lt (Nat.add_le_add_left (by decide) _) hr.units) (pv 2) (pv 0))) (pw_or1 (pt_not (pt_val (pe_own G__law_same pb__law_same (hr.mono (by first | decide | exact Nat.le_refl _ | omega)) rfl pass0 (pa_cons (pe_dget (Nat.lt_of_le_of_lt (Nat.add_le_add_left (by decide) _) hr.units) (pv 0) (pv 2) (fun _ _ => rfl)) (pa_cons (pe_dget (Nat.lt_of_le_of_lt (Nat.add_le_add_left (by decide) _) hr.units) (pv 1) (pv 2) (fun _ _ => rfl)) pa_nil)))))))))) (fun _ _ _ _ _ => (pv 2))) (pe_lst pa_nil) (nomark _)))))) pss_nil)
   (pss_cons (ps_if (pt_val (pe_callB (kIsiT (K := K) rfl) (by rfl) T.n_isinstance (by decide +kernel) (pa_cons (pv 1) (pa_cons (pe_tup (pa_cons (pe_bltn (v := .ty "list") (by rfl) T.n_list (by decide +kernel) rfl) (pa_cons (pe_bltn (v := .ty "tuple") (by rfl) T.n_tuple (by decide +kernel) rfl) pa_nil))) pa_nil)))) (pss_cons (ps_if (PW.pt (pw_or (pt_not (pt_val (pe_callB (kIsiT (K := K) rfl) (by rfl) T.n_isinstance (by decide +kernel) (pa_cons (pv 0) (pa_cons (pe_tup (pa_cons (pe_bltn (v := .ty "list") (by rfl) T.n_list (by decide +kernel) rfl) (pa_cons (pe_bltn (v := .ty "tuple") (by rfl) T.n_tuple (by decide +kernel) rfl) pa_nil))) pa_nil))))) (pw_or (pt_cmpR (kNe (K := K) rfl hr.units) (pe_callB (kIsi (K := K) rfl) (by rfl) T.n_isinstance (by decide +kernel) (pa_cons (pv 0) (pa_cons (pe_bltn (v := .ty "list") (by rfl) T.n_list (by decide +kernel) rfl) pa_nil))) (pe_callB (kIsi (K := K) rfl) (by rfl) T.n_isinstance (by decide +kernel) (pa_cons (pv 1) (pa_cons (pe_bltn (v := .ty "list") (by rfl) T.n_list (by decide +kernel) rfl) pa_nil))) (nomark _)) (pw_or1 (pt_cmpR (kNe (K := K) rfl hr.units) (pe_callB (kLenA (K := K) rfl) (by rfl) T.n_len (by decide +kernel) (pa_cons (pv 0) pa_nil)) (pe_callB (kLenA (K := K) rfl) (by rfl) T.n_len (by decide +kernel) (pa_cons (pv 1) pa_nil)) (nomark _)))))) (pss_one (ps_ret pe_bl)) pss_nil)
   (pss_one (ps_ret (pe_cmpR (kEq (K := K) rfl hr.units) (pe_lc (own := [("k", 3)]) rfl sc__law_same.nd (pi_range1 rfl T.n_range (pa_cons (pe_callB (kLenA (K := K) rfl) (by rfl) T.n_len (by decide +kernel) (pa_cons (pv 1) pa_nil)) pa_nil)) (blkOk_by (own := [("k", 3)]) (N := ["told", "due", "key", "k"]) (sc := defScope s__law_same) (by decide +kernel)) (fun _ _ _ _ _ => (pg_name (i := 3) sc__law_same.nd rfl (Or.inl rfl))) (fun _ _ _ _ _ => (pts_one (pt_not (pt_val (pe_own G__law_same pb__law_same (hr.mono (by first | decide | exact Nat.le_refl _ | omega)) rfl pass0 (pa_cons (pe_ix (kIx (K := K) rfl) (pv 0) (pv 3) (fun _ _ => rfl)) (pa_cons (pe_ix (kIx (K := K) rfl) (pv 1) (pv 3) (fun _ _ => rfl)) pa_nil))))))) (fun _ _ _ _ _ => (pv 3))) (pe_lst pa_nil) (nomark _))))) pss_nil)
   (pss_one (ps_ret pe_bl))))))), ?_⟩
    have g0 := Go.refl kn
    have vx : ∀ G', Ev none (tVar 0) (start ["told", "due", "key", "k"] [x, y]) G' (tIs x) := fun G' => ev_x rfl
    have vy : ∀ G', Ev none (tVar 1) (start ["told", "due", "key", "k"] [x, y]) G' (tIs y) := fun G' => ev_x rfl
    have no : ∀ {p : Bool → Prop} {b : Bool}, (p = fun c => c = b) → b = false → ¬ p true := fun e f z => by rw [e, f] at z; cases z
    rcases sm with ⟨rfl, f⟩ | ⟨a, b, xs, ys, rfl, rfl, ha, hb, hl, hp⟩ | ⟨a, b, xs, ys, rfl, rfl, ha, hb, hl, hp⟩ | ⟨a, b, kvs, kvs', rfl, rfl, ha, hb, hln, hl, hf⟩
    · cases x with
      | non =>
        refine q_when g0 (p := (· = (true || true))) (et_or (et_test (ev_isN (vy _) rfl)) fun z => nomatch z) (fun _ G2 H2 g2 _ => ?_) fun z => nomatch z
        exact s_ret g2 (ev_if (p := (· = true)) (et_test (ev_isN (vy _) rfl)) (fun _ => ev_isN (vx _) rfl) fun z => nomatch z) fun v G3 H3 g3 w3 => k v G3 H3 g3 w3
      | bl b =>
        refine q_when g0 (p := (· = (false || true))) (et_or (et_test (ev_isN (vy _) rfl)) fun _ => et_b (ev_isi (vy _) (.bl b) (by decide +kernel))) (fun _ G2 H2 g2 _ => ?_) fun z => nomatch z
        refine s_ret g2 (ev_if (p := (· = false)) (et_test (ev_isN (vy _) rfl)) (fun z => nomatch z) fun _ => ev_and (a := true) (b := true) (ev_isi (vx _) (.bl b) (by decide +kernel)) fun _ => ?_) fun v G3 H3 g3 w3 => k v G3 H3 g3 w3
        exact ev_op2 (ev_op2 (vx _) ev_k ro_isB) (ev_op2 (vy _) ev_k ro_isB) (ro_eqS rfl (by simp))
      | int i =>
        refine q_when g0 (p := (· = (false || false))) (et_or (et_test (ev_isN (vy _) rfl)) fun _ => et_b (ev_isi (vy _) (.int i) (by decide +kernel))) (fun z => nomatch z) fun _ G2 H2 g2 _ => ?_
        refine q_when g2 (p := (· = true)) (et_b (ev_isi (vy _) (.int i) (by decide +kernel))) (fun _ G3 H3 g3 _ => ?_) fun z => nomatch z
        refine s_ret g3 (ev_and (a := true) (b := true) (ev_isi (vx _) (.int i) (by decide +kernel)) fun _ => ev_and (a := !false) (b := true) (ev_not (ev_isi (vx _) (.int i) (by decide +kernel))) fun _ => ?_) fun v G3 H3 g3 w3 => k v G3 H3 g3 w3
        exact ev_op2 (vx _) (vy _) (ro_eqS rfl (by simp))
      | str z =>
        refine q_when g0 (p := (· = (false || false))) (et_or (et_test (ev_isN (vy _) rfl)) fun _ => et_b (ev_isi (vy _) (.str z) (by decide +kernel))) (fun z => nomatch z) fun _ G2 H2 g2 _ => ?_
        refine q_when g2 (p := (· = false)) (et_b (ev_isi (vy _) (.str z) (by decide +kernel))) (fun z => nomatch z) fun _ G3 H3 g3 _ => ?_
        refine q_when g3 (p := (· = true)) (et_b (ev_isi (vy _) (.str z) (by decide +kernel))) (fun _ G3 H3 g3 _ => ?_) fun z => nomatch z
        refine s_ret g3 (ev_and (a := true) (b := true) (ev_isi (vx _) (.str z) (by decide +kernel)) fun _ => ?_) fun v G3 H3 g3 w3 => k v G3 H3 g3 w3
        exact ev_op2 (vx _) (vy _) (ro_eqS rfl (by simp))
      | byt _ => cases f
      | flt _ => cases f
      | ref _ => cases f
      | ty _ => cases f
    · have kx : KT K G (.ref a) "list" := .lst ha
      have ky : KT K G (.ref b) "list" := .lst hb
      refine q_when g0 (p := (· = (false || false))) (et_or (et_test (ev_isN (vy _) rfl)) fun _ => et_b (ev_isi (vy _) ky (by decide +kernel))) (fun z => nomatch z) fun _ G2 H2 g2 _ => ?_
      refine q_when g2 (p := (· = false)) (et_b (ev_isi (vy _) (ky.up g2.gg) (by decide +kernel))) (fun z => nomatch z) fun _ G3 H3 g3 _ => ?_
      refine q_when g3 (p := (· = false)) (et_b (ev_isi (vy _) (ky.up g3.gg) (by decide +kernel))) (fun z => nomatch z) fun _ G4 H4 g4 _ => ?_
      refine q_when g4 (p := (· = false)) (et_b (ev_isi (vy _) (ky.up g4.gg) (by decide +kernel))) (fun z => nomatch z) fun _ G5 H5 g5 _ => ?_
      refine q_when g5 (p := (· = (true || false))) (et_b (ev_isi2 (vy _) (ky.up g5.gg) (by decide +kernel) (by decide +kernel))) (fun _ G6 H6 g6 _ => ?_) fun z => nomatch z
      have ha' := ex_l g6.gg ha
      have hb' := ex_l g6.gg hb
      refine q_when g6 (p := (· = (!(true || false) || (false || false)))) (et_or (et_not (et_b (ev_isi2 (vx _) (kx.up g6.gg) (by decide +kernel) (by decide +kernel)))) fun _ => et_or (et_test (ev_op2 (ev_isi (vx _) (kx.up g6.gg) (b := true) (by decide +kernel)) (ev_isi (vy _) (ky.up g6.gg) (b := true) (by decide +kernel)) (ro_neS rfl (by simp)))) fun _ =>
        et_test (ev_op2 (ev_cb1 (vx _) fun G' e => rc_lenA (rc_lenL (ex_l e ha'))) (ev_cb1 (vy _) fun G' e => rc_lenA (rc_lenL (ex_l e hb'))) (ro_neS rfl (by simp [Paired.length hp])))) (fun z => nomatch z) fun _ G7 H7 g7 g67 => ?_
      refine s_ret (t := tIs (.bl true)) g7 (ev_eqNil (ev_nilL (P := fun _ ys => ys = []) ?_ fun G' xs h => h.now)) k
      have hn : EvI none (iRng1 (tCons (tCB (rLenA K) (tCons (tVar 1) tNil)) tNil)) (start ["told", "due", "key", "k"] [.ref a, .ref b]) G7 (fun _ zs => zs = intsV 0 ys.length) :=
        ei_rng1 (Pn := fun n => n = (ys.length : Int)) (ea_cons ((ev_cb1 (vy _) fun G' e => rc_lenA (rc_lenL (ex_l (g67.gg.trans e) hb'))).imp fun G' v _ w => w.imp fun _ _ e => ⟨_, e, rfl⟩) ea_nil) (fun n e => by have := Paired.length hp; omega) fun G' n _ e => by
          subst e
          exact fun _ _ => by rw [Int.toNat_natCast]
      refine (en_lc (fun _ _ _ acc => acc = []) hn (fun _ => rfl) (fun _ _ _ _ _ _ h => h) (fun G' zs _ hz => ⟨by rw [hz.now, intsV_len]; have := Paired.length hp; omega, rfl⟩) fun G' zs i z acc e hz hi _ r => ?_).impN fun G' ys h => by
        obtain ⟨_, _, _, r⟩ := h
        exact r
      rw [hz.now] at hi
      obtain ⟨rfl, hi⟩ := intsV_get hi
      obtain ⟨x', y', hx, hy, hr'⟩ := Paired.at' (i := i) hp (by have := Paired.length hp; omega)
      have ez : (0 : Int) + (i : Int) = (i : Int) := Int.zero_add _
      refine ⟨(· = !true), et_not (et_b (ev_call (t := tIs (.bl true)) (ea_cons (ev_op2 (ev_x rfl) (ev_x rfl) (ro_ixL (ex_l (g67.gg.trans e) ha') (at_of ez hx))) (ea_cons (ev_op2 (ev_x rfl) (ev_x rfl) (ro_ixL (ex_l (g67.gg.trans e) hb') (at_of ez hy))) ea_nil)) fun G'' vs e2 al => ?_)), (fun z => nomatch z), fun _ G1 _ => r⟩
      cases al with
      | cons a1 al => cases al with
        | cons a2 al =>
          cases al
          rw [a1.eq, a2.eq]
          exact ⟨none, _, .inl rfl, ⟨rfl, x', y', rfl, hr'.up (g7.gg.trans (e.trans e2)), rfl⟩, fun _ _ _ w => w⟩
    · have kx : KT K G (.ref a) "tuple" := .tup ha
      have ky : KT K G (.ref b) "tuple" := .tup hb
      refine q_when g0 (p := (· = (false || false))) (et_or (et_test (ev_isN (vy _) rfl)) fun _ => et_b (ev_isi (vy _) ky (by decide +kernel))) (fun z => nomatch z) fun _ G2 H2 g2 _ => ?_
      refine q_when g2 (p := (· = false)) (et_b (ev_isi (vy _) (ky.up g2.gg) (by decide +kernel))) (fun z => nomatch z) fun _ G3 H3 g3 _ => ?_
      refine q_when g3 (p := (· = false)) (et_b (ev_isi (vy _) (ky.up g3.gg) (by decide +kernel))) (fun z => nomatch z) fun _ G4 H4 g4 _ => ?_
      refine q_when g4 (p := (· = false)) (et_b (ev_isi (vy _) (ky.up g4.gg) (by decide +kernel))) (fun z => nomatch z) fun _ G5 H5 g5 _ => ?_
      refine q_when g5 (p := (· = (false || true))) (et_b (ev_isi2 (vy _) (ky.up g5.gg) (by decide +kernel) (by decide +kernel))) (fun _ G6 H6 g6 _ => ?_) fun z => nomatch z
      have ha' := ex_t g6.gg ha
      have hb' := ex_t g6.gg hb
      refine q_when g6 (p := (· = (!(false || true) || (false || false)))) (et_or (et_not (et_b (ev_isi2 (vx _) (kx.up g6.gg) (by decide +kernel) (by decide +kernel)))) fun _ => et_or (et_test (ev_op2 (ev_isi (vx _) (kx.up g6.gg) (b := false) (by decide +kernel)) (ev_isi (vy _) (ky.up g6.gg) (b := false) (by decide +kernel)) (ro_neS rfl (by simp)))) fun _ =>
        et_test (ev_op2 (ev_cb1 (vx _) fun G' e => rc_lenA (rc_lenT (ex_t e ha'))) (ev_cb1 (vy _) fun G' e => rc_lenA (rc_lenT (ex_t e hb'))) (ro_neS rfl (by simp [Paired.length hp])))) (fun z => nomatch z) fun _ G7 H7 g7 g67 => ?_
      refine s_ret (t := tIs (.bl true)) g7 (ev_eqNil (ev_nilL (P := fun _ ys => ys = []) ?_ fun G' xs h => h.now)) k
      have hn : EvI none (iRng1 (tCons (tCB (rLenA K) (tCons (tVar 1) tNil)) tNil)) (start ["told", "due", "key", "k"] [.ref a, .ref b]) G7 (fun _ zs => zs = intsV 0 ys.length) :=
        ei_rng1 (Pn := fun n => n = (ys.length : Int)) (ea_cons ((ev_cb1 (vy _) fun G' e => rc_lenA (rc_lenT (ex_t (g67.gg.trans e) hb'))).imp fun G' v _ w => w.imp fun _ _ e => ⟨_, e, rfl⟩) ea_nil) (fun n e => by have := Paired.length hp; omega) fun G' n _ e => by
          subst e
          exact fun _ _ => by rw [Int.toNat_natCast]
      refine (en_lc (fun _ _ _ acc => acc = []) hn (fun _ => rfl) (fun _ _ _ _ _ _ h => h) (fun G' zs _ hz => ⟨by rw [hz.now, intsV_len]; have := Paired.length hp; omega, rfl⟩) fun G' zs i z acc e hz hi _ r => ?_).impN fun G' ys h => by
        obtain ⟨_, _, _, r⟩ := h
        exact r
      rw [hz.now] at hi
      obtain ⟨rfl, hi⟩ := intsV_get hi
      obtain ⟨x', y', hx, hy, hr'⟩ := Paired.at' (i := i) hp (by have := Paired.length hp; omega)
      have ez : (0 : Int) + (i : Int) = (i : Int) := Int.zero_add _
      refine ⟨(· = !true), et_not (et_b (ev_call (t := tIs (.bl true)) (ea_cons (ev_op2 (ev_x rfl) (ev_x rfl) (ro_ixT (ex_t (g67.gg.trans e) ha') (at_of ez hx))) (ea_cons (ev_op2 (ev_x rfl) (ev_x rfl) (ro_ixT (ex_t (g67.gg.trans e) hb') (at_of ez hy))) ea_nil)) fun G'' vs e2 al => ?_)), (fun z => nomatch z), fun _ G1 _ => r⟩
      cases al with
      | cons a1 al => cases al with
        | cons a2 al =>
          cases al
          rw [a1.eq, a2.eq]
          exact ⟨none, _, .inl rfl, ⟨rfl, x', y', rfl, hr'.up (g7.gg.trans (e.trans e2)), rfl⟩, fun _ _ _ w => w⟩
    · have kx : KT K G (.ref a) "dict" := .dic ha
      have ky : KT K G (.ref b) "dict" := .dic hb
      refine q_when g0 (p := (· = (false || false))) (et_or (et_test (ev_isN (vy _) rfl)) fun _ => et_b (ev_isi (vy _) ky (by decide +kernel))) (fun z => nomatch z) fun _ G2 H2 g2 _ => ?_
      refine q_when g2 (p := (· = false)) (et_b (ev_isi (vy _) (ky.up g2.gg) (by decide +kernel))) (fun z => nomatch z) fun _ G3 H3 g3 _ => ?_
      refine q_when g3 (p := (· = false)) (et_b (ev_isi (vy _) (ky.up g3.gg) (by decide +kernel))) (fun z => nomatch z) fun _ G4 H4 g4 _ => ?_
      refine q_when g4 (p := (· = true)) (et_b (ev_isi (vy _) (ky.up g4.gg) (by decide +kernel))) (fun _ G5 H5 g5 _ => ?_) fun z => nomatch z
      refine q_when g5 (p := (· = (!true || false))) (et_or (et_not (et_b (ev_isi (vx _) (kx.up g5.gg) (by decide +kernel)))) fun _ =>
        et_test (ev_op2 (ev_cb1 (vx _) fun G' e => rc_lenDA ((g5.gg.trans e) _ _ ha)) (ev_cb1 (vy _) fun G' e => rc_lenDA ((g5.gg.trans e) _ _ hb)) (ro_neS rfl (by simp [hln])))) (fun z => nomatch z) fun _ G6 H6 g6 _ => ?_
      refine s_ret (t := tIs (.bl true)) g6 (ev_lock (b := b) (w := .dK kvs') (fun G' e => (g6.gg.trans e) _ _ hb) trivial fun G' od e => ev_eqNil (ev_nilL (P := fun _ ys => ys = []) ?_ fun G' xs h => h.now)) k
      have rb : Rd (upd G' b (.frz od (.dK kvs'))) b (.dK kvs') := .inr ⟨od, upd_same⟩
      have ra : Rd (upd G' b (.frz od (.dK kvs'))) a (.dK kvs) := by
        by_cases z : a = b
        · have q : G b = some (.dK kvs) := z ▸ ha
          rw [hb] at q
          cases q
          rw [z]; exact rb
        · exact .inl (by rw [upd_ne z]; exact (g6.gg.trans e) _ _ ha)
      refine (en_lc (fun _ _ _ acc => acc = []) (ei_keys (kvs := kvs') (P := fun _ zs => zs = kvs'.map fun kv => kV kv.1) (ev_x rfl) upd_same fun _ _ _ _ => rfl) (fun _ => rfl) (fun _ _ _ _ _ _ h => h) (fun G2 zs _ hz => ⟨by rw [hz.now, List.length_map]; omega, rfl⟩) fun G2 zs i z acc e2 hz hi _ r => ?_).impN fun G' ys h => by
        obtain ⟨_, _, _, r⟩ := h
        exact r
      rw [hz.now, List.getElem?_map] at hi
      obtain ⟨⟨kk, vv⟩, hkv, ez⟩ := Option.map_eq_some_iff.mp hi
      have ez' : z = kV kk := ez.symm
      subst ez'
      obtain ⟨w, w', hw, hw', sw⟩ := hf _ (List.mem_of_getElem? hkv)
      refine ⟨(· = (false || !true)), et_or (et_b (ev_dnotin (ev_x rfl) (ev_x rfl) (Rd.up ra e2) (by rw [hw]; rfl))) fun _ => et_not (et_b (ev_call (t := tIs (.bl true)) (ea_cons (ev_dget (ev_x rfl) (ev_x rfl) (Rd.up ra e2) hw) (ea_cons (ev_dget (ev_x rfl) (ev_x rfl) (Rd.up rb e2) hw') ea_nil)) fun G'' vs e3 al => ?_)), (fun z => nomatch z), fun _ G1 _ => r⟩
      cases al with
      | cons a1 al => cases al with
        | cons a2 al =>
          cases al
          rw [a1.eq, a2.eq]
          exact ⟨none, _, .inl rfl, ⟨rfl, w, w', rfl, ((((sw.up (g6.gg.trans e)).lock ((g6.gg.trans e) _ _ hb)).up e2).up e3).sm, rfl⟩, fun _ _ _ w => w⟩)
/-! ### copies, very values -/
theorem ok_copy (T : Txt K mg) (d : Df K mg "_law_copy" s__law_copy) : Own P w K mg base CX0 1 "_law_copy" s__law_copy ["value"] (spCopy K) :=
  d.own fun f fd F => F.ok sc__law_copy (fun vs H Q E h => by obtain ⟨o, G, v, d, _, rfl, _⟩ := h; rfl) (fun cdv A outer s H vs Q E hr h => by
    obtain ⟨o, G, v, d, kn, rfl, hv, k⟩ := h
    refine ⟨_, (pss_one (ps_ret (pe_ifExp (pt_val (pe_callB (kIsi (K := K) rfl) (by rfl) T.n_isinstance (by decide +kernel) (pa_cons (pv 0) (pa_cons (pe_bltn (v := .ty "list") (by rfl) T.n_list (by decide +kernel) rfl) pa_nil)))) (pe_callTy (kList (K := K) rfl) (by rfl) T.n_list (by decide +kernel) (pa_cons (pv 0) pa_nil)) (pe_ifExp (pt_val (pe_callB (kIsi (K := K) rfl) (by rfl) T.n_isinstance (by decide +kernel) (pa_cons (pv 0) (pa_cons (pe_bltn (v := .ty "dict") (by rfl) T.n_dict (by decide +kernel) rfl) pa_nil)))) (pe_callTy call_dictOf (by rfl) T.n_dict (by decide +kernel) (pa_cons (pv 0) pa_nil)) (pv 0))))), ?_⟩
    have g0 := Go.refl kn
    have vv : ∀ G', Ex G G' → Ev o (tVar 0) (start ["value"] [v]) G' (tV K d) := fun G' e => ev_v rfl (hv.up e)
    refine (et_b (ev_isiV (vv G (Ex.refl _)) ki_list)) G H (Ex.refl _) kn _ fun b G2 H2 g2 hb => ?_
    subst hb
    cases e1 : isList d with
    | true =>
      cases d with
      | list ds =>
        refine vv G2 g2.gg G2 H2 (Ex.refl _) g2.kn _ fun v2 G3 H3 g3 w3 => ?_
        obtain ⟨a, xs, rfl, hs, hd⟩ := w3.now.lst
        refine ⟨a, xs, rfl, .inl (ex_l g3.kn.sub hs), fun l hl => ?_⟩
        have g := g2.trans g3
        refine k _ G3 _ (g.trans (.tmp g3.kn hl)) (.inr (.inl ⟨l, xs, ds, rfl, rfl, g.fresh hl, Evl.fresh_back g3.kn.sub hl, g3.kn.nbox hl, upd_same, hd⟩))
      | _ => cases e1
    | false =>
      refine (et_b (ev_isiV (vv G2 g2.gg) ki_dict)) G2 H2 (Ex.refl _) g2.kn _ fun b G3 H3 g3 hb => ?_
      subst hb
      have g := g2.trans g3
      cases e2 : isDict d with
      | true =>
        refine vv G3 g.gg G3 H3 (Ex.refl _) g3.kn _ fun v2 G4 H4 g4 w4 => ?_
        rcases w4.now with w | ⟨a, kvs, es, rfl, rfl, ha, hk⟩
        · cases w <;> cases e2
        · refine ⟨a, kvs, rfl, .inl (g4.kn.sub _ _ ha), fun l hl => ?_⟩
          exact k _ G4 _ ((g.trans g4).trans (.tmp g4.kn hl)) (.inr (.inr ⟨l, kvs, es, rfl, rfl, (g.trans g4).fresh hl, Evl.fresh_back g4.kn.sub hl, g4.kn.nbox hl, upd_same, hk⟩))
      | false =>
        exact vv G3 g.gg G3 H3 (Ex.refl _) g3.kn _ fun v2 G4 H4 g4 w4 => k _ G4 H4 (g.trans g4) (.inl ⟨w4.now, e1, e2⟩))
theorem ok_blamed (T : Txt K mg) (d : Df K mg "_law_blamed" s__law_blamed) {n : Nat} (G__law_same : Own P w K mg base CX0 n "_law_same" s__law_same ["told", "due"] (spC (cSame K 50))) : Own P w K mg base CX0 (n + 1) "_law_blamed" s__law_blamed ["given", "value"] (spBlame K) :=
  d.own fun f fd F => F.ok sc__law_blamed (fun vs H Q E h => by obtain ⟨o, G0, H0, G, v, _, rfl, _⟩ := h; rfl) (fun cdv A outer s H vs Q E hr h => by
    obtain ⟨o, G0, H0, G, v, g, rfl, mv, k⟩ := h
    refine ⟨_, (pss_cons (ps_if (pt_not (pt_val (pe_own G__law_same pb__law_same (hr.mono (by first | decide | exact Nat.le_refl _ | omega)) rfl pass0 (pa_cons (pv 0) (pa_cons (pv 1) pa_nil))))) (pss_one (ps_ret pe_bl)) pss_nil)
   (pss_cons (ps_if (pt_val (pe_callB (kIsi (K := K) rfl) (by rfl) T.n_isinstance (by decide +kernel) (pa_cons (pv 1) (pa_cons (pe_bltn (v := .ty "list") (by rfl) T.n_list (by decide +kernel) rfl) pa_nil)))) (pss_one (ps_expr (pe_bm PySem.F.plainAttrs_list PySem.F.slot_list_append PySem.F.type_list_append mt_append (pv 1) (pa_cons pe_str pa_nil)))) pss_nil)
   (pss_cons (ps_if (pt_val (pe_callB (kIsi (K := K) rfl) (by rfl) T.n_isinstance (by decide +kernel) (pa_cons (pv 1) (pa_cons (pe_bltn (v := .ty "dict") (by rfl) T.n_dict (by decide +kernel) rfl) pa_nil)))) (pss_one (ps_dput (Nat.lt_of_le_of_lt (Nat.add_le_add_left (by decide) _) hr.units) (pv 1) pe_str pe_int rfl)) pss_nil)
   (pss_one (ps_ret (pe_own G__law_same pb__law_same (hr.mono (by first | decide | exact Nat.le_refl _ | omega)) rfl pass0 (pa_cons (pv 0) (pa_cons (pv 1) pa_nil)))))))), ?_⟩
    have same : ∀ G', Sm K 50 G' v v → Ev o (tCall (spC (cSame K 50)) [] E0 (tCons (tVar 0) (tCons (tVar 1) tNil))) (start ["given", "value"] [v, v]) G' (tIs (.bl true)) := fun G' sm =>
      ev_call (ea_cons (ev_x rfl) (ea_cons (ev_x rfl) ea_nil)) fun G'' vs e al => by
        cases al with
        | cons a1 al => cases al with
          | cons a2 al =>
            cases al
            rw [a1.eq, a2.eq]
            exact ⟨none, _, .inr rfl, ⟨rfl, v, v, rfl, sm.up e, rfl⟩, fun _ _ _ w => w⟩
    have vx : ∀ G', Ev o (tVar 1) (start ["given", "value"] [v, v]) G' (tIs v) := fun G' => ev_x rfl
    rcases mv with ⟨sm, n, kt, e1, e2⟩ | ⟨a, xs, rfl, h0, ga, ho, ha, hl, hx⟩ | ⟨a, kvs, rfl, h0, ga, ho, ha, hl, hx⟩
    · refine q_when g (p := (· = !true)) (et_not (et_b (same _ sm))) (fun z => nomatch z) fun _ G2 H2 g2 g12 => ?_
      refine q_when g2 (p := (· = false)) (et_b (ev_isi (vx _) (kt.up g12.gg) e1)) (fun z => nomatch z) fun _ G3 H3 g3 g23 => ?_
      refine q_when g3 (p := (· = false)) (et_b (ev_isi (vx _) (kt.up (g12.gg.trans g23.gg)) e2)) (fun z => nomatch z) fun _ G4 H4 g4 g34 => ?_
      exact s_ret g4 (same _ (sm.up ((g12.gg.trans g23.gg).trans g34.gg))) fun v2 G5 H5 g5 w5 => by rw [w5.eq]; exact k G5 H5 g5
    · have smL : ∀ {G' : Hp} {ys : List V}, (∀ x ∈ ys, Sm K 49 G' x x) → ys.length ≤ 1000 → G' a = none → Sm K 50 (upd G' a (.lst ys)) (.ref a) (.ref a) := fun {G' ys} hy hl gn => by
        refine .inr (.inl ⟨a, a, ys, ys, rfl, rfl, .of upd_same, .of upd_same, hl, ?_⟩)
        have : ∀ zs : List V, (∀ x ∈ zs, Sm K 49 G' x x) → Paired (Sm K 49 (upd G' a (.lst ys))) zs zs := fun zs => by
          induction zs with
          | nil => exact fun _ => .nil
          | cons z zs ih => exact fun h => .cons ((h z (List.mem_cons_self ..)).up (Ex.new gn)) (ih fun x hx => h x (List.mem_cons_of_mem _ hx))
        exact this ys hy
      refine q_whenL g ga ha ho (p := (· = !true)) (et_not (et_b (same _ (smL hx (by omega) ga)))) (fun z => nomatch z) fun G2 H2 g2 g12 ga2 ha2 => ?_
      refine q_whenLT g2 ga2 ha2 ho (p := (· = true)) (et_b (ev_isi (vx _) (.lst (.of upd_same)) (by decide +kernel))) (fun z => nomatch z) fun G3 H3 g3 g23 ga3 ha3 => ?_
      refine s_app (t := tIs (.str "more")) g3 h0 ga3 ho ha3 (vx _) (fun _ _ => ev_k) (by omega) fun v2 G4 H4 g4 g34 ga4 w4 => ?_
      rw [w4.eq] at g4 ⊢
      refine q_whenL g4 ga4 upd_same ho (p := (· = false)) (et_b (ev_isi (vx _) (.lst (.of upd_same)) (by decide +kernel))) (fun z => nomatch z) fun G5 H5 g5 g45 ga5 ha5 => ?_
      refine s_retL g5 ga5 ha5 ho (same _ (smL (fun x hx' => ?_) (by rw [List.length_append]; show xs.length + 1 ≤ 1000; omega) ga5)) k
      rcases List.mem_append.mp hx' with h | h
      · exact (hx x h).up (((g12.gg.trans g23.gg).trans g34.gg).trans g45.gg)
      · rw [List.mem_singleton.mp h]; exact .flat rfl
    · have smD : ∀ {G' : Hp} {ys : List (Key × V)}, (∀ kv ∈ ys, Sm0 K 49 G' kv.2 kv.2) → ys.length ≤ 1000 → G' a = none → Sm K 50 (upd G' a (.dK ys)) (.ref a) (.ref a) := fun {G' ys} hy hl gn =>
        sm_dict upd_same hl fun kv m => (hy kv m).up (Ex.new gn)
      refine q_whenL g ga ha ho (p := (· = !true)) (et_not (et_b (same _ (smD hx (by omega) ga)))) (fun z => nomatch z) fun G2 H2 g2 g12 ga2 ha2 => ?_
      refine q_whenL g2 ga2 ha2 ho (p := (· = false)) (et_b (ev_isi (vx _) (.dic upd_same) (by decide +kernel))) (fun z => nomatch z) fun G3 H3 g3 g23 ga3 ha3 => ?_
      refine q_whenLT g3 ga3 ha3 ho (p := (· = true)) (et_b (ev_isi (vx _) (.dic upd_same) (by decide +kernel))) (fun z => nomatch z) fun G4 H4 g4 g34 ga4 ha4 => ?_
      have lz : (putK kvs ((Sum.inr "more" : Key)) (.int 1)).length ≤ 1000 := Nat.le_trans (length_putK ..) (by omega)
      refine ⟨_, rfl, a, _, rfl, DPut.k (k := (Sum.inr "more" : Key)) ha4 (Evl.sz_lt (by omega)), ?_⟩
      have g5 : Go o G0 H0 G4 (upd H4 a (.dK (putK kvs ((Sum.inr "more" : Key)) (.int 1)))) := g4.mut h0 ga4 ho
      exact s_retL g5 ga4 upd_same ho (same _ (smD (putK_all (p := fun v => Sm0 K 49 G4 v v) (fun kv m => (hx kv m).up ((g12.gg.trans g23.gg).trans g34.gg)) (.inl ⟨rfl, rfl⟩)) lz ga4)) k)
end
end K14
set_option Elab.async false
set_option linter.all false
set_option maxRecDepth 100000
set_option maxHeartbeats 4000000
namespace K14
open PySem L2 Ty
open Evl (Ex ex_l ex_t)
theorem eq_str (a b : Str) : decide (V.str a = V.str b) = decide (a = b) := by
  by_cases e : a = b
  · subst e; exact (decide_eq_true (p := V.str a = V.str a) rfl).trans (decide_eq_true (p := a = a) rfl).symm
  · rw [decide_eq_false e, decide_eq_false (fun z => e (by cases z; rfl))]
theorem EvN.evF {o : Option Addr} {σ : L2.St} {G : Hp} {te : TE} {t : T} {P : PL} (h : EvN o te σ G P) (k : ∀ G' a xs, Ex G G' → G a = none → G' a = some (.lst xs) → UP P G' xs → t G' (.ref a)) : Ev o te σ G t := fun G1 H1 e kn Q q =>
  h G1 H1 e kn Q fun p xs G2 H2 g2 hp h2 n2 w2 => by
    have hob := kn.nbox hp
    have g0 : G p = none := by
      cases z : G p with
      | none => rfl
      | some y => rw [kn.sub _ _ (e _ _ z)] at hp; cases hp
    exact q (.ref p) _ H2 (g2.fix hp h2 n2 hob) fun G' e' => k G' p xs (((e.trans g2.gg).trans (Ex.new n2)).trans e') g0 (e' p _ upd_same) (w2.up ((Ex.new n2).trans e'))
section
variable {K : PySem.W.Frag} {o : Option Addr} {σ : L2.St} {G Ge He H : Hp} {ta tl : TE} {ti te tb tk tv tk2 tv2 : TE} {tt tt' : TT} {x : V} {s t : T} {d d2 : PyData} {z z2 : Str} {De : Ends} {E : XK}
theorem _root_.Ty.Vl.dpc {K : PySem.W.Frag} {G : Hp} {v : V} {d : PyData} (h : Vl K G v d) (c : d.canLay0 = true) : Dp K G v d := by
  rcases h with h | ⟨_, _, _, _, e, _⟩
  · exact h
  · subst e
    exact absurd c (by simp [PyData.canLay0])
theorem take_at {b : Addr} {E : XK} {n : Int} {tn : TE} {j : Nat} (h : σ[j]? = some (some (.ref b))) (hn : Ev (some b) tn σ G (tIs (.int n))) (h0 : 0 < n ∧ n < 1000000) : Ev (some b) (tCall (spC cTake) [] E (tCons (tVar j) (tCons tn tNil))) σ G (tRng 0 n) :=
  ev_call (ea_cons (ev_x h) (ea_cons hn ea_nil)) fun G' vs e a => by
    rw [all2 a]
    exact ⟨some b, _, .inl rfl, ⟨b, _, rfl, rfl, ⟨h0.1, by omega⟩, rfl⟩, fun _ _ _ w => w⟩
theorem ev_to' {x y : V} (h : Ev o ta σ G (tIs x)) (e : x = y) : Ev o ta σ G (tIs y) := e ▸ h
theorem et_andI {p q : Bool → Prop} (h1 : EvT o tt σ G p) (h2 : p true → EvT o tt' σ G q) : EvT o (tAnd tt tt') σ G (fun b => b = true → p true ∧ q true) := fun G1 H1 e kn Q k => h1 G1 H1 e kn _ fun c G2 H2 g2 w2 => by
  cases c with
  | true => exact h2 w2 G2 H2 (e.trans g2.gg) g2.kn Q fun z G3 H3 g3 w3 => k z G3 H3 (g2.trans g3) fun hz => ⟨w2, hz ▸ w3⟩
  | false => exact k false G2 H2 g2 fun z => nomatch z
theorem ev_ixR {a : Addr} {xs : List V} {n : Int} (ha : Ev o ta σ G (tIs (.ref a))) (h : G a = some (.lst xs)) (hx : ∀ x ∈ xs, U t G x) (hb : Ev o tb σ G (tRng 0 n)) (hn : n ≤ xs.length) : Ev o (tOp (rIx K) ta tb) σ G t :=
  ev_op ha hb fun G' x y e hx' hy => by
    obtain ⟨i, rfl, i0, i1⟩ := hy.now
    rw [hx'.eq]
    have hi : i.toNat < xs.length := by omega
    exact fun G1 H1 e1 kn1 Q q => ro_ixL (.of (e _ _ h)) (at_of (j := i.toNat) (by omega) (List.getElem?_eq_getElem hi)) G1 H1 e1 kn1 Q fun v' G3 H3 g3 w3 => q v' G3 H3 g3 (by rw [w3.eq]; exact (hx _ (List.getElem_mem hi)).up ((e.trans e1).trans g3.gg))
theorem ev_pickV {ta : TA} {ds : List PyData} {n : Int} (h : EvA o ta σ G (ds.map (tV K))) (hi : Ev o ti σ G (tRng 0 n)) (hn : n ≤ ds.length) (hl : ds.length ≤ 100000) : Ev o (tOp (rIx K) (tLst ta) ti) σ G (fun G v => ∃ d ∈ ds, Vl K G v d) :=
  ev_op ((en_lst h (by rw [List.length_map]; exact hl)).ev (t := fun G v => ∃ a vs, v = .ref a ∧ G a = some (.lst vs) ∧ UP (fun G xs => AllU G (ds.map (tV K)) xs) G vs) fun G' a xs e ha hp => ⟨a, xs, rfl, ha, hp⟩) hi fun G' x y e hx hy => by
    obtain ⟨a, vs, rfl, ha, hp⟩ := hx.now
    obtain ⟨i, rfl, i0, i1⟩ := hy.now
    have hlv := hp.now.len
    rw [List.length_map] at hlv
    have hi : i.toNat < vs.length := by omega
    obtain ⟨t, ht, hu⟩ := hp.now.at (List.getElem?_eq_getElem hi)
    rw [List.getElem?_map] at ht
    obtain ⟨d, hd, rfl⟩ := Option.map_eq_some_iff.mp ht
    exact fun G1 H1 e1 kn1 Q q => ro_ixL (.of ha) (at_of (j := i.toNat) (by omega) (List.getElem?_eq_getElem hi)) G1 H1 e1 kn1 Q fun v' G3 H3 g3 w3 => q v' G3 H3 g3 (by rw [w3.eq]; exact fun G4 e4 => ⟨d, List.mem_of_getElem? hd, (hu.up (e1.trans g3.gg)) G4 e4⟩)
theorem ev_pickS {ta : TA} {zs : List Str} {n : Int} (h : EvA o ta σ G (zs.map fun z => tIs (.str z))) (hi : Ev o ti σ G (tRng 0 n)) (hn : n ≤ zs.length) (hl : zs.length ≤ 100000) : Ev o (tOp (rIx K) (tLst ta) ti) σ G (fun _ v => ∃ z ∈ zs, v = .str z) :=
  ev_op ((en_lst h (by rw [List.length_map]; exact hl)).ev (t := fun G v => ∃ a vs, v = .ref a ∧ G a = some (.lst vs) ∧ UP (fun G xs => AllU G (zs.map fun z => tIs (.str z)) xs) G vs) fun G' a xs e ha hp => ⟨a, xs, rfl, ha, hp⟩) hi fun G' x y e hx hy => by
    obtain ⟨a, vs, rfl, ha, hp⟩ := hx.now
    obtain ⟨i, rfl, i0, i1⟩ := hy.now
    have hlv := hp.now.len
    rw [List.length_map] at hlv
    have hi : i.toNat < vs.length := by omega
    obtain ⟨t, ht, hu⟩ := hp.now.at (List.getElem?_eq_getElem hi)
    rw [List.getElem?_map] at ht
    obtain ⟨d, hd, rfl⟩ := Option.map_eq_some_iff.mp ht
    exact fun G1 H1 e1 kn1 Q q => ro_ixL (.of ha) (at_of (j := i.toNat) (by omega) (List.getElem?_eq_getElem hi)) G1 H1 e1 kn1 Q fun v' G3 H3 g3 w3 => q v' G3 H3 g3 (by rw [w3.eq]; exact fun G4 e4 => ⟨d, List.mem_of_getElem? hd, hu.eq⟩)
theorem s_par {i j : Nat} (g : Go o Ge He G H) (h1 : Ev o te σ G s) (h2 : ∀ G', Ex G G' → Ev o tb σ G' t)
    (k : ∀ v u G2 H2, Go o Ge He G2 H2 → Go o G H G2 H2 → U s G2 v → U t G2 u → De.nx ((σ.set i (some v)).set j (some u)) H2) : tPar i j (tCons te (tCons tb tNil)) De σ H :=
  h1 G H (Ex.refl _) g.kn _ fun v G2 H2 g2 w2 => h2 G2 g2.gg G2 H2 (Ex.refl _) g2.kn _ fun u G3 H3 g3 w3 => ⟨v, u, rfl, k v u G3 H3 (g.trans (g2.trans g3)) (g2.trans g3) (w2.up g3.gg) w3⟩
theorem all4 {x y z u : V} {vs : List V} (h : AllU G [tIs x, tIs y, tIs z, tIs u] vs) : vs = [x, y, z, u] := by
  cases h with
  | cons a1 h => cases h with
    | cons a2 h => cases h with
      | cons a3 h => cases h with
        | cons a4 h =>
          cases h
          rw [a1.eq, a2.eq, a3.eq, a4.eq]
theorem all7 {a b c d e f g : V} {vs : List V} (h : AllU G [tIs a, tIs b, tIs c, tIs d, tIs e, tIs f, tIs g] vs) : vs = [a, b, c, d, e, f, g] := by
  cases h with
  | cons a1 h => cases h with
    | cons a2 h => cases h with
      | cons a3 h => cases h with
        | cons a4 h => cases h with
          | cons a5 h => cases h with
            | cons a6 h => cases h with
              | cons a7 h =>
                cases h
                rw [a1.eq, a2.eq, a3.eq, a4.eq, a5.eq, a6.eq, a7.eq]
def tLS (zs : List Str) : T := tKL (zs.map V.str)
theorem en_shuf {b a : Addr} {j m n : Nat} {E : XK} {os : List V} {t : T} (h0 : σ[0]? = some (some (.ref b))) (hj : σ[j]? = some (some (.ref a))) (hw : ∀ x, wipe ((wipe σ [m]).set m (some x)) [m] = wipe σ [m])
    (hjm : ∀ x, ((wipe σ [m]).set m (some x))[j]? = some (some (.ref a))) (hm : ∀ x, ((wipe σ [m]).set m (some x))[m]? = some (some x)) (ha : G a = some (.lst os)) (hl : os.length ≤ n) (hn : n ≤ 900) (hx : ∀ x ∈ os, U t G x) :
    EvN (some b) (tLc (iList K (tCall (spN (cMixed K)) [] E (tCons (tVar 0) (tCons (tLstRg (tRg1 (tCB (Ty.rLen K) (tCons (tVar j) tNil)))) tNil)))) (gName m) tYes (tOp (rIx K) (tVar j) (tVar m)) [m]) σ G (pAll n t) := by
  refine (en_all (t := t) (P := fun _ xs => xs.length ≤ n ∧ ∀ x ∈ xs, ∃ i : Int, x = .int i ∧ 0 ≤ i ∧ i < os.length) (ei_listN (en_call (ea_cons (ev_x h0) (ea_cons (s := fun G v => ∃ l, v = .ref l ∧ G l = some (.lst (rgV 0 os.length))) ((en_listRg (n := os.length) (ev_cb1 (ev_x hj) fun G' e => rc_lenL (.of (e _ _ ha))) ⟨by omega, by omega⟩).ev fun G' l xs e hl hp => ⟨l, rfl, by rw [hl, hp.now]⟩) ea_nil)) fun G' vs e al => ?_) fun _ _ _ h => h) hw
    (fun _ xs _ h => by have := h.now.1; omega) (fun _ _ _ _ _ _ _ => et_yes) fun G2 xs i x e hP hi => ?_).impN fun G2 xs h => ?_
  · cases al with
    | cons a1 al => cases al with
      | cons a2 al =>
        cases al
        obtain ⟨l, rfl, hl'⟩ := a2.now
        rw [a1.eq]
        refine ⟨some b, _, .inl rfl, ⟨b, l, _, rfl, rfl, .of hl', by rw [rgV_length]; omega, rfl⟩, fun G3 xs _ h G4 e4 => ?_⟩
        have pm := h G4 e4
        exact ⟨by rw [pm.length_eq, rgV_length]; omega, fun x hx => rgV_mem (pm.mem_iff.mp hx)⟩
  · obtain ⟨k, rfl, k0, k1⟩ := hP.now.2 x (List.mem_of_getElem? hi)
    exact ev_ixA (n := n) (ev_x (hjm _)) (ev_x (hm _)) (e _ _ ha) (fun x hx' => (hx x hx').up e) ⟨k0, k1⟩
  · obtain ⟨ys, hy, hl', hx'⟩ := h
    exact ⟨by have := hy.now.1; omega, hx'⟩
theorem ev_sameR {s t : T} (h1 : Ev o ta σ G s) (h2 : Ev o tb σ G t) (hs : ∀ G' x y, Ex G G' → s G' x → t G' y → Sm K 50 G' x y) : Ev o (tCall (spC (cSame K 50)) [] E (tCons ta (tCons tb tNil))) σ G (tIs (.bl true)) :=
  ev_call (ea_cons h1 (ea_cons h2 ea_nil)) fun G' vs e al => by
    cases al with
    | cons a1 al => cases al with
      | cons a2 al =>
        cases al
        exact ⟨none, _, .inr rfl, ⟨rfl, _, _, rfl, hs G' _ _ e a1.now a2.now, rfl⟩, fun _ _ _ w => w⟩
theorem three {G' : Hp} {p a : Addr} {xs : List V} {l1 l2 : List V} (ha : G' p = some (.lst xs)) (h : AllU G' [tKL l1, tKL l2, tIs (.ref a)] xs) : ∃ p' r1 r2, V.ref p = .ref p' ∧ G' p' = some (.lst [.ref r1, .ref r2, .ref a]) ∧ G' r1 = some (.lst l1) ∧ G' r2 = some (.lst l2) := by
  cases h with
  | cons a1 h => cases h with
    | cons a2 h => cases h with
      | cons a3 h =>
        cases h
        obtain ⟨r1, rfl, h1⟩ := a1.now
        obtain ⟨r2, rfl, h2⟩ := a2.now
        rw [a3.eq] at ha
        exact ⟨p, r1, r2, rfl, ha, h1, h2⟩
theorem ev_same2 {b : Bool} (h1 : Ev o ta σ G (tKL [.bl b, .bl b])) (h2 : Ev o tb σ G (tKL [.bl b, .bl b])) : Ev o (tCall (spC (cSame K 50)) [] E (tCons ta (tCons tb tNil))) σ G (tIs (.bl true)) :=
  ev_sameR h1 h2 fun G' x y _ hx hy => by
    obtain ⟨a, rfl, ha⟩ := hx
    obtain ⟨c, rfl, hc⟩ := hy
    exact .inr (.inl ⟨a, c, _, _, rfl, rfl, .of ha, .of hc, (by show 2 ≤ 1000; decide), .cons (.flat rfl) (.cons (.flat rfl) .nil)⟩)
theorem ev_disp1V (hk : ∀ G', Ev o tk σ G' (tIs (.str z))) (hv : ∀ G', Ev o tv σ G' (tV K d)) (hc : d.canLay0 = true) : Ev o (tDisp [(tk, tv)]) σ G (tV K (.dict [(.str z, d)])) := fun G1 H1 e kn Q q p hp => by
  have gp : G1 p = none := Evl.fresh_back kn.sub hp
  have g1 : Go o G1 H1 G1 (upd H1 p (.dK [])) := .tmp kn hp
  have nb := kn.nbox hp
  refine hk G1 _ _ (Ex.refl _) g1.kn _ fun x G2 H2 g2 w2 => hv G2 G2 H2 (Ex.refl _) g2.kn _ fun y G3 H3 g3 w3 => ?_
  have g := (g1.trans g2).trans g3
  have h3 : H3 p = some (.dK []) := g3.kp p _ (g2.kp p _ upd_same nb) nb
  have n3 : G3 p = none := (g2.trans g3).nw p gp (by rw [upd_same]; simp)
  refine ⟨h3, [((Sum.inr z : Key), y)], by rw [w2.eq]; rfl, (by show 1 ≤ 15; decide), q _ (upd G3 p (.dK [((Sum.inr z : Key), y)])) _ ((g.mut hp n3 nb).fix hp upd_same n3 nb) fun G' e' => .inr ⟨p, [((Sum.inr z : Key), y)], [(.str z, d)], rfl, rfl, e' p _ upd_same, .cons (k := (Sum.inr z : Key)) ((w3.now.up ((Ex.new n3).trans e')).dpc hc) .nil⟩⟩
theorem merge2 {k k2 : Key} {v v2 : V} (h : k ≠ k2) : mergeK [] [(k, v), (k2, v2)] = [(k, v), (k2, v2)] := by
  simp [mergeK, putK, h]
theorem ev_disp2V (hn : z ≠ z2) (hk : ∀ G', Ev o tk σ G' (tIs (.str z))) (hv : ∀ G', Ev o tv σ G' (tV K d)) (hk2 : ∀ G', Ev o tk2 σ G' (tIs (.str z2))) (hv2 : ∀ G', Ev o tv2 σ G' (tV K d2)) (hc : d.canLay0 = true) (hc2 : d2.canLay0 = true) : Ev o (tDisp [(tk, tv), (tk2, tv2)]) σ G (tV K (.dict [(.str z, d), (.str z2, d2)])) := fun G1 H1 e kn Q q p hp => by
  have gp : G1 p = none := Evl.fresh_back kn.sub hp
  have g1 : Go o G1 H1 G1 (upd H1 p (.dK [])) := .tmp kn hp
  have nb := kn.nbox hp
  refine hk G1 _ _ (Ex.refl _) g1.kn _ fun x G2 H2 g2 w2 => hv G2 G2 H2 (Ex.refl _) g2.kn _ fun y G3 H3 g3 w3 => hk2 G3 G3 H3 (Ex.refl _) g3.kn _ fun x2 G4 H4 g4 w4 => hv2 G4 G4 H4 (Ex.refl _) g4.kn _ fun y2 G5 H5 g5 w5 => ?_
  have g := (((g1.trans g2).trans g3).trans g4).trans g5
  have h3 : H5 p = some (.dK []) := g5.kp p _ (g4.kp p _ (g3.kp p _ (g2.kp p _ upd_same nb) nb) nb) nb
  have n3 : G5 p = none := (((g2.trans g3).trans g4).trans g5).nw p gp (by rw [upd_same]; simp)
  have hne : (Sum.inr z : Key) ≠ (Sum.inr z2 : Key) := fun q => hn (Sum.inr.inj q)
  refine ⟨h3, [((Sum.inr z : Key), y), ((Sum.inr z2 : Key), y2)], by rw [w2.eq, w4.eq]; rfl, (by show 2 ≤ 15; decide), ?_⟩
  rw [merge2 hne]
  exact q _ (upd G5 p (.dK [((Sum.inr z : Key), y), ((Sum.inr z2 : Key), y2)])) _ ((g.mut hp n3 nb).fix hp upd_same n3 nb) fun G' e' => .inr ⟨p, [((Sum.inr z : Key), y), ((Sum.inr z2 : Key), y2)], [(.str z, d), (.str z2, d2)], rfl, rfl, e' p _ upd_same, .cons (k := (Sum.inr z : Key)) ((w3.now.up ((g4.gg.trans g5.gg).trans ((Ex.new n3).trans e'))).dpc hc) (.cons (k := (Sum.inr z2 : Key)) ((w5.now.up ((Ex.new n3).trans e')).dpc hc2) .nil)⟩
theorem en_shufS {b a : Addr} {j m n : Nat} {E : XK} {i : Int} {os : List V} {t : T} (h0 : σ[0]? = some (some (.ref b))) (hj : σ[j]? = some (some (.ref a))) (hw : ∀ x, wipe ((wipe σ [m]).set m (some x)) [m] = wipe σ [m])
    (hjm : ∀ x, ((wipe σ [m]).set m (some x))[j]? = some (some (.ref a))) (hm : ∀ x, ((wipe σ [m]).set m (some x))[m]? = some (some x)) (ha : G a = some (.lst os)) (hl : os.length ≤ n) (hn : n ≤ 900) (hx : ∀ x ∈ os, U t G x) :
    EvN (some b) (tLc (iList K (tSl (rSlG K) (tCall (spN (cMixed K)) [] E (tCons (tVar 0) (tCons (tLstRg (tRg1 (tCB (Ty.rLen K) (tCons (tVar j) tNil)))) tNil))) tNoPart (tPart (tC (.int i))))) (gName m) tYes (tOp (rIx K) (tVar j) (tVar m)) [m]) σ G (pAll n t) := by
  refine (en_all (t := t) (P := fun _ xs => xs.length ≤ n ∧ ∀ x ∈ xs, ∃ i : Int, x = .int i ∧ 0 ≤ i ∧ i < os.length) (ei_listN (en_slA (P' := fun _ xs => xs.length ≤ n ∧ ∀ x ∈ xs, ∃ i : Int, x = .int i ∧ 0 ≤ i ∧ i < os.length) (en_call (P := fun _ xs => xs.length ≤ n ∧ ∀ x ∈ xs, ∃ i : Int, x = .int i ∧ 0 ≤ i ∧ i < os.length) (ea_cons (ev_x h0) (ea_cons (s := fun G v => ∃ l, v = .ref l ∧ G l = some (.lst (rgV 0 os.length))) ((en_listRg (n := os.length) (ev_cb1 (ev_x hj) fun G' e => rc_lenL (.of (e _ _ ha))) ⟨by omega, by omega⟩).ev fun G' l xs e hl hp => ⟨l, rfl, by rw [hl, hp.now]⟩) ea_nil)) fun G' vs e al => ?_) eu_none (eu_some (ev_k.imp fun _ _ _ u => fun _ _ => ⟨_, u.eq⟩)) fun _ _ _ _ h => ⟨Nat.le_trans cut_len h.1, fun x hx => h.2 x (cut_mem hx)⟩) fun _ _ _ h => h) hw
    (fun _ xs _ h => by have := h.now.1; omega) (fun _ _ _ _ _ _ _ => et_yes) fun G2 xs i x e hP hi => ?_).impN fun G2 xs h => ?_
  · cases al with
    | cons a1 al => cases al with
      | cons a2 al =>
        cases al
        obtain ⟨l, rfl, hl'⟩ := a2.now
        rw [a1.eq]
        refine ⟨some b, _, .inl rfl, ⟨b, l, _, rfl, rfl, .of hl', by rw [rgV_length]; omega, rfl⟩, fun G3 xs _ h G4 e4 => ?_⟩
        have pm := h G4 e4
        exact ⟨by rw [pm.length_eq, rgV_length]; omega, fun x hx => rgV_mem (pm.mem_iff.mp hx)⟩
  · obtain ⟨k, rfl, k0, k1⟩ := hP.now.2 x (List.mem_of_getElem? hi)
    exact ev_ixA (n := n) (ev_x (hjm _)) (ev_x (hm _)) (e _ _ ha) (fun x hx' => (hx x hx').up e) ⟨k0, k1⟩
  · obtain ⟨ys, hy, hl', hx'⟩ := h
    exact ⟨by have := hy.now.1; omega, hx'⟩
theorem en_copies {E : XK} {i m l : Nat} {os : List V} {ds : List PyData} (hi : σ[i]? = some (some (.ref l))) (hw : ∀ x, wipe ((wipe σ [m]).set m (some x)) [m] = wipe σ [m]) (hm : ∀ x, ((wipe σ [m]).set m (some x))[m]? = some (some x))
    (hl : G l = some (.lst os)) (hd : Paired (Vl K G) os ds) (hn : os.length ≤ 1000) : EvN o (tLc (iList K (tVar i)) (gName m) tYes (tCall (spCopy K) [] E (tCons (tVar m) tNil)) [m]) σ G
      (fun G' ys => ys.length = ds.length ∧ ∀ (j : Nat) d, ds[j]? = some d → ∃ y, ys[j]? = some y ∧ U (tCp K G d) G' y) := by
  refine (en_lc (P := fun _ xs => xs = os) (fun xs i G' acc => acc.length = i ∧ ∀ (j : Nat) d, j < i → ds[j]? = some d → ∃ y, acc[j]? = some y ∧ U (tCp K G d) G' y) (ei_list (t := tIs (.ref l)) (ev_x hi) fun G' v e u => ⟨l, os, u.eq, .of (e _ _ hl), fun _ _ => rfl⟩) hw
    (fun xs i G' G'' acc e h => ⟨h.1, fun j d hj hd => (h.2 j d hj hd).imp fun y q => ⟨q.1, q.2.up e⟩⟩) (fun G' xs e h => ⟨by rw [h.now]; omega, rfl, fun _ _ hj => absurd hj (Nat.not_lt_zero _)⟩) fun G' xs i x acc e hP hx _ r => ?_).impN fun G' ys h => ?_
  · rw [hP.now] at hx
    obtain ⟨hlt, _⟩ := List.getElem?_eq_some_iff.mp hx
    obtain ⟨x', d, h1, h2, h3⟩ := Ty.Paired.at' hd hlt
    rw [hx] at h1
    cases h1
    refine ⟨(· = true), fun G2 H2 e2 kn2 Q2 q2 => q2 true G2 H2 (.refl kn2) rfl, fun _ G1 eG => ⟨_, ev_copyD (e.trans eG) (ev_v (hm x) (h3.up (e.trans eG))), fun G2 y e2 u => ⟨by rw [List.length_append, r.1]; rfl, fun j d' hj hd' => ?_⟩⟩, fun z => nomatch z⟩
    by_cases q : j = i
    · subst q
      rw [h2] at hd'
      cases hd'
      exact ⟨y, by rw [← r.1]; simp, u⟩
    · obtain ⟨y', h4, h5⟩ := r.2 j d' (by omega) hd'
      have hlt' : j < acc.length := by rw [r.1]; omega
      exact ⟨y', by rw [List.getElem?_append_left hlt']; exact h4, h5.up (eG.trans e2)⟩
  · obtain ⟨xs, hP, _, h1, h2⟩ := h
    have e1 := hP.now
    subst e1
    have e2 := Paired.length hd
    exact ⟨h1.trans e2, fun j d hj => h2 j d (by rw [e2]; exact (List.getElem?_eq_some_iff.mp hj).1) hj⟩
theorem tg_triple {H : Hp} {i j l : Nat} {a : Addr} {x y z : V} {Q : L2.St → Hp → Prop} (kn : Kn o G H) (h : SqT K G a [x, y, z]) (q : Q (((σ.set i (some x)).set j (some y)).set l (some z)) H) : gTup K 3 (gCons (gName i) (gCons (gName j) (gCons (gName l) gNil))) (.ref a) σ H Q :=
  ⟨a, _, rfl, ex_t kn.sub h, rfl, _, _, rfl, _, _, rfl, _, _, rfl, rfl, q⟩
theorem pick3 {ta : TA} {ti : TE} {ds : List Nat} {i : Int} (h : EvA o ta σ G (ds.map fun l => tIs (.int (l : Nat)))) (hi : Ev o ti σ G (tIs (.int i))) (h0 : 0 ≤ i ∧ i < ds.length) (hd : ds.length ≤ 100000 ∧ ∀ l ∈ ds, l < 32) : Ev o (tOp (rIx K) (tLst ta) ti) σ G (fun _ v => ∃ l : Nat, v = .int l ∧ l < 32) :=
  ev_op ((en_lst h (by rw [List.length_map]; exact hd.1)).ev (t := fun G v => ∃ a vs, v = .ref a ∧ G a = some (.lst vs) ∧ UP (fun G xs => AllU G (ds.map fun l => tIs (.int (l : Nat))) xs) G vs) fun G' a xs e ha hp => ⟨a, xs, rfl, ha, hp⟩) hi fun G' x y e hx hy => by
    obtain ⟨a, vs, rfl, ha, hp⟩ := hx.now
    rw [hy.eq]
    have hlv := hp.now.len
    rw [List.length_map] at hlv
    have hi : i.toNat < vs.length := by omega
    obtain ⟨t, ht, hu⟩ := hp.now.at (List.getElem?_eq_getElem hi)
    rw [List.getElem?_map] at ht
    obtain ⟨l, hl, rfl⟩ := Option.map_eq_some_iff.mp ht
    exact fun G1 H1 e1 kn1 Q q => ro_ixL (.of ha) (at_of (j := i.toNat) (by omega) (List.getElem?_eq_getElem hi)) G1 H1 e1 kn1 Q fun v' G3 H3 g3 w3 => q v' G3 H3 g3 (by rw [w3.eq]; exact fun G4 e4 => ⟨l, hu.eq, hd.2 l (List.mem_of_getElem? hl)⟩)
end
end K14
set_option Elab.async false
set_option linter.all false
set_option maxRecDepth 100000
set_option maxHeartbeats 4000000
namespace K14
open PySem L2 Ty
open Evl (Ex ex_l ex_t)
-- OV is_letters: {"iter:value": "(pi_str (pv 0))"}
-- OV _law_is_name: {"iter:value": "(pi_str (pv 0))"}
abbrev s_is_letters : Stmt := top 12
theorem sc_is_letters : FnScope ["value", "sign"] ["value"] (defScope s_is_letters) := ⟨rfl, rfl, rfl, by decide +kernel, rfl, by decide +kernel, by decide +kernel⟩
theorem pb_is_letters : PosB "is_letters" s_is_letters ["value"] := fun _ _ _ _ _ _ us hl => match us, hl with | [_], _ => rfl
abbrev s_is_name : Stmt := top 13
theorem sc_is_name : FnScope ["value"] ["value"] (defScope s_is_name) := ⟨rfl, rfl, rfl, by decide +kernel, rfl, by decide +kernel, by decide +kernel⟩
theorem pb_is_name : PosB "is_name" s_is_name ["value"] := fun _ _ _ _ _ _ us hl => match us, hl with | [_], _ => rfl
abbrev s__law_grammar : Stmt := top 44
theorem sc__law_grammar : FnScope ["text"] [] (defScope s__law_grammar) := ⟨rfl, rfl, rfl, by decide +kernel, rfl, by decide +kernel, by decide +kernel⟩
theorem pb__law_grammar : PosB "_law_grammar" s__law_grammar [] := fun _ _ _ _ _ _ us hl => match us, hl with | [], _ => rfl
abbrev s__law_is_name : Stmt := top 43
theorem sc__law_is_name : FnScope ["value", "sign"] ["value"] (defScope s__law_is_name) := ⟨rfl, rfl, rfl, by decide +kernel, rfl, by decide +kernel, by decide +kernel⟩
theorem pb__law_is_name : PosB "_law_is_name" s__law_is_name ["value"] := fun _ _ _ _ _ _ us hl => match us, hl with | [_], _ => rfl
def letters : Str := "abcdefghijklmnopqrstuvwxyz"
def gtext : Str := "again and close else ends false if integer least less minus most node not or over plus program protocol rest round same set stop take tell times to true truth wait word"
def gram : List Str := Txt.split gtext " "
structure Txt2 (K : PySem.W.Frag) (mg : Str → Option Value) (ga : Addr) : Prop extends Txt K mg where
  g_LETTERS : ∃ u, mg "LETTERS" = some u ∧ RelV (.str letters) u
  g_MOST_NAME : ∃ u, mg "MOST_NAME" = some u ∧ RelV (.int 8) u
  g_GRAMMAR : ∃ u, mg "GRAMMAR" = some u ∧ RelV (.ref ga) u
  gramT : SqT K (fun _ => none) ga (gram.map V.str)
def okC (c : Nat) : Bool := decide (c ∈ letters.cps.toList)
def okS (z : Str) : Bool := (z.cps.toList.map okC).all id
def letV : V → Bool
  | .str z => (decide ((1 : Int) ≤ z.length) && decide ((z.length : Int) ≤ 8)) && okS z
  | _ => false
def nameV (v : V) : Bool := letV v && !inV v (gram.map V.str)
def fSign : V → V
  | .str s => .bl (okC (s.cps.toList.headD 0))
  | _ => .non
theorem map_fSign (z : Str) : (signsV z).map fSign = (z.cps.toList.map okC).map V.bl := by
  unfold signsV
  rw [List.map_map, List.map_map]
  rfl
section
variable {P : Program} {w : World} {K : PySem.W.Frag} {mg : Str → Option Value} {base : Heap} {ga : Addr}
def cVal (K : PySem.W.Frag) (f : V → Bool) (o : Option Addr) (G : Hp) (vs : List V) (t : T) : Prop := o = none ∧ ∃ x, vs = [x] ∧ Kv K G x ∧ t = tIs (.bl (f x))
theorem kt_str {G : Hp} {x : V} {n : String} (k : KT K G x n) : (∃ z, x = .str z) ∨ (letV x = false ∧ kitB n "str" = some false) := by
  cases k with
  | str z => exact .inl ⟨z, rfl⟩
  | non => exact .inr ⟨rfl, by decide +kernel⟩
  | bl b => exact .inr ⟨rfl, by decide +kernel⟩
  | int i => exact .inr ⟨rfl, by decide +kernel⟩
  | lst h => exact .inr ⟨rfl, by decide +kernel⟩
  | tup h => exact .inr ⟨rfl, by decide +kernel⟩
  | dic h => exact .inr ⟨rfl, by decide +kernel⟩
theorem ok_letters (T : Txt2 K mg ga) (d : Df K mg "is_letters" s_is_letters) : Own P w K mg base CX0 1 "is_letters" s_is_letters ["value"] (spC (cVal K letV)) :=
  d.own fun f fd F => F.ok sc_is_letters (fun vs H Q E h => by obtain ⟨o, G, t, kn, ⟨_, x, rfl, _⟩, _⟩ := h; rfl) (fun cdv A outer s H vs Q E hr h => by
    obtain ⟨o, G, t, kn, ⟨rfl, x, rfl, ⟨⟨n, kx⟩, hz⟩, rfl⟩, k⟩ := h
    refine ⟨_, (pss_one (ps_ret (pe_and (pe_callB (kIsi (K := K) rfl) (by rfl) T.n_isinstance (by decide +kernel) (pa_cons (pv 0) (pa_cons (pe_bltn (v := .ty "str") (by rfl) T.n_str (by decide +kernel) rfl) pa_nil))) (pe_and (pe_chain op_le op_le pe_int (pe_callB (kLen (K := K) rfl) (by rfl) T.n_len (by decide +kernel) (pa_cons (pv 0) pa_nil)) (pe_globE rfl T.g_MOST_NAME)) (pe_one (pe_callB (kAll (K := K) rfl rfl) (by rfl) T.n_all (by decide +kernel) (pa_cons (pe_lc (own := [("sign", 1)]) rfl sc_is_letters.nd (pi_str (pv 0)) (blkOk_by (own := [("sign", 1)]) (N := ["value", "sign"]) (sc := defScope s_is_letters) (by decide +kernel)) (fun _ _ _ _ _ => (pg_name (i := 1) sc_is_letters.nd rfl (Or.inl rfl))) (fun _ _ _ _ _ => pts_nil) (fun _ _ _ _ _ => (pe_cmpR (kIn (K := K) rfl) (pv 1) (pe_globE rfl T.g_LETTERS) (by rfl)))) pa_nil))))))), ?_⟩
    have g0 := Go.refl kn
    rcases kt_str kx with ⟨z, rfl⟩ | ⟨e1, e2⟩
    · have lz := hz z rfl
      refine s_ret g0 (ev_and (a := true) (b := letV (.str z)) (ev_isi (ev_x rfl) (.str z) (by decide +kernel)) fun _ => ev_and (ev_chain ev_k (ev_cb1 (ev_x rfl) fun G' e => rc_lenS (by omega)) (fun _ _ => ro_I0) ev_k fun _ _ => ro_I0) fun _ => ?_) k
      refine ev_cb (t := tIs (.bl (okS z))) (ea_cons (s := fun G' v => ∃ a, v = .ref a ∧ G' a = some (.lst ((z.cps.toList.map okC).map V.bl))) ((en_map fSign (ei_str (P := fun _ xs => xs = signsV z) (ev_x rfl) fun _ _ _ _ => rfl) (fun _ => rfl) (fun G' xs e hp => by rw [hp.now, signsV_len]; omega) fun G' xs i v e hp hi => ?_).ev fun G' a xs e ha hp => ?_) ea_nil) fun G' vs e a => ?_
      · rw [hp.now] at hi
        obtain ⟨c, rfl, _⟩ := signsV_get hi
        exact ev_op2 (ev_x rfl) ev_k ro_inS
      · obtain ⟨zs, hz, rfl⟩ := hp.now
        exact ⟨a, rfl, by rw [ha, hz.now, map_fSign]⟩
      · cases a with
        | cons a1 a =>
          cases a
          obtain ⟨p, rfl, hp⟩ := a1.now
          exact rc_q u_is fun G1 H1 e1 kn1 Q q => ⟨p, _, rfl, .of (kn1.sub _ _ (e1 _ _ hp)), q⟩
    · rw [e1] at k
      exact s_ret g0 (ev_and (a := false) (b := true) (ev_isi (ev_x rfl) kx e2) fun z => nomatch z) k)
theorem gram_flat : (gram.map V.str).all flatV = true := by
  rw [List.all_map]
  exact List.all_eq_true.mpr fun _ _ => rfl
theorem ex_nil {G : Hp} : Ex (fun _ => none) G := fun _ _ h => by cases h
theorem ok_name (T : Txt2 K mg ga) (d : Df K mg "is_name" s_is_name) (G_is_letters : Own P w K mg base CX0 1 "is_letters" s_is_letters ["value"] (spC (cVal K letV))) : Own P w K mg base CX0 2 "is_name" s_is_name ["value"] (spC (cVal K nameV)) :=
  d.own fun f fd F => F.ok sc_is_name (fun vs H Q E h => by obtain ⟨o, G, t, kn, ⟨_, x, rfl, _⟩, _⟩ := h; rfl) (fun cdv A outer s H vs Q E hr h => by
    obtain ⟨o, G, t, kn, ⟨rfl, x, rfl, kx, rfl⟩, k⟩ := h
    refine ⟨_, (pss_one (ps_ret (pe_and (pe_own G_is_letters pb_is_letters (hr.mono (by first | decide | exact Nat.le_refl _ | omega)) rfl pass0 (pa_cons (pv 0) pa_nil)) (pe_one (pe_cmpR (kNotIn (K := K) rfl) (pv 0) (pe_globE rfl T.g_GRAMMAR) (by rfl)))))), ?_⟩
    refine s_ret (Go.refl kn) (ev_and (a := letV x) (b := !inV x (gram.map V.str)) (ev_call (ea_cons (ev_x rfl) ea_nil) fun G' vs e a => ?_) fun hb => ?_) k
    · cases a with
      | cons a1 a =>
        cases a
        rw [a1.eq]
        exact ⟨none, _, .inl rfl, ⟨rfl, x, rfl, kx.up e, rfl⟩, fun _ _ _ w => w⟩
    · have fx : flatV x = true := by
        cases x with
        | str z => rfl
        | _ => cases hb
      exact ev_op2 (ev_x rfl) ev_k (ro_inT (neg := true) (ex_t ex_nil T.gramT) fx gram_flat))
def cGram (o : Option Addr) (G : Hp) (vs : List V) (p : PL) : Prop := o = none ∧ vs = [] ∧ p = fun _ xs => xs = gram.map V.str
theorem ok_grammar (d : Df K mg "_law_grammar" s__law_grammar) : Own P w K mg base CX0 1 "_law_grammar" s__law_grammar [] (spN cGram) :=
  d.own fun f fd F => F.ok sc__law_grammar (fun vs H Q E h => by obtain ⟨o, G, t, kn, ⟨_, rfl, _⟩, _⟩ := h; rfl) (fun cdv A outer s H vs Q E hr h => by
    obtain ⟨o, G, t, kn, ⟨rfl, rfl, rfl⟩, k⟩ := h
    refine ⟨_, (pss_cons (ps_set (i := 0) sc__law_grammar.nd rfl (Or.inl rfl) pe_str)
   (pss_one (ps_ret (pe_split (pv 0) pe_str)))), ?_⟩
    exact ⟨_, rfl, ⟨_, rfl⟩, gtext, " ", rfl, rfl, by decide +kernel, by decide +kernel, fun p hp => k p _ G _ (.tmp kn hp) hp upd_same (Evl.fresh_back kn.sub hp) fun _ _ => rfl⟩)
theorem ev_gram {o : Option Addr} {σ : L2.St} {G : Hp} {E : XK} : Ev o (tCall (spN cGram) [] E tNil) σ G (fun G' v => ∃ a, v = .ref a ∧ G' a = some (.lst (gram.map V.str))) :=
  (en_call (P := fun _ xs => xs = gram.map V.str) ea_nil fun G' vs e a => by
    cases a
    exact ⟨none, _, .inr rfl, ⟨rfl, rfl, rfl⟩, fun _ _ _ h => h⟩).ev fun G' a xs e ha hp => ⟨a, rfl, by rw [ha, hp.now]⟩
theorem filt_empty (z : Str) : ((signsV z).filter fun v => match fSign v with | .bl b => !b | _ => false).isEmpty = okS z := by
  unfold signsV okS
  induction z.cps.toList with
  | nil => rfl
  | cons c r ih =>
    rw [List.map_cons, List.filter_cons, List.map_cons, List.all_cons]
    show (if (!okC c) = true then _ else _ : List V).isEmpty = (okC c && _)
    cases okC c with
    | true => rw [if_neg (by simp)]; exact ih
    | false => rw [if_pos (by simp)]; rfl
theorem ok_lname (T : Txt2 K mg ga) (d : Df K mg "_law_is_name" s__law_is_name) (G__law_grammar : Own P w K mg base CX0 1 "_law_grammar" s__law_grammar [] (spN cGram)) : Own P w K mg base CX0 2 "_law_is_name" s__law_is_name ["value"] (spC (cVal K nameV)) :=
  d.own fun f fd F => F.ok sc__law_is_name (fun vs H Q E h => by obtain ⟨o, G, t, kn, ⟨_, x, rfl, _⟩, _⟩ := h; rfl) (fun cdv A outer s H vs Q E hr h => by
    obtain ⟨o, G, t, kn, ⟨rfl, x, rfl, ⟨⟨n, kx⟩, hz⟩, rfl⟩, k⟩ := h
    have pb__law_grammar : PosB "_law_grammar" s__law_grammar [] := pb__law_grammar
    refine ⟨_, (pss_cons (ps_if (PW.pt (pw_or (pt_not (pt_val (pe_callB (kIsi (K := K) rfl) (by rfl) T.n_isinstance (by decide +kernel) (pa_cons (pv 0) (pa_cons (pe_bltn (v := .ty "str") (by rfl) T.n_str (by decide +kernel) rfl) pa_nil))))) (pw_or (pt_not (pt_chain op_le op_le pe_int (pe_callB (kLen (K := K) rfl) (by rfl) T.n_len (by decide +kernel) (pa_cons (pv 0) pa_nil)) pe_int)) (pw_or1 (pt_cmpR (kNe (K := K) rfl hr.units) (pe_lc (own := [("sign", 1)]) rfl sc__law_is_name.nd (pi_str (pv 0)) (blkOk_by (own := [("sign", 1)]) (N := ["value", "sign"]) (sc := defScope s__law_is_name) (by decide +kernel)) (fun _ _ _ _ _ => (pg_name (i := 1) sc__law_is_name.nd rfl (Or.inl rfl))) (fun _ _ _ _ _ => (pts_one (pt_cmpR (kNotIn (K := K) rfl) (pv 1) pe_str (by rfl)))) (fun _ _ _ _ _ => (pv 1))) (pe_lst pa_nil) (nomark _)))))) (pss_one (ps_ret pe_bl)) pss_nil)
   (pss_one (ps_ret (pe_cmpR (kNotIn (K := K) rfl) (pv 0) (pe_own0 G__law_grammar pb__law_grammar (hr.mono (by first | decide | exact Nat.le_refl _ | omega)) rfl pass0) (by rfl))))), ?_⟩
    have g0 := Go.refl kn
    rcases kt_str kx with ⟨z, rfl⟩ | ⟨e1, e2⟩
    · have lz := hz z rfl
      refine q_when g0 (p := (· = (!true || ((!(decide ((1 : Int) ≤ z.length) && decide ((z.length : Int) ≤ 8))) || (!okS z))))) (et_or (et_not (et_b (ev_isi (ev_x rfl) (.str z) (by decide +kernel)))) fun _ => et_or (et_not (et_test (ev_chain ev_k (ev_cb1 (ev_x rfl) fun G' e => rc_lenS (by omega)) (fun _ _ => ro_I0) ev_k fun _ _ => ro_I0))) fun _ => ?_) (fun hb G2 H2 g2 _ => ?_) (fun hb G2 H2 g2 _ => ?_)
      · refine et_test (ev_op (s := fun G' v => ∃ a ys, v = .ref a ∧ G' a = some (.lst ys) ∧ ys.isEmpty = okS z) ((en_filt (fun v => v) (fun v => match fSign v with | .bl b => !b | _ => false) (ei_str (P := fun _ xs => xs = signsV z) (ev_x rfl) fun _ _ _ _ => rfl) (fun _ => rfl) (fun G' xs e hp => by rw [hp.now, signsV_len]; omega) (fun G' xs i v e hp hi => ?_) fun G' xs i v e hp hi hb => ?_).ev fun G' a xs e ha hp => ?_) ev_nil fun G' x y e hx hy => ?_)
        · rw [hp.now] at hi
          obtain ⟨c, rfl, _⟩ := signsV_get hi
          exact et_test (ev_op2 (ev_x rfl) ev_k ro_inS)
        · exact ev_x rfl
        · obtain ⟨zs, hz, rfl⟩ := hp.now
          refine ⟨a, _, rfl, ha, ?_⟩
          rw [hz.now, List.map_id']
          exact filt_empty z
        · obtain ⟨a, ys, rfl, ha, he⟩ := hx.now
          obtain ⟨b, rfl, hb⟩ := hy.now
          rw [← he]
          exact ro_neN (.of ha) (.of hb)
      · have en : nameV (.str z) = false := by
          have hb' : true = (!true || ((!(decide ((1 : Int) ≤ z.length) && decide ((z.length : Int) ≤ 8))) || (!okS z))) := hb
          show (((decide ((1 : Int) ≤ z.length) && decide ((z.length : Int) ≤ 8)) && okS z) && _) = false
          revert hb'
          generalize (decide ((1 : Int) ≤ z.length) && decide ((z.length : Int) ≤ 8)) = p
          generalize okS z = q
          intro hb'
          cases p <;> cases q <;> first | rfl | cases hb'
        rw [en] at k
        exact s_ret g2 ev_k k
      · have en : nameV (.str z) = !inV (.str z) (gram.map V.str) := by
          have hb' : false = (!true || ((!(decide ((1 : Int) ≤ z.length) && decide ((z.length : Int) ≤ 8))) || (!okS z))) := hb
          show (((decide ((1 : Int) ≤ z.length) && decide ((z.length : Int) ≤ 8)) && okS z) && _) = _
          revert hb'
          generalize (decide ((1 : Int) ≤ z.length) && decide ((z.length : Int) ≤ 8)) = p
          generalize okS z = q
          intro hb'
          cases p <;> cases q <;> first | rfl | cases hb'
        rw [en] at k
        refine s_ret g2 (ev_op (s := tIs (.str z)) (ev_x rfl) ev_gram fun G' x y e hx hy => ?_) k
        obtain ⟨a, rfl, ha⟩ := hy.now
        rw [hx.eq]
        exact ro_inL (neg := true) (.of ha) rfl gram_flat
    · have en : nameV x = false := by
        unfold nameV
        rw [e1]
        rfl
      rw [en] at k
      refine q_when g0 (p := (· = (!false || true))) (et_or (et_not (et_b (ev_isi (ev_x rfl) kx e2))) fun z => nomatch z) (fun _ G2 H2 g2 _ => s_ret g2 ev_k k) fun z => nomatch z)
end
end K14
set_option Elab.async false
set_option linter.all false
set_option maxRecDepth 100000
set_option maxHeartbeats 4000000
namespace K14
open PySem L2 Ty
open Evl (Ex ex_l ex_t)
-- OV is_sum: {"op:part[0] not in HEADS:0": "(op_notIn_kd T.kheads)", "op:left != []:0": "(kNe (K := K) rfl hr.units)"}
abbrev s_is_integer : Stmt := top 9
theorem sc_is_integer : FnScope ["value"] ["value"] (defScope s_is_integer) := ⟨rfl, rfl, rfl, by decide +kernel, rfl, by decide +kernel, by decide +kernel⟩
theorem pb_is_integer : PosB "is_integer" s_is_integer ["value"] := fun _ _ _ _ _ _ us hl => match us, hl with | [_], _ => rfl
abbrev s_is_truth : Stmt := top 10
theorem sc_is_truth : FnScope ["value"] ["value"] (defScope s_is_truth) := ⟨rfl, rfl, rfl, by decide +kernel, rfl, by decide +kernel, by decide +kernel⟩
theorem pb_is_truth : PosB "is_truth" s_is_truth ["value"] := fun _ _ _ _ _ _ us hl => match us, hl with | [_], _ => rfl
abbrev s_is_within : Stmt := top 11
theorem sc_is_within : FnScope ["value", "low", "high"] ["value", "low", "high"] (defScope s_is_within) := ⟨rfl, rfl, rfl, by decide +kernel, rfl, by decide +kernel, by decide +kernel⟩
theorem pb_is_within : PosB "is_within" s_is_within ["value", "low", "high"] := fun _ _ _ _ _ _ us hl => match us, hl with | [_, _, _], _ => rfl
abbrev s_size_of : Stmt := top 24
theorem sc_size_of : FnScope ["head"] ["head"] (defScope s_size_of) := ⟨rfl, rfl, rfl, by decide +kernel, rfl, by decide +kernel, by decide +kernel⟩
theorem pb_size_of : PosB "size_of" s_size_of ["head"] := fun _ _ _ _ _ _ us hl => match us, hl with | [_], _ => rfl
abbrev s_is_plain : Stmt := top 25
theorem sc_is_plain : FnScope ["value"] ["value"] (defScope s_is_plain) := ⟨rfl, rfl, rfl, by decide +kernel, rfl, by decide +kernel, by decide +kernel⟩
theorem pb_is_plain : PosB "is_plain" s_is_plain ["value"] := fun _ _ _ _ _ _ us hl => match us, hl with | [_], _ => rfl
abbrev s_is_sum : Stmt := top 26
theorem sc_is_sum : FnScope ["value", "left", "count", "part"] ["value"] (defScope s_is_sum) := ⟨rfl, rfl, rfl, by decide +kernel, rfl, by decide +kernel, by decide +kernel⟩
theorem pb_is_sum : PosB "is_sum" s_is_sum ["value"] := fun _ _ _ _ _ _ us hl => match us, hl with | [_], _ => rfl
abbrev s__law_whole : Stmt := top 42
theorem sc__law_whole : FnScope ["value"] ["value"] (defScope s__law_whole) := ⟨rfl, rfl, rfl, by decide +kernel, rfl, by decide +kernel, by decide +kernel⟩
theorem pb__law_whole : PosB "_law_whole" s__law_whole ["value"] := fun _ _ _ _ _ _ us hl => match us, hl with | [_], _ => rfl
def wh (d : PyData) : Bool := isInt d && !isBool d
def inR (d : PyData) (lo hi : Int) : Bool := match d with
  | .int i => decide (lo ≤ i) && decide (i ≤ hi)
  | _ => false
theorem wh_int {d : PyData} (h : wh d = true) : ∃ i, d = .int i := by
  cases d with
  | int i => exact ⟨i, rfl⟩
  | _ => cases h
theorem wh_not {d : PyData} (h : wh d = false) (lo hi : Int) : inR d lo hi = false := by
  cases d with
  | int i => cases h
  | _ => rfl
def heads : List Str := ["plus", "minus", "times", "over", "rest", "least", "most", "less", "same", "and", "or", "not"]
def nameD (d : PyData) : Bool := match d with
  | .str z => nameV (.str z)
  | _ => false
def plain (d : PyData) : Bool := isBool d || (inR d (-1000) 1000 || nameD d)
def hsz (h : Str) : Nat := if h = "not" then 1 else 2
mutual
inductive Sz : PyData → Nat → Prop
  | pl {d : PyData} : plain d = true → Sz d 1
  | nd {h : Str} {ps : List PyData} {m : Nat} : h ∈ heads → ps.length = hsz h → Szs ps m → Sz (.tuple (.str h :: ps)) (m + 1)
inductive Szs : List PyData → Nat → Prop
  | nil : Szs [] 0
  | cons {d : PyData} {ds : List PyData} {a b : Nat} : Sz d a → Szs ds b → Szs (d :: ds) (a + b)
end
theorem sz_pos {d : PyData} {m : Nat} (h : Sz d m) : 1 ≤ m := by
  cases h with
  | pl _ => exact Nat.le_refl _
  | nd _ _ _ => omega
theorem szs_len : ∀ {ds : List PyData} {t : Nat}, Szs ds t → ds.length ≤ t
  | [], _, _ => Nat.zero_le _
  | d :: ds, _, h => by
    cases h with
    | cons a b =>
      have h1 := sz_pos a
      have h2 := szs_len b
      rw [List.length_cons]
      omega
theorem szs_app : ∀ {xs ys : List PyData} {t : Nat}, Szs (xs ++ ys) t ↔ ∃ a b, Szs xs a ∧ Szs ys b ∧ t = a + b
  | [], ys, t => ⟨fun h => ⟨0, t, .nil, h, (Nat.zero_add _).symm⟩, fun ⟨a, b, h1, h2, e⟩ => by cases h1; rw [e, Nat.zero_add]; exact h2⟩
  | x :: xs, ys, t => ⟨fun h => by
      cases h with
      | cons a b =>
        obtain ⟨p, q, h1, h2, e⟩ := szs_app.mp b
        exact ⟨_, q, .cons a h1, h2, by rw [e, Nat.add_assoc]⟩, fun ⟨a, b, h1, h2, e⟩ => by
      cases h1 with
      | cons p q => rw [e, Nat.add_assoc]; exact .cons p (szs_app.mpr ⟨_, _, q, h2, rfl⟩)⟩
def good (c : Nat) (ds : List PyData) : Prop := ∃ t, Szs ds t ∧ c + t ≤ 40
theorem good_big {c : Nat} {ds : List PyData} (h : 40 < c + ds.length) : ¬ good c ds := fun ⟨t, h1, h2⟩ => by
  have := szs_len h1
  omega
theorem good_pl {c : Nat} {ds : List PyData} {d : PyData} (hp : plain d = true) : good c (ds ++ [d]) ↔ good (c + 1) ds := by
  constructor
  · rintro ⟨t, h1, h2⟩
    obtain ⟨a, b, h3, h4, e⟩ := szs_app.mp h1
    cases h4 with
    | cons p q =>
      cases q
      have := sz_pos p
      exact ⟨a, h3, by omega⟩
  · rintro ⟨t, h1, h2⟩
    exact ⟨t + 1, szs_app.mpr ⟨t, 1, h1, .cons (b := 0) (.pl hp) .nil, rfl⟩, by omega⟩
theorem good_nd {c : Nat} {ds ps : List PyData} {h : Str} (hh : h ∈ heads) (hl : ps.length = hsz h) : good c (ds ++ [.tuple (.str h :: ps)]) ↔ good (c + 1) (ds ++ ps) := by
  constructor
  · rintro ⟨t, h1, h2⟩
    obtain ⟨a, b, h3, h4, e⟩ := szs_app.mp h1
    cases h4 with
    | cons p q =>
      cases q
      cases p with
      | pl z => cases z
      | nd _ _ r => exact ⟨_, szs_app.mpr ⟨a, _, h3, r, rfl⟩, by omega⟩
  · rintro ⟨t, h1, h2⟩
    obtain ⟨a, b, h3, h4, e⟩ := szs_app.mp h1
    exact ⟨a + (b + 1), szs_app.mpr ⟨a, b + 1, h3, .cons (b := 0) (.nd hh hl h4) .nil, rfl⟩, by omega⟩
theorem good_no {c : Nat} {ds : List PyData} {d : PyData} (hp : plain d = false) (hn : ∀ h ps, d = .tuple (.str h :: ps) → ¬(h ∈ heads ∧ ps.length = hsz h)) : ¬ good c (ds ++ [d]) := fun ⟨t, h1, h2⟩ => by
  obtain ⟨a, b, h3, h4, e⟩ := szs_app.mp h1
  cases h4 with
  | cons p q =>
    cases p with
    | pl z => rw [hp] at z; cases z
    | nd z1 z2 _ => exact hn _ _ rfl ⟨z1, z2⟩
noncomputable def isSum (d : PyData) : Bool := @decide (good 0 [d]) (Classical.propDecidable _)
theorem isSum_t {d : PyData} (h : good 0 [d]) : isSum d = true := by
  unfold isSum
  exact @decide_eq_true _ (Classical.propDecidable _) h
theorem isSum_f {d : PyData} (h : ¬ good 0 [d]) : isSum d = false := by
  unfold isSum
  exact @decide_eq_false _ (Classical.propDecidable _) h
/-- not deeper than n, no list of more than 900, no text of more than 1000 -/
def okm : Nat → PyData → Bool
  | 0, _ => false
  | _ + 1, .str z => decide (z.length ≤ 1000)
  | n + 1, .list ds => decide (ds.length ≤ 900) && ds.all (okm n)
  | n + 1, .tuple ds => decide (ds.length ≤ 900) && ds.all (okm n)
  | _ + 1, _ => true
def Sm1 (d : PyData) : Prop := (∃ n, okm n d = true) ∧ (isDict d = true ∨ d.canLay0 = true)
theorem sm_str {z : Str} (h : Sm1 (.str z)) : z.length ≤ 1000 := by
  obtain ⟨⟨n, h⟩, _⟩ := h
  cases n with
  | zero => cases h
  | succ n => exact of_decide_eq_true h
theorem sm_tup {ds : List PyData} (h : Sm1 (.tuple ds)) : ds.length ≤ 900 ∧ ∀ d ∈ ds, Sm1 d := by
  obtain ⟨⟨n, h⟩, hc⟩ := h
  cases n with
  | zero => cases h
  | succ n =>
    obtain ⟨h1, h2⟩ := Bool.and_eq_true_iff.mp h
    have hc' : PyData.canLayAll0 ds = true := by
      rcases hc with hc | hc
      · cases hc
      · simpa only [PyData.canLay0] using hc
    exact ⟨of_decide_eq_true h1, fun d hd => ⟨⟨n, List.all_eq_true.mp h2 d hd⟩, .inr (PyData.canLay0_of_mem ds d hc' hd)⟩⟩
theorem sm_can {ds : List PyData} (h : Sm1 (.tuple ds)) : (PyData.tuple ds).canLay0 = true := h.2.elim (fun z => nomatch z) id
/-- what stands on a stack -/
def St1 (K : PySem.W.Frag) (G : Hp) : List V → List PyData → Prop := Paired fun v d => Vl K G v d ∧ Sm1 d
theorem St1.up {K : PySem.W.Frag} {G G' : Hp} {xs : List V} {ds : List PyData} (h : St1 K G xs ds) (e : Ex G G') : St1 K G' xs ds := L2.Paired.mapP h fun _ _ ⟨a, b⟩ => ⟨a.up e, b⟩
theorem paired_snoc {α β : Type} {R : α → β → Prop} : ∀ {xs : List α} {ds : List β}, Paired R xs ds → xs ≠ [] → ∃ xs' x ds' d, xs = xs' ++ [x] ∧ ds = ds' ++ [d] ∧ Paired R xs' ds' ∧ R x d
  | _, _, .nil, h => (h rfl).elim
  | [x], _, .cons (b := d) r .nil, _ => ⟨[], x, [], d, rfl, rfl, .nil, r⟩
  | x :: y :: xs, _, .cons (b := d) r (.cons r2 t), _ => by
    obtain ⟨xs', z, ds', e, h1, h2, h3, h4⟩ := paired_snoc (.cons r2 t) (by simp)
    exact ⟨x :: xs', z, d :: ds', e, by rw [h1]; rfl, by rw [h2]; rfl, .cons r h3, h4⟩
theorem paired_app {α β : Type} {R : α → β → Prop} : ∀ {xs ys : List α} {ds es : List β}, Paired R xs ds → Paired R ys es → Paired R (xs ++ ys) (ds ++ es)
  | _, _, _, _, .nil, h => h
  | _, _, _, _, .cons r t, h => .cons r (paired_app t h)
theorem dps_st {K : PySem.W.Frag} {G : Hp} : ∀ {xs : List V} {ds : List PyData}, DpAll K G xs ds → (∀ d ∈ ds, Sm1 d) → St1 K G xs ds
  | _, _, .nil, _ => .nil
  | _, _, .cons a r, h => .cons ⟨.inl a, h _ (List.mem_cons_self ..)⟩ (dps_st r fun d hd => h d (List.mem_cons_of_mem _ hd))
structure Txt3 (K : PySem.W.Frag) (mg : Str → Option Value) (w : World) (ga ha : Addr) (es : Array DictEntry) (n : Nat) : Prop extends Txt2 K mg ga where
  n_set : mg "set" = none
  n_sorted : mg "sorted" = none
  g_LOW : ∃ u, mg "LOW" = some u ∧ RelV (.int (-1000)) u
  g_HIGH : ∃ u, mg "HIGH" = some u ∧ RelV (.int 1000) u
  g_INTEGER : ∃ u, mg "INTEGER" = some u ∧ RelV (.str "integer") u
  g_TRUTH : ∃ u, mg "TRUTH" = some u ∧ RelV (.str "truth") u
  g_NOT : ∃ u, mg "NOT" = some u ∧ RelV (.str "not") u
  g_MOST_PARTS : ∃ u, mg "MOST_PARTS" = some u ∧ RelV (.int 40) u
  g_HEADS : ∃ u, mg "HEADS" = some u ∧ RelV (.ref ha) u
  kheads : KDict K w ha es n
  hin : ∀ z : Str, ∃ r, PySem.W.nsIn K ha z = some r ∧ r.isSome = decide (z ∈ heads)
section
variable {P : Program} {w : World} {K : PySem.W.Frag} {mg : Str → Option Value} {base : Heap} {ga ha : Addr} {es : Array DictEntry} {n : Nat}
def cV1 (K : PySem.W.Frag) (f : PyData → Bool) (o : Option Addr) (G : Hp) (vs : List V) (t : T) : Prop := o = none ∧ ∃ x d, vs = [x] ∧ Vl K G x d ∧ t = tIs (.bl (f d))
theorem ev_callV1 {f : PyData → Bool} {o : Option Addr} {σ : L2.St} {G : Hp} {te : TE} {E : XK} {d : PyData} (h : Ev o te σ G (tV K d)) : Ev o (tCall (spC (cV1 K f)) [] E (tCons te tNil)) σ G (tIs (.bl (f d))) :=
  ev_call (ea_cons h ea_nil) fun G' vs e al => by
    cases al with
    | cons a1 al =>
      cases al
      exact ⟨none, _, .inr rfl, ⟨rfl, _, d, rfl, a1.now, rfl⟩, fun _ _ _ w => w⟩
def cV3 (K : PySem.W.Frag) (o : Option Addr) (G : Hp) (vs : List V) (t : T) : Prop := o = none ∧ ∃ x d lo hi, vs = [x, .int lo, .int hi] ∧ Vl K G x d ∧ t = tIs (.bl (inR d lo hi))
theorem ev_callV3 {o : Option Addr} {σ : L2.St} {G : Hp} {te tl th : TE} {E : XK} {d : PyData} {lo hi : Int} (h : Ev o te σ G (tV K d)) (hl : Ev o tl σ G (tIs (.int lo))) (hh : Ev o th σ G (tIs (.int hi))) :
    Ev o (tCall (spC (cV3 K)) [] E (tCons te (tCons tl (tCons th tNil)))) σ G (tIs (.bl (inR d lo hi))) :=
  ev_call (ea_cons h (ea_cons hl (ea_cons hh ea_nil))) fun G' vs e al => by
    cases al with
    | cons a1 al => cases al with
      | cons a2 al => cases al with
        | cons a3 al =>
          cases al
          rw [a2.eq, a3.eq]
          exact ⟨none, _, .inr rfl, ⟨rfl, _, d, lo, hi, rfl, a1.now, rfl⟩, fun _ _ _ w => w⟩
theorem ok_integer (T : Txt3 K mg w ga ha es n) (d : Df K mg "is_integer" s_is_integer) : Own P w K mg base CX0 1 "is_integer" s_is_integer ["value"] (spC (cV1 K wh)) :=
  d.own fun f fd F => F.ok sc_is_integer (fun vs H Q E h => by obtain ⟨o, G, t, kn, ⟨_, x, d, rfl, _⟩, _⟩ := h; rfl) (fun cdv A outer s H vs Q E hr h => by
    obtain ⟨o, G, t, kn, ⟨rfl, x, d, rfl, hv, rfl⟩, k⟩ := h
    refine ⟨_, (pss_one (ps_ret (pe_and (pe_callB (kIsi (K := K) rfl) (by rfl) T.n_isinstance (by decide +kernel) (pa_cons (pv 0) (pa_cons (pe_bltn (v := .ty "int") (by rfl) T.n_int (by decide +kernel) rfl) pa_nil))) (pe_one (pe_not (pe_callB (kIsi (K := K) rfl) (by rfl) T.n_isinstance (by decide +kernel) (pa_cons (pv 0) (pa_cons (pe_bltn (v := .ty "bool") (by rfl) T.n_bool (by decide +kernel) rfl) pa_nil)))))))), ?_⟩
    exact s_ret (Go.refl kn) (ev_and (ev_isiV (ev_v rfl hv) ki_int) fun _ => ev_not (ev_isiV (ev_v rfl hv) ki_bool)) k)
theorem ok_whole (T : Txt3 K mg w ga ha es n) (d : Df K mg "_law_whole" s__law_whole) : Own P w K mg base CX0 1 "_law_whole" s__law_whole ["value"] (spC (cV1 K wh)) :=
  d.own fun f fd F => F.ok sc__law_whole (fun vs H Q E h => by obtain ⟨o, G, t, kn, ⟨_, x, d, rfl, _⟩, _⟩ := h; rfl) (fun cdv A outer s H vs Q E hr h => by
    obtain ⟨o, G, t, kn, ⟨rfl, x, d, rfl, hv, rfl⟩, k⟩ := h
    refine ⟨_, (pss_one (ps_ret (pe_and (pe_callB (kIsi (K := K) rfl) (by rfl) T.n_isinstance (by decide +kernel) (pa_cons (pv 0) (pa_cons (pe_bltn (v := .ty "int") (by rfl) T.n_int (by decide +kernel) rfl) pa_nil))) (pe_one (pe_not (pe_callB (kIsi (K := K) rfl) (by rfl) T.n_isinstance (by decide +kernel) (pa_cons (pv 0) (pa_cons (pe_bltn (v := .ty "bool") (by rfl) T.n_bool (by decide +kernel) rfl) pa_nil)))))))), ?_⟩
    exact s_ret (Go.refl kn) (ev_and (ev_isiV (ev_v rfl hv) ki_int) fun _ => ev_not (ev_isiV (ev_v rfl hv) ki_bool)) k)
theorem ok_truth (T : Txt3 K mg w ga ha es n) (d : Df K mg "is_truth" s_is_truth) : Own P w K mg base CX0 1 "is_truth" s_is_truth ["value"] (spC (cV1 K isBool)) :=
  d.own fun f fd F => F.ok sc_is_truth (fun vs H Q E h => by obtain ⟨o, G, t, kn, ⟨_, x, d, rfl, _⟩, _⟩ := h; rfl) (fun cdv A outer s H vs Q E hr h => by
    obtain ⟨o, G, t, kn, ⟨rfl, x, d, rfl, hv, rfl⟩, k⟩ := h
    refine ⟨_, (pss_one (ps_ret (pe_callB (kIsi (K := K) rfl) (by rfl) T.n_isinstance (by decide +kernel) (pa_cons (pv 0) (pa_cons (pe_bltn (v := .ty "bool") (by rfl) T.n_bool (by decide +kernel) rfl) pa_nil))))), ?_⟩
    exact s_ret (Go.refl kn) (ev_isiV (ev_v rfl hv) ki_bool) k)
theorem ok_within (T : Txt3 K mg w ga ha es n) (d : Df K mg "is_within" s_is_within) (G_is_integer : Own P w K mg base CX0 1 "is_integer" s_is_integer ["value"] (spC (cV1 K wh))) : Own P w K mg base CX0 2 "is_within" s_is_within ["value", "low", "high"] (spC (cV3 K)) :=
  d.own fun f fd F => F.ok sc_is_within (fun vs H Q E h => by obtain ⟨o, G, t, kn, ⟨_, x, d, lo, hi, rfl, _⟩, _⟩ := h; rfl) (fun cdv A outer s H vs Q E hr h => by
    obtain ⟨o, G, t, kn, ⟨rfl, x, d, lo, hi, rfl, hv, rfl⟩, k⟩ := h
    refine ⟨_, (pss_one (ps_ret (pe_and (pe_own G_is_integer pb_is_integer (hr.mono (by first | decide | exact Nat.le_refl _ | omega)) rfl pass0 (pa_cons (pv 0) pa_nil)) (pe_one (pe_chain op_le op_le (pv 1) (pv 0) (pv 2)))))), ?_⟩
    have c := ev_callV1 (o := none) (G := G) (σ := start ["value", "low", "high"] [x, .int lo, .int hi]) (f := wh) (E := E0) (ev_v (i := 0) rfl hv)
    cases e : wh d with
    | false =>
      rw [e] at c
      rw [wh_not e] at k
      exact s_ret (Go.refl kn) (ev_and (b := true) c fun z => nomatch z) k
    | true =>
      rw [e] at c
      obtain ⟨i, rfl⟩ := wh_int e
      exact s_ret (Go.refl kn) (ev_and c fun _ => ev_chain2 (f := fun i j => decide (i ≤ j)) (f' := fun i j => decide (i ≤ j)) (ev_x rfl) (ev_v rfl hv).isInt (ev_x rfl)) k)
def cN (K : PySem.W.Frag) (f : PyData → Bool) (o : Option Addr) (G : Hp) (vs : List V) (t : T) : Prop := o = none ∧ ∃ x d, vs = [x] ∧ (Vl K G x d ∧ Sm1 d) ∧ t = tIs (.bl (f d))
theorem name_vl {G : Hp} {x : V} {d : PyData} (h : Vl K G x d) : nameV x = nameD d := by
  rcases h with h | ⟨a, _, _, rfl, rfl, _⟩
  · cases h <;> rfl
  · rfl
theorem kv_vl {G : Hp} {x : V} {d : PyData} (h : Vl K G x d) (hs : Sm1 d) : Kv K G x := ⟨⟨_, h.kt⟩, fun z e => by
  subst e
  rcases h with h | ⟨a, _, _, e, _⟩
  · cases h
    exact sm_str hs
  · cases e⟩
theorem ev_isName {o : Option Addr} {σ : L2.St} {G : Hp} {te : TE} {E : XK} {d : PyData} {x : V} (hs : Sm1 d) (hv : Vl K G x d) (h : Ev o te σ G (tIs x)) : Ev o (tCall (spC (cVal K nameV)) [] E (tCons te tNil)) σ G (tIs (.bl (nameD d))) :=
  ev_call (ea_cons h ea_nil) fun G' vs e al => by
    rw [all1 al]
    exact ⟨none, _, .inr rfl, ⟨rfl, x, rfl, kv_vl (hv.up e) hs, rfl⟩, fun _ _ _ w => by rw [name_vl (hv.up e)] at w; exact w⟩
theorem ok_plain (T : Txt3 K mg w ga ha es n) (d : Df K mg "is_plain" s_is_plain) (G_is_truth : Own P w K mg base CX0 1 "is_truth" s_is_truth ["value"] (spC (cV1 K isBool))) (G_is_within : Own P w K mg base CX0 2 "is_within" s_is_within ["value", "low", "high"] (spC (cV3 K)))
    (G_is_name : Own P w K mg base CX0 2 "is_name" s_is_name ["value"] (spC (cVal K nameV))) : Own P w K mg base CX0 3 "is_plain" s_is_plain ["value"] (spC (cN K plain)) :=
  d.own fun f fd F => F.ok sc_is_plain (fun vs H Q E h => by obtain ⟨o, G, t, kn, ⟨_, x, d, rfl, _⟩, _⟩ := h; rfl) (fun cdv A outer s H vs Q E hr h => by
    obtain ⟨o, G, t, kn, ⟨rfl, x, d, rfl, ⟨hv, hs⟩, rfl⟩, k⟩ := h
    refine ⟨_, (pss_one (ps_ret (pe_or (pe_own G_is_truth pb_is_truth (hr.mono (by first | decide | exact Nat.le_refl _ | omega)) rfl pass0 (pa_cons (pv 0) pa_nil)) (pe_or (pe_own G_is_within pb_is_within (hr.mono (by first | decide | exact Nat.le_refl _ | omega)) rfl pass0 (pa_cons (pv 0) (pa_cons (pe_globE rfl T.g_LOW) (pa_cons (pe_globE rfl T.g_HIGH) pa_nil)))) (pe_one (pe_own G_is_name pb_is_name (hr.mono (by first | decide | exact Nat.le_refl _ | omega)) rfl pass0 (pa_cons (pv 0) pa_nil))))))), ?_⟩
    exact s_ret (Go.refl kn) (ev_or (ev_callV1 (ev_v rfl hv)) fun _ => ev_or (ev_callV3 (ev_v rfl hv) ev_k ev_k) fun _ => ev_isName hs hv (ev_x rfl)) k)
def cSz (o : Option Addr) (G : Hp) (vs : List V) (t : T) : Prop := o = none ∧ ∃ h : Str, vs = [.str h] ∧ t = tIs (.int (hsz h))
theorem ok_size (T : Txt3 K mg w ga ha es n) (d : Df K mg "size_of" s_size_of) : Own P w K mg base CX0 1 "size_of" s_size_of ["head"] (spC cSz) :=
  d.own fun f fd F => F.ok sc_size_of (fun vs H Q E h => by obtain ⟨o, G, t, kn, ⟨_, z, rfl, _⟩, _⟩ := h; rfl) (fun cdv A outer s H vs Q E hr h => by
    obtain ⟨o, G, t, kn, ⟨rfl, z, rfl, rfl⟩, k⟩ := h
    refine ⟨_, (pss_one (ps_ret (pe_ifExp (pt_cmpR (kEq (K := K) rfl hr.units) (pv 0) (pe_globE rfl T.g_NOT) (nomark _)) pe_int pe_int))), ?_⟩
    refine s_ret (Go.refl kn) (ev_if (p := (· = decide (z = "not"))) (et_test (ev_op2 (ev_x rfl) ev_k (ro_eqS rfl ?_))) (fun hb => ?_) fun hb => ?_) k
    · by_cases q : z = "not"
      · rw [q]; rfl
      · rw [decide_eq_false q]
        exact decide_eq_false fun e => q (by cases e; rfl)
    · have e : hsz z = 1 := if_pos (of_decide_eq_true hb.symm)
      rw [e]; exact ev_k
    · have e : hsz z = 2 := if_neg (of_decide_eq_false hb.symm)
      rw [e]; exact ev_k)
end
end K14
set_option Elab.async false
set_option linter.all false
set_option maxRecDepth 100000
set_option maxHeartbeats 4000000
namespace K14
open PySem L2 Ty
open Evl (Ex ex_l ex_t)
-- OV is_sum: {"op:part[0] not in HEADS:0": "(op_notIn_kd T.kheads)"}
section
variable {K : PySem.W.Frag} {o : Option Addr} {σ : L2.St} {G Ge He H : Hp} {te ta tb : TE} {De : Ends} {tz : TS} {t : T}
theorem q_parN1 {P : PL} {i j : Nat} (g : Go o Ge He G H) (h1 : EvN o ta σ G P) (h2 : ∀ G', Ev o tb σ G' t)
    (k : ∀ p xs v G2 H2, Go o Ge He G2 H2 → He p = none → o ≠ some p → H2 p = some (.lst xs) → G2 p = none → UP P G2 xs → U t G2 v → tz De ((σ.set i (some (.ref p))).set j (some v)) H2) : tSeq (tPar i j (tCons ta (tCons tb tNil))) tz De σ H :=
  h1 G H (Ex.refl _) g.kn _ fun p xs G2 H2 g2 hp h2' n2 w2 => h2 G2 G2 H2 (Ex.refl _) g2.kn _ fun v G3 H3 g3 w3 => by
    have hob := g.kn.nbox hp
    exact ⟨.ref p, v, rfl, k p xs v G3 H3 (g.trans (g2.trans g3)) (g.fresh hp) hob (g3.kp p _ h2' hob) (g3.nw p n2 (by rw [h2']; simp)) (w2.up g3.gg) w3⟩
theorem q_aug {i : Nat} {a b : Int} {f : Int → Int → Int} (g : Go o Ge He G H) (hi : σ[i]? = some (some (.int a))) (h : Ev o te σ G (tIs (.int b))) (k : ∀ G2 H2, Go o Ge He G2 H2 → Go o G H G2 H2 → tz De (σ.set i (some (.int (f a b)))) H2) :
    tSeq (tAug i te (ipI f)) tz De σ H := ⟨.int a, hi, h G H (Ex.refl _) g.kn _ fun v G2 H2 g2 w2 => ⟨a, b, rfl, w2.eq, k G2 H2 (g.trans g2) g2⟩⟩
theorem cut1 {z : V} {zs : List V} : cutV (z :: zs) (some 1) none = zs := by
  have e1 : HT.sIx (z :: zs).length 0 (some 1) = 1 := by
    simp [HT.sIx]
  have e2 : HT.sIx (z :: zs).length (z :: zs).length none = (z :: zs).length := by
    simp [HT.sIx]
  unfold cutV
  rw [e1, e2]
  simp
theorem ev_sl1 {a : Addr} {z : V} {zs : List V} (h : Ev o te σ G (tIs (.ref a))) (hs : SqT K G a (z :: zs)) : Ev o (tSl (rSlG K) te (tPart (tC (.int 1))) tNoPart) σ G (fun G v => ∃ b, v = .ref b ∧ SqT K G b zs) := fun G1 H1 e kn Q q =>
  h G1 H1 e kn _ fun v G2 H2 g2 w2 => eo_some (ev_k (o := o) (σ := σ) (G := G)) G2 H2 (e.trans g2.gg) g2.kn _ fun G3 H3 g3 => eo_none (σ := σ) (G := G) G3 H3 ((e.trans g2.gg).trans g3.gg) g3.kn _ fun G4 H4 g4 => by
    have g := (g2.trans g3).trans g4
    refine .inr (.inr ⟨a, z :: zs, w2.eq, ex_t ((e.trans g.gg).trans g4.kn.sub) hs, fun h => ?_, fun p hp => ?_⟩)
    · have e1 : HT.sIx (z :: zs).length 0 (some 1) = 1 := by simp [HT.sIx]
      rw [e1] at h
      exact absurd h.1 (by decide)
    · rw [cut1]
      exact q (.ref p) _ _ (g.trans (.new g4.kn hp)) fun G' e' => ⟨p, rfl, .of (e' p _ upd_same)⟩
end
section
variable {P : Program} {w : World} {K : PySem.W.Frag} {mg : Str → Option Value} {base : Heap} {ga ha : Addr} {es : Array DictEntry} {n : Nat}
theorem ok_sum (T : Txt3 K mg w ga ha es n) (d : Df K mg "is_sum" s_is_sum) (G_is_plain : Own P w K mg base CX0 3 "is_plain" s_is_plain ["value"] (spC (cN K plain))) (G_size_of : Own P w K mg base CX0 1 "size_of" s_size_of ["head"] (spC cSz)) :
    Own P w K mg base CX0 4 "is_sum" s_is_sum ["value"] (spC (cN K isSum)) :=
  d.own fun f fd F => F.ok sc_is_sum (fun vs H Q E h => by obtain ⟨o, G, t, kn, ⟨_, x, d, rfl, _⟩, _⟩ := h; rfl) (fun cdv A outer s H vs Q E hr h => by
    obtain ⟨o, G, t, kn, ⟨rfl, x, d, rfl, ⟨hv, hsm⟩, rfl⟩, k⟩ := h
    refine ⟨_, (pss_cons (ps_par (i := 1) (j := 2) (by rfl) sc_is_sum.nd rfl rfl (by decide) rfl rfl (pa_cons (pe_lst (pa_cons (pv 0) pa_nil)) (pa_cons pe_int pa_nil)) (by rfl))
   (pss_cons (ps_while PassesOwn.never (pt_cmpR (kNe (K := K) rfl hr.units) (pv 1) (pe_lst pa_nil) (nomark _)) (pss_cons (ps_set (i := 3) sc_is_sum.nd rfl (Or.inl rfl) (pe_bm0 PySem.F.plainAttrs_list PySem.F.slot_list_pop PySem.F.type_list_pop mt_pop (pv 1)))
   (pss_cons (ps_aug (i := 2) sc_is_sum.nd rfl (Or.inl rfl) pe_int ip_add)
   (pss_cons (ps_if (pt_cmpR op_gt (pe_op (kAdd (K := K) rfl) (pv 2) (pe_callB (kLen (K := K) rfl) (by rfl) T.n_len (by decide +kernel) (pa_cons (pv 1) pa_nil))) (pe_globE rfl T.g_MOST_PARTS) (nomark _)) (pss_one (ps_ret pe_bl)) pss_nil)
   (pss_one (ps_if (pt_not (pt_val (pe_own G_is_plain pb_is_plain (hr.mono (by first | decide | exact Nat.le_refl _ | omega)) rfl pass0 (pa_cons (pv 3) pa_nil)))) (pss_cons (ps_if (PW.pt (pw_or (pt_not (pt_val (pe_callB (kIsi (K := K) rfl) (by rfl) T.n_isinstance (by decide +kernel) (pa_cons (pv 3) (pa_cons (pe_bltn (v := .ty "tuple") (by rfl) T.n_tuple (by decide +kernel) rfl) pa_nil))))) (pw_or (pt_cmpR (kEq (K := K) rfl hr.units) (pe_callB (kLen (K := K) rfl) (by rfl) T.n_len (by decide +kernel) (pa_cons (pv 3) pa_nil)) pe_int (nomark _)) (pw_or (pt_not (pt_val (pe_callB (kIsi (K := K) rfl) (by rfl) T.n_isinstance (by decide +kernel) (pa_cons (pe_ix (kIx (K := K) rfl) (pv 3) pe_int (fun _ _ => rfl)) (pa_cons (pe_bltn (v := .ty "str") (by rfl) T.n_str (by decide +kernel) rfl) pa_nil))))) (pw_or1 (pt_cmpR (op_notIn_kd T.kheads) (pe_ix (kIx (K := K) rfl) (pv 3) pe_int (fun _ _ => rfl)) (pe_globE rfl T.g_HEADS) (by rfl))))))) (pss_one (ps_ret pe_bl)) pss_nil)
   (pss_cons (ps_if (pt_cmpR (kNe (K := K) rfl hr.units) (pe_callB (kLen (K := K) rfl) (by rfl) T.n_len (by decide +kernel) (pa_cons (pv 3) pa_nil)) (pe_op (kAdd (K := K) rfl) pe_int (pe_own G_size_of pb_size_of (hr.mono (by first | decide | exact Nat.le_refl _ | omega)) rfl pass0 (pa_cons (pe_ix (kIx (K := K) rfl) (pv 3) pe_int (fun _ _ => rfl)) pa_nil))) (nomark _)) (pss_one (ps_ret pe_bl)) pss_nil)
   (pss_one (ps_expr (pe_bm PySem.F.plainAttrs_list PySem.F.slot_list_extend PySem.F.type_list_extend mt_extA (pv 1) (pa_cons (pe_slice (kSl (K := K) rfl) (pv 3) (po_some pe_int) po_none) pa_nil)))))) pss_nil))))))
   (pss_one (ps_ret pe_bl)))), ?_⟩
    refine q_parN1 (P := fun _ xs => xs = [x]) (Go.refl kn) ((en_lst (ea_cons (ev_x rfl) ea_nil) (by show 1 ≤ 100000; decide)).impN fun _ _ u => all1 u) (fun _ => ev_k) fun l xs v G2 H2 g2 hl0 hob hl2 gl2 hxs hc => ?_
    rw [hc.eq]
    have exs := hxs.now
    subst exs
    refine q_whileA g2 (fun m σ' G' H' => ∃ (xs : List V) (ds : List PyData) (c : Nat) (y : Option V), σ' = [some x, some (.ref l), some (.int c), y] ∧ G' l = none ∧ H' l = some (.lst xs) ∧ St1 K G' xs ds ∧ (good 0 [d] ↔ good c ds) ∧ c + xs.length ≤ 50 ∧ c ≤ 40 ∧ m = 41 - c) 41
      ⟨[x], [d], 0, _, rfl, gl2, hl2, .cons ⟨hv.up g2.gg, hsm⟩ .nil, Iff.rfl, (by show 0 + 1 ≤ 50; decide), by decide, rfl⟩ fun m σ' G' H' g' e' i => ?_
    obtain ⟨xs, ds, c, y, rfl, gl, hl, st, hg, hcl, hc40, rfl⟩ := i
    refine ⟨(· = !xs.isEmpty), at_L g'.kn gl hl hob (et_test (ev_op (s := tIs (.ref l)) (ev_x rfl) ev_nil fun G3 a b e hy hz => ?_)), fun hb G1 H1 g1' g1 => ?_, fun hb G1 H1 g1' g1 => ?_⟩
    · obtain ⟨a2, rfl, ha2⟩ := hz.now
      rw [hy.eq]
      exact ro_neN (.of (e _ _ upd_same)) (.of ha2)
    · have hne : xs ≠ [] := by
        intro z
        rw [z] at hb
        cases hb
      obtain ⟨xs', v, ds', dv, rfl, rfl, st', hv', hsv⟩ := paired_snoc st hne
      have hl1 := g1.kp l _ hl hob
      have gl1 : G1 l = none := g1.nw l gl (by rw [hl]; simp)
      have len1 : (xs' ++ [v]).length = xs'.length + 1 := by simp
      have hlen := Paired.length st'
      refine q_pop (y := v) g1' hl0 gl1 hob hl1 (by rw [len1, Nat.add_sub_cancel]; simp) (ev_x rfl) fun G3 H3 g3 g13 gl3 => ?_
      rw [List.dropLast_concat] at g3 ⊢
      have hv3 : Vl K G3 v dv := hv'.up (g1.gg.trans g13.gg)
      have st3 : St1 K G3 xs' ds' := St1.up (G := G') st' (g1.gg.trans g13.gg)
      refine q_aug g3 rfl ev_k fun G4 H4 g4 g34 => ?_
      have hl4 := g34.kp l _ upd_same hob
      have gl4 : G4 l = none := g34.nw l gl3 (by rw [upd_same]; simp)
      have no : ¬ good c (ds' ++ [dv]) → isSum d = false := fun z => isSum_f fun z2 => z (hg.mp z2)
      refine q_ifL (p := (· = decide (40 < ((c : Int) + 1) + (xs'.length : Int)))) g4 gl4 hl4 hob (et_test (ev_i0 (ev_addI (ev_x rfl) (ev_cb1 (ev_x rfl) fun G5 e => rc_lenL (.of (e _ _ upd_same)))) ev_k)) (fun hb G5 H5 g5 _ _ _ => ?_) fun hb G5 H5 g5 g45 gl5 hl5 => ?_
      · have hb' := of_decide_eq_true hb.symm
        rw [no (good_big (by rw [List.length_append, ← hlen]; show 40 < c + (xs'.length + 1); omega))] at k
        exact s_ret g5 ev_k k
      have hb' := of_decide_eq_false hb.symm
      have hv5 : Vl K G5 v dv := hv3.up (g34.gg.trans g45.gg)
      have st5 := st3.up (g34.gg.trans g45.gg)
      refine s_if (p := (· = !plain dv)) g5 (et_not (et_b (ev_call (t := tIs (.bl (plain dv))) (ea_cons (ev_x rfl) ea_nil) fun G6 vs e al => ?_))) (fun hp G6 H6 g6 g56 => ?_) fun hp G6 H6 g6 g56 => ?_
      · rw [all1 al]
        exact ⟨none, _, .inl rfl, ⟨rfl, v, dv, rfl, ⟨hv5.up e, hsv⟩, rfl⟩, fun _ _ _ w => w⟩
      · have hpl : plain dv = false := by
          have hp' : true = !plain dv := hp
          revert hp'
          cases plain dv <;> decide
        have hl6 := g56.kp l _ hl5 hob
        have gl6 : G6 l = none := g56.nw l gl5 (by rw [hl5]; simp)
        have hv6 := hv5.up g56.gg
        have st6 := st5.up g56.gg
        have bad : (∀ h ps, dv = .tuple (.str h :: ps) → ¬(h ∈ heads ∧ ps.length = hsz h)) → isSum d = false := fun z => no (good_no hpl z)
        have vp : ∀ {G7}, Ex G6 G7 → Ev none (tVar 3) [some x, some (.ref l), some (.int ((c : Int) + 1)), some v] G7 (tV K dv) := fun e => ev_v rfl (hv6.up e)
        cases et : isTup dv with
        | false =>
          rw [bad fun h ps e => by rw [e] at et; cases et] at k
          exact q_when g6 (p := (· = (!false || true))) (et_or (et_not (et_b (ev_isiV (vp (Ex.refl _)) (by rw [ki_tup, et])))) fun z => nomatch z) (fun _ G7 H7 g7 _ => s_ret g7 ev_k k) fun z => nomatch z
        | true =>
          cases dv with
          | tuple dps =>
            cases dps with
            | nil =>
              rw [bad fun h ps e => by cases e] at k
              exact q_when g6 (p := (· = (!true || (true || true)))) (et_or (et_not (et_b (ev_isiV (vp (Ex.refl _)) ki_tup))) fun _ => et_or (et_test (ev_op2 (ev_lenT (vp (Ex.refl _))) ev_k (ro_eqS rfl (by rfl)))) fun z => nomatch z) (fun _ G7 H7 g7 _ => s_ret g7 ev_k k) fun z => nomatch z
            | cons d0 ps =>
              have l0 : EvT none (tTest (tOp (rEqG K) (tCB (Ty.rLen K) (tCons (tVar 3) tNil)) (tC (.int 0)))) [some x, some (.ref l), some (.int ((c : Int) + 1)), some v] G6 (· = false) := et_test (ev_op2 (ev_lenT (vp (Ex.refl _))) ev_k (ro_eqS rfl (decide_eq_false fun e => by
                have e' := V.int.inj e
                rw [List.length_cons] at e'
                omega)))
              have tt := et_not (et_b (ev_isiV (vp (Ex.refl _)) (ki_tup (d := .tuple (d0 :: ps)))))
              cases e0 : isStr d0 with
              | false =>
                rw [bad fun h ps e => by cases e; cases e0] at k
                exact q_when g6 (p := (· = (!true || (false || (!false || true))))) (et_or tt fun _ => et_or l0 fun _ => et_or (et_not (et_b (ev_isiV (ev_ixT (i := 0) (vp (Ex.refl _)) ev_k rfl) (by rw [ki_str, e0])))) fun z => nomatch z) (fun _ G7 H7 g7 _ => s_ret g7 ev_k k) fun z => nomatch z
              | true =>
                obtain ⟨h, rfl⟩ : ∃ h, d0 = .str h := by
                  cases d0 with
                  | str h => exact ⟨h, rfl⟩
                  | _ => cases e0
                obtain ⟨r, hr1, hr2⟩ := T.hin h
                refine q_when g6 (p := (· = (!true || (false || (!true || !decide (h ∈ heads)))))) (et_or tt fun _ => et_or l0 fun _ => et_or (et_not (et_b (ev_isiV (ev_ixT (i := 0) (vp (Ex.refl _)) ev_k rfl) ki_str))) fun _ => et_test (ev_op2 (ev_ixT (i := 0) (vp (Ex.refl _)) ev_k rfl).isStr ev_k (ro_q u_is fun _ _ _ _ _ q => ⟨h, r, rfl, rfl, hr1, by rw [hr2]; exact q⟩))) (fun hb G7 H7 g7 _ => ?_) fun hb G7 H7 g7 g67 => ?_
                · have hh : h ∉ heads := by
                    have hb' : true = (false || (false || (false || !decide (h ∈ heads)))) := hb
                    intro z
                    rw [decide_eq_true z] at hb'
                    cases hb'
                  rw [bad fun h' ps' e => by cases e; exact fun z => hh z.1] at k
                  exact s_ret g7 ev_k k
                · have hh : h ∈ heads := by
                    have hb' : false = (false || (false || (false || !decide (h ∈ heads)))) := hb
                    by_cases z : h ∈ heads
                    · exact z
                    · rw [decide_eq_false z] at hb'
                      cases hb'
                  refine q_when g7 (p := (· = !decide (ps.length = hsz h))) (et_test (ev_op2 (ev_lenT (vp g67.gg)) (ev_addI ev_k (ev_call (t := tIs (.int (hsz h))) (ea_cons (ev_ixT (i := 0) (vp g67.gg) ev_k rfl).isStr ea_nil) fun G8 vs e al => ?_)) (ro_neS rfl ?_))) (fun hb G8 H8 g8 _ => ?_) fun hb G8 H8 g8 g78 => ?_
                  · rw [all1 al]
                    exact ⟨none, _, .inl rfl, ⟨rfl, h, rfl, rfl⟩, fun _ _ _ w => w⟩
                  · congr 1
                    by_cases z : ps.length = hsz h
                    · rw [decide_eq_true z]
                      exact decide_eq_true (by rw [List.length_cons, z]; congr 1; omega)
                    · rw [decide_eq_false z]
                      exact decide_eq_false fun e => z (by have e' := V.int.inj e; rw [List.length_cons] at e'; omega)
                  · have hl' : ¬ ps.length = hsz h := by
                      intro z
                      rw [decide_eq_true z] at hb
                      cases hb
                    rw [bad fun h' ps' e => by cases e; exact fun z => hl' z.2] at k
                    exact s_ret g8 ev_k k
                  · have hl' : ps.length = hsz h := by
                      by_cases z : ps.length = hsz h
                      · exact z
                      · rw [decide_eq_false z] at hb
                        cases hb
                    have h2 : hsz h ≤ 2 := by unfold hsz; split <;> omega
                    have hv8 := hv6.up (g67.gg.trans g78.gg)
                    have st8 := st6.up (g67.gg.trans g78.gg)
                    obtain ⟨a, vs, rfl, hsa, hda⟩ := hv8.tup
                    cases hda with
                    | @cons v0 zs _ _ h0 hda =>
                      have hl8 := (g67.trans g78).kp l _ hl6 hob
                      have gl8 : G8 l = none := (g67.trans g78).nw l gl6 (by rw [hl6]; simp)
                      have lz := dps_len hda
                      refine s_extT (zs := []) (P := fun _ ws => ws = zs) g8 hl0 gl8 hob hl8 (ev_x rfl) (fun G9 e9 => (ev_sl1 (ev_x rfl) (ex_t e9 hsa)).imp fun G10 r e10 u G11 e11 => ?_) (by omega) (fun G9 ws e => by rw [e.now]; omega) fun ws G9 H9 g9 g89 gl9 hw => ?_
                      · obtain ⟨b, h1, h2⟩ := u G11 e11
                        exact ⟨b, zs, h1, h2, fun _ _ => rfl⟩
                      · have ew := hw.now
                        subst ew
                        exact ⟨41 - (c + 1), G9, by omega, g9, e'.trans (g1.gg.trans (g13.gg.trans (g34.gg.trans (g45.gg.trans (g56.gg.trans (g67.gg.trans (g78.gg.trans g89.gg))))))), xs' ++ ws, ds' ++ ps, c + 1, _, rfl, gl9, upd_same,
                          paired_app (st8.up g89.gg) (dps_st (dps_up g89.gg _ hda) fun d' hd' => (sm_tup hsv).2 d' (List.mem_cons_of_mem _ hd')), hg.trans (good_nd hh hl'), by rw [List.length_append]; omega, by omega, rfl⟩
          | _ => cases et
      · have hpl : plain dv = true := by
          have hp' : false = !plain dv := hp
          revert hp'
          cases plain dv <;> decide
        have hl6 := g56.kp l _ hl5 hob
        have gl6 : G6 l = none := g56.nw l gl5 (by rw [hl5]; simp)
        exact ⟨41 - (c + 1), G6, by omega, g6, e'.trans (g1.gg.trans (g13.gg.trans (g34.gg.trans (g45.gg.trans g56.gg)))), xs', ds', c + 1, _, rfl, gl6, hl6, st5.up g56.gg, hg.trans (good_pl hpl), by omega, by omega, rfl⟩
    · have hx : xs = [] := by
        cases xs with
        | nil => rfl
        | cons _ _ => cases hb
      subst hx
      cases st
      have : isSum d = true := isSum_t (hg.mpr ⟨0, .nil, by omega⟩)
      rw [this] at k
      exact s_ret g1' ev_k k)
end
end K14
set_option Elab.async false
set_option linter.all false
set_option maxRecDepth 100000
set_option maxHeartbeats 4000000
namespace K14
open PySem L2 Ty
open Evl (Ex ex_l ex_t)
abbrev s_check_sum : Stmt := top 27
theorem sc_check_sum : FnScope ["term"] ["term"] (defScope s_check_sum) := ⟨rfl, rfl, rfl, by decide +kernel, rfl, by decide +kernel, by decide +kernel⟩
theorem pb_check_sum : PosB "check_sum" s_check_sum ["term"] := fun _ _ _ _ _ _ us hl => match us, hl with | [_], _ => rfl
section
variable {P : Program} {w : World} {K : PySem.W.Frag} {mg : Str → Option Value} {base : Heap} {ga ha CS D : Addr} {es : Array DictEntry} {n : Nat}
def Er1 (b : Bool) (C : Addr) (x : V) : Er := fun c g => b = false ∧ c = .ref C ∧ g = x
theorem ev_isSum {o : Option Addr} {σ : L2.St} {G : Hp} {te : TE} {E : XK} {d : PyData} {f : PyData → Bool} (hs : Sm1 d) (h : Ev o te σ G (tV K d)) : Ev o (tCall (spC (cN K f)) [] E (tCons te tNil)) σ G (tIs (.bl (f d))) :=
  ev_call (ea_cons h ea_nil) fun G' vs e al => by
    cases al with
    | cons a1 al =>
      cases al
      exact ⟨none, _, .inr rfl, ⟨rfl, _, d, rfl, ⟨a1.now, hs⟩, rfl⟩, fun _ _ _ w => w⟩
def cCheck (K : PySem.W.Frag) (CS : Addr) (o : Option Addr) (G : Hp) (vs : List V) (t : T) (B : Er) : Prop := o = none ∧ ∃ x d, vs = [x] ∧ (Vl K G x d ∧ Sm1 d) ∧ t = (fun _ v => isSum d = true ∧ v = .non) ∧ B = Er1 (isSum d) CS x
theorem ok_check (T : Txt3 K mg w ga ha es n) (d : Df K mg "check_sum" s_check_sum) (E_InvalidSum : OwnE P w K mg base 1 "InvalidSum" CS D) (G_is_sum : Own P w K mg base CX0 4 "is_sum" s_is_sum ["value"] (spC (cN K isSum))) :
    Own P w K mg base (CXo P w) 5 "check_sum" s_check_sum ["term"] (spR (cCheck K CS)) :=
  d.own fun f fd F => F.okX sc_check_sum (fun vs H Q E h => by obtain ⟨o, G, t, B, kn, ⟨_, x, d, rfl, _⟩, _⟩ := h; rfl) (fun cdv A outer s H vs Q E hr h => by
    obtain ⟨o, G, t, B, kn, ⟨rfl, x, d, rfl, ⟨hv, hsm⟩, rfl, rfl⟩, k, kE⟩ := h
    refine ⟨_, (pss_one (ps_if (pt_not (pt_val (pe_own G_is_sum pb_is_sum (hr.mono (by first | decide | exact Nat.le_refl _ | omega)) rfl pass0 (pa_cons (pv 0) pa_nil)))) (pss_one (ps_raiseE E_InvalidSum rfl (takes_of rfl rfl rfl rfl) (hr.mono (by first | decide | exact Nat.le_refl _ | omega)) rfl (pv 0))) pss_nil)), ?_⟩
    refine s_when (Go.refl kn) (et_not (et_b (ev_isSum hsm (ev_v rfl hv)))) (fun hb G2 H2 g2 _ => ?_) fun hb G2 H2 g2 _ => ?_
    · have hf : isSum d = false := by
        have hb' : true = !isSum d := hb
        revert hb'
        cases isSum d <;> decide
      exact s_raise g2 E_InvalidSum.sup (ev_x rfl) fun dd G3 H3 g3 _ e => kE _ dd x G3 H3 g3 e ⟨hf, rfl, rfl⟩
    · have hf : isSum d = true := by
        have hb' : false = !isSum d := hb
        revert hb'
        cases isSum d <;> decide
      exact k .non G2 H2 g2 fun _ _ => ⟨hf, rfl⟩)
theorem q_parLD {o : Option Addr} {σ : L2.St} {G Ge He H : Hp} {te : TE} {De : Ends} {tz : TS} {P : PL} {i j : Nat} (g : Go o Ge He G H) (h1 : EvN o te σ G P)
    (k : ∀ p xs q G2 H2, Go o Ge He G2 H2 → Go o G H G2 H2 → He p = none → He q = none → o ≠ some p → o ≠ some q → q ≠ p → H2 p = some (.lst xs) → H2 q = some (.dK []) → G2 p = none → G2 q = none → UP P G2 xs → tz De ((σ.set i (some (.ref p))).set j (some (.ref q))) H2) :
    tSeq (tPar i j (tCons te (tCons tDNewK tNil))) tz De σ H := by
  show tCons te (tCons tDNewK tNil) σ H fun vs H1 => ∃ v w, vs = [v, w] ∧ tz De ((σ.set i (some v)).set j (some w)) H1
  exact h1 G H (Ex.refl _) g.kn _ fun p xs G2 H2 g2 hp h2 n2 w2 => fun q hq => by
    have hqp : q ≠ p := fun e => by rw [e, h2] at hq; cases hq
    exact ⟨.ref p, .ref q, rfl, k p xs q G2 _ ((g.trans g2).trans (.tmp g2.kn hq)) (g2.trans (.tmp g2.kn hq)) (g.fresh hp) ((g.trans g2).fresh hq) (g.kn.nbox hp) (g2.kn.nbox hq) hqp (by rw [upd_ne hqp.symm]; exact h2) upd_same n2 (Evl.fresh_back g2.kn.sub hq) w2⟩
inductive Nm (z : Str) : PyData → Prop
  | leaf : Nm z (.str z)
  | arg {h p : PyData} {ps : List PyData} : p ∈ ps → Nm z p → Nm z (.tuple (h :: ps))
def cNames (K : PySem.W.Frag) (o : Option Addr) (G : Hp) (vs : List V) (p : PL) : Prop := o = none ∧ ∃ x d, vs = [x] ∧ (Vl K G x d ∧ Sm1 d) ∧ good 0 [d] ∧
  p = fun _ xs => ∃ ys : List Str, xs = ys.map V.str ∧ PyProof.Rows.sortedS ys = true ∧ ys.Nodup ∧ ∀ z, z ∈ ys ↔ Nm z d
theorem any_key {kvs : List (Key × V)} {k : Key} : (kvs.any fun kv => decide (kv.1 = k)) = true ↔ k ∈ kvs.map (·.1) :=
  ⟨fun h => by
    obtain ⟨p, hp, e⟩ := List.any_eq_true.mp h
    exact List.mem_map.mpr ⟨p, hp, of_decide_eq_true e⟩, fun h => by
    obtain ⟨p, hp, e⟩ := List.mem_map.mp h
    exact List.any_eq_true.mpr ⟨p, hp, decide_eq_true e⟩⟩
theorem putK_old {kvs : List (Key × V)} {k : Key} {v : V} (h : k ∈ kvs.map (·.1)) : (putK kvs k v).map (·.1) = kvs.map (·.1) := by
  unfold putK
  rw [if_pos (any_key.mpr h), List.map_map]
  refine List.map_congr_left fun p _ => ?_
  show (if p.1 = k then (p.1, v) else p).1 = p.1
  split <;> rfl
theorem putK_add {kvs : List (Key × V)} {k : Key} {v : V} (h : k ∉ kvs.map (·.1)) : (putK kvs k v).map (·.1) = kvs.map (·.1) ++ [k] := by
  unfold putK
  rw [if_neg fun z => h (any_key.mp z), List.map_append]
  rfl
end
end K14
set_option Elab.async false
set_option linter.all false
set_option maxRecDepth 100000
set_option maxHeartbeats 4000000
namespace K14
open PySem L2 Ty
open Evl (Ex ex_l ex_t)
section
variable {P : Program} {w : World} {K : PySem.W.Frag} {mg : Str → Option Value} {base : Heap} {ga ha CS D : Addr} {es : Array DictEntry} {n : Nat}
def namesOf (d : PyData) (ys : List Str) : Prop := PyProof.Rows.sortedS ys = true ∧ ys.Nodup ∧ ∀ z, z ∈ ys ↔ Nm z d
theorem good_of {d : PyData} (h : isSum d = true) : good 0 [d] := by
  unfold isSum at h
  exact @of_decide_eq_true _ (Classical.propDecidable _) h
theorem calls_check {o : Option Addr} {G : Hp} {x : V} {d : PyData} (hv : Vl K G x d) (hs : Sm1 d) : CallsR (cCheck K CS) o G [tIs x] (fun _ v => isSum d = true ∧ v = .non) (Er1 (isSum d) CS x) id := fun G' vs e al => by
  rw [all1 al]
  exact ⟨none, _, _, .inr rfl, ⟨rfl, x, d, rfl, ⟨hv.up e, hs⟩, rfl, rfl⟩, fun _ _ _ w => w, fun _ _ h => h⟩
end
end K14
set_option Elab.async false
set_option linter.all false
set_option maxRecDepth 100000
set_option maxHeartbeats 4000000
namespace K14
open PySem L2 Ty
open Evl (Ex ex_l ex_t)
-- OV kind_in: {"HEADS[term[0]]": "(pe_ix ix_kdict (pe_globE rfl T.g_HEADS) (pe_ix (kIx (K := K) rfl) (pv 0) pe_int (fun _ _ => rfl)) (fun _ _ => rfl))", "iter:term[1:]": "(pi_tupK (K := K) rfl (pe_slice (kSl (K := K) rfl) (pv 0) (po_some pe_int) po_none))", "call:set(parts)": "(kSetS (P := P) (w := w) (K := K) rfl rfl rfl rfl)", "call:len(set(parts))": "(kLenS (P := P) (w := w) rfl rfl)", "kinds.get(term)": "(pe_dget1 (Nat.lt_of_le_of_lt (Nat.add_le_add_left (by decide) _) hr.units) (pv 1) (pv 0) ⟨rfl, rfl, rfl, rfl⟩)"}
abbrev s_kind_in : Stmt := top 28
theorem sc_kind_in : FnScope ["term", "kinds", "taken", "made", "parts", "part"] ["term", "kinds"] (defScope s_kind_in) := ⟨rfl, rfl, rfl, by decide +kernel, rfl, by decide +kernel, by decide +kernel⟩
theorem pb_kind_in : PosB "kind_in" s_kind_in ["term", "kinds"] := fun _ _ _ _ _ _ us hl => match us, hl with | [_, _], _ => rfl
/-! ### kinds -/
/-- what a head takes (none: any), what it makes -/
def hRow (h : Str) : Option Str × Str :=
  if h = "less" then (some "integer", "truth") else if h = "same" then (none, "truth") else if h = "and" ∨ h = "or" ∨ h = "not" then (some "truth", "truth") else (some "integer", "integer")
/-- of the parts' kinds -/
def comb (h : Str) (ks : List (Option Str)) : Option Str :=
  match ks with
  | [] => none
  | k :: r => match k with
    | none => none
    | some a => if r.all (fun b => decide (b = some a)) = true ∧ ((hRow h).1 = none ∨ (hRow h).1 = some a) then some (hRow h).2 else none
def kindN : Nat → (Str → Option Str) → PyData → Option Str
  | 0, _, _ => none
  | _ + 1, f, .str z => f z
  | _ + 1, _, .bool _ => some "truth"
  | _ + 1, _, .int _ => some "integer"
  | n + 1, f, .tuple (.str h :: ps) => comb h (ps.map (kindN n f))
  | _ + 1, _, _ => none
def oV : Option Str → V
  | none => .non
  | some z => .str z
theorem dd_mono (l : List Str) (x : Str) : l.length ≤ (SS.ddS l x).length := by
  unfold SS.ddS
  split
  · exact Nat.le_refl _
  · rw [List.length_append]; exact Nat.le_add_right ..
theorem fold_mono : ∀ (r l : List Str), l.length ≤ (r.foldl SS.ddS l).length
  | [], _ => Nat.le_refl _
  | x :: r, l => Nat.le_trans (dd_mono l x) (fold_mono r _)
theorem fold_one {a : Str} : ∀ r : List Str, 1 < (r.foldl SS.ddS [a]).length ↔ ∃ b ∈ r, b ≠ a
  | [] => ⟨fun h => absurd (show 1 < 1 from h) (by decide), fun ⟨_, h, _⟩ => nomatch h⟩
  | x :: r => by
    by_cases e : x = a
    · subst e
      have e1 : SS.ddS [x] x = [x] := by unfold SS.ddS; rw [if_pos (by simp)]
      rw [List.foldl_cons, e1, fold_one r]
      exact ⟨fun ⟨b, hb, h⟩ => ⟨b, List.mem_cons_of_mem _ hb, h⟩, fun ⟨b, hb, h⟩ => by
        rcases List.mem_cons.mp hb with rfl | hb
        · exact absurd rfl h
        · exact ⟨b, hb, h⟩⟩
    · have e1 : SS.ddS [a] x = [a, x] := by
        unfold SS.ddS
        rw [if_neg (by simp; exact fun q => e q.symm)]
        rfl
      rw [List.foldl_cons, e1]
      exact ⟨fun _ => ⟨x, List.mem_cons_self .., e⟩, fun _ => Nat.lt_of_lt_of_le (show 1 < 2 by decide) (fold_mono r [a, x])⟩
theorem fm_one {a : Str} {r : List Str} : 1 < (SS.fmS (a :: r) (a :: r).length).length ↔ ∃ b ∈ r, b ≠ a := by
  unfold SS.fmS
  rw [List.take_length, List.foldl_cons]
  have e1 : SS.ddS [] a = [a] := by unfold SS.ddS; rw [if_neg (by simp)]; rfl
  rw [e1]
  exact fold_one r
theorem comb_none {h : Str} {ks : List (Option Str)} (hn : none ∈ ks) : comb h ks = none := by
  cases ks with
  | nil => cases hn
  | cons k r =>
    cases k with
    | none => rfl
    | some a =>
      have hr : none ∈ r := by
        rcases List.mem_cons.mp hn with e | e
        · cases e
        · exact e
      show (if _ then _ else _) = none
      rw [if_neg]
      intro z
      have := List.all_eq_true.mp z.1 none hr
      simp at this
/-- the first part is not what the head takes -/
def tkn (h a : Str) : Bool := match (hRow h).1 with
  | none => false
  | some t => !decide (a = t)
theorem comb_some (h a : Str) (r : List Str) : comb h ((a :: r).map some) = if (decide (∃ b ∈ r, b ≠ a) || tkn h a) = true then none else some (hRow h).2 := by
  show (if ((r.map some).all fun b => decide (b = some a)) = true ∧ ((hRow h).1 = none ∨ (hRow h).1 = some a) then some (hRow h).2 else none) = _
  have h1 : ((r.map some).all fun b => decide (b = some a)) = !decide (∃ b ∈ r, b ≠ a) := by
    rw [List.all_map]
    by_cases c : ∃ b ∈ r, b ≠ a
    · rw [decide_eq_true c]
      obtain ⟨b, hb, hn⟩ := c
      exact List.all_eq_false.mpr ⟨b, hb, by simp [hn]⟩
    · rw [decide_eq_false c]
      exact List.all_eq_true.mpr fun b hb => by
        have : b = a := Classical.byContradiction fun z => c ⟨b, hb, z⟩
        simp [this]
  have h2 : ((hRow h).1 = none ∨ (hRow h).1 = some a) ↔ tkn h a = false := by
    unfold tkn
    generalize (hRow h).1 = q
    cases q with
    | none => exact ⟨fun _ => rfl, fun _ => .inl rfl⟩
    | some t =>
      show _ ↔ (!decide (a = t)) = false
      by_cases e : a = t
      · subst e; exact ⟨fun _ => by rw [decide_eq_true rfl]; rfl, fun _ => .inr rfl⟩
      · rw [decide_eq_false e]
        exact ⟨fun z => z.elim (fun z => nomatch z) (fun z => absurd (Option.some.inj z).symm e), fun z => nomatch z⟩
  cases c : decide (∃ b ∈ r, b ≠ a) with
  | true =>
    rw [c] at h1
    rw [if_neg (fun z => by rw [h1] at z; exact nomatch z.1)]
    rfl
  | false =>
    rw [c] at h1
    cases t : tkn h a with
    | true => exact if_neg fun z => by rw [h2.mp z.2] at t; cases t
    | false => exact if_pos ⟨h1, h2.mpr t⟩
theorem ne_oV (a t : Str) : (!decide (V.str a = oV (some t))) = !decide (a = t) := by
  by_cases e : a = t
  · subst e; exact (congrArg (!·) ((decide_eq_true (p := V.str a = oV (some a)) rfl).trans (decide_eq_true (p := a = a) rfl).symm))
  · rw [decide_eq_false e, decide_eq_false (fun z => e (by cases z; rfl))]
theorem flat_oV : ∀ ks : List (Option Str), (ks.map oV).all flatV = true
  | [] => rfl
  | none :: r => flat_oV r
  | some _ :: r => flat_oV r
theorem inV_none {ks : List (Option Str)} (h : none ∈ ks) : (if false then !inV .non (ks.map oV) else inV .non (ks.map oV)) = true := by
  show inV .non (ks.map oV) = true
  unfold inV
  rw [List.any_eq_true]
  exact ⟨.non, List.mem_map.mpr ⟨none, h, rfl⟩, rfl⟩
theorem inV_noneS (zs : List Str) : (if false then !inV .non (zs.map V.str) else inV .non (zs.map V.str)) = false := by
  show inV .non (zs.map V.str) = false
  unfold inV
  rw [List.any_eq_false]
  intro x hx
  obtain ⟨z, _, rfl⟩ := List.mem_map.mp hx
  exact Bool.false_ne_true
theorem all_some : ∀ {ks : List (Option Str)}, none ∉ ks → ∃ zs : List Str, ks = zs.map some
  | [], _ => ⟨[], rfl⟩
  | none :: r, h => absurd (List.mem_cons_self ..) h
  | some z :: r, h => by
    obtain ⟨zs, rfl⟩ := all_some (ks := r) fun q => h (List.mem_cons_of_mem _ q)
    exact ⟨z :: zs, rfl⟩
section
variable {P : Program} {w : World} {K : PySem.W.Frag} {mg : Str → Option Value} {base : Heap} {ga ha CS D : Addr} {es : Array DictEntry} {n : Nat}
structure Txt4 (K : PySem.W.Frag) (mg : Str → Option Value) (w : World) (ga ha : Addr) (es : Array DictEntry) (n : Nat) : Prop extends Txt3 K mg w ga ha es n where
  hrow : ∀ h ∈ heads, ∃ ra, KDct K w ha h (.ref ra) ∧ SqT K (fun _ => none) ra [oV (hRow h).1, .str (hRow h).2]
/-- a dict of kinds, as a function -/
def KindsOf (kvs : List (Key × V)) (f : Str → Option Str) : Prop := ∀ z : Str, valV kvs (Sum.inr z : Key) = (f z).map V.str
def cKind (K : PySem.W.Frag) (n : Nat) (o : Option Addr) (G : Hp) (vs : List V) (t : T) : Prop := o = none ∧ ∃ x d a kvs f, vs = [x, .ref a] ∧ (Vl K G x d ∧ Sm1 d) ∧ (∃ m, Sz d m ∧ m ≤ n) ∧ G a = some (.dK kvs) ∧ KindsOf kvs f ∧ t = tIs (oV (kindN n f d))
theorem kindsV {kvs : List (Key × V)} {f : Str → Option Str} (h : KindsOf kvs f) (z : Str) : (valV kvs (Sum.inr z : Key)).getD .non = oV (f z) := by
  rw [h z]
  cases f z <;> rfl
theorem dps_at' {K : PySem.W.Frag} {G : Hp} : ∀ {xs : List V} {ds : List PyData} {i : Nat} {x : V}, DpAll K G xs ds → xs[i]? = some x → ∃ d, ds[i]? = some d ∧ Dp K G x d
  | _, _, _, _, .nil, h => by simp at h
  | _, _, 0, _, .cons a _, h => by
    cases (show some _ = some _ from h)
    exact ⟨_, rfl, a⟩
  | _, _, i + 1, _, .cons _ r, h => dps_at' (i := i) r h
theorem szs_mem : ∀ {ds : List PyData} {t : Nat} {d : PyData}, Szs ds t → d ∈ ds → ∃ a, Sz d a ∧ a ≤ t
  | [], _, _, _, h => nomatch h
  | e :: ds, _, d, hs, h => by
    cases hs with
    | cons a b =>
      rcases List.mem_cons.mp h with rfl | h
      · exact ⟨_, a, Nat.le_add_right ..⟩
      · obtain ⟨x, h1, h2⟩ := szs_mem b h
        exact ⟨x, h1, by omega⟩
theorem ok_kind_in (T : Txt4 K mg w ga ha es n) (d : Df K mg "kind_in" s_kind_in) (G_is_truth : Own P w K mg base CX0 1 "is_truth" s_is_truth ["value"] (spC (cV1 K isBool))) : ∀ k, Own P w K mg base CX0 (k + 1) "kind_in" s_kind_in ["term", "kinds"] (spC (cKind K k))
  | 0 => d.own fun f fd F => ⟨fun vs H Q E h => by
      obtain ⟨o, G, t, _, ⟨_, x, d, a, kvs, f, _, _, ⟨m, hm, h0⟩, _⟩, _⟩ := h
      have := sz_pos hm
      omega, fun A outer s H args us vs Q E hr he hb hv h => by
      obtain ⟨o, G, t, _, ⟨_, x, d, a, kvs, f, _, _, ⟨m, hm, h0⟩, _⟩, _⟩ := h
      have := sz_pos hm
      omega⟩
  | j + 1 => d.own fun f fd F => F.ok sc_kind_in (fun vs H Q E h => by obtain ⟨o, G, t, _, ⟨_, x, d, a, kvs, f, rfl, _⟩, _⟩ := h; rfl) (fun cdv A outer s H vs Q E hr h => by
    have G_kind_in := ok_kind_in T d G_is_truth j
    obtain ⟨o, G, t, kn, ⟨rfl, x, d, a, kvs, f, rfl, ⟨hv, hsm⟩, ⟨m, hsz, hmj⟩, hka, hk, rfl⟩, k⟩ := h
    refine ⟨_, (pss_cons (ps_if (pt_val (pe_callB (kIsi (K := K) rfl) (by rfl) T.n_isinstance (by decide +kernel) (pa_cons (pv 0) (pa_cons (pe_bltn (v := .ty "str") (by rfl) T.n_str (by decide +kernel) rfl) pa_nil)))) (pss_one (ps_ret (pe_dget1 (Nat.lt_of_le_of_lt (Nat.add_le_add_left (by decide) _) hr.units) (pv 1) (pv 0) ⟨rfl, rfl, rfl, rfl⟩))) pss_nil)
   (pss_cons (ps_if (pt_not (pt_val (pe_callB (kIsi (K := K) rfl) (by rfl) T.n_isinstance (by decide +kernel) (pa_cons (pv 0) (pa_cons (pe_bltn (v := .ty "tuple") (by rfl) T.n_tuple (by decide +kernel) rfl) pa_nil))))) (pss_one (ps_ret (pe_ifExp (pt_val (pe_own G_is_truth pb_is_truth (hr.mono (by first | decide | exact Nat.le_refl _ | omega)) rfl pass0 (pa_cons (pv 0) pa_nil))) (pe_globE rfl T.g_TRUTH) (pe_globE rfl T.g_INTEGER)))) pss_nil)
   (pss_cons (ps_asg (pe_ix ix_kdict (pe_globE rfl T.g_HEADS) (pe_ix (kIx (K := K) rfl) (pv 0) pe_int (fun _ _ => rfl)) (fun _ _ => rfl)) (pg_tup rfl (pgs_cons (pg_name (i := 2) sc_kind_in.nd rfl (Or.inl rfl)) (pgs_cons (pg_name (i := 3) sc_kind_in.nd rfl (Or.inl rfl)) pgs_nil))))
   (pss_cons (ps_setLc (i := 4) (own := [("part", 5)]) rfl sc_kind_in.nd rfl rfl (sw_true rfl rfl rfl (by decide +kernel)) (pi_tupK (K := K) rfl (pe_slice (kSl (K := K) rfl) (pv 0) (po_some pe_int) po_none)) (blkOk_by (own := [("part", 5)]) (N := ["term", "kinds", "taken", "made", "parts", "part"]) (sc := defScope s_kind_in) (by decide +kernel)) (fun _ _ _ _ _ => (pg_name (i := 5) sc_kind_in.nd rfl (Or.inl rfl))) (fun _ _ _ _ _ => pts_nil) (fun _ _ _ _ _ => (pe_own G_kind_in pb_kind_in (hr.mono (by first | decide | exact Nat.le_refl _ | omega)) rfl pass0 (pa_cons (pv 5) (pa_cons (pv 1) pa_nil)))))
   (pss_cons (ps_if (PW.pt (pw_or (pt_cmpR (kIn (K := K) rfl) pe_non (pv 4) (by rfl)) (pw_or (pt_cmpR op_gt (pe_callB (kLenS (P := P) (w := w) rfl rfl) (by rfl) T.n_len (by decide +kernel) (pa_cons (pe_callTy (kSetS (P := P) (w := w) (K := K) rfl rfl rfl rfl) (by rfl) T.n_set (by decide +kernel) (pa_cons (pv 4) pa_nil)) pa_nil)) pe_int (nomark _)) (pw_or1 (PW.pt (pw_and (pt_cmpR op_notN (pv 2) pe_non (nomark _)) (pw_and1 (pt_cmpR (kNe (K := K) rfl hr.units) (pe_ix (kIx (K := K) rfl) (pv 4) pe_int (fun _ _ => rfl)) (pv 2) (nomark _))))))))) (pss_one (ps_ret pe_non)) pss_nil)
   (pss_one (ps_ret (pv 3)))))))), ?_⟩
    have vx : ∀ {G' σ'}, σ'[0]? = some (some x) → Ex G G' → Ev none (tVar 0) σ' G' (tV K d) := fun h e => ev_v h (hv.up e)
    have g0 := Go.refl kn
    cases hsz with
    | pl hp =>
      cases d with
      | str z =>
        have ex := hv.str
        subst ex
        refine q_when g0 (p := (· = true)) (et_b (ev_isiV (vx rfl (Ex.refl _)) ki_str)) (fun _ G2 H2 g2 _ => ?_) fun z => nomatch z
        have h2 := g2.kn.sub _ _ (g2.gg _ _ hka)
        refine ⟨_, rfl, a, rfl, .inl ⟨kvs, .inl h2⟩, _, rfl, _, .inl ⟨kvs, (Sum.inr z : Key), .inl h2, rfl, rfl⟩, k _ G2 H2 g2 ?_⟩
        rw [kindsV hk]
        exact u_is
      | bool b =>
        refine q_when g0 (p := (· = false)) (et_b (ev_isiV (vx rfl (Ex.refl _)) ki_str)) (fun z => nomatch z) fun _ G2 H2 g2 _ => ?_
        refine q_when g2 (p := (· = !false)) (et_not (et_b (ev_isiV (vx rfl g2.gg) ki_tup))) (fun _ G3 H3 g3 _ => ?_) fun z => nomatch z
        exact s_ret g3 (ev_if (p := (· = true)) (et_b (ev_callV1 (vx rfl g3.gg))) (fun _ => ev_k) fun z => nomatch z) k
      | int i =>
        refine q_when g0 (p := (· = false)) (et_b (ev_isiV (vx rfl (Ex.refl _)) ki_str)) (fun z => nomatch z) fun _ G2 H2 g2 _ => ?_
        refine q_when g2 (p := (· = !false)) (et_not (et_b (ev_isiV (vx rfl g2.gg) ki_tup))) (fun _ G3 H3 g3 _ => ?_) fun z => nomatch z
        exact s_ret g3 (ev_if (p := (· = false)) (et_b (ev_callV1 (vx rfl g3.gg))) (fun z => nomatch z) fun _ => ev_k) k
      | none => cases hp
      | list _ => cases hp
      | tuple _ => cases hp
      | dict _ => cases hp
    | @nd h ps m' hh hl hps =>
      obtain ⟨ra, kd, hra⟩ := T.hrow h hh
      refine q_when g0 (p := (· = false)) (et_b (ev_isiV (vx rfl (Ex.refl _)) ki_str)) (fun z => nomatch z) fun _ G2 H2 g2 _ => ?_
      refine q_when g2 (p := (· = !true)) (et_not (et_b (ev_isiV (vx rfl g2.gg) ki_tup))) (fun z => nomatch z) fun _ G3 H3 g3 _ => ?_
      have row : Ev none (tOp (rIxD K w) (tC (.ref ha)) (tOp (rIx K) (tVar 0) (tC (.int 0)))) (start ["term", "kinds", "taken", "made", "parts", "part"] [x, .ref a]) G3 (tIs (.ref ra)) :=
        ev_op2 ev_k (ev_ixT (i := 0) (vx rfl g3.gg) ev_k rfl).isStr (ro_q u_is fun _ _ _ _ _ q => ⟨ha, h, .ref ra, rfl, rfl, kd, q⟩)
      refine row G3 H3 (Ex.refl _) g3.kn _ fun v G4 H4 g34 w4 => ?_
      rw [w4.eq]
      refine ⟨ra, _, rfl, ex_t ex_nil hra, rfl, _, _, rfl, _, _, rfl, rfl, ?_⟩
      dsimp only
      have g4 := g3.trans g34
      have hv4 := hv.up g4.gg
      obtain ⟨ax, vs, rfl, hsa, hda⟩ := hv4.tup
      cases hda with
      | @cons v0 zs _ _ h0 hda =>
        have lz := dps_len hda
        refine q_asg (t := fun G v => ∃ p, v = .ref p ∧ G p = some (.lst ((ps.map (kindN j f)).map oV))) g4 (((en_lc (P := fun _ xs => xs = zs) (fun _ i _ acc => acc = ((ps.take i).map (kindN j f)).map oV) (ei_tup (K := K) (ev_sl1 (ev_x rfl) hsa) fun G' v e u => ?_) (fun _ => rfl) (fun _ _ _ _ _ _ h => h) (fun G' xs e hp => ⟨?_, rfl⟩) fun G' xs i z acc e hp hz la r => ?_).impN fun G' ys h => ?_).ev (P := fun _ ys => ys = (ps.map (kindN j f)).map oV) fun G' p ys e hp hy => ⟨p, rfl, by rw [hp, hy.now]⟩) fun r G5 H5 g5 _ w5 => ?_
        · obtain ⟨b, h1, h2⟩ := u.now
          exact ⟨b, zs, h1, h2, fun _ _ => rfl⟩
        · rw [hp.now, lz, hl]
          unfold hsz
          split <;> decide
        · rw [hp.now] at hz
          obtain ⟨di, hdi, hdz⟩ := dps_at' hda hz
          have hmem : di ∈ ps := List.mem_of_getElem? hdi
          refine ⟨(· = true), fun G2 H2 e2 kn2 Q2 q2 => q2 true G2 H2 (.refl kn2) rfl, fun _ G1 eG => ⟨tIs (oV (kindN j f di)), ev_call (ea_cons (ev_x rfl) (ea_cons (ev_x rfl) ea_nil)) fun G2 vs2 e2 al => ?_, fun G2 y e2 u => ?_⟩, fun z => nomatch z⟩
          · rw [all2 al]
            obtain ⟨mz, hmz, hle⟩ := szs_mem hps hmem
            have e4 := (e.trans eG).trans e2
            exact ⟨none, _, .inl rfl, ⟨rfl, z, di, a, kvs, f, rfl, ⟨.inl (dp_up e4 _ hdz), (sm_tup hsm).2 di (List.mem_cons_of_mem _ hmem)⟩, ⟨mz, hmz, by omega⟩, (g4.gg.trans e4) _ _ hka, hk, rfl⟩, fun _ _ _ w => w⟩
          · rw [u.eq, r, List.take_succ, hdi, List.map_append, List.map_append]
            rfl
        · obtain ⟨xs, hP, _, h1⟩ := h
          rw [h1, hP.now, lz, List.take_length]
        · obtain ⟨pp, rfl, hpp⟩ := w5.now
          show tSeq _ _ _ _ _
          have hlk : ps.length = 1 ∨ ps.length = 2 := by
            rw [hl]
            unfold hsz
            split
            · exact .inl rfl
            · exact .inr rfl
          rw [show kindN (j + 1) f (.tuple (.str h :: ps)) = comb h (ps.map (kindN j f)) from rfl] at k
          have hkl : (ps.map (kindN j f)).length = ps.length := List.length_map ..
          generalize ps.map (kindN j f) = ks at hpp k hkl
          rw [← hkl] at hlk
          have sq : ∀ {G'}, Ex G5 G' → SqL K G' pp (ks.map oV) := fun e => .of (e _ _ hpp)
          by_cases hn : none ∈ ks
          · refine q_when g5 (et_or (a := true) (b := true) (et_test (ev_to (ev_op2 ev_k (ev_x rfl) (ro_inL (sq (Ex.refl _)) rfl (flat_oV ks))) (inV_none hn))) fun z => nomatch z) (fun _ G6 H6 g6 _ => s_ret g6 ev_k fun v G7 H7 g7 u7 => ?_) fun z => nomatch z
            rw [comb_none hn] at k
            exact k v G7 H7 g7 u7
          · obtain ⟨zs, rfl⟩ := all_some hn
            have em : (zs.map some).map oV = zs.map V.str := by rw [List.map_map]; rfl
            rw [em] at hpp
            rw [List.length_map] at hlk
            have sz : ∀ {G'}, Ex G5 G' → SqL K G' pp (zs.map V.str) := fun e => .of (e _ _ hpp)
            obtain ⟨a0, r0, rfl⟩ : ∃ a0 r0, zs = a0 :: r0 := by
              cases zs with
              | nil => rcases hlk with q | q <;> cases q
              | cons x r => exact ⟨x, r, rfl⟩
            have l3 : (a0 :: r0).length ≤ 2 := by omega
            have le := L2.fm_le (a0 :: r0)
            have e2 : decide ((((SS.fmS (a0 :: r0) (a0 :: r0).length).length : Nat) : Int) > 1) = decide (∃ b ∈ r0, b ≠ a0) := by
              have q := fm_one (a := a0) (r := r0)
              by_cases c : ∃ b ∈ r0, b ≠ a0
              · have := q.mpr c
                rw [decide_eq_true c, decide_eq_true (by omega)]
              · have : ¬ 1 < (SS.fmS (a0 :: r0) (a0 :: r0).length).length := fun z => c (q.mp z)
                rw [decide_eq_false c, decide_eq_false (by omega)]
            have c2 : ∀ b : Bool, b = tkn h a0 → comb h ((a0 :: r0).map some) = if (decide (∃ b ∈ r0, b ≠ a0) || b) = true then none else some (hRow h).2 := fun b e => e ▸ comb_some h a0 r0
            refine q_when g5 (et_or (a := false) (et_test (ev_to (ev_op2 ev_k (ev_x rfl) (ro_inL (sz (Ex.refl _)) rfl (flat_strs _))) (inV_noneS _))) fun _ =>
              et_or (a := decide (∃ b ∈ r0, b ≠ a0)) (b := tkn h a0) (et_test (ev_to (ev_i0 (ev_lenSet (ev_setS (K := K) (zs := a0 :: r0) ((ev_x rfl).imp fun G' v e u => ?_) (by omega)) (by omega)) ev_k) e2)) fun _ => ?_) (fun hb G6 H6 g6 _ => s_ret g6 ev_k fun v G7 H7 g7 u7 => ?_) fun hb G6 H6 g6 _ => s_ret g6 (ev_x rfl) fun v G7 H7 g7 u7 => ?_
            · rw [u.eq]
              exact fun G'' e'' => ⟨pp, rfl, sz (e.trans e'')⟩
            · unfold tkn
              cases hq : (hRow h).1 with
              | none => exact et_and (a := false) (b := true) (et_test (ev_to (ev_op2 (ev_x rfl) ev_k ro_notN) rfl)) fun z => nomatch z
              | some t0 => exact (et_and (a := true) (b := !decide (a0 = t0)) (et_test (ev_to (ev_op2 (ev_x rfl) ev_k ro_notN) rfl)) fun _ => et_test (ev_op2 (ev_op2 (ev_x rfl) ev_k (ro_ixL (v := .str a0) (sz (Ex.refl _)) (at_of (j := 0) rfl rfl))) (ev_x rfl) (ro_neS rfl (ne_oV a0 t0)))).to rfl
            · refine k v G7 H7 g7 ?_
              rw [c2 _ rfl, if_pos (show (decide (∃ b ∈ r0, b ≠ a0) || tkn h a0) = true from hb.symm)]
              exact u7
            · refine k v G7 H7 g7 ?_
              rw [c2 _ rfl, if_neg (show ¬ (decide (∃ b ∈ r0, b ≠ a0) || tkn h a0) = true from fun z => by rw [show (decide (∃ b ∈ r0, b ≠ a0) || tkn h a0) = false from hb.symm] at z; cases z)]
              exact u7)
end
end K14
set_option Elab.async false
set_option linter.all false
set_option maxRecDepth 100000
set_option maxHeartbeats 4000000
namespace K14
open PySem L2 Ty
open Evl (Ex ex_l ex_t)
-- OV _law_is_sum: {"op:part == ():0": "(op_eqT0 (K := K) rfl hr.units)"}
abbrev s__law_heads : Stmt := top 45
theorem sc__law_heads : FnScope ["found", "head"] [] (defScope s__law_heads) := ⟨rfl, rfl, rfl, by decide +kernel, rfl, by decide +kernel, by decide +kernel⟩
theorem pb__law_heads : PosB "_law_heads" s__law_heads [] := fun _ _ _ _ _ _ us hl => match us, hl with | [], _ => rfl
abbrev s__law_is_sum : Stmt := top 46
theorem sc__law_is_sum : FnScope ["value", "waits", "count", "heads", "part", "plain", "row"] ["value"] (defScope s__law_is_sum) := ⟨rfl, rfl, rfl, by decide +kernel, rfl, by decide +kernel, by decide +kernel⟩
theorem pb__law_is_sum : PosB "_law_is_sum" s__law_is_sum ["value"] := fun _ _ _ _ _ _ us hl => match us, hl with | [_], _ => rfl
def rowH (h : Str) : T := fun G v => ∃ a, v = .ref a ∧ G a = some (.lst [.str h, oV (hRow h).1, .str (hRow h).2])
def pRows : PL := fun G xs => AllU G (heads.map rowH) xs
section
variable {K : PySem.W.Frag} {o : Option Addr} {σ : L2.St} {G : Hp} {ta tb tc : TE}
theorem ev_row {h : Str} {x y : V} (h1 : Ev o ta σ G (tIs (.str h))) (h2 : Ev o tb σ G (tIs x)) (h3 : Ev o tc σ G (tIs y)) (e1 : x = oV (hRow h).1) (e2 : y = .str (hRow h).2) : Ev o (tLst (tCons ta (tCons tb (tCons tc tNil)))) σ G (rowH h) :=
  (en_lst (ea_cons h1 (ea_cons h2 (ea_cons h3 ea_nil))) (by show 3 ≤ 100000; decide)).ev fun G' a xs e ha hp => ⟨a, rfl, by rw [ha, all3 hp.now, e1, e2]⟩
end
def h7 : List Str := ["plus", "minus", "times", "over", "rest", "least", "most"]
def h5 : List Str := ["less", "same", "and", "or", "not"]
theorem h7_row : ∀ h ∈ h7, hRow h = (some ("integer" : Str), ("integer" : Str)) := by decide +kernel
theorem heads_cat : h7 ++ h5 = heads := rfl
theorem wh_inR (d : PyData) : (wh d && inR d (-1000) 1000) = inR d (-1000) 1000 := by cases d <;> rfl
theorem inV_heads (h : Str) : inV (.str h) (heads.map V.str) = decide (h ∈ heads) := by
  unfold inV
  rw [List.any_map]
  by_cases c : h ∈ heads
  · rw [decide_eq_true c]
    exact List.any_eq_true.mpr ⟨h, c, beq_self_eq_true h⟩
  · rw [decide_eq_false c]
    exact List.any_eq_false.mpr fun x hx e => c (by
      have : x = h := beq_iff_eq.mp e
      exact this ▸ hx)
section
variable {P : Program} {w : World} {K : PySem.W.Frag} {mg : Str → Option Value} {base : Heap} {ga ha CS D : Addr} {es : Array DictEntry} {n : Nat}
def cHeads (o : Option Addr) (G : Hp) (vs : List V) (p : PL) : Prop := o = none ∧ vs = [] ∧ p = pRows
theorem ok_lheads (T : Txt4 K mg w ga ha es n) (d : Df K mg "_law_heads" s__law_heads) : Own P w K mg base CX0 1 "_law_heads" s__law_heads [] (spN cHeads) :=
  d.own fun f fd F => F.ok sc__law_heads (fun vs H Q E h => by obtain ⟨o, G, t, kn, ⟨_, rfl, _⟩, _⟩ := h; rfl) (fun cdv A outer s H vs Q E hr h => by
    obtain ⟨o, G, t, kn, ⟨rfl, rfl, rfl⟩, k⟩ := h
    refine ⟨_, (pss_cons (ps_setLc (i := 0) (own := [("head", 1)]) rfl sc__law_heads.nd rfl rfl (sw_true rfl rfl rfl (by decide +kernel)) (pi_listK (K := K) rfl (pe_lst (pa_cons pe_str (pa_cons pe_str (pa_cons pe_str (pa_cons pe_str (pa_cons pe_str (pa_cons pe_str (pa_cons pe_str pa_nil))))))))) (blkOk_by (own := [("head", 1)]) (N := ["found", "head"]) (sc := defScope s__law_heads) (by decide +kernel)) (fun _ _ _ _ _ => (pg_name (i := 1) sc__law_heads.nd rfl (Or.inl rfl))) (fun _ _ _ _ _ => pts_nil) (fun _ _ _ _ _ => (pe_lst (pa_cons (pv 1) (pa_cons pe_str (pa_cons pe_str pa_nil))))))
   (pss_one (ps_ret (pe_op (kAdd (K := K) rfl) (pv 0) (pe_lst (pa_cons (pe_lst (pa_cons pe_str (pa_cons pe_str (pa_cons pe_str pa_nil)))) (pa_cons (pe_lst (pa_cons pe_str (pa_cons pe_non (pa_cons pe_str pa_nil)))) (pa_cons (pe_lst (pa_cons pe_str (pa_cons pe_str (pa_cons pe_str pa_nil)))) (pa_cons (pe_lst (pa_cons pe_str (pa_cons pe_str (pa_cons pe_str pa_nil)))) (pa_cons (pe_lst (pa_cons pe_str (pa_cons pe_str (pa_cons pe_str pa_nil)))) pa_nil)))))))))), ?_⟩
    refine q_asg (t := fun G v => ∃ a xs, v = .ref a ∧ G a = some (.lst xs) ∧ AllU G (h7.map rowH) xs) (Go.refl kn) ((en_row (h7.map rowH) (ei_listN (P := fun _ xs => xs = h7.map V.str) ((en_lst (ea_cons ev_k (ea_cons ev_k (ea_cons ev_k (ea_cons ev_k (ea_cons ev_k (ea_cons ev_k (ea_cons ev_k ea_nil))))))) (by show 7 ≤ 100000; decide)).impN fun _ _ u => ?_) fun _ _ _ h => h) (fun _ => rfl) (by decide) (by decide) fun G' i z t e hz ht => ?_).ev fun G' a xs e ha hp => ⟨a, xs, rfl, ha, hp.now⟩) fun v G2 H2 g2 _ w2 => ?_
    · cases u with
      | cons a1 u => cases u with
        | cons a2 u => cases u with
          | cons a3 u => cases u with
            | cons a4 u => cases u with
              | cons a5 u => cases u with
                | cons a6 u => cases u with
                  | cons a7 u =>
                    cases u
                    rw [a1.eq, a2.eq, a3.eq, a4.eq, a5.eq, a6.eq, a7.eq]
                    rfl
    · rw [List.getElem?_map] at hz ht
      obtain ⟨h, hh, rfl⟩ := Option.map_eq_some_iff.mp hz
      rw [hh] at ht
      cases ht
      have q := h7_row h (List.mem_of_getElem? hh)
      exact ev_row (ev_x rfl) ev_k ev_k (by rw [q]; rfl) (by rw [q])
    · obtain ⟨a, xs, rfl, hx, hu⟩ := w2.now
      refine s_retN (P := pRows) g2 (en_catK (P := fun G' ys => AllU G' (h7.map rowH) ys) (P' := fun G' ys => AllU G' (h5.map rowH) ys) (ev_x rfl) (fun G' v e u => ⟨a, xs, u.eq, e _ _ hx, fun G'' e' => hu.up (e.trans e')⟩)
        (en_lst (ea_cons (ev_row ev_k ev_k ev_k rfl rfl) (ea_cons (ev_row ev_k ev_k ev_k rfl rfl) (ea_cons (ev_row ev_k ev_k ev_k rfl rfl) (ea_cons (ev_row ev_k ev_k ev_k rfl rfl) (ea_cons (ev_row ev_k ev_k ev_k rfl rfl) ea_nil))))) (by show 5 ≤ 100000; decide))
        (fun G' ys h => by rw [h.now.len]; decide) (fun G' ys h => by rw [h.now.len]; decide) fun G' ys zs h1 h2 => fun G'' e => ?_) fun p ys G3 H3 g3 h0 h3 n3 w3 => k p ys G3 H3 g3 h0 h3 n3 w3
      exact (h1 G'' e).app (h2 G'' e))
theorem ok_lis_sum (T : Txt4 K mg w ga ha es n) (d : Df K mg "_law_is_sum" s__law_is_sum) (G__law_heads : Own P w K mg base CX0 1 "_law_heads" s__law_heads [] (spN cHeads)) (G__law_whole : Own P w K mg base CX0 1 "_law_whole" s__law_whole ["value"] (spC (cV1 K wh)))
    (G__law_is_name : Own P w K mg base CX0 2 "_law_is_name" s__law_is_name ["value"] (spC (cVal K nameV))) : Own P w K mg base CX0 3 "_law_is_sum" s__law_is_sum ["value"] (spC (cN K isSum)) :=
  d.own fun f fd F => F.ok sc__law_is_sum (fun vs H Q E h => by obtain ⟨o, G, t, kn, ⟨_, x, d, rfl, _⟩, _⟩ := h; rfl) (fun cdv A outer s H vs Q E hr h => by
    obtain ⟨o, G, t, kn, ⟨rfl, x, d, rfl, ⟨hv, hsm⟩, rfl⟩, k⟩ := h
    refine ⟨_, (pss_cons (ps_par3 (i := 1) (j := 2) (l := 3) rfl sc__law_is_sum.nd rfl rfl rfl (by decide) (by decide) (by decide) rfl rfl rfl (pa_cons (pe_lst (pa_cons (pv 0) pa_nil)) (pa_cons pe_int (pa_cons (pe_lc (own := [("row", 6)]) rfl sc__law_is_sum.nd (pi_listK (K := K) rfl (pe_own0 G__law_heads pb__law_heads (hr.mono (by first | decide | exact Nat.le_refl _ | omega)) rfl pass0)) (blkOk_by (own := [("row", 6)]) (N := ["value", "waits", "count", "heads", "part", "plain", "row"]) (sc := defScope s__law_is_sum) (by decide +kernel)) (fun _ _ _ _ _ => (pg_name (i := 6) sc__law_is_sum.nd rfl (Or.inl rfl))) (fun _ _ _ _ _ => pts_nil) (fun _ _ _ _ _ => (pe_ix (kIx (K := K) rfl) (pv 6) pe_int (fun _ _ => rfl)))) pa_nil))) (by rfl))
   (pss_cons (ps_while PassesOwn.never (PW.pt (pw_and (pt_cmpR (kNe (K := K) rfl hr.units) (pv 1) (pe_lst pa_nil) (nomark _)) (pw_and1 (pt_cmpR op_le (pv 2) pe_int (nomark _))))) (pss_cons (ps_set (i := 4) sc__law_is_sum.nd rfl (Or.inl rfl) (pe_bm0 PySem.F.plainAttrs_list PySem.F.slot_list_pop PySem.F.type_list_pop mt_pop (pv 1)))
   (pss_cons (ps_set (i := 2) sc__law_is_sum.nd rfl (Or.inl rfl) (pe_op (kAdd (K := K) rfl) (pv 2) pe_int))
   (pss_cons (ps_set (i := 5) sc__law_is_sum.nd rfl (Or.inl rfl) (pe_or (pe_callB (kIsi (K := K) rfl) (by rfl) T.n_isinstance (by decide +kernel) (pa_cons (pv 4) (pa_cons (pe_bltn (v := .ty "bool") (by rfl) T.n_bool (by decide +kernel) rfl) pa_nil))) (pe_or (pe_and (pe_own G__law_whole pb__law_whole (hr.mono (by first | decide | exact Nat.le_refl _ | omega)) rfl pass0 (pa_cons (pv 4) pa_nil)) (pe_one (pe_chain op_le op_le (pe_un un_neg pe_int) (pv 4) pe_int))) (pe_one (pe_own G__law_is_name pb__law_is_name (hr.mono (by first | decide | exact Nat.le_refl _ | omega)) rfl pass0 (pa_cons (pv 4) pa_nil))))))
   (pss_one (ps_if (pt_not (pt_val (pv 5))) (pss_cons (ps_if (PW.pt (pw_or (pt_not (pt_val (pe_callB (kIsi (K := K) rfl) (by rfl) T.n_isinstance (by decide +kernel) (pa_cons (pv 4) (pa_cons (pe_bltn (v := .ty "tuple") (by rfl) T.n_tuple (by decide +kernel) rfl) pa_nil))))) (pw_or (pt_cmpR (op_eqT0 (K := K) rfl hr.units) (pv 4) (pe_tup pa_nil) (nomark _)) (pw_or (pt_not (pt_val (pe_callB (kIsi (K := K) rfl) (by rfl) T.n_isinstance (by decide +kernel) (pa_cons (pe_ix (kIx (K := K) rfl) (pv 4) pe_int (fun _ _ => rfl)) (pa_cons (pe_bltn (v := .ty "str") (by rfl) T.n_str (by decide +kernel) rfl) pa_nil))))) (pw_or (pt_cmpR (kNotIn (K := K) rfl) (pe_ix (kIx (K := K) rfl) (pv 4) pe_int (fun _ _ => rfl)) (pv 3) (by rfl)) (pw_or1 (pt_cmpR (kNe (K := K) rfl hr.units) (pe_callB (kLen (K := K) rfl) (by rfl) T.n_len (by decide +kernel) (pa_cons (pv 4) pa_nil)) (pe_ifExp (pt_cmpR (kEq (K := K) rfl hr.units) (pe_ix (kIx (K := K) rfl) (pv 4) pe_int (fun _ _ => rfl)) pe_str (nomark _)) pe_int pe_int) (nomark _)))))))) (pss_one (ps_ret pe_bl)) pss_nil)
   (pss_one (ps_expr (pe_bm PySem.F.plainAttrs_list PySem.F.slot_list_extend PySem.F.type_list_extend mt_extA (pv 1) (pa_cons (pe_callTy (kList (K := K) rfl) (by rfl) T.n_list (by decide +kernel) (pa_cons (pe_slice (kSl (K := K) rfl) (pv 4) (po_some pe_int) po_none) pa_nil)) pa_nil))))) pss_nil))))))
   (pss_one (ps_ret (pe_and (pe_cmpR (kEq (K := K) rfl hr.units) (pv 1) (pe_lst pa_nil) (nomark _)) (pe_one (pe_cmpR op_le (pv 2) pe_int (nomark _)))))))), ?_⟩
    have tH : ∀ G', Ex G G' → Ev none (tLc (iList K (tCall (spN cHeads) [] E0 tNil)) (gName 6) tYes (tOp (rIx K) (tVar 6) (tC (.int 0))) [6]) (start ["value", "waits", "count", "heads", "part", "plain", "row"] [x]) G' (tKL (heads.map V.str)) := fun G' e => by
      refine ((en_lc (P := pRows) (fun xs i _ acc => acc = (heads.take i).map V.str) (ei_listN (en_call ea_nil fun G2 vs e2 al => ?_) fun _ _ _ h => h) (fun _ => rfl) (fun _ _ _ _ _ _ h => h) (fun G2 xs e2 h => ⟨by rw [h.now.len]; decide, rfl⟩) fun G2 xs i z acc e2 h hz _ r => ?_).impN (P' := fun _ ys => ys = heads.map V.str) fun G2 ys h => ?_).ev fun G2 a ys _ ha hp => ⟨a, rfl, by rw [ha, hp.now]⟩
      · cases al
        exact ⟨none, _, .inl rfl, ⟨rfl, rfl, rfl⟩, fun _ _ _ h => h⟩
      · obtain ⟨t, ht, ut⟩ := h.now.at hz
        rw [List.getElem?_map] at ht
        obtain ⟨hd, hh, rfl⟩ := Option.map_eq_some_iff.mp ht
        obtain ⟨ra, rfl, hra⟩ := ut.now
        refine ⟨(· = true), fun G2 H2 e2 kn2 Q2 q2 => q2 true G2 H2 (.refl kn2) rfl, fun _ G1 e1 => ⟨tIs (.str hd), ev_op2 (ev_x rfl) ev_k (ro_ixL (.of (e1 _ _ hra)) (at_of (j := 0) rfl rfl)), fun G3 y e3 u => ?_⟩, fun z => nomatch z⟩
        rw [u.eq, r, List.take_succ, hh, List.map_append]
        rfl
      · obtain ⟨xs, hp, _, r⟩ := h
        rw [r, hp.now.len, List.length_map, List.take_length]
    refine q_par3N (P := fun _ xs => xs = [x]) (Go.refl kn) ((en_lst (ea_cons (ev_x rfl) ea_nil) (by show 1 ≤ 100000; decide)).impN fun _ _ u => all1 u) (fun _ _ => ev_k) tH fun l xs v hv3 G2 H2 g2 _ hl0 hob hl2 gl2 hxs hc hH => ?_
    rw [hc.eq]
    obtain ⟨hd, rfl, hhd⟩ := hH.now
    have exs := hxs.now
    subst exs
    refine q_whileA g2 (fun m σ' G' H' => ∃ (xs : List V) (ds : List PyData) (c : Nat) (y y2 z6 : Option V), σ' = [some x, some (.ref l), some (.int c), some (.ref hd), y, y2, z6] ∧ G' l = none ∧ H' l = some (.lst xs) ∧ St1 K G' xs ds ∧ (good 0 [d] ↔ good c ds) ∧ xs.length ≤ 2 * c + 1 ∧ c ≤ 41 ∧ m = 42 - c) 42
      ⟨[x], [d], 0, _, _, _, rfl, gl2, hl2, .cons ⟨hv.up g2.gg, hsm⟩ .nil, Iff.rfl, Nat.le_refl _, by decide, rfl⟩ fun m σ' G' H' g' e' i => ?_
    obtain ⟨xs, ds, c, y, y2, z6, rfl, gl, hl, st, hg, hcl, hc41, rfl⟩ := i
    have hnil : ∀ {G3}, Ex (upd G' l (.lst xs)) G3 → EvT none (tTest (tOp (rNeG K) (tVar 1) (tLst tNil))) [some x, some (.ref l), some (.int c), some (.ref hd), y, y2, z6] G3 (· = !xs.isEmpty) := fun e3 => et_test (ev_op (s := tIs (.ref l)) (ev_x rfl) ev_nil fun G4 a b e hy hz => by
      obtain ⟨a2, rfl, ha2⟩ := hz.now
      rw [hy.eq]
      exact ro_neN (.of (e _ _ (e3 _ _ upd_same))) (.of ha2))
    refine ⟨(· = (!xs.isEmpty && decide ((c : Int) ≤ 40))), at_L g'.kn gl hl hob (et_and (hnil (Ex.refl _)) fun _ => et_test (ev_i0 (ev_x rfl) ev_k)), fun hb G1 H1 g1' g1 => ?_, fun hb G1 H1 g1' g1 => ?_⟩
    · have hb0 := Bool.and_eq_true_iff.mp hb.symm
      have hc40 : c ≤ 40 := by
        have := of_decide_eq_true hb0.2
        omega
      have hne : xs ≠ [] := by
        intro z
        rw [z] at hb0
        cases hb0.1
      obtain ⟨xs', v, ds', dv, rfl, rfl, st', hv', hsv⟩ := paired_snoc st hne
      have hl1 := g1.kp l _ hl hob
      have gl1 : G1 l = none := g1.nw l gl (by rw [hl]; simp)
      have len1 : (xs' ++ [v]).length = xs'.length + 1 := by simp
      rw [len1] at hcl
      have hlen := Paired.length st'
      refine q_pop (y := v) g1' hl0 gl1 hob hl1 (by rw [len1, Nat.add_sub_cancel]; simp) (ev_x rfl) fun G3 H3 g3 g13 gl3 => ?_
      rw [List.dropLast_concat] at g3 ⊢
      have hv3 : Vl K G3 v dv := hv'.up (g1.gg.trans g13.gg)
      have st3 : St1 K G3 xs' ds' := St1.up (G := G') st' (g1.gg.trans g13.gg)
      refine q_asg g3 (ev_addI (ev_x rfl) ev_k) fun cv G4 H4 g4 g34 hcv => ?_
      rw [hcv.eq]
      have hl4 := g34.kp l _ upd_same hob
      have gl4 : G4 l = none := g34.nw l gl3 (by rw [upd_same]; simp)
      have no : ¬ good c (ds' ++ [dv]) → isSum d = false := fun z => isSum_f fun z2 => z (hg.mp z2)
      have hv4 := hv3.up g34.gg
      have vp4 : ∀ {G7 σ}, σ[4]? = some (some v) → Ex G4 G7 → Ev none (tVar 4) σ G7 (tV K dv) := fun h e => ev_v h (hv4.up e)
      refine q_asg (t := tIs (.bl (plain dv))) g4 (ev_or (a := isBool dv) (ev_isiV (vp4 rfl (Ex.refl _)) ki_bool) fun _ => ev_or (a := inR dv (-1000) 1000) (ev_to (ev_and (a := wh dv) (b := inR dv (-1000) 1000) (ev_callV1 (vp4 rfl (Ex.refl _))) fun hw => ?_) (wh_inR dv)) fun _ => ev_isName hsv hv4 (ev_x rfl)) fun pv G5 H5 g5 g45 hpv => ?_
      · obtain ⟨i, rfl⟩ := wh_int hw
        exact ev_chain2 (f := fun i j => decide (i ≤ j)) (f' := fun i j => decide (i ≤ j)) (ev_neg ev_k) (vp4 rfl (Ex.refl _)).isInt ev_k
      rw [hpv.eq]
      have hl5 := g45.kp l _ hl4 hob
      have gl5 : G5 l = none := g45.nw l gl4 (by rw [hl4]; simp)
      have hv5 : Vl K G5 v dv := hv4.up g45.gg
      have st5 := st3.up (g34.gg.trans g45.gg)
      have eG5 := e'.trans (g1.gg.trans (g13.gg.trans (g34.gg.trans g45.gg)))
      refine s_if (p := (· = !plain dv)) g5 (et_not (et_b (ev_x rfl))) (fun hp G6 H6 g6 g56 => ?_) fun hp G6 H6 g6 g56 => ?_
      · have hpl : plain dv = false := by
          have hp' : true = !plain dv := hp
          revert hp'
          cases plain dv <;> decide
        have hl6 := g56.kp l _ hl5 hob
        have gl6 : G6 l = none := g56.nw l gl5 (by rw [hl5]; simp)
        have hv6 := hv5.up g56.gg
        have st6 := st5.up g56.gg
        have bad : (∀ h ps, dv = .tuple (.str h :: ps) → ¬(h ∈ heads ∧ ps.length = hsz h)) → isSum d = false := fun z => no (good_no hpl z)
        have vp : ∀ {G7 σ}, σ[4]? = some (some v) → Ex G6 G7 → Ev none (tVar 4) σ G7 (tV K dv) := fun h e => ev_v h (hv6.up e)
        cases et : isTup dv with
        | false =>
          rw [bad fun h ps e => by rw [e] at et; cases et] at k
          exact q_when g6 (p := (· = (!false || true))) (et_or (et_not (et_b (ev_isiV (vp rfl (Ex.refl _)) (by rw [ki_tup, et])))) fun z => nomatch z) (fun _ G7 H7 g7 _ => s_ret g7 ev_k k) fun z => nomatch z
        | true =>
          cases dv with
          | tuple dps =>
            have eq0 : ∀ σ, σ[4]? = some (some v) → EvT none (tTest (tOp (rEqT0 K) (tVar 4) (tTup tNil))) σ G6 (· = dps.isEmpty) := fun σ h4 => et_test (ev_op (s := tV K (.tuple dps)) (u := tV K (.tuple [])) (vp h4 (Ex.refl _)) (ev_tupV (ds := []) ea_nil (fun _ z => nomatch z) (by decide)) fun G7 x' y' e hx hy => ro_q u_is fun G8 H8 e8 kn8 Q q => by
              obtain ⟨a1, xs1, rfl, q1, q2⟩ := hx.now.tup
              obtain ⟨a2, xs2, rfl, q3, q4⟩ := hy.now.tup
              have e9 := e8.trans kn8.sub
              exact ⟨dps, .tup (ex_t e9 q1) (dps_up e9 _ q2), .tup (ex_t e9 q3) (dps_up e9 _ q4), sm_can hsv, q⟩)
            cases dps with
            | nil =>
              rw [bad fun h ps e => by cases e] at k
              exact q_when g6 (p := (· = (!true || (true || true)))) (et_or (et_not (et_b (ev_isiV (vp rfl (Ex.refl _)) ki_tup))) fun _ => et_or (eq0 _ rfl) fun z => nomatch z) (fun _ G7 H7 g7 _ => s_ret g7 ev_k k) fun z => nomatch z
            | cons d0 ps =>
              have tt := fun {σ} (h4 : σ[4]? = some (some v)) => et_not (et_b (ev_isiV (vp (σ := σ) h4 (Ex.refl _)) (ki_tup (d := .tuple (d0 :: ps)))))
              cases e0 : isStr d0 with
              | false =>
                rw [bad fun h ps e => by cases e; cases e0] at k
                exact q_when g6 (p := (· = (!true || (false || (!false || true))))) (et_or (tt rfl) fun _ => et_or (eq0 _ rfl) fun _ => et_or (et_not (et_b (ev_isiV (ev_ixT (i := 0) (vp rfl (Ex.refl _)) ev_k rfl) (by rw [ki_str, e0])))) fun z => nomatch z) (fun _ G7 H7 g7 _ => s_ret g7 ev_k k) fun z => nomatch z
              | true =>
                obtain ⟨h, rfl⟩ : ∃ h, d0 = .str h := by
                  cases d0 with
                  | str h => exact ⟨h, rfl⟩
                  | _ => cases e0
                have hh6 : SqL K G6 hd (heads.map V.str) := .of ((g1.gg.trans (g13.gg.trans (g34.gg.trans (g45.gg.trans g56.gg)))) _ _ (e' _ _ hhd))
                have t4 := fun {σ} (h4 : σ[4]? = some (some v)) (h3 : σ[3]? = some (some (.ref hd))) => et_test (ev_op2 (ev_ixT (o := none) (i := 0) (vp (σ := σ) h4 (Ex.refl _)) ev_k rfl).isStr (ev_x h3) (ro_inL (neg := true) hh6 rfl (flat_strs _)))
                have l5 := fun {σ} (h4 : σ[4]? = some (some v)) => et_test (ev_op2 (ev_lenT (o := none) (vp (σ := σ) h4 (Ex.refl _))) (ev_if (t := tIs (.int ((hsz h : Int) + 1))) (ta := tC (.int 2)) (tb := tC (.int 3)) (et_test (ev_op2 (ev_ixT (i := 0) (vp h4 (Ex.refl _)) ev_k rfl).isStr ev_k (ro_eqS (K := K) (y := .str "not") (b := decide (h = "not")) rfl (eq_str h "not")))) (fun z => by
                  have z' := of_decide_eq_true z.symm
                  have : hsz h = 1 := by unfold hsz; rw [if_pos z']
                  rw [this]; exact ev_k) fun z => by
                  have z' := of_decide_eq_false z.symm
                  have : hsz h = 2 := by unfold hsz; rw [if_neg z']
                  rw [this]; exact ev_k) (ro_neS (K := K) (b := !decide (ps.length = hsz h)) rfl (by
                    congr 1
                    by_cases z : ps.length = hsz h
                    · rw [decide_eq_true z]
                      exact decide_eq_true (by rw [List.length_cons, z]; congr 1)
                    · rw [decide_eq_false z]
                      exact decide_eq_false fun e => z (by have e' := V.int.inj e; rw [List.length_cons] at e'; omega))))
                have ein : (if true then !inV (.str h) (heads.map V.str) else inV (.str h) (heads.map V.str)) = !decide (h ∈ heads) := by
                  show (!inV _ _) = _
                  rw [inV_heads]
                refine q_when g6 (p := (· = (!true || (false || (!true || (!decide (h ∈ heads) || !decide (ps.length = hsz h))))))) (et_or (tt rfl) fun _ => et_or (eq0 _ rfl) fun _ => et_or (et_not (et_b (ev_isiV (ev_ixT (i := 0) (vp rfl (Ex.refl _)) ev_k rfl) ki_str))) fun _ => et_or ((t4 rfl rfl).to ein) fun _ => l5 rfl) (fun hb G7 H7 g7 _ => ?_) fun hb G7 H7 g7 g67 => ?_
                · have hb' : true = (!decide (h ∈ heads) || !decide (ps.length = hsz h)) := hb
                  rw [bad fun h' ps' e => by
                    cases e
                    intro z
                    rw [decide_eq_true z.1, decide_eq_true z.2] at hb'
                    cases hb'] at k
                  exact s_ret g7 ev_k k
                · have hb' : false = (!decide (h ∈ heads) || !decide (ps.length = hsz h)) := hb
                  have hh : h ∈ heads := by
                    by_cases z : h ∈ heads
                    · exact z
                    · rw [decide_eq_false z] at hb'
                      cases hb'
                  have hl' : ps.length = hsz h := by
                    by_cases z : ps.length = hsz h
                    · exact z
                    · rw [decide_eq_false z] at hb'
                      revert hb'
                      cases decide (h ∈ heads) <;> exact fun q => nomatch q
                  have h2 : hsz h ≤ 2 := by unfold hsz; split <;> omega
                  have hv8 := hv6.up g67.gg
                  have st8 := st6.up g67.gg
                  obtain ⟨a, vs, rfl, hsa, hda⟩ := hv8.tup
                  cases hda with
                  | @cons v0 zs _ _ h0 hda =>
                    have hl8 := g67.kp l _ hl6 hob
                    have gl8 : G7 l = none := g67.nw l gl6 (by rw [hl6]; simp)
                    have lz := dps_len hda
                    refine s_extN (P := fun _ ws => ws = zs) g7 hl0 gl8 hob hl8 (ev_x rfl) (fun G9 e9 => en_listT ((ev_sl1 (ev_x rfl) (ex_t e9 hsa)).imp fun G10 r e10 u G11 e11 => ?_)) (by omega) (fun G9 ws e => by rw [e.now]; omega) fun ws G9 H9 g9 g89 gl9 hw => ?_
                    · obtain ⟨b, h1, h2⟩ := u G11 e11
                      exact ⟨b, zs, h1, h2, fun _ _ => rfl⟩
                    · have ew := hw.now
                      subst ew
                      exact ⟨42 - (c + 1), G9, by omega, g9, eG5.trans (g56.gg.trans (g67.gg.trans g89.gg)), xs' ++ ws, ds' ++ ps, c + 1, _, _, _, rfl, gl9, upd_same,
                        paired_app (st8.up g89.gg) (dps_st (dps_up g89.gg _ hda) fun d' hd' => (sm_tup hsv).2 d' (List.mem_cons_of_mem _ hd')), hg.trans (good_nd hh hl'), by rw [List.length_append]; omega, by omega, rfl⟩
          | _ => cases et
      · have hpl : plain dv = true := by
          have hp' : false = !plain dv := hp
          revert hp'
          cases plain dv <;> decide
        have hl6 := g56.kp l _ hl5 hob
        have gl6 : G6 l = none := g56.nw l gl5 (by rw [hl5]; simp)
        exact ⟨42 - (c + 1), G6, by omega, g6, eG5.trans g56.gg, xs', ds', c + 1, _, _, _, rfl, gl6, hl6, st5.up g56.gg, hg.trans (good_pl hpl), by omega, by omega, rfl⟩
    · have hl1 := g1.kp l _ hl hob
      have gl1 : G1 l = none := g1.nw l gl (by rw [hl]; simp)
      have fin : isSum d = (xs.isEmpty && decide ((c : Int) ≤ 40)) := by
        cases xs with
        | nil =>
          cases st
          by_cases z : c ≤ 40
          · rw [isSum_t (hg.mpr ⟨0, .nil, by omega⟩), decide_eq_true (by omega)]; rfl
          · rw [isSum_f fun z2 => by
              obtain ⟨t, _, h2⟩ := hg.mp z2
              omega, decide_eq_false (by omega)]
            rfl
        | cons v vs =>
          have : decide ((c : Int) ≤ 40) = false := hb.symm
          have hc' := of_decide_eq_false this
          rw [isSum_f fun z2 => by
              obtain ⟨t, _, h2⟩ := hg.mp z2
              omega]
          rfl
      rw [fin] at k
      refine s_retL g1' gl1 hl1 hob (ev_and (a := xs.isEmpty) (b := decide ((c : Int) ≤ 40)) (ev_op (s := tIs (.ref l)) (ev_x rfl) ev_nil fun G4 a b e hy hz => ?_) fun _ => ev_i0 (ev_x rfl) ev_k) fun G2 H2 g2 => k _ G2 H2 g2 u_is
      obtain ⟨a2, rfl, ha2⟩ := hz.now
      rw [hy.eq]
      exact ro_eqN (.of (e _ _ upd_same)) (.of ha2))
end
end K14
set_option Elab.async false
set_option linter.all false
set_option maxRecDepth 100000
set_option maxHeartbeats 4000000
namespace K14
open PySem L2 Ty
open Evl (Ex ex_l ex_t)
-- OV _law_kind: {"iter:term[1:]": "(pi_tupK (K := K) rfl (pe_slice (kSl (K := K) rfl) (pv 0) (po_some pe_int) po_none))", "kinds.get(term)": "(pe_dget1 (Nat.lt_of_le_of_lt (Nat.add_le_add_left (by decide) _) hr.units) (pv 1) (pv 0) ⟨rfl, rfl, rfl, rfl⟩)"}
abbrev s__law_kind : Stmt := top 47
theorem sc__law_kind : FnScope ["term", "kinds", "parts", "row", "part"] ["term", "kinds"] (defScope s__law_kind) := ⟨rfl, rfl, rfl, by decide +kernel, rfl, by decide +kernel, by decide +kernel⟩
theorem pb__law_kind : PosB "_law_kind" s__law_kind ["term", "kinds"] := fun _ _ _ _ _ _ us hl => match us, hl with | [_, _], _ => rfl
theorem heads_one : ∀ h ∈ heads, heads.filter (· == h) = [h] := by decide +kernel
/-- some part is not what the head takes -/
def lk (h : Str) (zs : List Str) : Bool := match (hRow h).1 with
  | none => false
  | some t => !((zs.map V.str).filter fun x => !decide (x = V.str t)).isEmpty
theorem lk_some {h t : Str} (zs : List Str) (e : (hRow h).1 = some t) : lk h zs = zs.any fun x => !decide (x = t) := by
  unfold lk
  rw [e]
  show (!((zs.map V.str).filter fun x => !decide (x = V.str t)).isEmpty) = _
  induction zs with
  | nil => rfl
  | cons z zs ih =>
    rw [List.map_cons, List.filter_cons, List.any_cons, eq_str]
    cases decide (z = t) with
    | true => exact ih
    | false => rfl
theorem tkn_some {h t : Str} (a : Str) (e : (hRow h).1 = some t) : tkn h a = !decide (a = t) := by unfold tkn; rw [e]
theorem lk_one (h a : Str) : (decide (∃ b ∈ ([] : List Str), b ≠ a) || tkn h a) = (lk h [a] || !decide (a = a)) := by
  have h1 : decide (∃ b ∈ ([] : List Str), b ≠ a) = false := decide_eq_false fun ⟨_, h, _⟩ => nomatch h
  have h2 : (!decide (a = a)) = false := by rw [decide_eq_true rfl]; rfl
  rw [h1, h2, Bool.or_false, Bool.false_or]
  cases hq : (hRow h).1 with
  | none => unfold tkn lk; rw [hq]
  | some t => rw [tkn_some a hq, lk_some [a] hq, List.any_cons, List.any_nil, Bool.or_false]
theorem lk_two (h a b : Str) : (decide (∃ c ∈ [b], c ≠ a) || tkn h a) = (lk h [a, b] || !decide (a = b)) := by
  have h1 : decide (∃ c ∈ [b], c ≠ a) = !decide (a = b) := by
    by_cases e : a = b
    · rw [decide_eq_true e, decide_eq_false (fun ⟨c, hc, hn⟩ => hn (by rw [List.mem_singleton.mp hc, e]))]; rfl
    · rw [decide_eq_false e, decide_eq_true ⟨b, List.mem_singleton.mpr rfl, fun z => e z.symm⟩]; rfl
  rw [h1]
  cases hq : (hRow h).1 with
  | none =>
    have e1 : tkn h a = false := by unfold tkn; rw [hq]
    have e2 : lk h [a, b] = false := by unfold lk; rw [hq]
    rw [e1, e2, Bool.or_false, Bool.false_or]
  | some t =>
    rw [tkn_some a hq, lk_some [a, b] hq, List.any_cons, List.any_cons, List.any_nil, Bool.or_false]
    by_cases e : a = b
    · subst e
      cases decide (a = t) <;> cases decide (a = a) <;> rfl
    · rw [decide_eq_false e]
      simp
section
variable {P : Program} {w : World} {K : PySem.W.Frag} {mg : Str → Option Value} {base : Heap} {ga ha CS D : Addr} {es : Array DictEntry} {n : Nat}
theorem ok_lkind (T : Txt4 K mg w ga ha es n) (d : Df K mg "_law_kind" s__law_kind) (G__law_heads : Own P w K mg base CX0 1 "_law_heads" s__law_heads [] (spN cHeads)) : ∀ k, Own P w K mg base CX0 (k + 1) "_law_kind" s__law_kind ["term", "kinds"] (spC (cKind K k))
  | 0 => d.own fun f fd F => ⟨fun vs H Q E h => by
      obtain ⟨o, G, t, _, ⟨_, x, d, a, kvs, f, _, _, ⟨m, hm, h0⟩, _⟩, _⟩ := h
      have := sz_pos hm
      omega, fun A outer s H args us vs Q E hr he hb hv h => by
      obtain ⟨o, G, t, _, ⟨_, x, d, a, kvs, f, _, _, ⟨m, hm, h0⟩, _⟩, _⟩ := h
      have := sz_pos hm
      omega⟩
  | j + 1 => d.own fun f fd F => F.ok sc__law_kind (fun vs H Q E h => by obtain ⟨o, G, t, _, ⟨_, x, d, a, kvs, f, rfl, _⟩, _⟩ := h; rfl) (fun cdv A outer s H vs Q E hr h => by
    have G__law_kind := ok_lkind T d G__law_heads j
    obtain ⟨o, G, t, kn, ⟨rfl, x, d, a, kvs, f, rfl, ⟨hv, hsm⟩, ⟨m, hsz, hmj⟩, hka, hk, rfl⟩, k⟩ := h
    refine ⟨_, (pss_cons (ps_if (pt_val (pe_callB (kIsi (K := K) rfl) (by rfl) T.n_isinstance (by decide +kernel) (pa_cons (pv 0) (pa_cons (pe_bltn (v := .ty "str") (by rfl) T.n_str (by decide +kernel) rfl) pa_nil)))) (pss_one (ps_ret (pe_dget1 (Nat.lt_of_le_of_lt (Nat.add_le_add_left (by decide) _) hr.units) (pv 1) (pv 0) ⟨rfl, rfl, rfl, rfl⟩))) pss_nil)
   (pss_cons (ps_if (pt_not (pt_val (pe_callB (kIsi (K := K) rfl) (by rfl) T.n_isinstance (by decide +kernel) (pa_cons (pv 0) (pa_cons (pe_bltn (v := .ty "tuple") (by rfl) T.n_tuple (by decide +kernel) rfl) pa_nil))))) (pss_one (ps_ret (pe_ifExp (pt_val (pe_callB (kIsi (K := K) rfl) (by rfl) T.n_isinstance (by decide +kernel) (pa_cons (pv 0) (pa_cons (pe_bltn (v := .ty "bool") (by rfl) T.n_bool (by decide +kernel) rfl) pa_nil)))) pe_str pe_str))) pss_nil)
   (pss_cons (ps_setLc (i := 2) (own := [("part", 4)]) rfl sc__law_kind.nd rfl rfl (sw_true rfl rfl rfl (by decide +kernel)) (pi_tupK (K := K) rfl (pe_slice (kSl (K := K) rfl) (pv 0) (po_some pe_int) po_none)) (blkOk_by (own := [("part", 4)]) (N := ["term", "kinds", "parts", "row", "part"]) (sc := defScope s__law_kind) (by decide +kernel)) (fun _ _ _ _ _ => (pg_name (i := 4) sc__law_kind.nd rfl (Or.inl rfl))) (fun _ _ _ _ _ => pts_nil) (fun _ _ _ _ _ => (pe_own G__law_kind pb__law_kind (hr.mono (by first | decide | exact Nat.le_refl _ | omega)) rfl pass0 (pa_cons (pv 4) (pa_cons (pv 1) pa_nil)))))
   (pss_cons (ps_set (i := 3) sc__law_kind.nd rfl (Or.inr rfl) (pe_ix (kIx (K := K) rfl) (pe_lc (own := [("row", 3)]) rfl sc__law_kind.nd (pi_listK (K := K) rfl (pe_own0 G__law_heads pb__law_heads (hr.mono (by first | decide | exact Nat.le_refl _ | omega)) rfl pass0)) (blkOk_by (own := [("row", 3)]) (N := ["term", "kinds", "parts", "row", "part"]) (sc := defScope s__law_kind) (by decide +kernel)) (fun _ _ _ _ _ => (pg_name (i := 3) sc__law_kind.nd rfl (Or.inl rfl))) (fun _ _ _ _ _ => (pts_one (pt_cmpR (kEq (K := K) rfl hr.units) (pe_ix (kIx (K := K) rfl) (pv 3) pe_int (fun _ _ => rfl)) (pe_ix (kIx (K := K) rfl) (pv 0) pe_int (fun _ _ => rfl)) (nomark _)))) (fun _ _ _ _ _ => (pv 3))) pe_int (fun _ _ => rfl)))
   (pss_cons (ps_if (PW.pt (pw_or (pt_cmpR (kIn (K := K) rfl) pe_non (pv 2) (by rfl)) (pw_or (PW.pt (pw_and (pt_cmpR op_notN (pe_ix (kIx (K := K) rfl) (pv 3) pe_int (fun _ _ => rfl)) pe_non (nomark _)) (pw_and1 (pt_cmpR (kNe (K := K) rfl hr.units) (pe_lc (own := [("part", 4)]) rfl sc__law_kind.nd (pi_listK (K := K) rfl (pv 2)) (blkOk_by (own := [("part", 4)]) (N := ["term", "kinds", "parts", "row", "part"]) (sc := defScope s__law_kind) (by decide +kernel)) (fun _ _ _ _ _ => (pg_name (i := 4) sc__law_kind.nd rfl (Or.inl rfl))) (fun _ _ _ _ _ => (pts_one (pt_cmpR (kNe (K := K) rfl hr.units) (pv 4) (pe_ix (kIx (K := K) rfl) (pv 3) pe_int (fun _ _ => rfl)) (nomark _)))) (fun _ _ _ _ _ => (pv 4))) (pe_lst pa_nil) (nomark _))))) (pw_or1 (pt_cmpR (kNe (K := K) rfl hr.units) (pe_ix (kIx (K := K) rfl) (pv 2) pe_int (fun _ _ => rfl)) (pe_ix (kIx (K := K) rfl) (pv 2) (pe_un un_neg pe_int) (fun _ _ => rfl)) (nomark _)))))) (pss_one (ps_ret pe_non)) pss_nil)
   (pss_one (ps_ret (pe_ix (kIx (K := K) rfl) (pv 3) pe_int (fun _ _ => rfl))))))))), ?_⟩
    have vx : ∀ {G' σ'}, σ'[0]? = some (some x) → Ex G G' → Ev none (tVar 0) σ' G' (tV K d) := fun h e => ev_v h (hv.up e)
    have g0 := Go.refl kn
    cases hsz with
    | pl hp =>
      cases d with
      | str z =>
        have ex := hv.str
        subst ex
        refine q_when g0 (p := (· = true)) (et_b (ev_isiV (vx rfl (Ex.refl _)) ki_str)) (fun _ G2 H2 g2 _ => ?_) fun z => nomatch z
        have h2 := g2.kn.sub _ _ (g2.gg _ _ hka)
        refine ⟨_, rfl, a, rfl, .inl ⟨kvs, .inl h2⟩, _, rfl, _, .inl ⟨kvs, (Sum.inr z : Key), .inl h2, rfl, rfl⟩, k _ G2 H2 g2 ?_⟩
        rw [kindsV hk]
        exact u_is
      | bool b =>
        refine q_when g0 (p := (· = false)) (et_b (ev_isiV (vx rfl (Ex.refl _)) ki_str)) (fun z => nomatch z) fun _ G2 H2 g2 _ => ?_
        refine q_when g2 (p := (· = !false)) (et_not (et_b (ev_isiV (vx rfl g2.gg) ki_tup))) (fun _ G3 H3 g3 _ => ?_) fun z => nomatch z
        exact s_ret g3 (ev_if (p := (· = true)) (et_b (ev_isiV (vx rfl g3.gg) ki_bool)) (fun _ => ev_k) fun z => nomatch z) k
      | int i =>
        refine q_when g0 (p := (· = false)) (et_b (ev_isiV (vx rfl (Ex.refl _)) ki_str)) (fun z => nomatch z) fun _ G2 H2 g2 _ => ?_
        refine q_when g2 (p := (· = !false)) (et_not (et_b (ev_isiV (vx rfl g2.gg) ki_tup))) (fun _ G3 H3 g3 _ => ?_) fun z => nomatch z
        exact s_ret g3 (ev_if (p := (· = false)) (et_b (ev_isiV (vx rfl g3.gg) ki_bool)) (fun z => nomatch z) fun _ => ev_k) k
      | none => cases hp
      | list _ => cases hp
      | tuple _ => cases hp
      | dict _ => cases hp
    | @nd h ps m' hh hl hps =>
      refine q_when g0 (p := (· = false)) (et_b (ev_isiV (vx rfl (Ex.refl _)) ki_str)) (fun z => nomatch z) fun _ G2 H2 g2 _ => ?_
      refine q_when g2 (p := (· = !true)) (et_not (et_b (ev_isiV (vx rfl g2.gg) ki_tup))) (fun z => nomatch z) fun _ G4 H4 g4 _ => ?_
      have hv4 := hv.up g4.gg
      obtain ⟨ax, vs, rfl, hsa, hda⟩ := hv4.tup
      cases hda with
      | @cons v0 zs _ _ h0 hda =>
        have lz := dps_len hda
        refine q_asg (t := fun G v => ∃ p, v = .ref p ∧ G p = some (.lst ((ps.map (kindN j f)).map oV))) g4 (((en_lc (P := fun _ xs => xs = zs) (fun _ i _ acc => acc = ((ps.take i).map (kindN j f)).map oV) (ei_tup (K := K) (ev_sl1 (ev_x rfl) hsa) fun G' v e u => ?_) (fun _ => rfl) (fun _ _ _ _ _ _ h => h) (fun G' xs e hp => ⟨?_, rfl⟩) fun G' xs i z acc e hp hz la r => ?_).impN fun G' ys h => ?_).ev (P := fun _ ys => ys = (ps.map (kindN j f)).map oV) fun G' p ys e hp hy => ⟨p, rfl, by rw [hp, hy.now]⟩) fun r G5 H5 g5 _ w5 => ?_
        · obtain ⟨b, h1, h2⟩ := u.now
          exact ⟨b, zs, h1, h2, fun _ _ => rfl⟩
        · rw [hp.now, lz, hl]
          unfold hsz
          split <;> decide
        · rw [hp.now] at hz
          obtain ⟨di, hdi, hdz⟩ := dps_at' hda hz
          have hmem : di ∈ ps := List.mem_of_getElem? hdi
          refine ⟨(· = true), fun G2 H2 e2 kn2 Q2 q2 => q2 true G2 H2 (.refl kn2) rfl, fun _ G1 eG => ⟨tIs (oV (kindN j f di)), ev_call (ea_cons (ev_x rfl) (ea_cons (ev_x rfl) ea_nil)) fun G2 vs2 e2 al => ?_, fun G2 y e2 u => ?_⟩, fun z => nomatch z⟩
          · rw [all2 al]
            obtain ⟨mz, hmz, hle⟩ := szs_mem hps hmem
            have e4 := (e.trans eG).trans e2
            exact ⟨none, _, .inl rfl, ⟨rfl, z, di, a, kvs, f, rfl, ⟨.inl (dp_up e4 _ hdz), (sm_tup hsm).2 di (List.mem_cons_of_mem _ hmem)⟩, ⟨mz, hmz, by omega⟩, (g4.gg.trans e4) _ _ hka, hk, rfl⟩, fun _ _ _ w => w⟩
          · rw [u.eq, r, List.take_succ, hdi, List.map_append, List.map_append]
            rfl
        · obtain ⟨xs, hP, _, h1⟩ := h
          rw [h1, hP.now, lz, List.take_length]
        · obtain ⟨pp, rfl, hpp⟩ := w5.now
          have hlk : ps.length = 1 ∨ ps.length = 2 := by
            rw [hl]
            unfold hsz
            split
            · exact .inl rfl
            · exact .inr rfl
          rw [show kindN (j + 1) f (.tuple (.str h :: ps)) = comb h (ps.map (kindN j f)) from rfl] at k
          have hkl : (ps.map (kindN j f)).length = ps.length := List.length_map ..
          generalize ps.map (kindN j f) = ks at hpp k hkl
          rw [← hkl] at hlk
          have vx5 : ∀ {G' σ'}, σ'[0]? = some (some (.ref ax)) → Ex G5 G' → Ev none (tVar 0) σ' G' (tV K (.tuple (.str h :: ps))) := fun h e => ev_v h (hv.up (g5.gg.trans e))
          refine q_asg (t := rowH h) g5 (ev_op (s := fun G v => ∃ p xs, v = .ref p ∧ G p = some (.lst xs) ∧ AllU G [rowH h] xs) (u := tIs (.int 0)) (((en_lc (P := pRows) (fun xs i G' acc => AllU G' (((heads.take i).filter (· == h)).map rowH) acc) (ei_listN (en_call ea_nil fun G2 vs e2 al => ?_) fun _ _ _ h => h) (fun _ => rfl) (fun _ _ _ _ _ e h => h.up e) (fun G2 xs e2 h => ⟨by rw [h.now.len]; decide, .nil⟩) fun G2 xs i z acc e2 hp hz _ r => ?_).impN (P' := fun G' ys => AllU G' [rowH h] ys) fun G2 ys h2 => ?_).ev fun G2 a ys _ ha hp => ⟨a, ys, rfl, ha, hp.now⟩) ev_k fun G' x' y' e hx hy => ?_) fun r G6 H6 g6 g56 w6 => ?_
          · cases al
            exact ⟨none, _, .inl rfl, ⟨rfl, rfl, rfl⟩, fun _ _ _ h => h⟩
          · obtain ⟨t, ht, ut⟩ := hp.now.at hz
            rw [List.getElem?_map] at ht
            obtain ⟨hd, hh', rfl⟩ := Option.map_eq_some_iff.mp ht
            obtain ⟨ra, rfl, hra⟩ := ut.now
            have e1 : heads.take (i + 1) = heads.take i ++ [hd] := by rw [List.take_succ, hh']; rfl
            refine ⟨(· = decide (hd = h)), et_test (ev_op2 (ev_op2 (ev_x rfl) ev_k (ro_ixL (v := .str hd) (.of hra) (at_of (j := 0) rfl rfl))) (ev_ixT (i := 0) (vx5 rfl e2) ev_k rfl).isStr (ro_eqS rfl (eq_str hd h))), fun hb G1 e1' => ⟨rowH hd, ev_var rfl (ut.up e1'), fun G3 y e3 u => ?_⟩, fun hb G1 e1' => ?_⟩
            · have q := of_decide_eq_true hb.symm
              rw [e1, List.filter_append, List.map_append]
              refine (r.up (e1'.trans e3)).app ?_
              rw [show [hd].filter (· == h) = [hd] from by simp [q]]
              exact .cons u .nil
            · have q := of_decide_eq_false hb.symm
              rw [e1, List.filter_append, show [hd].filter (· == h) = [] from by simp [q], List.append_nil]
              exact r.up e1'
          · obtain ⟨xs, hp, _, r⟩ := h2
            rw [hp.now.len, List.length_map, List.take_length, heads_one h hh] at r
            exact r
          · obtain ⟨p, xs, rfl, hx1, hx2⟩ := hx.now
            rw [hy.eq]
            cases hx2 with
            | cons u1 r1 =>
              cases r1
              exact fun G1 H1 e1 kn1 Q q => ro_ixL (K := K) (.of hx1) (at_of (j := 0) rfl rfl) G1 H1 e1 kn1 Q fun v G2 H2 g w => q v G2 H2 g (by
                rw [w.eq]
                exact u1.up (e1.trans g.gg))
          · obtain ⟨rr, rfl, hrr⟩ := w6.now
            have r1 : ∀ {G' σ'}, σ'[3]? = some (some (.ref rr)) → Ex G6 G' → Ev none (tOp (rIx K) (tVar 3) (tC (.int 1))) σ' G' (tIs (oV (hRow h).1)) := fun h3 e => ev_op2 (ev_x h3) ev_k (ro_ixL (.of (e _ _ hrr)) (at_of (j := 1) rfl rfl))
            have hpp6 := g56.gg _ _ hpp
            by_cases hn : none ∈ ks
            · refine q_when g6 (et_or (a := true) (b := true) (et_test (ev_to (ev_op2 ev_k (ev_x rfl) (ro_inL (.of hpp6) rfl (flat_oV ks))) (inV_none hn))) fun z => nomatch z) (fun _ G6 H6 g6 _ => s_ret g6 ev_k fun v G7 H7 g7 u7 => ?_) fun z => nomatch z
              rw [comb_none hn] at k
              exact k v G7 H7 g7 u7
            · obtain ⟨zs2, rfl⟩ := all_some hn
              have em : (zs2.map some).map oV = zs2.map V.str := by rw [List.map_map]; rfl
              rw [em] at hpp6
              rw [List.length_map] at hlk
              obtain ⟨a0, r0, last, rfl, hlast, hc⟩ : ∃ a0 r0 last, zs2 = a0 :: r0 ∧ atI (zs2.map V.str) (-1) = some (.str last) ∧ ((decide (∃ b ∈ r0, b ≠ a0) || tkn h a0) = (lk h (a0 :: r0) || !decide (a0 = last))) := by
                rcases hlk with e | e
                · cases zs2 with
                  | nil => cases e
                  | cons a0 r => cases r with
                    | nil => exact ⟨a0, [], a0, rfl, atI_last [] _, lk_one h a0⟩
                    | cons b r => cases e
                · cases zs2 with
                  | nil => cases e
                  | cons a0 r => cases r with
                    | nil => cases e
                    | cons b r => cases r with
                      | nil => exact ⟨a0, [b], b, rfl, atI_last [V.str a0] _, lk_two h a0 b⟩
                      | cons c r => cases e
              have cc : comb h ((a0 :: r0).map some) = if (lk h (a0 :: r0) || !decide (a0 = last)) = true then none else some (hRow h).2 := hc ▸ comb_some h a0 r0
              have l3 : (a0 :: r0).length ≤ 2 := by omega
              refine q_when g6 (et_or (a := false) (et_test (ev_to (ev_op2 ev_k (ev_x rfl) (ro_inL (.of hpp6) rfl (flat_strs _))) (inV_noneS _))) fun _ => et_or (a := lk h (a0 :: r0)) (b := !decide (a0 = last)) ?_ fun _ =>
                et_test (ev_op2 (ev_op2 (ev_x rfl) ev_k (ro_ixL (v := .str a0) (.of hpp6) (at_of (j := 0) rfl rfl))) (ev_op2 (ev_x rfl) (ev_neg ev_k) (ro_ixL (v := .str last) (.of hpp6) hlast)) (ro_neS rfl (ne_oV a0 last)))) (fun hb G7 H7 g7 g67 => s_ret g7 ev_k fun v G8 H8 g8 u8 => ?_) fun hb G7 H7 g7 g67 => s_ret g7 (ev_op2 (ev_x rfl) ev_k (ro_ixL (v := .str (hRow h).2) (.of (g67.gg _ _ hrr)) (at_of (j := 2) rfl rfl))) fun v G8 H8 g8 u8 => ?_
              · unfold lk
                have r1' := r1 (G' := G6) (σ' := [some (.ref ax), some (.ref a), some (.ref pp), some (.ref rr), none]) rfl (Ex.refl _)
                cases hq : (hRow h).1 with
                | none =>
                  rw [hq] at r1'
                  exact et_and (a := false) (b := true) (et_test (ev_to (ev_op2 r1' ev_k ro_notN) rfl)) fun z => nomatch z
                | some t0 =>
                  rw [hq] at r1'
                  refine (et_and (a := true) (b := !(((a0 :: r0).map V.str).filter fun x => !decide (x = V.str t0)).isEmpty) (et_test (ev_to (ev_op2 r1' ev_k ro_notN) rfl)) fun _ => et_test (ev_op (s := tKL (((a0 :: r0).map V.str).filter fun x => !decide (x = V.str t0)))
                    ((en_pick (zs := (a0 :: r0).map V.str) (fun x => !decide (x = V.str t0)) (ei_list (K := K) (ev_x rfl) fun G' v e u => ⟨pp, _, u.eq, .of (e _ _ hpp6), fun _ _ => rfl⟩) (fun _ => rfl) (by rw [List.length_map]; omega) (fun G' x e hx => ?_) fun G' x e hx => ev_x rfl).ev fun G' a xs e ha hp => ⟨a, rfl, by rw [ha, hp.now]⟩) ev_nil fun G' x y e hx hy => ?_)).to rfl
                  · obtain ⟨z, _, rfl⟩ := List.mem_map.mp hx
                    have r2 := r1 (G' := G') (σ' := [some (.ref ax), some (.ref a), some (.ref pp), some (.ref rr), some (.str z)]) rfl e
                    rw [hq] at r2
                    exact et_test (ev_op2 (ev_x rfl) r2 (ro_neS rfl rfl))
                  · obtain ⟨a1, rfl, ha1⟩ := hx.now
                    obtain ⟨a2, rfl, ha2⟩ := hy.now
                    exact ro_neN (.of ha1) (.of ha2)
              · refine k v G8 H8 g8 ?_
                rw [cc, if_pos (show (lk h (a0 :: r0) || !decide (a0 = last)) = true from hb.symm)]
                exact u8
              · refine k v G8 H8 g8 ?_
                rw [cc, if_neg (show ¬ (lk h (a0 :: r0) || !decide (a0 = last)) = true from fun z => by rw [show (lk h (a0 :: r0) || !decide (a0 = last)) = false from hb.symm] at z; cases z)]
                exact u8)
end
end K14
set_option Elab.async false
set_option linter.all false
set_option maxRecDepth 100000
set_option maxHeartbeats 4000000
namespace K14
open PySem L2 Ty
open Evl (Ex ex_l ex_t)
abbrev s__law_sum : Stmt := top 48
theorem sc__law_sum : FnScope ["box", "kind", "known", "left", "names", "way", "inner", "head", "one", "row"] ["box", "kind", "known", "left"] (defScope s__law_sum) := ⟨rfl, rfl, rfl, by decide +kernel, rfl, by decide +kernel, by decide +kernel⟩
theorem pb__law_sum : PosB "_law_sum" s__law_sum ["box", "kind", "known", "left"] := fun _ _ _ _ _ _ us hl => match us, hl with | [_, _, _, _], _ => rfl
abbrev s__law_wild : Stmt := top 49
theorem sc__law_wild : FnScope ["box", "left", "way", "head", "one"] ["box", "left"] (defScope s__law_wild) := ⟨rfl, rfl, rfl, by decide +kernel, rfl, by decide +kernel, by decide +kernel⟩
theorem pb__law_wild : PosB "_law_wild" s__law_wild ["box", "left"] := fun _ _ _ _ _ _ us hl => match us, hl with | [_, _], _ => rfl
/-! ### what sums are -/
theorem okn_mono : ∀ {n : Nat} {d : PyData}, okn n d = true → okn (n + 1) d = true
  | 0, _, h => by cases h
  | n + 1, d, h => by
    cases d with
    | list ds =>
      obtain ⟨h1, h2⟩ := Bool.and_eq_true_iff.mp h
      exact Bool.and_eq_true_iff.mpr ⟨h1, List.all_eq_true.mpr fun d hd => okn_mono (List.all_eq_true.mp h2 d hd)⟩
    | tuple ds =>
      obtain ⟨h1, h2⟩ := Bool.and_eq_true_iff.mp h
      exact Bool.and_eq_true_iff.mpr ⟨h1, List.all_eq_true.mpr fun d hd => okn_mono (List.all_eq_true.mp h2 d hd)⟩
    | dict es =>
      obtain ⟨h1, h2⟩ := Bool.and_eq_true_iff.mp h
      exact Bool.and_eq_true_iff.mpr ⟨h1, List.all_eq_true.mpr fun d hd => okn_mono (List.all_eq_true.mp h2 d hd)⟩
    | _ => rfl
theorem okn_le {n m : Nat} {d : PyData} (h : okn n d = true) (hl : n ≤ m) : okn m d = true := by
  induction hl with
  | refl => exact h
  | step _ ih => exact okn_mono ih
theorem okm_mono : ∀ {n : Nat} {d : PyData}, okm n d = true → okm (n + 1) d = true
  | 0, _, h => by cases h
  | n + 1, d, h => by
    cases d with
    | list ds =>
      obtain ⟨h1, h2⟩ := Bool.and_eq_true_iff.mp h
      exact Bool.and_eq_true_iff.mpr ⟨h1, List.all_eq_true.mpr fun d hd => okm_mono (List.all_eq_true.mp h2 d hd)⟩
    | tuple ds =>
      obtain ⟨h1, h2⟩ := Bool.and_eq_true_iff.mp h
      exact Bool.and_eq_true_iff.mpr ⟨h1, List.all_eq_true.mpr fun d hd => okm_mono (List.all_eq_true.mp h2 d hd)⟩
    | str z => exact h
    | _ => rfl
theorem okm_le {n m : Nat} {d : PyData} (h : okm n d = true) (hl : n ≤ m) : okm m d = true := by
  induction hl with
  | refl => exact h
  | step _ ih => exact okm_mono ih
theorem let_ok : ∀ c ∈ letters.cps.toList, c < 0x110000 := by decide +kernel
theorem name_strOk {z : Str} (h : nameV (.str z) = true) : PyData.strOk z = true ∧ z.length ≤ 8 := by
  obtain ⟨h1, _⟩ := Bool.and_eq_true_iff.mp h
  obtain ⟨h2, h3⟩ := Bool.and_eq_true_iff.mp h1
  obtain ⟨_, h4⟩ := Bool.and_eq_true_iff.mp h2
  have h4' := of_decide_eq_true h4
  refine ⟨?_, by omega⟩
  unfold PyData.strOk
  rw [Array.all_eq_true_iff_forall_mem]
  intro c hc
  have q := List.all_eq_true.mp h3 (okC c) (List.mem_map.mpr ⟨c, Array.mem_toList_iff.mpr hc, rfl⟩)
  exact decide_eq_true (let_ok c (of_decide_eq_true q))
theorem heads_strOk : ∀ h ∈ heads, PyData.strOk h = true ∧ h.length ≤ 8 := by decide +kernel
/-- all that is asked of a value -/
structure Fx (m : Nat) (d : PyData) : Prop where
  can : d.canLay0 = true
  dep : d.depth ≤ m
  okn : okn m d = true
  okm : okm m d = true
theorem Fx.le {m n : Nat} {d : PyData} (h : Fx m d) (hl : m ≤ n) : Fx n d := ⟨h.can, Nat.le_trans h.dep hl, okn_le h.okn hl, okm_le h.okm hl⟩
theorem fx_str {m : Nat} {z : Str} (h : PyData.strOk z = true) (hl : z.length ≤ 1000) : Fx (m + 1) (.str z) := ⟨by simpa only [PyData.canLay0] using h, by show PyData.depth (.str z) ≤ m + 1; simp [PyData.depth], rfl, decide_eq_true hl⟩
theorem fx_plain {d : PyData} (h : plain d = true) : Fx 1 d := by
  cases d with
  | str z =>
    obtain ⟨h1, h2⟩ := name_strOk h
    exact fx_str h1 (by omega)
  | bool b => exact ⟨by simp only [PyData.canLay0], by simp [PyData.depth], rfl, rfl⟩
  | int i => exact ⟨by simp only [PyData.canLay0], by simp [PyData.depth], rfl, rfl⟩
  | _ => cases h
theorem fx_tup {m : Nat} : ∀ {ds : List PyData}, (∀ d ∈ ds, Fx m d) → ds.length ≤ 900 → Fx (m + 1) (.tuple ds) := fun {ds} h hl => by
  have hc : PyData.canLayAll0 ds = true := by
    clear hl
    induction ds with
    | nil => simp only [PyData.canLayAll0]
    | cons d ds ih =>
      simp only [PyData.canLayAll0, Bool.and_eq_true]
      exact ⟨(h d (List.mem_cons_self ..)).can, ih fun d' h' => h d' (List.mem_cons_of_mem _ h')⟩
  have hd : PyData.depthAll ds ≤ m := by
    clear hl hc
    induction ds with
    | nil => simp only [PyData.depthAll]; exact Nat.zero_le _
    | cons d ds ih =>
      simp only [PyData.depthAll]
      exact Nat.max_le.mpr ⟨(h d (List.mem_cons_self ..)).dep, ih fun d' h' => h d' (List.mem_cons_of_mem _ h')⟩
  exact ⟨by simpa only [PyData.canLay0] using hc, by simp only [PyData.depth]; omega, Bool.and_eq_true_iff.mpr ⟨decide_eq_true hl, List.all_eq_true.mpr fun d hd => (h d hd).okn⟩, Bool.and_eq_true_iff.mpr ⟨decide_eq_true hl, List.all_eq_true.mpr fun d hd => (h d hd).okm⟩⟩
theorem hsz_le (h : Str) : hsz h ≤ 2 ∧ 1 ≤ hsz h := by unfold hsz; split <;> omega
theorem szs_all : ∀ (N : Nat), (∀ {d : PyData} {m : Nat}, m ≤ N → Sz d m → Fx m d) → ∀ {ds : List PyData} {m : Nat}, m ≤ N → Szs ds m → ∀ d ∈ ds, Fx m d
  | N, _, [], _, _, _, _, h => nomatch h
  | N, ih, e :: ds, _, hm, .cons a r, d, h => by
    rcases List.mem_cons.mp h with rfl | h
    · exact (ih (by omega) a).le (Nat.le_add_right ..)
    · exact (szs_all N ih (by omega) r d h).le (Nat.le_add_left ..)
theorem sz_fx' : ∀ (N : Nat) {d : PyData} {m : Nat}, m ≤ N → Sz d m → Fx m d
  | 0, _, _, hm, h => by
    have := sz_pos h
    omega
  | N + 1, _, _, hm, h => by
    cases h with
    | pl h => exact fx_plain h
    | @nd h ps m hh hl hs =>
      have h1 := hsz_le h
      have hm1 := szs_len hs
      refine fx_tup (fun d hd => ?_) (by rw [List.length_cons]; omega)
      rcases List.mem_cons.mp hd with rfl | hd
      · obtain ⟨q1, q2⟩ := heads_strOk h hh
        exact (fx_str (m := 0) q1 (by omega)).le (by omega)
      · exact szs_all N (fun hm h => sz_fx' N hm h) (by omega) hs d hd
theorem sz_fx {d : PyData} {m : Nat} (h : Sz d m) : Fx m d := sz_fx' m (Nat.le_refl _) h
theorem Fx.sm {m : Nat} {d : PyData} (h : Fx m d) : Sm1 d := ⟨⟨m, h.okm⟩, .inr h.can⟩
theorem Fx.sh {m : Nat} {d : PyData} (h : Fx m d) (hm : m ≤ 64) : SeqAt.shaped d = true := Bool.and_eq_true_iff.mpr ⟨h.can, decide_eq_true (Nat.le_trans h.dep hm)⟩
theorem sz_sum {d : PyData} {m : Nat} (h : Sz d m) (hm : m ≤ 40) : isSum d = true := isSum_t ⟨m, .cons (b := 0) h .nil, by omega⟩
section
variable {P : Program} {w : World} {K : PySem.W.Frag} {mg : Str → Option Value} {base : Heap} {ga ha CS D : Addr} {es : Array DictEntry} {n : Nat}
/-- a sum of at most m parts -/
def tSz (K : PySem.W.Frag) (m : Nat) : T := fun G v => ∃ d k, Vl K G v d ∧ Sz d k ∧ k ≤ m
/-- how many parts may be drawn -/
def sbs : List Nat := [1, 1, 1, 3, 4, 5, 7, 8, 9, 10, 11, 12, 15, 16, 17, 18, 19, 20, 21, 22, 23, 24, 25, 26, 31, 32, 33, 34, 35, 36, 37, 38]
def sb (l : Nat) : Nat := sbs.getD l 0
theorem sb_ok : ∀ l, 3 ≤ l → l < 32 → 1 ≤ sb l ∧ 1 + sb (l - 1) ≤ sb l ∧ 1 + 2 * sb (l / 2) ≤ sb l := fun l h1 h2 => by
  have : ∀ l : Fin 32, 3 ≤ l.val → 1 ≤ sb l.val ∧ 1 + sb (l.val - 1) ≤ sb l.val ∧ 1 + 2 * sb (l.val / 2) ≤ sb l.val := by decide +kernel
  exact this ⟨l, h2⟩ h1
theorem sb_pos : ∀ l, l < 32 → 1 ≤ sb l ∧ sb l ≤ 38 := fun l h => by
  have : ∀ l : Fin 32, 1 ≤ sb l.val ∧ sb l.val ≤ 38 := by decide +kernel
  exact this ⟨l, h⟩
/-! drawing -/
section
variable {o : Option Addr} {σ : L2.St} {G Ge He H : Hp} {ta tl ti te tb : TE} {tt tt' : TT} {x : V} {s t : T}
/-- .. texts -/
theorem ev_not1 {m : Nat} (h1 : Ev o ta σ G (tIs (.str "not"))) (h2 : Ev o tb σ G (tSz K m)) : Ev o (tTup (tCons ta (tCons tb tNil))) σ G (tSz K (1 + m)) :=
  (ev_tup (K := K) (ts := [tIs (.str "not"), tSz K m]) (ea_cons h1 (ea_cons h2 ea_nil)) (by show 2 ≤ 100000; decide)).imp fun G2 r _ u => by
    obtain ⟨a, vs, rfl, hs, hu⟩ := u.now
    cases hu with
    | cons a1 hu => cases hu with
      | cons a2 hu =>
        cases hu
        rw [a1.eq] at hs
        obtain ⟨d, k, hd, hz, hk⟩ := a2.now
        have hf := sz_fx hz
        exact fun G3 e3 => ⟨.tuple [.str "not", d], k + 1, .inl (.tup (ex_t e3 hs) (.cons (.str _) (.cons ((hd.up e3).dpc hf.can) .nil))), .nd (h := "not") (ps := [d]) (by decide +kernel) rfl (.cons (b := 0) hz .nil), by omega⟩
theorem ev_two {m m2 : Nat} {h : Str} (hh : h ∈ heads) (hn : hsz h = 2) (h1 : Ev o ta σ G (tIs (.str h))) (h2 : Ev o tb σ G (tSz K m)) (h3 : Ev o te σ G (tSz K m2)) : Ev o (tTup (tCons ta (tCons tb (tCons te tNil)))) σ G (tSz K (1 + (m + m2))) :=
  (ev_tup (K := K) (ts := [tIs (.str h), tSz K m, tSz K m2]) (ea_cons h1 (ea_cons h2 (ea_cons h3 ea_nil))) (by show 3 ≤ 100000; decide)).imp fun G2 r _ u => by
    obtain ⟨a, vs, rfl, hs, hu⟩ := u.now
    cases hu with
    | cons a1 hu => cases hu with
      | cons a2 hu => cases hu with
        | cons a3 hu =>
          cases hu
          rw [a1.eq] at hs
          obtain ⟨d, k, hd, hz, hk⟩ := a2.now
          obtain ⟨d2, k2, hd2, hz2, hk2⟩ := a3.now
          exact fun G3 e3 => ⟨.tuple [.str h, d, d2], k + k2 + 1, .inl (.tup (ex_t e3 hs) (.cons (.str _) (.cons ((hd.up e3).dpc (sz_fx hz).can) (.cons ((hd2.up e3).dpc (sz_fx hz2).can) .nil)))), .nd (ps := [d, d2]) hh hn.symm (.cons hz (.cons (b := 0) hz2 .nil)), by omega⟩
end
theorem wild_plain : ∀ d ∈ ([.int 0, .int 1, .int (-1000), .int 1000, .bool true, .bool false, .str "n", .str "m", .str "t", .str "num", .str "zz", .int 7] : List PyData), plain d = true := fun d hd => by
  simp only [List.mem_cons, List.not_mem_nil, or_false] at hd
  rcases hd with rfl | rfl | rfl | rfl | rfl | rfl | rfl | rfl | rfl | rfl | rfl | rfl <;> kernel_rfl
def tNm : T := fun _ v => ∃ z : Str, v = .str z ∧ nameV (.str z) = true
def h11 : List Str := ["plus", "minus", "times", "over", "rest", "least", "most", "less", "same", "and", "or"]
theorem h11_ok : ∀ h ∈ h11, h ∈ heads ∧ hsz h = 2 := by decide +kernel
def rowD (r : Str × Str) : PyData := .tuple [.str r.1, .str r.2]
def cLSum (K : PySem.W.Frag) (N : Nat) (o : Option Addr) (G : Hp) (vs : List V) (t : T) : Prop := ∃ (b : Addr) (kd : Str) (y : V) (rows : List (Str × Str)) (l : Nat), o = some b ∧ vs = [.ref b, .str kd, y, .int l] ∧ Vl K G y (.list (rows.map rowD)) ∧ (∀ r ∈ rows, nameV (.str r.1) = true) ∧ rows.length ≤ 100 ∧
  (l < N ∧ l < 32) ∧ t = tSz K (sb l)
def cLWild (K : PySem.W.Frag) (N : Nat) (o : Option Addr) (G : Hp) (vs : List V) (t : T) : Prop := ∃ (b : Addr) (l : Nat), o = some b ∧ vs = [.ref b, .int l] ∧ (l < N ∧ l < 32) ∧ t = tSz K (sb l)
theorem ok_lwild (T : Txt4 K mg w ga ha es n) (d : Df K mg "_law_wild" s__law_wild) (G__law_take : Own P w K mg base CX0 1 "_law_take" s__law_take ["box", "many"] (spC cTake)) : ∀ N, Own P w K mg base CX0 (N + 1) "_law_wild" s__law_wild ["box", "left"] (spC (cLWild K N))
  | 0 => d.own fun f fd F => ⟨fun vs H Q E h => by
      obtain ⟨o, G, t, _, ⟨b, l, _, _, h0, _⟩, _⟩ := h
      exact absurd h0.1 (Nat.not_lt_zero _), fun A outer s H args us vs Q E hr he hb hv h => by
      obtain ⟨o, G, t, _, ⟨b, l, _, _, h0, _⟩, _⟩ := h
      exact absurd h0.1 (Nat.not_lt_zero _)⟩
  | N + 1 => d.own fun f fd F => F.ok sc__law_wild (fun vs H Q E h => by obtain ⟨o, G, t, _, ⟨b, l, _, rfl, _⟩, _⟩ := h; rfl) (fun cdv A outer s H vs Q E hr h => by
    have G__law_wild := ok_lwild T d G__law_take N
    obtain ⟨o, G, t, kn, ⟨b, l, rfl, rfl, ⟨hl, h32⟩, rfl⟩, k⟩ := h
    refine ⟨_, (pss_cons (ps_set (i := 2) sc__law_wild.nd rfl (Or.inl rfl) (pe_own G__law_take pb__law_take (hr.mono (by first | decide | exact Nat.le_refl _ | omega)) rfl pass0 (pa_cons (pv 0) (pa_cons pe_int pa_nil))))
   (pss_cons (ps_if (PW.pt (pw_or (pt_cmpR gLt (pv 1) pe_int (nomark _)) (pw_or1 (pt_cmpR gLt (pv 2) pe_int (nomark _))))) (pss_one (ps_ret (pe_ix (kIx (K := K) rfl) (pe_lst (pa_cons pe_int (pa_cons pe_int (pa_cons (pe_un un_neg pe_int) (pa_cons pe_int (pa_cons pe_bl (pa_cons pe_bl (pa_cons pe_str (pa_cons pe_str (pa_cons pe_str (pa_cons pe_str (pa_cons pe_str (pa_cons pe_int pa_nil))))))))))))) (pe_own G__law_take pb__law_take (hr.mono (by first | decide | exact Nat.le_refl _ | omega)) rfl pass0 (pa_cons (pv 0) (pa_cons pe_int pa_nil))) (fun _ _ => rfl)))) pss_nil)
   (pss_cons (ps_if (pt_cmpR (kEq (K := K) rfl hr.units) (pv 2) pe_int (nomark _)) (pss_one (ps_ret (pe_tup (pa_cons pe_str (pa_cons (pe_own G__law_wild pb__law_wild (hr.mono (by first | decide | exact Nat.le_refl _ | omega)) rfl pass0 (pa_cons (pv 0) (pa_cons (pe_op op_sub (pv 1) pe_int) pa_nil))) pa_nil))))) pss_nil)
   (pss_cons (ps_set (i := 3) sc__law_wild.nd rfl (Or.inl rfl) (pe_ix (kIx (K := K) rfl) (pe_lst (pa_cons pe_str (pa_cons pe_str (pa_cons pe_str (pa_cons pe_str (pa_cons pe_str (pa_cons pe_str (pa_cons pe_str (pa_cons pe_str (pa_cons pe_str (pa_cons pe_str (pa_cons pe_str pa_nil)))))))))))) (pe_own G__law_take pb__law_take (hr.mono (by first | decide | exact Nat.le_refl _ | omega)) rfl pass0 (pa_cons (pv 0) (pa_cons pe_int pa_nil))) (fun _ _ => rfl)))
   (pss_cons (ps_set (i := 4) sc__law_wild.nd rfl (Or.inl rfl) (pe_own G__law_wild pb__law_wild (hr.mono (by first | decide | exact Nat.le_refl _ | omega)) rfl pass0 (pa_cons (pv 0) (pa_cons (pe_op op_fdiv (pv 1) pe_int) pa_nil))))
   (pss_one (ps_ret (pe_tup (pa_cons (pv 3) (pa_cons (pv 4) (pa_cons (pe_own G__law_wild pb__law_wild (hr.mono (by first | decide | exact Nat.le_refl _ | omega)) rfl pass0 (pa_cons (pv 0) (pa_cons (pe_op op_fdiv (pv 1) pe_int) pa_nil))) pa_nil))))))))))), ?_⟩
    have g0 := Go.refl kn
    have hb1 := sb_pos l h32
    refine q_asg g0 (take_at rfl ev_k ⟨by decide, by decide⟩) fun v G2 H2 g2 _ hv => ?_
    obtain ⟨way, rfl, w0, w1⟩ := hv.now
    refine q_when g2 (p := (· = (decide ((l : Int) < 3) || decide (way < 2)))) (et_or (et_test (ev_i0 (ev_x rfl) ev_k)) fun _ => et_test (ev_i0 (ev_x rfl) ev_k)) (fun _ G3 H3 g3 _ => ?_) fun hlw G3 H3 g3 _ => ?_
    · refine s_ret g3 ((ev_pickV (K := K) (ds := [.int 0, .int 1, .int (-1000), .int 1000, .bool true, .bool false, .str "n", .str "m", .str "t", .str "num", .str "zz", .int 7]) (ea_cons (Ev.vInt ev_k) (ea_cons (Ev.vInt ev_k) (ea_cons (Ev.vInt (ev_neg ev_k)) (ea_cons (Ev.vInt ev_k) (ea_cons (Ev.vBl ev_k) (ea_cons (Ev.vBl ev_k) (ea_cons (Ev.vStr ev_k) (ea_cons (Ev.vStr ev_k) (ea_cons (Ev.vStr ev_k) (ea_cons (Ev.vStr ev_k) (ea_cons (Ev.vStr ev_k) (ea_cons (Ev.vInt ev_k) ea_nil)))))))))))) (take_at rfl ev_k ⟨by decide, by decide⟩) (by decide) (by decide)).imp fun G' v _ u G3 e3 => ?_) k
      obtain ⟨d, hd, hv⟩ := u G3 e3
      exact ⟨d, 1, hv, .pl (wild_plain d hd), hb1.1⟩
    have hlw' : (decide ((l : Int) < 3) || decide (way < 2)) = false := hlw.symm
    rw [Bool.or_eq_false_iff] at hlw'
    have l3 : 3 ≤ l := by
      have := of_decide_eq_false hlw'.1
      omega
    obtain ⟨s1, s2, s3⟩ := sb_ok l l3 h32
    have rec1 : ∀ {σ' G' tn E} {m : Nat}, σ'[0]? = some (some (.ref b)) → m < l → Ev (some b) tn σ' G' (tIs (.int m)) → Ev (some b) (tCall (spC (cLWild K N)) [] E (tCons (tVar 0) (tCons tn tNil))) σ' G' (tSz K (sb m)) := fun {σ' G' tn E m} h0 hm hn => ev_call (ea_cons (ev_x h0) (ea_cons hn ea_nil)) fun G'' vs e al => by
      rw [all2 al]
      exact ⟨some b, _, .inl rfl, ⟨b, m, rfl, rfl, ⟨by omega, by omega⟩, rfl⟩, fun _ _ _ w => w⟩
    refine q_when g3 (p := (· = decide (way = 2))) (et_test (ev_op2 (ev_x rfl) ev_k (ro_eqS rfl (by simp)))) (fun _ G4 H4 g4 _ => ?_) fun _ G4 H4 g4 _ => ?_
    · refine s_ret g4 ((ev_not1 ev_k (rec1 (m := l - 1) rfl (by omega) (ev_to' (ev_i0 (g := fun i j => .int (i - j)) (ev_x rfl) ev_k) (by congr 1; omega)))).imp fun G' v _ u G3 e3 => ?_) k
      obtain ⟨d, m, q1, q2, q3⟩ := u G3 e3
      exact ⟨d, m, q1, q2, by omega⟩
    refine q_asg g4 (ev_pickS (K := K) (zs := h11) (ea_cons ev_k (ea_cons ev_k (ea_cons ev_k (ea_cons ev_k (ea_cons ev_k (ea_cons ev_k (ea_cons ev_k (ea_cons ev_k (ea_cons ev_k (ea_cons ev_k (ea_cons ev_k ea_nil))))))))))) (take_at rfl ev_k ⟨by decide, by decide⟩) (by decide) (by decide)) fun hv G5 H5 g5 _ hu => ?_
    obtain ⟨hd, hmem, rfl⟩ := hu.now
    obtain ⟨hh, hn⟩ := h11_ok hd hmem
    have half : ∀ {σ' G'}, σ'[1]? = some (some (.int l)) → Ev (some b) (tOp (rI CDiv fun i j => .int (i / j)) (tVar 1) (tC (.int 2))) σ' G' (tIs (.int ((l / 2 : Nat) : Int))) := fun h1 => ev_to' (ev_iC (g := fun i j => .int (i / j)) (ev_x h1) ev_k ⟨by decide, by decide⟩) (by congr 1)
    refine q_asg g5 (rec1 (m := l / 2) rfl (by omega) (half rfl)) fun ov G6 H6 g6 _ ho => ?_
    refine s_ret g6 ((ev_two hh hn (ev_x rfl) (ev_var rfl ho) (rec1 (m := l / 2) rfl (by omega) (half rfl))).imp fun G' v _ u G3 e3 => ?_) k
    obtain ⟨d, m, q1, q2, q3⟩ := u G3 e3
    exact ⟨d, m, q1, q2, by omega⟩)
end
end K14
set_option Elab.async false
set_option linter.all false
set_option maxRecDepth 100000
set_option maxHeartbeats 4000000
namespace K14
open PySem L2 Ty
open Evl (Ex ex_l ex_t)
section
variable {K : PySem.W.Frag} {o : Option Addr} {σ : L2.St} {G Ge He H : Hp} {ta tl ti te tb : TE} {De : Ends} {s t : T}
end
theorem h7_11 : ∀ h ∈ h7, h ∈ h11 := by decide +kernel
theorem one_plain : ∀ d ∈ ([.int 0, .int 1, .int (-1), .int 7, .int 1000, .int (-1000), .int 12, .int 999] : List PyData), plain d = true := fun d hd => by
  simp only [List.mem_cons, List.not_mem_nil, or_false] at hd
  rcases hd with rfl | rfl | rfl | rfl | rfl | rfl | rfl | rfl <;> kernel_rfl
section
variable {P : Program} {w : World} {K : PySem.W.Frag} {mg : Str → Option Value} {base : Heap} {ga ha CS D : Addr} {es : Array DictEntry} {n : Nat}
theorem ok_lsum (T : Txt4 K mg w ga ha es n) (d : Df K mg "_law_sum" s__law_sum) (G__law_take : Own P w K mg base CX0 1 "_law_take" s__law_take ["box", "many"] (spC cTake)) : ∀ N, Own P w K mg base CX0 (N + 1) "_law_sum" s__law_sum ["box", "kind", "known", "left"] (spC (cLSum K N))
  | 0 => d.own fun f fd F => ⟨fun vs H Q E h => by
      obtain ⟨o, G, t, _, ⟨b, kd, y, rows, l, _, _, _, _, _, h0, _⟩, _⟩ := h
      exact absurd h0.1 (Nat.not_lt_zero _), fun A outer s H args us vs Q E hr he hb hv h => by
      obtain ⟨o, G, t, _, ⟨b, kd, y, rows, l, _, _, _, _, _, h0, _⟩, _⟩ := h
      exact absurd h0.1 (Nat.not_lt_zero _)⟩
  | N + 1 => d.own fun f fd F => F.ok sc__law_sum (fun vs H Q E h => by obtain ⟨o, G, t, _, ⟨b, kd, y, rows, l, _, rfl, _⟩, _⟩ := h; rfl) (fun cdv A outer s H vs Q E hr h => by
    have G__law_sum := ok_lsum T d G__law_take N
    obtain ⟨o, G, t, kn, ⟨b, kd, y, rows, l, rfl, rfl, hy, hrows, hrl, ⟨hl, h32⟩, rfl⟩, k⟩ := h
    refine ⟨_, (pss_cons (ps_setLc (i := 4) (own := [("row", 9)]) rfl sc__law_sum.nd rfl rfl (sw_true rfl rfl rfl (by decide +kernel)) (pi_listK (K := K) rfl (pv 2)) (blkOk_by (own := [("row", 9)]) (N := ["box", "kind", "known", "left", "names", "way", "inner", "head", "one", "row"]) (sc := defScope s__law_sum) (by decide +kernel)) (fun _ _ _ _ _ => (pg_name (i := 9) sc__law_sum.nd rfl (Or.inl rfl))) (fun _ _ _ _ _ => (pts_one (pt_cmpR (kEq (K := K) rfl hr.units) (pe_ix (kIx (K := K) rfl) (pv 9) pe_int (fun _ _ => rfl)) (pv 1) (nomark _)))) (fun _ _ _ _ _ => (pe_ix (kIx (K := K) rfl) (pv 9) pe_int (fun _ _ => rfl))))
   (pss_cons (ps_set (i := 5) sc__law_sum.nd rfl (Or.inl rfl) (pe_own G__law_take pb__law_take (hr.mono (by first | decide | exact Nat.le_refl _ | omega)) rfl pass0 (pa_cons (pv 0) (pa_cons pe_int pa_nil))))
   (pss_cons (ps_if (PW.pt (pw_or (pt_cmpR gLt (pv 3) pe_int (nomark _)) (pw_or1 (pt_cmpR gLt (pv 5) pe_int (nomark _))))) (pss_cons (ps_if (PW.pt (pw_and (pt_cmpR (kNe (K := K) rfl hr.units) (pv 4) (pe_lst pa_nil) (nomark _)) (pw_and1 (pt_cmpR op_gt (pe_own G__law_take pb__law_take (hr.mono (by first | decide | exact Nat.le_refl _ | omega)) rfl pass0 (pa_cons (pv 0) (pa_cons pe_int pa_nil))) pe_int (nomark _))))) (pss_one (ps_ret (pe_ix (kIx (K := K) rfl) (pv 4) (pe_own G__law_take pb__law_take (hr.mono (by first | decide | exact Nat.le_refl _ | omega)) rfl pass0 (pa_cons (pv 0) (pa_cons (pe_callB (kLen (K := K) rfl) (by rfl) T.n_len (by decide +kernel) (pa_cons (pv 4) pa_nil)) pa_nil))) (fun _ _ => rfl)))) pss_nil)
   (pss_one (ps_ret (pe_ifExp (pt_cmpR (kEq (K := K) rfl hr.units) (pv 1) pe_str (nomark _)) (pe_ix (kIx (K := K) rfl) (pe_lst (pa_cons pe_bl (pa_cons pe_bl pa_nil))) (pe_own G__law_take pb__law_take (hr.mono (by first | decide | exact Nat.le_refl _ | omega)) rfl pass0 (pa_cons (pv 0) (pa_cons pe_int pa_nil))) (fun _ _ => rfl)) (pe_ix (kIx (K := K) rfl) (pe_lst (pa_cons pe_int (pa_cons pe_int (pa_cons (pe_un un_neg pe_int) (pa_cons pe_int (pa_cons pe_int (pa_cons (pe_un un_neg pe_int) (pa_cons pe_int (pa_cons pe_int pa_nil))))))))) (pe_own G__law_take pb__law_take (hr.mono (by first | decide | exact Nat.le_refl _ | omega)) rfl pass0 (pa_cons (pv 0) (pa_cons pe_int pa_nil))) (fun _ _ => rfl)))))) pss_nil)
   (pss_cons (ps_if (pt_cmpR (kEq (K := K) rfl hr.units) (pv 1) pe_str (nomark _)) (pss_cons (ps_if (pt_cmpR (kEq (K := K) rfl hr.units) (pv 5) pe_int (nomark _)) (pss_one (ps_ret (pe_tup (pa_cons pe_str (pa_cons (pe_own G__law_sum pb__law_sum (hr.mono (by first | decide | exact Nat.le_refl _ | omega)) rfl pass0 (pa_cons (pv 0) (pa_cons pe_str (pa_cons (pv 2) (pa_cons (pe_op op_sub (pv 3) pe_int) pa_nil))))) pa_nil))))) pss_nil)
   (pss_cons (ps_set (i := 6) sc__law_sum.nd rfl (Or.inl rfl) (pe_ix (kIx (K := K) rfl) (pe_lst (pa_cons pe_str (pa_cons pe_str (pa_cons pe_str (pa_cons pe_str pa_nil))))) (pe_own G__law_take pb__law_take (hr.mono (by first | decide | exact Nat.le_refl _ | omega)) rfl pass0 (pa_cons (pv 0) (pa_cons pe_int pa_nil))) (fun _ _ => rfl)))
   (pss_cons (ps_set (i := 7) sc__law_sum.nd rfl (Or.inl rfl) (pe_ix (kIx (K := K) rfl) (pe_lst (pa_cons (pe_lst (pa_cons pe_str (pa_cons pe_str pa_nil))) (pa_cons (pe_lst (pa_cons pe_str (pa_cons pe_str (pa_cons pe_str pa_nil)))) pa_nil))) (pe_callTy call_int1 (by rfl) T.n_int (by decide +kernel) (pa_cons (pe_cmpR (kEq (K := K) rfl hr.units) (pv 6) pe_str (nomark _)) pa_nil)) (fun _ _ => rfl)))
   (pss_one (ps_set (i := 7) sc__law_sum.nd rfl (Or.inl rfl) (pe_ix (kIx (K := K) rfl) (pv 7) (pe_own G__law_take pb__law_take (hr.mono (by first | decide | exact Nat.le_refl _ | omega)) rfl pass0 (pa_cons (pv 0) (pa_cons (pe_callB (kLen (K := K) rfl) (by rfl) T.n_len (by decide +kernel) (pa_cons (pv 7) pa_nil)) pa_nil))) (fun _ _ => rfl))))))) (pss_one (ps_par (i := 6) (j := 7) (by rfl) sc__law_sum.nd rfl rfl (by decide) rfl rfl (pa_cons pe_str (pa_cons (pe_ix (kIx (K := K) rfl) (pe_lst (pa_cons pe_str (pa_cons pe_str (pa_cons pe_str (pa_cons pe_str (pa_cons pe_str (pa_cons pe_str (pa_cons pe_str pa_nil)))))))) (pe_own G__law_take pb__law_take (hr.mono (by first | decide | exact Nat.le_refl _ | omega)) rfl pass0 (pa_cons (pv 0) (pa_cons pe_int pa_nil))) (fun _ _ => rfl)) pa_nil)) (by rfl))))
   (pss_cons (ps_set (i := 8) sc__law_sum.nd rfl (Or.inl rfl) (pe_own G__law_sum pb__law_sum (hr.mono (by first | decide | exact Nat.le_refl _ | omega)) rfl pass0 (pa_cons (pv 0) (pa_cons (pv 6) (pa_cons (pv 2) (pa_cons (pe_op op_fdiv (pv 3) pe_int) pa_nil))))))
   (pss_one (ps_ret (pe_tup (pa_cons (pv 7) (pa_cons (pv 8) (pa_cons (pe_own G__law_sum pb__law_sum (hr.mono (by first | decide | exact Nat.le_refl _ | omega)) rfl pass0 (pa_cons (pv 0) (pa_cons (pv 6) (pa_cons (pv 2) (pa_cons (pe_op op_fdiv (pv 3) pe_int) pa_nil))))) pa_nil))))))))))), ?_⟩
    have g0 := Go.refl kn
    have hb1 := sb_pos l h32
    refine q_asg (t := fun G v => ∃ a xs, v = .ref a ∧ G a = some (.lst xs) ∧ xs.length ≤ 100 ∧ ∀ x ∈ xs, U tNm G x) g0 ((en_all (t := tNm) (P := fun G xs => DpAll K G xs (rows.map rowD)) (ei_list (K := K) (ev_v rfl hy) fun G' v e u => ?_) (fun _ => rfl) (fun G' xs e h => ?_) (fun G' xs i x e h hx => ?_) fun G' xs i x e h hx => ?_).ev fun G' a xs e ha hp => ?_) fun v G1 H1 g1 _ hv => ?_
    · obtain ⟨a, xs, rfl, hs, hd⟩ := u.now.lst
      exact ⟨a, xs, rfl, hs, fun G'' e'' => dps_up e'' _ hd⟩
    · have := dps_len h.now
      rw [List.length_map] at this
      omega
    · obtain ⟨di, hdi, hdz⟩ := dps_at' h.now hx
      rw [List.getElem?_map] at hdi
      obtain ⟨r, hr', rfl⟩ := Option.map_eq_some_iff.mp hdi
      exact (et_test (ev_op2 (ev_ixT (i := 1) (ev_v rfl (.inl hdz)) ev_k rfl).isStr (ev_x rfl) (ro_eqS (b := decide (r.2 = kd)) rfl (eq_str r.2 kd)))).imp fun _ _ => trivial
    · obtain ⟨di, hdi, hdz⟩ := dps_at' h.now hx
      rw [List.getElem?_map] at hdi
      obtain ⟨r, hr', rfl⟩ := Option.map_eq_some_iff.mp hdi
      exact (ev_ixT (i := 0) (ev_v rfl (.inl hdz)) ev_k rfl).isStr.imp fun G2 v e u => fun G3 e3 => ⟨r.1, u.eq, hrows r (List.mem_of_getElem? hr')⟩
    · obtain ⟨zs, h1, h2, h3⟩ := hp.now
      have := dps_len h1.now
      rw [List.length_map] at this
      exact ⟨a, xs, rfl, ha, by omega, h3⟩
    obtain ⟨na, xs, rfl, hna, hxl, hxs⟩ := hv.now
    refine q_asg g1 (take_at rfl ev_k ⟨by decide, by decide⟩) fun v G2 H2 g2 g12 hv => ?_
    obtain ⟨way, rfl, w0, w1⟩ := hv.now
    have hna2 := g12.gg _ _ hna
    have hxs2 : ∀ x ∈ xs, U tNm G2 x := fun x hx => (hxs x hx).up g12.gg
    refine q_when g2 (p := (· = (decide ((l : Int) < 3) || decide (way < 2)))) (et_or (et_test (ev_i0 (ev_x rfl) ev_k)) fun _ => et_test (ev_i0 (ev_x rfl) ev_k)) (fun _ G3 H3 g3 g23 => ?_) fun hlw G3 H3 g3 g23 => ?_
    · refine q_when g3 (et_andI (p := (· = !xs.isEmpty)) (q := fun _ => True) (et_test (ev_op (s := tIs (.ref na)) (ev_x rfl) ev_nil fun G4 a c e ha hc => ?_)) fun _ => et_testU (ev_op (s := tRng 0 3) (u := tIs (.int 0)) (take_at rfl ev_k ⟨by decide, by decide⟩) ev_k fun G4 a c e ha hc => ?_)) (fun hb G4 H4 g4 g34 => ?_) fun _ G4 H4 g4 _ => ?_
      · obtain ⟨a2, rfl, ha2⟩ := hc.now
        rw [ha.eq]
        exact ro_neN (.of ((g23.gg.trans e) _ _ hna2)) (.of ha2)
      · obtain ⟨i, rfl, _, _⟩ := ha.now
        rw [hc.eq]
        exact ro_q (z := .bl (decide (i > 0))) (fun _ _ => ⟨_, rfl⟩) fun _ _ _ _ _ q => ⟨i, 0, rfl, rfl, q⟩
      · have hne := (hb rfl).1
        have hpos : 0 < xs.length := by
          cases xs with
          | nil => cases hne
          | cons _ _ => exact Nat.succ_pos _
        have e24 := g23.gg.trans g34.gg
        refine s_ret g4 ((ev_ixR (n := (xs.length : Int)) (t := tNm) (ev_x rfl) (e24 _ _ hna2) (fun x hx => (hxs2 x hx).up e24) (take_at rfl (ev_cb1 (ev_x rfl) fun G5 e => rc_lenL (.of ((e24.trans e) _ _ hna2))) ⟨by omega, by omega⟩) (Int.le_refl _)).imp fun G5 v e u G6 e6 => ?_) k
        obtain ⟨z, rfl, hz⟩ := u G6 e6
        exact ⟨.str z, 1, vl_str, .pl (show (false || (false || nameD (.str z))) = true from hz), hb1.1⟩
      · refine s_ret g4 (ev_if (p := (· = decide (kd = "truth"))) (et_test (ev_op2 (ev_x rfl) ev_k (ro_eqS rfl (eq_str kd "truth")))) (fun _ => (ev_pickV (K := K) (ds := [.bool true, .bool false]) (ea_cons (Ev.vBl ev_k) (ea_cons (Ev.vBl ev_k) ea_nil)) (take_at rfl ev_k ⟨by decide, by decide⟩) (by decide) (by decide)).imp fun G' v _ u G3 e3 => ?_)
          fun _ => (ev_pickV (K := K) (ds := [.int 0, .int 1, .int (-1), .int 7, .int 1000, .int (-1000), .int 12, .int 999]) (ea_cons (Ev.vInt ev_k) (ea_cons (Ev.vInt ev_k) (ea_cons (Ev.vInt (ev_neg ev_k)) (ea_cons (Ev.vInt ev_k) (ea_cons (Ev.vInt ev_k) (ea_cons (Ev.vInt (ev_neg ev_k)) (ea_cons (Ev.vInt ev_k) (ea_cons (Ev.vInt ev_k) ea_nil)))))))) (take_at rfl ev_k ⟨by decide, by decide⟩) (by decide) (by decide)).imp fun G' v _ u G3 e3 => ?_) k
        · obtain ⟨d, hd, hv⟩ := u G3 e3
          simp only [List.mem_cons, List.not_mem_nil, or_false] at hd
          rcases hd with rfl | rfl
          · exact ⟨_, 1, hv, .pl rfl, hb1.1⟩
          · exact ⟨_, 1, hv, .pl rfl, hb1.1⟩
        · obtain ⟨d, hd, hv⟩ := u G3 e3
          exact ⟨d, 1, hv, .pl (one_plain d hd), hb1.1⟩
    have hlw' : (decide ((l : Int) < 3) || decide (way < 2)) = false := hlw.symm
    rw [Bool.or_eq_false_iff] at hlw'
    have l3 : 3 ≤ l := by
      have := of_decide_eq_false hlw'.1
      omega
    obtain ⟨s1, s2, s3⟩ := sb_ok l l3 h32
    have hy3 := hy.up g3.gg
    have rec1 : ∀ {σ' G' tk tn E} {m : Nat} {kd' : Str}, Ex G3 G' → σ'[0]? = some (some (.ref b)) → σ'[2]? = some (some y) → m < l → Ev (some b) tk σ' G' (tIs (.str kd')) → (∀ G'', Ex G' G'' → Ev (some b) tn σ' G'' (tIs (.int m))) → Ev (some b) (tCall (spC (cLSum K N)) [] E (tCons (tVar 0) (tCons tk (tCons (tVar 2) (tCons tn tNil))))) σ' G' (tSz K (sb m)) := fun {σ' G' tk tn E m kd'} e h0 h2 hm hk hn => ev_call (ea_cons (ev_x h0) (ea_cons hk (ea_cons (ev_x h2) (ea_cons (hn _ (Ex.refl _)) ea_nil)))) fun G'' vs e2 al => by
      rw [all4 al]
      exact ⟨some b, _, .inl rfl, ⟨b, kd', y, rows, m, rfl, rfl, hy3.up (e.trans e2), hrows, hrl, ⟨by omega, by omega⟩, rfl⟩, fun _ _ _ w => w⟩
    have half : ∀ {σ' G'}, σ'[3]? = some (some (.int l)) → Ev (some b) (tOp (rI CDiv fun i j => .int (i / j)) (tVar 3) (tC (.int 2))) σ' G' (tIs (.int ((l / 2 : Nat) : Int))) := fun h1 => ev_to' (ev_iC (g := fun i j => .int (i / j)) (ev_x h1) ev_k ⟨by decide, by decide⟩) (by congr 1)
    have fin : ∀ (inner hd : Str) G' H', hd ∈ h11 → Go (some b) G H G' H' → Ex G3 G' → tSeq (tAsg (tCall (spC (cLSum K N)) [] E0 (tCons (tVar 0) (tCons (tVar 6) (tCons (tVar 2) (tCons (tOp (rI CDiv fun i j => .int (i / j)) (tVar 3) (tC (.int 2))) tNil))))) (gName 8))
        (tRet (tTup (tCons (tVar 7) (tCons (tVar 8) (tCons (tCall (spC (cLSum K N)) [] E0 (tCons (tVar 0) (tCons (tVar 6) (tCons (tVar 2) (tCons (tOp (rI CDiv fun i j => .int (i / j)) (tVar 3) (tC (.int 2))) tNil))))) tNil))))) { nx := fun x H' => Q V.non H', rt := Q }
        [some (.ref b), some (.str kd), some y, some (.int l), some (.ref na), some (.int way), some (.str inner), some (.str hd), none, none] H' := fun inner hd G' H' hm g' e' => by
      obtain ⟨hh, hn⟩ := h11_ok hd hm
      refine q_asg g' (rec1 (m := l / 2) e' rfl rfl (by omega) (ev_x rfl) fun _ _ => half rfl) fun ov G6 H6 g6 g66 ho => ?_
      refine s_ret g6 ((ev_two hh hn (ev_x rfl) (ev_var rfl ho) (rec1 (m := l / 2) (e'.trans g66.gg) rfl rfl (by omega) (ev_x rfl) fun _ _ => half rfl)).imp fun G' v _ u G3 e3 => ?_) k
      obtain ⟨d, m, q1, q2, q3⟩ := u G3 e3
      exact ⟨d, m, q1, q2, by omega⟩
    refine q_if g3 (p := (· = decide (kd = "truth"))) (et_test (ev_op2 (ev_x rfl) ev_k (ro_eqS rfl (eq_str kd "truth")))) (fun _ G4 H4 g4 g34 => ?_) fun _ G4 H4 g4 g34 => ?_
    · refine q_when g4 (p := (· = decide (way = 2))) (et_test (ev_op2 (ev_x rfl) ev_k (ro_eqS rfl (by simp)))) (fun _ G5 H5 g5 g45 => ?_) fun _ G5 H5 g5 g45 => ?_
      · refine s_ret g5 ((ev_not1 ev_k (rec1 (m := l - 1) (g34.gg.trans g45.gg) rfl rfl (by omega) ev_k fun _ _ => ev_to' (ev_i0 (g := fun i j => .int (i - j)) (ev_x rfl) ev_k) (by congr 1; omega))).imp fun G' v _ u G3 e3 => ?_) k
        obtain ⟨d, m, q1, q2, q3⟩ := u G3 e3
        exact ⟨d, m, q1, q2, by omega⟩
      · refine q_asg g5 (ev_pickS (K := K) (zs := ["integer", "integer", "truth", "truth"]) (ea_cons ev_k (ea_cons ev_k (ea_cons ev_k (ea_cons ev_k ea_nil)))) (take_at rfl ev_k ⟨by decide, by decide⟩) (by decide) (by decide)) fun iv G6 H6 g6 g56 hi => ?_
        obtain ⟨inner, _, rfl⟩ := hi.now
        refine q_asg (t := fun G v => ∃ zs : List Str, U (tLS zs) G v ∧ 1 ≤ zs.length ∧ zs.length ≤ 3 ∧ ∀ z ∈ zs, z ∈ h11) g6 (ev_op (s := fun G v => ∃ a v1 v2, v = .ref a ∧ G a = some (.lst [v1, v2]) ∧ U (tLS ["less", "same"]) G v1 ∧ U (tLS ["same", "and", "or"]) G v2) (u := fun _ v => v = .int 0 ∨ v = .int 1)
          ((en_lst (ts := [tLS ["less", "same"], tLS ["same", "and", "or"]]) (ea_cons (ev_lst2 ev_k ev_k) (ea_cons ((en_lst (ea_cons ev_k (ea_cons ev_k (ea_cons ev_k ea_nil))) (by show 3 ≤ 100000; decide)).ev fun G' a xs e ha hp => ⟨a, rfl, by rw [ha, all3 hp.now]; rfl⟩) ea_nil)) (by show 2 ≤ 100000; decide)).ev fun G' a xs e ha hp => ?_)
          (ev_cb1 (x := .bl (decide (inner = "truth"))) (ev_op2 (ev_x rfl) ev_k (ro_eqS rfl (eq_str inner "truth"))) fun G' e => ?_) fun G' x' y' e hx hy' => ?_) fun hv G7 H7 g7 g67 hh => ?_
        · cases hp.now with
          | cons a1 r => cases r with
            | cons a2 r =>
              cases r
              exact ⟨a, _, _, rfl, ha, a1, a2⟩
        · refine rc_q (z := .int (if decide (inner = "truth") = true then 1 else 0)) (fun _ _ => ?_) fun _ _ _ _ Q q => .inr ⟨_, rfl, q⟩
          split
          · exact .inr rfl
          · exact .inl rfl
        · obtain ⟨a, v1, v2, rfl, ha, u1, u2⟩ := hx.now
          rcases hy'.now with rfl | rfl
          · exact fun G1 H1 e1 kn1 Q q => ro_ixL (K := K) (.of ha) (at_of (j := 0) rfl rfl) G1 H1 e1 kn1 Q fun v G2 H2 g w => q v G2 H2 g (by rw [w.eq]; exact fun G3 e3 => ⟨_, u1.up ((e1.trans g.gg).trans e3), by decide, by decide, by decide +kernel⟩)
          · exact fun G1 H1 e1 kn1 Q q => ro_ixL (K := K) (.of ha) (at_of (j := 1) rfl rfl) G1 H1 e1 kn1 Q fun v G2 H2 g w => q v G2 H2 g (by rw [w.eq]; exact fun G3 e3 => ⟨_, u2.up ((e1.trans g.gg).trans e3), by decide, by decide, by decide +kernel⟩)
        · obtain ⟨zs, hz, z1, z3, hz11⟩ := hh.now
          obtain ⟨za, rfl, hza⟩ := hz.now
          have hlz : (zs.map V.str).length = zs.length := List.length_map ..
          refine s_asg (t := fun _ v => ∃ h ∈ h11, v = .str h) g7 (ev_ixR (n := ((zs.map V.str).length : Int)) (ev_x rfl) hza (fun x hx => ?_) (take_at rfl (ev_cb1 (ev_x rfl) fun G' e => rc_lenL (.of (e _ _ hza))) ⟨by omega, by omega⟩) (Int.le_refl _)) fun hv2 G8 H8 g8 g78 hh2 => ?_
          · obtain ⟨z, hz', rfl⟩ := List.mem_map.mp hx
            exact fun _ _ => ⟨z, hz11 z hz', rfl⟩
          · obtain ⟨hd, hm, rfl⟩ := hh2.now
            exact fin inner hd G8 H8 hm g8 (g34.gg.trans (g45.gg.trans (g56.gg.trans (g67.gg.trans g78.gg))))
    · refine s_par g4 ev_k (fun G' e => ev_pickS (K := K) (zs := h7) (ea_cons ev_k (ea_cons ev_k (ea_cons ev_k (ea_cons ev_k (ea_cons ev_k (ea_cons ev_k (ea_cons ev_k ea_nil))))))) (take_at rfl ev_k ⟨by decide, by decide⟩) (by decide) (by decide)) fun iv hv G5 H5 g5 g45 hi hh => ?_
      rw [hi.eq]
      obtain ⟨hd, hm, rfl⟩ := hh.now
      exact fin "integer" hd G5 H5 (h7_11 hd hm) g5 (g34.gg.trans g45.gg))
/-! deep sums -/
/-! dicts of kinds -/
end
end K14
set_option Elab.async false
set_option linter.all false
set_option maxRecDepth 100000
set_option maxHeartbeats 4000000
namespace K14
open PySem L2 Ty
open Evl (Ex ex_l ex_t)
abbrev s__law_near_sums : Stmt := top 50
theorem sc__law_near_sums : FnScope ["box", "term", "found", "k"] ["box", "term"] (defScope s__law_near_sums) := ⟨rfl, rfl, rfl, by decide +kernel, rfl, by decide +kernel, by decide +kernel⟩
theorem pb__law_near_sums : PosB "_law_near_sums" s__law_near_sums ["box", "term"] := fun _ _ _ _ _ _ us hl => match us, hl with | [_, _], _ => rfl
theorem fx_dec {m : Nat} {d : PyData} (h : (d.canLay0 && decide (d.depth ≤ m) && okn m d && okm m d) = true) : Fx m d := by
  simp only [Bool.and_eq_true, decide_eq_true_eq] at h
  exact ⟨h.1.1.1, h.1.1.2, h.1.2, h.2⟩
theorem fx_nil {m : Nat} : ∀ d ∈ ([] : List PyData), Fx m d := fun _ z => nomatch z
theorem fx_cons {m : Nat} {d : PyData} {ds : List PyData} (h : Fx m d) (r : ∀ d ∈ ds, Fx m d) : ∀ d' ∈ d :: ds, Fx m d' := fun d' h' => (List.mem_cons.mp h').elim (fun e => e ▸ h) (r d')
theorem fx_lst {m : Nat} {ds : List PyData} (h : ∀ d ∈ ds, Fx m d) (hl : ds.length ≤ 900) : Fx (m + 1) (.list ds) := by
  have t := fx_tup h hl
  exact ⟨by have := t.can; simpa only [PyData.canLay0] using this, by have := t.dep; simpa only [PyData.depth] using this, t.okn, t.okm⟩
section
variable {K : PySem.W.Frag} {o : Option Addr} {σ : L2.St} {G : Hp} {te : TE} {d : PyData}
/-- a value that may be looked at, copied, blamed -/
def tNr (K : PySem.W.Frag) : T := fun G v => ∃ d, Vl K G v d ∧ okn 50 d = true ∧ Sm1 d
theorem okx (h : Ev o te σ G (tV K d)) (f : Fx 50 d) : Ev o te σ G (tNr K) := h.imp fun G' v _ w => fun G2 e => ⟨d, w.now.up e, f.okn, f.sm⟩
theorem okq (h : Ev o te σ G (tV K d)) (h1 : okn 50 d = true) (h2 : okm 50 d = true) (h3 : (isDict d || d.canLay0) = true) : Ev o te σ G (tNr K) := h.imp fun G' v _ w => fun G2 e => ⟨d, w.now.up e, h1, ⟨50, h2⟩, by
  rcases Bool.or_eq_true_iff.mp h3 with z | z
  · exact .inl z
  · exact .inr z⟩
end
section
variable {P : Program} {w : World} {K : PySem.W.Frag} {mg : Str → Option Value} {base : Heap} {ga ha CS CK D : Addr} {es : Array DictEntry} {n : Nat}
def cNear (K : PySem.W.Frag) (o : Option Addr) (G : Hp) (vs : List V) (p : PL) : Prop := ∃ (b : Addr) (x : V) (d : PyData) (m : Nat), o = some b ∧ vs = [.ref b, x] ∧ Vl K G x d ∧ Sz d m ∧ m ≤ 40 ∧ p = pAll 60 (tNr K)
theorem ok_near (T : Txt4 K mg w ga ha es n) (d : Df K mg "_law_near_sums" s__law_near_sums) (G__law_mixed : Own P w K mg base CX0 2 "_law_mixed" s__law_mixed ["box", "items"] (spN (cMixed K))) :
    Own P w K mg base CX0 3 "_law_near_sums" s__law_near_sums ["box", "term"] (spN (cNear K)) :=
  d.own fun f fd F => F.ok sc__law_near_sums (fun vs H Q E h => by obtain ⟨o, G, t, kn, ⟨b, x, d, m, _, rfl, _⟩, _⟩ := h; rfl) (fun cdv A outer s H vs Q E hr h => by
    obtain ⟨o, G, p, kn, ⟨b, x, d, m, rfl, rfl, hx, hz, hm, rfl⟩, k⟩ := h
    refine ⟨_, (pss_cons (ps_set (i := 2) sc__law_near_sums.nd rfl (Or.inr rfl) (pe_lst (pa_cons pe_non (pa_cons pe_dnewK (pa_cons (pe_tup pa_nil) (pa_cons (pe_lst pa_nil) (pa_cons (pe_lst (pa_cons pe_str (pa_cons pe_int (pa_cons pe_int pa_nil)))) (pa_cons (pe_tup (pa_cons pe_str pa_nil)) (pa_cons (pe_tup (pa_cons pe_str (pa_cons pe_int pa_nil))) (pa_cons (pe_tup (pa_cons pe_str (pa_cons pe_int (pa_cons pe_int (pa_cons pe_int pa_nil))))) (pa_cons (pe_tup (pa_cons pe_str pa_nil)) (pa_cons (pe_tup (pa_cons pe_str (pa_cons pe_int (pa_cons pe_int pa_nil)))) (pa_cons (pe_tup (pa_cons pe_str (pa_cons pe_int (pa_cons pe_int pa_nil)))) (pa_cons (pe_tup (pa_cons pe_str (pa_cons pe_int (pa_cons pe_non pa_nil)))) (pa_cons (pe_tup (pa_cons pe_str (pa_cons pe_int (pa_cons pe_str pa_nil)))) (pa_cons (pe_tup (pa_cons pe_str (pa_cons pe_int (pa_cons pe_str pa_nil)))) (pa_cons (pe_tup (pa_cons pe_str (pa_cons pe_int (pa_cons pe_int pa_nil)))) (pa_cons (pe_tup (pa_cons pe_str (pa_cons (pe_un un_neg pe_int) (pa_cons pe_int pa_nil)))) (pa_cons pe_int (pa_cons (pe_un un_neg pe_int) (pa_cons pe_str (pa_cons pe_str (pa_cons pe_str (pa_cons pe_str pa_nil))))))))))))))))))))))))
   (pss_cons (ps_set (i := 2) sc__law_near_sums.nd rfl (Or.inr rfl) (pe_op (kAdd (K := K) rfl) (pv 2) (pe_lst (pa_cons (pe_tup (pa_cons pe_non (pa_cons pe_int (pa_cons pe_int pa_nil)))) (pa_cons (pe_tup (pa_cons (pe_tup (pa_cons pe_str pa_nil)) (pa_cons pe_int (pa_cons pe_int pa_nil)))) (pa_cons (pe_tup (pa_cons pe_str (pa_cons (pe_lst (pa_cons pe_str pa_nil)) pa_nil))) (pa_cons (pe_tup (pa_cons pe_str (pa_cons (pe_tup (pa_cons pe_str (pa_cons (pe_tup (pa_cons pe_str (pa_cons (pv 1) pa_nil))) pa_nil))) pa_nil))) (pa_cons (pe_tup (pa_cons pe_str (pa_cons (pv 1) (pa_cons (pv 1) pa_nil)))) (pa_cons (pe_tup (pa_cons (pv 1) (pa_cons (pv 1) pa_nil))) (pa_cons (pe_lst (pa_cons (pv 1) pa_nil)) (pa_cons (pe_op op_pow pe_int pe_int) (pa_cons (pe_tup (pa_cons pe_str (pa_cons (pv 1) (pa_cons (pe_tup pa_nil) pa_nil)))) (pa_cons (pe_tup (pa_cons pe_str (pa_cons pe_str (pa_cons pe_int pa_nil)))) (pa_cons (pe_tup (pa_cons pe_str (pa_cons pe_int pa_nil))) (pa_cons (pe_tup (pa_cons pe_str (pa_cons pe_int (pa_cons (pe_tup (pa_cons pe_int pa_nil)) pa_nil)))) pa_nil)))))))))))))))
   (pss_one (ps_ret (pe_lc (own := [("k", 3)]) rfl sc__law_near_sums.nd (pi_listK (K := K) rfl (pe_own G__law_mixed pb__law_mixed (hr.mono (by first | decide | exact Nat.le_refl _ | omega)) rfl pass0 (pa_cons (pv 0) (pa_cons (pe_listRg rfl (by rfl) T.n_list (prg_1 (by rfl) T.n_range (pe_callB (kLen (K := K) rfl) (by rfl) T.n_len (by decide +kernel) (pa_cons (pv 2) pa_nil)))) pa_nil)))) (blkOk_by (own := [("k", 3)]) (N := ["box", "term", "found", "k"]) (sc := defScope s__law_near_sums) (by decide +kernel)) (fun _ _ _ _ _ => (pg_name (i := 3) sc__law_near_sums.nd rfl (Or.inl rfl))) (fun _ _ _ _ _ => pts_nil) (fun _ _ _ _ _ => (pe_ix (kIx (K := K) rfl) (pv 2) (pv 3) (fun _ _ => rfl)))))))), ?_⟩
    have hf : Fx 40 d := (sz_fx hz).le hm
    refine q_asg (Go.refl kn) (en_items (n := 22) (t := tNr K) ?_ (by decide)).list fun v G3 H3 g3 _ w3 => ?_
    · exact (ea_cons (okq (d := .none) (Ev.vNon ev_k) (by decide +kernel) (by decide +kernel) (by decide +kernel)) (ea_cons (okq (d := (.dict [])) ev_dnewV (by decide +kernel) (by decide +kernel) (by decide +kernel)) (ea_cons (okq (d := (.tuple [])) (ev_tupV (ds := []) ea_nil (sh_all (by decide +kernel)) (by decide)) (by decide +kernel) (by decide +kernel) (by decide +kernel)) (ea_cons (okq (d := (.list [])) (ev_lstV (ds := []) ea_nil (sh_all (by decide +kernel)) (by decide)) (by decide +kernel) (by decide +kernel) (by decide +kernel)) (ea_cons (okq (d := (.list [(.str "plus"), (.int 1), (.int 2)])) (ev_lstV (ds := [(.str "plus"), (.int 1), (.int 2)]) (ea_cons (Ev.vStr ev_k) (ea_cons (Ev.vInt ev_k) (ea_cons (Ev.vInt ev_k) ea_nil))) (sh_all (by decide +kernel)) (by decide)) (by decide +kernel) (by decide +kernel) (by decide +kernel)) (ea_cons (okq (d := (.tuple [(.str "plus")])) (ev_tupV (ds := [(.str "plus")]) (ea_cons (Ev.vStr ev_k) ea_nil) (sh_all (by decide +kernel)) (by decide)) (by decide +kernel) (by decide +kernel) (by decide +kernel)) (ea_cons (okq (d := (.tuple [(.str "plus"), (.int 1)])) (ev_tupV (ds := [(.str "plus"), (.int 1)]) (ea_cons (Ev.vStr ev_k) (ea_cons (Ev.vInt ev_k) ea_nil)) (sh_all (by decide +kernel)) (by decide)) (by decide +kernel) (by decide +kernel) (by decide +kernel)) (ea_cons (okq (d := (.tuple [(.str "plus"), (.int 1), (.int 2), (.int 3)])) (ev_tupV (ds := [(.str "plus"), (.int 1), (.int 2), (.int 3)]) (ea_cons (Ev.vStr ev_k) (ea_cons (Ev.vInt ev_k) (ea_cons (Ev.vInt ev_k) (ea_cons (Ev.vInt ev_k) ea_nil)))) (sh_all (by decide +kernel)) (by decide)) (by decide +kernel) (by decide +kernel) (by decide +kernel)) (ea_cons (okq (d := (.tuple [(.str "not")])) (ev_tupV (ds := [(.str "not")]) (ea_cons (Ev.vStr ev_k) ea_nil) (sh_all (by decide +kernel)) (by decide)) (by decide +kernel) (by decide +kernel) (by decide +kernel)) (ea_cons (okq (d := (.tuple [(.str "not"), (.int 1), (.int 2)])) (ev_tupV (ds := [(.str "not"), (.int 1), (.int 2)]) (ea_cons (Ev.vStr ev_k) (ea_cons (Ev.vInt ev_k) (ea_cons (Ev.vInt ev_k) ea_nil))) (sh_all (by decide +kernel)) (by decide)) (by decide +kernel) (by decide +kernel) (by decide +kernel)) (ea_cons (okq (d := (.tuple [(.str "add"), (.int 1), (.int 2)])) (ev_tupV (ds := [(.str "add"), (.int 1), (.int 2)]) (ea_cons (Ev.vStr ev_k) (ea_cons (Ev.vInt ev_k) (ea_cons (Ev.vInt ev_k) ea_nil))) (sh_all (by decide +kernel)) (by decide)) (by decide +kernel) (by decide +kernel) (by decide +kernel)) (ea_cons (okq (d := (.tuple [(.str "plus"), (.int 1), .none])) (ev_tupV (ds := [(.str "plus"), (.int 1), .none]) (ea_cons (Ev.vStr ev_k) (ea_cons (Ev.vInt ev_k) (ea_cons (Ev.vNon ev_k) ea_nil))) (sh_all (by decide +kernel)) (by decide)) (by decide +kernel) (by decide +kernel) (by decide +kernel)) (ea_cons (okq (d := (.tuple [(.str "plus"), (.int 1), (.str "wait")])) (ev_tupV (ds := [(.str "plus"), (.int 1), (.str "wait")]) (ea_cons (Ev.vStr ev_k) (ea_cons (Ev.vInt ev_k) (ea_cons (Ev.vStr ev_k) ea_nil))) (sh_all (by decide +kernel)) (by decide)) (by decide +kernel) (by decide +kernel) (by decide +kernel)) (ea_cons (okq (d := (.tuple [(.str "plus"), (.int 1), (.str "A")])) (ev_tupV (ds := [(.str "plus"), (.int 1), (.str "A")]) (ea_cons (Ev.vStr ev_k) (ea_cons (Ev.vInt ev_k) (ea_cons (Ev.vStr ev_k) ea_nil))) (sh_all (by decide +kernel)) (by decide)) (by decide +kernel) (by decide +kernel) (by decide +kernel)) (ea_cons (okq (d := (.tuple [(.str "plus"), (.int 1), (.int 1001)])) (ev_tupV (ds := [(.str "plus"), (.int 1), (.int 1001)]) (ea_cons (Ev.vStr ev_k) (ea_cons (Ev.vInt ev_k) (ea_cons (Ev.vInt ev_k) ea_nil))) (sh_all (by decide +kernel)) (by decide)) (by decide +kernel) (by decide +kernel) (by decide +kernel)) (ea_cons (okq (d := (.tuple [(.str "plus"), (.int (-1001)), (.int 1)])) (ev_tupV (ds := [(.str "plus"), (.int (-1001)), (.int 1)]) (ea_cons (Ev.vStr ev_k) (ea_cons (Ev.vInt (ev_neg (Ev.isInt (K := K) (Ev.vInt ev_k)))) (ea_cons (Ev.vInt ev_k) ea_nil))) (sh_all (by decide +kernel)) (by decide)) (by decide +kernel) (by decide +kernel) (by decide +kernel)) (ea_cons (okq (d := (.int 1001)) (Ev.vInt ev_k) (by decide +kernel) (by decide +kernel) (by decide +kernel)) (ea_cons (okq (d := (.int (-1001))) (Ev.vInt (ev_neg (Ev.isInt (K := K) (Ev.vInt ev_k)))) (by decide +kernel) (by decide +kernel) (by decide +kernel)) (ea_cons (okq (d := (.str "plus")) (Ev.vStr ev_k) (by decide +kernel) (by decide +kernel) (by decide +kernel)) (ea_cons (okq (d := (.str "true")) (Ev.vStr ev_k) (by decide +kernel) (by decide +kernel) (by decide +kernel)) (ea_cons (okq (d := (.str "")) (Ev.vStr ev_k) (by decide +kernel) (by decide +kernel) (by decide +kernel)) (ea_cons (okq (d := (.str "abcdefghi")) (Ev.vStr ev_k) (by decide +kernel) (by decide +kernel) (by decide +kernel)) ea_nil))))))))))))))))))))))
    obtain ⟨a, xs, rfl, ha, hl, hxs⟩ := w3.now
    refine q_asg g3 (en_catL (n := 22) (m := 12) (ev_var rfl (tList.u ha hl hxs)) (en_items (n := 12) (t := tNr K) ?_ (by decide)) (by decide) (by decide)).list fun v G4 H4 g4 _ w4 => ?_
    · exact (ea_cons (okq (d := (.tuple [.none, (.int 1), (.int 2)])) (ev_tupV (ds := [.none, (.int 1), (.int 2)]) (ea_cons (Ev.vNon ev_k) (ea_cons (Ev.vInt ev_k) (ea_cons (Ev.vInt ev_k) ea_nil))) (sh_all (by decide +kernel)) (by decide)) (by decide +kernel) (by decide +kernel) (by decide +kernel)) (ea_cons (okq (d := (.tuple [(.tuple [(.str "plus")]), (.int 1), (.int 2)])) (ev_tupV (ds := [(.tuple [(.str "plus")]), (.int 1), (.int 2)]) (ea_cons (ev_tupV (ds := [(.str "plus")]) (ea_cons (Ev.vStr ev_k) ea_nil) (sh_all (by decide +kernel)) (by decide)) (ea_cons (Ev.vInt ev_k) (ea_cons (Ev.vInt ev_k) ea_nil))) (sh_all (by decide +kernel)) (by decide)) (by decide +kernel) (by decide +kernel) (by decide +kernel)) (ea_cons (okq (d := (.tuple [(.str "not"), (.list [(.str "t")])])) (ev_tupV (ds := [(.str "not"), (.list [(.str "t")])]) (ea_cons (Ev.vStr ev_k) (ea_cons (ev_lstV (ds := [(.str "t")]) (ea_cons (Ev.vStr ev_k) ea_nil) (sh_all (by decide +kernel)) (by decide)) ea_nil)) (sh_all (by decide +kernel)) (by decide)) (by decide +kernel) (by decide +kernel) (by decide +kernel)) (ea_cons (okx (d := (.tuple [(.str "not"), (.tuple [(.str "not"), (.tuple [(.str "not"), d])])])) (ev_tupV (ds := [(.str "not"), (.tuple [(.str "not"), (.tuple [(.str "not"), d])])]) (ea_cons (Ev.vStr ev_k) (ea_cons (ev_tupV (ds := [(.str "not"), (.tuple [(.str "not"), d])]) (ea_cons (Ev.vStr ev_k) (ea_cons (ev_tupV (ds := [(.str "not"), d]) (ea_cons (Ev.vStr ev_k) (ea_cons (ev_v rfl (hx.up g3.gg)) ea_nil)) (sh_cons (by decide +kernel) (sh_cons (Fx.sh (Fx.le (n := 47) hf (by decide)) (by decide)) sh_nil)) (by show 2 ≤ 100000; decide)) ea_nil)) (sh_cons (by decide +kernel) (sh_cons (Fx.sh (fx_tup (m := 46) (fx_cons (fx_dec (m := 46) (by decide +kernel)) (fx_cons (Fx.le (n := 46) hf (by decide)) fx_nil)) (by show 2 ≤ 900; decide)) (by decide)) sh_nil)) (by show 2 ≤ 100000; decide)) ea_nil)) (sh_cons (by decide +kernel) (sh_cons (Fx.sh (fx_tup (m := 46) (fx_cons (fx_dec (m := 46) (by decide +kernel)) (fx_cons (fx_tup (m := 45) (fx_cons (fx_dec (m := 45) (by decide +kernel)) (fx_cons (Fx.le (n := 45) hf (by decide)) fx_nil)) (by show 2 ≤ 900; decide)) fx_nil)) (by show 2 ≤ 900; decide)) (by decide)) sh_nil)) (by show 2 ≤ 100000; decide)) (fx_tup (m := 49) (fx_cons (fx_dec (m := 49) (by decide +kernel)) (fx_cons (fx_tup (m := 48) (fx_cons (fx_dec (m := 48) (by decide +kernel)) (fx_cons (fx_tup (m := 47) (fx_cons (fx_dec (m := 47) (by decide +kernel)) (fx_cons (Fx.le (n := 47) hf (by decide)) fx_nil)) (by show 2 ≤ 900; decide)) fx_nil)) (by show 2 ≤ 900; decide)) fx_nil)) (by show 2 ≤ 900; decide))) (ea_cons (okx (d := (.tuple [(.str "same"), d, d])) (ev_tupV (ds := [(.str "same"), d, d]) (ea_cons (Ev.vStr ev_k) (ea_cons (ev_v rfl (hx.up g3.gg)) (ea_cons (ev_v rfl (hx.up g3.gg)) ea_nil))) (sh_cons (by decide +kernel) (sh_cons (Fx.sh (Fx.le (n := 47) hf (by decide)) (by decide)) (sh_cons (Fx.sh (Fx.le (n := 47) hf (by decide)) (by decide)) sh_nil))) (by show 3 ≤ 100000; decide)) (fx_tup (m := 49) (fx_cons (fx_dec (m := 49) (by decide +kernel)) (fx_cons (Fx.le (n := 49) hf (by decide)) (fx_cons (Fx.le (n := 49) hf (by decide)) fx_nil))) (by show 3 ≤ 900; decide))) (ea_cons (okx (d := (.tuple [d, d])) (ev_tupV (ds := [d, d]) (ea_cons (ev_v rfl (hx.up g3.gg)) (ea_cons (ev_v rfl (hx.up g3.gg)) ea_nil)) (sh_cons (Fx.sh (Fx.le (n := 47) hf (by decide)) (by decide)) (sh_cons (Fx.sh (Fx.le (n := 47) hf (by decide)) (by decide)) sh_nil)) (by show 2 ≤ 100000; decide)) (fx_tup (m := 49) (fx_cons (Fx.le (n := 49) hf (by decide)) (fx_cons (Fx.le (n := 49) hf (by decide)) fx_nil)) (by show 2 ≤ 900; decide))) (ea_cons (okx (d := (.list [d])) (ev_lstV (ds := [d]) (ea_cons (ev_v rfl (hx.up g3.gg)) ea_nil) (sh_cons (Fx.sh (Fx.le (n := 47) hf (by decide)) (by decide)) sh_nil) (by show 1 ≤ 100000; decide)) (fx_lst (m := 49) (fx_cons (Fx.le (n := 49) hf (by decide)) fx_nil) (by show 1 ≤ 900; decide))) (ea_cons (okq (d := (.int (10 ^ (20 : Int).toNat))) (Ev.vInt (ev_iC (C := CPow) ev_k ev_k ⟨by decide, by decide, by decide⟩)) (by decide +kernel) (by decide +kernel) (by decide +kernel)) (ea_cons (okx (d := (.tuple [(.str "and"), d, (.tuple [])])) (ev_tupV (ds := [(.str "and"), d, (.tuple [])]) (ea_cons (Ev.vStr ev_k) (ea_cons (ev_v rfl (hx.up g3.gg)) (ea_cons (ev_tupV (ds := []) ea_nil (sh_all (by decide +kernel)) (by decide)) ea_nil))) (sh_cons (by decide +kernel) (sh_cons (Fx.sh (Fx.le (n := 47) hf (by decide)) (by decide)) (sh_cons (by decide +kernel) sh_nil))) (by show 3 ≤ 100000; decide)) (fx_tup (m := 49) (fx_cons (fx_dec (m := 49) (by decide +kernel)) (fx_cons (Fx.le (n := 49) hf (by decide)) (fx_cons (fx_dec (m := 49) (by decide +kernel)) fx_nil))) (by show 3 ≤ 900; decide))) (ea_cons (okq (d := (.tuple [(.str "plus"), (.str "set"), (.int 1)])) (ev_tupV (ds := [(.str "plus"), (.str "set"), (.int 1)]) (ea_cons (Ev.vStr ev_k) (ea_cons (Ev.vStr ev_k) (ea_cons (Ev.vInt ev_k) ea_nil))) (sh_all (by decide +kernel)) (by decide)) (by decide +kernel) (by decide +kernel) (by decide +kernel)) (ea_cons (okq (d := (.tuple [(.str "n"), (.int 1)])) (ev_tupV (ds := [(.str "n"), (.int 1)]) (ea_cons (Ev.vStr ev_k) (ea_cons (Ev.vInt ev_k) ea_nil)) (sh_all (by decide +kernel)) (by decide)) (by decide +kernel) (by decide +kernel) (by decide +kernel)) (ea_cons (okq (d := (.tuple [(.str "less"), (.int 1), (.tuple [(.int 2)])])) (ev_tupV (ds := [(.str "less"), (.int 1), (.tuple [(.int 2)])]) (ea_cons (Ev.vStr ev_k) (ea_cons (Ev.vInt ev_k) (ea_cons (ev_tupV (ds := [(.int 2)]) (ea_cons (Ev.vInt ev_k) ea_nil) (sh_all (by decide +kernel)) (by decide)) ea_nil))) (sh_all (by decide +kernel)) (by decide)) (by decide +kernel) (by decide +kernel) (by decide +kernel)) ea_nil))))))))))))
    obtain ⟨a4, xs4, rfl, ha4, hl4, hx4⟩ := w4.now
    exact s_retN g4 (en_shuf (n := 60) rfl rfl (fun _ => rfl) (fun _ => rfl) (fun _ => rfl) ha4 (by omega) (by decide) hx4) k)
/-! asked -/
end
end K14
set_option Elab.async false
set_option linter.all false
set_option maxRecDepth 100000
set_option maxHeartbeats 4000000
namespace K14
open PySem L2 Ty
open Evl (Ex ex_l ex_t)
-- OV joined: {"one // other": "(pe_op op_fdivN (pv 1) (pv 2))", "one % other": "(pe_op op_modN (pv 1) (pv 2))"}
abbrev s_kept_in : Stmt := top 17
theorem sc_kept_in : FnScope ["number"] ["number"] (defScope s_kept_in) := ⟨rfl, rfl, rfl, by decide +kernel, rfl, by decide +kernel, by decide +kernel⟩
theorem pb_kept_in : PosB "kept_in" s_kept_in ["number"] := fun _ _ _ _ _ _ us hl => match us, hl with | [_], _ => rfl
abbrev s_joined : Stmt := top 29
theorem sc_joined : FnScope ["head", "one", "other", "found"] ["head", "one", "other"] (defScope s_joined) := ⟨rfl, rfl, rfl, by decide +kernel, rfl, by decide +kernel, by decide +kernel⟩
theorem pb_joined : PosB "joined" s_joined ["head", "one", "other"] := fun _ _ _ _ _ _ us hl => match us, hl with | [_, _, _], _ => rfl

/-! ### what heads make of values -/
def keep (i : Int) : Int := (i - (-1000)) % (1000 - (-1000) + 1) + (-1000)
theorem keep_in (i : Int) : -1000 ≤ keep i ∧ keep i ≤ 1000 := by
  have e : (1000 - (-1000) + 1 : Int) = 2001 := by decide
  unfold keep
  rw [e]
  omega
def hI : List Str := ["plus", "minus", "times", "over", "rest", "least", "most", "less", "same"]
def hB : List Str := ["same", "and", "or"]
def joinV (h : Str) : V → V → V
  | .int a, .int b =>
    if h = "over" then .int (keep (if b = 0 then 0 else a.fdiv b)) else if h = "rest" then .int (keep (if b = 0 then 0 else a.fmod b)) else if h = "plus" then .int (keep (a + b)) else if h = "minus" then .int (keep (a - b))
    else if h = "times" then .int (keep (a * b)) else if h = "least" then .int (if b < a then b else a) else if h = "most" then .int (if b > a then b else a) else if h = "less" then .bl (decide (a < b)) else .bl (decide (a = b))
  | .bl a, .bl b => if h = "same" then .bl (decide (a = b)) else if h = "and" then .bl (a && b) else .bl (a || b)
  | _, _ => .non
def Fit (h : Str) (a b : V) : Prop := (h ∈ hI ∧ ∃ i j : Int, a = .int i ∧ b = .int j ∧ (-1000 ≤ i ∧ i ≤ 1000) ∧ (-1000 ≤ j ∧ j ≤ 1000)) ∨ (h ∈ hB ∧ ∃ x y : Bool, a = .bl x ∧ b = .bl y)
section
variable {K : PySem.W.Frag} {o : Option Addr} {σ : L2.St} {G : Hp} {td tb tk tv tk2 tv2 tk3 tv3 : TE} {z z2 z3 : Str} {v v2 v3 : V}
theorem ev_dgetE {kvs : List (Key × V)} {k : Key} (h : Ev o td σ G (fun G v => ∃ a, v = .ref a ∧ G a = some (.dK kvs))) (hk : Ev o tb σ G (tIs (kV k))) (hv : valV kvs k = some v) : Ev o (tDGet td tb) σ G (tIs v) := fun G1 H1 e kn Q q =>
  h G1 H1 e kn _ fun v2 G2 H2 g2 w2 => hk G2 H2 (e.trans g2.gg) g2.kn _ fun v3 G3 H3 g3 w3 => by
    obtain ⟨a, rfl, ha⟩ := w2.now
    exact ⟨a, v, rfl, .inl ⟨kvs, k, .inl (g3.kn.sub _ _ (g3.gg _ _ ha)), w3.eq, hv.symm⟩, q v G3 H3 (g2.trans g3) u_is⟩
theorem merge3 {k k2 k3 : Key} {v v2 v3 : V} (h : k ≠ k2) (h2 : k ≠ k3) (h3 : k2 ≠ k3) : mergeK [] [(k, v), (k2, v2), (k3, v3)] = [(k, v), (k2, v2), (k3, v3)] := by
  simp [mergeK, putK, h, h2, h3]
theorem ev_disp3 (hn : z ≠ z2) (hn2 : z ≠ z3) (hn3 : z2 ≠ z3) (hk : ∀ G', Ev o tk σ G' (tIs (.str z))) (hv : ∀ G', Ev o tv σ G' (tIs v)) (hk2 : ∀ G', Ev o tk2 σ G' (tIs (.str z2))) (hv2 : ∀ G', Ev o tv2 σ G' (tIs v2)) (hk3 : ∀ G', Ev o tk3 σ G' (tIs (.str z3))) (hv3 : ∀ G', Ev o tv3 σ G' (tIs v3)) :
    Ev o (tDisp [(tk, tv), (tk2, tv2), (tk3, tv3)]) σ G (fun G x => ∃ a, x = .ref a ∧ G a = some (.dK [((Sum.inr z : Key), v), (Sum.inr z2, v2), (Sum.inr z3, v3)])) := fun G1 H1 e kn Q q p hp => by
  have gp : G1 p = none := Evl.fresh_back kn.sub hp
  have g1 : Go o G1 H1 G1 (upd H1 p (.dK [])) := .tmp kn hp
  have nb := kn.nbox hp
  refine hk G1 _ _ (Ex.refl _) g1.kn _ fun x G2 H2 g2 w2 => hv G2 G2 H2 (Ex.refl _) g2.kn _ fun y G3 H3 g3 w3 => hk2 G3 G3 H3 (Ex.refl _) g3.kn _ fun x2 G4 H4 g4 w4 => hv2 G4 G4 H4 (Ex.refl _) g4.kn _ fun y2 G5 H5 g5 w5 => hk3 G5 G5 H5 (Ex.refl _) g5.kn _ fun x3 G6 H6 g6 w6 => hv3 G6 G6 H6 (Ex.refl _) g6.kn _ fun y3 G7 H7 g7 w7 => ?_
  have g' := ((((g2.trans g3).trans g4).trans g5).trans g6).trans g7
  have g := g1.trans g'
  have h3 : H7 p = some (.dK []) := g'.kp p _ upd_same nb
  have n3 : G7 p = none := g'.nw p gp (by rw [upd_same]; simp)
  refine ⟨h3, [((Sum.inr z : Key), v), ((Sum.inr z2 : Key), v2), ((Sum.inr z3 : Key), v3)], by rw [w2.eq, w3.eq, w4.eq, w5.eq, w6.eq, w7.eq]; rfl, (by show 3 ≤ 15; decide), ?_⟩
  rw [merge3 (fun q => hn (Sum.inr.inj q)) (fun q => hn2 (Sum.inr.inj q)) (fun q => hn3 (Sum.inr.inj q))]
  exact q _ (upd G7 p (.dK [((Sum.inr z : Key), v), ((Sum.inr z2 : Key), v2), ((Sum.inr z3 : Key), v3)])) _ ((g.mut hp n3 nb).fix hp upd_same n3 nb) fun G' e' => ⟨p, rfl, e' p _ upd_same⟩
end
section
variable {P : Program} {w : World} {K : PySem.W.Frag} {mg : Str → Option Value} {base : Heap} {ga ha CS D : Addr} {es : Array DictEntry} {n : Nat}
def cKeep (K : PySem.W.Frag) (o : Option Addr) (G : Hp) (vs : List V) (t : T) : Prop := o = none ∧ ∃ i : Int, vs = [.int i] ∧ t = tIs (.int (keep i))
theorem ok_kept_in (T : Txt4 K mg w ga ha es n) (d : Df K mg "kept_in" s_kept_in) : Own P w K mg base CX0 1 "kept_in" s_kept_in ["number"] (spC (cKeep K)) :=
  d.own fun f fd F => F.ok sc_kept_in (fun vs H Q E h => by obtain ⟨o, G, t, kn, ⟨_, i, rfl, _⟩, _⟩ := h; rfl) (fun cdv A outer s H vs Q E hr h => by
    obtain ⟨o, G, t, kn, ⟨rfl, i, rfl, rfl⟩, k⟩ := h
    refine ⟨_, (pss_one (ps_ret (pe_op (kAdd (K := K) rfl) (pe_op op_mod (pe_op op_sub (pv 0) (pe_globE rfl T.g_LOW)) (pe_op (kAdd (K := K) rfl) (pe_op op_sub (pe_globE rfl T.g_HIGH) (pe_globE rfl T.g_LOW)) pe_int)) (pe_globE rfl T.g_LOW)))), ?_⟩
    exact s_ret (Go.refl kn) (ev_addI (ev_iC (C := fun _ j => 0 < j) (ev_i0 (ev_x rfl) ev_k) (ev_addI (ev_i0 ev_k ev_k) ev_k) (by decide)) ev_k) k)
def cJoin (K : PySem.W.Frag) (o : Option Addr) (G : Hp) (vs : List V) (t : T) : Prop := o = none ∧ ∃ h a b, vs = [.str h, a, b] ∧ Fit h a b ∧ t = tIs (joinV h a b)
theorem ok_joined (T : Txt4 K mg w ga ha es n) (d : Df K mg "joined" s_joined) (G_kept_in : Own P w K mg base CX0 1 "kept_in" s_kept_in ["number"] (spC (cKeep K))) : Own P w K mg base CX0 2 "joined" s_joined ["head", "one", "other"] (spC (cJoin K)) :=
  d.own fun f fd F => F.ok sc_joined (fun vs H Q E h => by obtain ⟨o, G, t, _, ⟨_, h, a, b, rfl, _⟩, _⟩ := h; rfl) (fun cdv A outer s H vs Q E hr h => by
    obtain ⟨o, G, t, kn, ⟨rfl, h, a, b, rfl, fit, rfl⟩, k⟩ := h
    refine ⟨_, (pss_cons (ps_if (pt_cmpR (kIn (K := K) rfl) (pv 0) (pe_tup (pa_cons pe_str (pa_cons pe_str pa_nil))) (by rfl)) (pss_cons (ps_set (i := 3) sc_joined.nd rfl (Or.inl rfl) (pe_ifExp (pt_cmpR (kEq (K := K) rfl hr.units) (pv 2) pe_int (nomark _)) pe_int (pe_ifExp (pt_cmpR (kEq (K := K) rfl hr.units) (pv 0) pe_str (nomark _)) (pe_op op_fdivN (pv 1) (pv 2)) (pe_op op_modN (pv 1) (pv 2)))))
   (pss_one (ps_ret (pe_own G_kept_in pb_kept_in (hr.mono (by first | decide | exact Nat.le_refl _ | omega)) rfl pass0 (pa_cons (pv 3) pa_nil))))) pss_nil)
   (pss_cons (ps_if (pt_cmpR (kIn (K := K) rfl) (pv 0) (pe_tup (pa_cons pe_str (pa_cons pe_str (pa_cons pe_str pa_nil)))) (by rfl)) (pss_one (ps_ret (pe_own G_kept_in pb_kept_in (hr.mono (by first | decide | exact Nat.le_refl _ | omega)) rfl pass0 (pa_cons (pe_dget (Nat.lt_of_le_of_lt (Nat.add_le_add_left (by decide) _) hr.units) (pe_disp (pps_cons pe_str (pe_op (kAdd (K := K) rfl) (pv 1) (pv 2)) (pps_cons pe_str (pe_op op_sub (pv 1) (pv 2)) (pps_cons pe_str (pe_op gMul (pv 1) (pv 2)) pps_nil))) (by rfl) (by rfl) (fun z => by cases z) (by decide)) (pv 0) (fun _ _ => rfl)) pa_nil)))) pss_nil)
   (pss_cons (ps_if (pt_cmpR (kIn (K := K) rfl) (pv 0) (pe_tup (pa_cons pe_str (pa_cons pe_str pa_nil))) (by rfl)) (pss_one (ps_ret (pe_ifExp (pt_cmpR (kEq (K := K) rfl hr.units) (pv 0) pe_str (nomark _)) (pe_callB (call_min2 rfl) (by rfl) T.n_min (by decide +kernel) (pa_cons (pv 1) (pa_cons (pv 2) pa_nil))) (pe_callB (call_max2 rfl) (by rfl) T.n_max (by decide +kernel) (pa_cons (pv 1) (pa_cons (pv 2) pa_nil)))))) pss_nil)
   (pss_cons (ps_if (pt_cmpR (kIn (K := K) rfl) (pv 0) (pe_tup (pa_cons pe_str (pa_cons pe_str pa_nil))) (by rfl)) (pss_one (ps_ret (pe_ifExp (pt_cmpR (kEq (K := K) rfl hr.units) (pv 0) pe_str (nomark _)) (pe_cmpR gLt (pv 1) (pv 2) (nomark _)) (pe_cmpR (kEq (K := K) rfl hr.units) (pv 1) (pv 2) (nomark _))))) pss_nil)
   (pss_one (ps_ret (pe_ifExp (pt_cmpR (kEq (K := K) rfl hr.units) (pv 0) pe_str (nomark _)) (pe_and (pv 1) (pe_one (pv 2))) (pe_or (pv 1) (pe_one (pv 2)))))))))), ?_⟩
    have g0 := Go.refl kn
    have in2 : ∀ {x y : Str} {r : Bool} {G' σ'}, σ'[0]? = some (some (.str h)) → inV (.str h) [.str x, .str y] = r → EvT none (tTest (tOp (rInG K false) (tVar 0) (tTup (tCons (tC (.str x)) (tCons (tC (.str y)) tNil))))) σ' G' (· = r) := fun {x y r G' σ'} h0 hb =>
      et_test (ev_op (s := tIs (.str h)) (u := tTupU K [tIs (.str x), tIs (.str y)]) (ev_x h0) (ev_tup (ea_cons ev_k (ea_cons ev_k ea_nil)) (by show 2 ≤ 100000; decide)) fun G3 x' y' e3 hx hy => by
        obtain ⟨p, vs, rfl, hq, hal⟩ := hy.now
        rw [hx.eq]
        rw [all2 hal] at hq
        have q := ro_inT (neg := false) (x := .str h) (K := K) (o := none) hq rfl rfl
        rw [show (if false then !inV (.str h) [.str x, .str y] else inV (.str h) [.str x, .str y]) = r from hb] at q
        exact q)
    have in3 : ∀ {x y z : Str} {r : Bool} {G' σ'}, σ'[0]? = some (some (.str h)) → inV (.str h) [.str x, .str y, .str z] = r → EvT none (tTest (tOp (rInG K false) (tVar 0) (tTup (tCons (tC (.str x)) (tCons (tC (.str y)) (tCons (tC (.str z)) tNil)))))) σ' G' (· = r) := fun {x y z r G' σ'} h0 hb =>
      et_test (ev_op (s := tIs (.str h)) (u := tTupU K [tIs (.str x), tIs (.str y), tIs (.str z)]) (ev_x h0) (ev_tup (ea_cons ev_k (ea_cons ev_k (ea_cons ev_k ea_nil))) (by show 3 ≤ 100000; decide)) fun G3 x' y' e3 hx hy => by
        obtain ⟨p, vs, rfl, hq, hal⟩ := hy.now
        rw [hx.eq]
        rw [all3 hal] at hq
        have q := ro_inT (neg := false) (x := .str h) (K := K) (o := none) hq rfl rfl
        rw [show (if false then !inV (.str h) [.str x, .str y, .str z] else inV (.str h) [.str x, .str y, .str z]) = r from hb] at q
        exact q)
    have eqh : ∀ {x : Str} {r : Bool} {G' σ'}, σ'[0]? = some (some (.str h)) → decide (V.str h = V.str x) = r → EvT none (tTest (tOp (rEqG K) (tVar 0) (tC (.str x)))) σ' G' (· = r) := fun h0 hb => et_test (ev_op2 (ev_x h0) ev_k (ro_eqS rfl hb))
    have kept : ∀ {te : TE} {i : Int} {G' σ' E}, Ev none te σ' G' (tIs (.int i)) → Ev none (tCall (spC (cKeep K)) [] E (tCons te tNil)) σ' G' (tIs (.int (keep i))) := fun ht => ev_call (ea_cons ht ea_nil) fun G'' vs e al => by
      rw [all1 al]
      exact ⟨none, _, .inl rfl, ⟨rfl, _, rfl, rfl⟩, fun _ _ _ w => w⟩
    rcases fit with ⟨hm, i, j, rfl, rfl, hi, hj⟩ | ⟨hm, x, y, rfl, rfl⟩
    · simp only [hI, List.mem_cons, List.not_mem_nil, or_false] at hm
      rcases hm with rfl | rfl | rfl | rfl | rfl | rfl | rfl | rfl | rfl
      · rw [show joinV "plus" (.int i) (.int j) = .int (keep (i + j)) from by kernel_rfl] at k
        exact q_when g0 (p := (· = false)) (in2 rfl (by kernel_rfl)) (fun z => nomatch z) fun _ G2 H2 g2 _ => q_when g2 (p := (· = true)) (in3 rfl (by kernel_rfl)) (fun _ G3 H3 g3 _ => s_ret g3 (kept (ev_dgetE (k := (Sum.inr "plus" : Key)) (v := .int (i + j)) (ev_disp3 (by decide +kernel) (by decide +kernel) (by decide +kernel) (fun _ => ev_k) (fun _ => ev_addI (ev_x rfl) (ev_x rfl)) (fun _ => ev_k) (fun _ => ev_i0 (g := fun i j => .int (i - j)) (ev_x rfl) (ev_x rfl)) (fun _ => ev_k) fun _ => ev_op2 (ev_x rfl) (ev_x rfl) (ro_mulI (.inl ⟨by omega, by omega⟩))) (ev_x rfl) (by kernel_rfl))) k) fun z => nomatch z
      · rw [show joinV "minus" (.int i) (.int j) = .int (keep (i - j)) from by kernel_rfl] at k
        exact q_when g0 (p := (· = false)) (in2 rfl (by kernel_rfl)) (fun z => nomatch z) fun _ G2 H2 g2 _ => q_when g2 (p := (· = true)) (in3 rfl (by kernel_rfl)) (fun _ G3 H3 g3 _ => s_ret g3 (kept (ev_dgetE (k := (Sum.inr "minus" : Key)) (v := .int (i - j)) (ev_disp3 (by decide +kernel) (by decide +kernel) (by decide +kernel) (fun _ => ev_k) (fun _ => ev_addI (ev_x rfl) (ev_x rfl)) (fun _ => ev_k) (fun _ => ev_i0 (g := fun i j => .int (i - j)) (ev_x rfl) (ev_x rfl)) (fun _ => ev_k) fun _ => ev_op2 (ev_x rfl) (ev_x rfl) (ro_mulI (.inl ⟨by omega, by omega⟩))) (ev_x rfl) (by kernel_rfl))) k) fun z => nomatch z
      · rw [show joinV "times" (.int i) (.int j) = .int (keep (i * j)) from by kernel_rfl] at k
        exact q_when g0 (p := (· = false)) (in2 rfl (by kernel_rfl)) (fun z => nomatch z) fun _ G2 H2 g2 _ => q_when g2 (p := (· = true)) (in3 rfl (by kernel_rfl)) (fun _ G3 H3 g3 _ => s_ret g3 (kept (ev_dgetE (k := (Sum.inr "times" : Key)) (v := .int (i * j)) (ev_disp3 (by decide +kernel) (by decide +kernel) (by decide +kernel) (fun _ => ev_k) (fun _ => ev_addI (ev_x rfl) (ev_x rfl)) (fun _ => ev_k) (fun _ => ev_i0 (g := fun i j => .int (i - j)) (ev_x rfl) (ev_x rfl)) (fun _ => ev_k) fun _ => ev_op2 (ev_x rfl) (ev_x rfl) (ro_mulI (.inl ⟨by omega, by omega⟩))) (ev_x rfl) (by kernel_rfl))) k) fun z => nomatch z
      · rw [show joinV "over" (.int i) (.int j) = .int (keep (if j = 0 then 0 else i.fdiv j)) from by kernel_rfl] at k
        refine q_when g0 (p := (· = true)) (in2 rfl (by kernel_rfl)) (fun _ G2 H2 g2 _ => ?_) fun z => nomatch z
        refine q_asg (t := tIs (.int (if j = 0 then 0 else i.fdiv j))) g2 (ev_if (p := (· = decide (j = 0))) (et_test (ev_op2 (ev_x rfl) ev_k (ro_eqS rfl (by simp)))) (fun hz => ?_) fun hz => ev_if (p := (· = true)) (eqh rfl (by kernel_rfl)) (fun hc => ?_) fun hc => ?_) fun v G3 H3 g3 _ w3 => ?_
        · rw [if_pos (of_decide_eq_true hz.symm)]; exact ev_k
        · have hz' := of_decide_eq_false hz.symm
          rw [if_neg hz']
          exact ev_iC (C := CDivN) (g := fun i j => .int (i.fdiv j)) (ev_x rfl) (ev_x rfl) ⟨hz', by omega⟩
        · have hz' := of_decide_eq_false hz.symm
          exact nomatch hc
        · rw [w3.eq]
          exact s_ret g3 (kept (ev_x rfl)) k
      · rw [show joinV "rest" (.int i) (.int j) = .int (keep (if j = 0 then 0 else i.fmod j)) from by kernel_rfl] at k
        refine q_when g0 (p := (· = true)) (in2 rfl (by kernel_rfl)) (fun _ G2 H2 g2 _ => ?_) fun z => nomatch z
        refine q_asg (t := tIs (.int (if j = 0 then 0 else i.fmod j))) g2 (ev_if (p := (· = decide (j = 0))) (et_test (ev_op2 (ev_x rfl) ev_k (ro_eqS rfl (by simp)))) (fun hz => ?_) fun hz => ev_if (p := (· = false)) (eqh rfl (by kernel_rfl)) (fun hc => ?_) fun hc => ?_) fun v G3 H3 g3 _ w3 => ?_
        · rw [if_pos (of_decide_eq_true hz.symm)]; exact ev_k
        · have hz' := of_decide_eq_false hz.symm
          exact nomatch hc
        · have hz' := of_decide_eq_false hz.symm
          rw [if_neg hz']
          exact ev_iC (C := fun _ j => j ≠ 0) (g := fun i j => .int (i.fmod j)) (ev_x rfl) (ev_x rfl) hz'
        · rw [w3.eq]
          exact s_ret g3 (kept (ev_x rfl)) k
      · rw [show joinV "least" (.int i) (.int j) = .int (if j < i then j else i) from by kernel_rfl] at k
        refine q_when g0 (p := (· = false)) (in2 rfl (by kernel_rfl)) (fun z => nomatch z) fun _ G2 H2 g2 _ => q_when g2 (p := (· = false)) (in3 rfl (by kernel_rfl)) (fun z => nomatch z) fun _ G3 H3 g3 _ => q_when g3 (p := (· = true)) (in2 rfl (by kernel_rfl)) (fun _ G4 H4 g4 _ => s_ret g4 (ev_if (p := (· = true)) (eqh rfl (by kernel_rfl)) (fun hc => ?_) fun hc => ?_) k) fun z => nomatch z
        · exact ev_cb (ea_cons (ev_x rfl) (ea_cons (ev_x rfl) ea_nil)) fun G' vs e al => by
            rw [all2 al]
            exact rc_q u_is fun _ _ _ _ _ q => ⟨i, j, rfl, q⟩
        · exact nomatch hc
      · rw [show joinV "most" (.int i) (.int j) = .int (if j > i then j else i) from by kernel_rfl] at k
        refine q_when g0 (p := (· = false)) (in2 rfl (by kernel_rfl)) (fun z => nomatch z) fun _ G2 H2 g2 _ => q_when g2 (p := (· = false)) (in3 rfl (by kernel_rfl)) (fun z => nomatch z) fun _ G3 H3 g3 _ => q_when g3 (p := (· = true)) (in2 rfl (by kernel_rfl)) (fun _ G4 H4 g4 _ => s_ret g4 (ev_if (p := (· = false)) (eqh rfl (by kernel_rfl)) (fun hc => ?_) fun hc => ?_) k) fun z => nomatch z
        · exact nomatch hc
        · exact ev_cb (ea_cons (ev_x rfl) (ea_cons (ev_x rfl) ea_nil)) fun G' vs e al => by
            rw [all2 al]
            exact rc_q u_is fun _ _ _ _ _ q => ⟨i, j, rfl, q⟩
      · rw [show joinV "less" (.int i) (.int j) = .bl (decide (i < j)) from by kernel_rfl] at k
        refine q_when g0 (p := (· = false)) (in2 rfl (by kernel_rfl)) (fun z => nomatch z) fun _ G2 H2 g2 _ => q_when g2 (p := (· = false)) (in3 rfl (by kernel_rfl)) (fun z => nomatch z) fun _ G3 H3 g3 _ => q_when g3 (p := (· = false)) (in2 rfl (by kernel_rfl)) (fun z => nomatch z) fun _ G4 H4 g4 _ => q_when g4 (p := (· = true)) (in2 rfl (by kernel_rfl)) (fun _ G5 H5 g5 _ => s_ret g5 (ev_if (p := (· = true)) (eqh rfl (by kernel_rfl)) (fun hc => ?_) fun hc => ?_) k) fun z => nomatch z
        · exact ev_i0 (g := fun i j => .bl (decide (i < j))) (ev_x rfl) (ev_x rfl)
        · exact nomatch hc
      · rw [show joinV "same" (.int i) (.int j) = .bl (decide (i = j)) from by kernel_rfl] at k
        refine q_when g0 (p := (· = false)) (in2 rfl (by kernel_rfl)) (fun z => nomatch z) fun _ G2 H2 g2 _ => q_when g2 (p := (· = false)) (in3 rfl (by kernel_rfl)) (fun z => nomatch z) fun _ G3 H3 g3 _ => q_when g3 (p := (· = false)) (in2 rfl (by kernel_rfl)) (fun z => nomatch z) fun _ G4 H4 g4 _ => q_when g4 (p := (· = true)) (in2 rfl (by kernel_rfl)) (fun _ G5 H5 g5 _ => s_ret g5 (ev_if (p := (· = false)) (eqh rfl (by kernel_rfl)) (fun hc => ?_) fun hc => ?_) k) fun z => nomatch z
        · exact nomatch hc
        · exact ev_op2 (ev_x rfl) (ev_x rfl) (ro_eqS rfl (by simp))
    · simp only [hB, List.mem_cons, List.not_mem_nil, or_false] at hm
      rcases hm with rfl | rfl | rfl
      · rw [show joinV "same" (.bl x) (.bl y) = .bl (decide (x = y)) from by kernel_rfl] at k
        refine q_when g0 (p := (· = false)) (in2 rfl (by kernel_rfl)) (fun z => nomatch z) fun _ G2 H2 g2 _ => q_when g2 (p := (· = false)) (in3 rfl (by kernel_rfl)) (fun z => nomatch z) fun _ G3 H3 g3 _ => q_when g3 (p := (· = false)) (in2 rfl (by kernel_rfl)) (fun z => nomatch z) fun _ G4 H4 g4 _ => q_when g4 (p := (· = true)) (in2 rfl (by kernel_rfl)) (fun hc G5 H5 g5 _ => ?_) fun hc G5 H5 g5 _ => ?_
        · exact s_ret g5 (ev_if (p := (· = false)) (eqh rfl (by kernel_rfl)) (fun z => nomatch z) fun _ => ev_op2 (ev_x rfl) (ev_x rfl) (ro_eqS rfl (by simp))) k
        · exact nomatch hc
      · rw [show joinV "and" (.bl x) (.bl y) = .bl (x && y) from by kernel_rfl] at k
        refine q_when g0 (p := (· = false)) (in2 rfl (by kernel_rfl)) (fun z => nomatch z) fun _ G2 H2 g2 _ => q_when g2 (p := (· = false)) (in3 rfl (by kernel_rfl)) (fun z => nomatch z) fun _ G3 H3 g3 _ => q_when g3 (p := (· = false)) (in2 rfl (by kernel_rfl)) (fun z => nomatch z) fun _ G4 H4 g4 _ => q_when g4 (p := (· = false)) (in2 rfl (by kernel_rfl)) (fun hc G5 H5 g5 _ => ?_) fun hc G5 H5 g5 _ => ?_
        · exact nomatch hc
        · refine s_ret g5 (ev_if (p := (· = true)) (eqh rfl (by kernel_rfl)) (fun hc2 => ?_) fun hc2 => ?_) k
          · exact ev_and (ev_x rfl) fun _ => ev_x rfl
          · exact nomatch hc2
      · rw [show joinV "or" (.bl x) (.bl y) = .bl (x || y) from by kernel_rfl] at k
        refine q_when g0 (p := (· = false)) (in2 rfl (by kernel_rfl)) (fun z => nomatch z) fun _ G2 H2 g2 _ => q_when g2 (p := (· = false)) (in3 rfl (by kernel_rfl)) (fun z => nomatch z) fun _ G3 H3 g3 _ => q_when g3 (p := (· = false)) (in2 rfl (by kernel_rfl)) (fun z => nomatch z) fun _ G4 H4 g4 _ => q_when g4 (p := (· = false)) (in2 rfl (by kernel_rfl)) (fun hc G5 H5 g5 _ => ?_) fun hc G5 H5 g5 _ => ?_
        · exact nomatch hc
        · refine s_ret g5 (ev_if (p := (· = false)) (eqh rfl (by kernel_rfl)) (fun hc2 => ?_) fun hc2 => ?_) k
          · exact nomatch hc2
          · exact ev_or (ev_x rfl) fun _ => ev_x rfl)
end
end K14
set_option Elab.async false
set_option linter.all false
set_option maxRecDepth 100000
set_option maxHeartbeats 4000000
namespace K14
open PySem L2 Ty
open Evl (Ex ex_l ex_t)
-- OV made_by: {"iter:term[1:]": "(pi_tupK (K := K) rfl (pe_slice (kSl (K := K) rfl) (pv 0) (po_some pe_int) po_none))", "values[term]": "(pe_dget (Nat.lt_of_le_of_lt (Nat.add_le_add_left (by decide) _) hr.units) (pv 1) (pv 0) (fun _ _ => rfl))"}
abbrev s_made_by : Stmt := top 30
theorem sc_made_by : FnScope ["term", "values", "parts", "part"] ["term", "values"] (defScope s_made_by) := ⟨rfl, rfl, rfl, by decide +kernel, rfl, by decide +kernel, by decide +kernel⟩
theorem pb_made_by : PosB "made_by" s_made_by ["term", "values"] := fun _ _ _ _ _ _ us hl => match us, hl with | [_, _], _ => rfl
/-! ### what sums make -/
def kword : V → Str
  | .bl _ => "truth"
  | _ => "integer"
def VK (k : Str) (v : V) : Prop := (k = "truth" ∧ ∃ b, v = .bl b) ∨ (k = "integer" ∧ ∃ i : Int, v = .int i ∧ -1000 ≤ i ∧ i ≤ 1000)
def notV : V → V
  | .bl b => .bl (!b)
  | _ => .non
def mkN : Nat → (Str → Option V) → PyData → V
  | 0, _, _ => .non
  | _ + 1, f, .str z => (f z).getD .non
  | _ + 1, _, .bool b => .bl b
  | _ + 1, _, .int i => .int i
  | n + 1, f, .tuple [.str _, p] => notV (mkN n f p)
  | n + 1, f, .tuple [.str h, p, q] => joinV h (mkN n f p) (mkN n f q)
  | _ + 1, _, _ => .non
def kf (f : Str → Option V) (z : Str) : Option Str := (f z).map kword
theorem comb_inv {h k : Str} {ks : List (Option Str)} (e : comb h ks = some k) : ∃ a r, ks = some a :: r ∧ (∀ b ∈ r, b = some a) ∧ ((hRow h).1 = none ∨ (hRow h).1 = some a) ∧ k = (hRow h).2 := by
  cases ks with
  | nil => cases e
  | cons x r =>
    cases x with
    | none => cases e
    | some a =>
      have e : (if r.all (fun b => decide (b = some a)) = true ∧ ((hRow h).1 = none ∨ (hRow h).1 = some a) then some (hRow h).2 else none) = some k := e
      by_cases c : r.all (fun b => decide (b = some a)) = true ∧ ((hRow h).1 = none ∨ (hRow h).1 = some a)
      · rw [if_pos c] at e
        exact ⟨a, r, rfl, fun b hb => of_decide_eq_true (List.all_eq_true.mp c.1 b hb), c.2, (Option.some.inj e).symm⟩
      · rw [if_neg c] at e
        cases e
theorem row_facts : ∀ h ∈ h11, ((hRow h).1 = some ("integer" : Str) ∧ h ∈ hI ∧ ((hRow h).2 = "integer" ∧ h ≠ "less" ∧ h ≠ "same" ∨ (hRow h).2 = "truth" ∧ h = "less")) ∨ ((hRow h).1 = none ∧ (hRow h).2 = "truth" ∧ h = "same") ∨ ((hRow h).1 = some ("truth" : Str) ∧ (hRow h).2 = "truth" ∧ h ∈ hB ∧ h ≠ "same") := by decide +kernel
theorem join_int {h : Str} {i j : Int} (hm : h ∈ hI) (h1 : h ≠ "less") (h2 : h ≠ "same") (hi : -1000 ≤ i ∧ i ≤ 1000) (hj : -1000 ≤ j ∧ j ≤ 1000) : ∃ k : Int, joinV h (.int i) (.int j) = .int k ∧ -1000 ≤ k ∧ k ≤ 1000 := by
  simp only [hI, List.mem_cons, List.not_mem_nil, or_false] at hm
  rcases hm with rfl | rfl | rfl | rfl | rfl | rfl | rfl | rfl | rfl
  · exact ⟨_, (by kernel_rfl : joinV "plus" (.int i) (.int j) = .int (keep (i + j))), keep_in _⟩
  · exact ⟨_, (by kernel_rfl : joinV "minus" (.int i) (.int j) = .int (keep (i - j))), keep_in _⟩
  · exact ⟨_, (by kernel_rfl : joinV "times" (.int i) (.int j) = .int (keep (i * j))), keep_in _⟩
  · exact ⟨_, (by kernel_rfl : joinV "over" (.int i) (.int j) = .int (keep (if j = 0 then 0 else i.fdiv j))), keep_in _⟩
  · exact ⟨_, (by kernel_rfl : joinV "rest" (.int i) (.int j) = .int (keep (if j = 0 then 0 else i.fmod j))), keep_in _⟩
  · exact ⟨_, (by kernel_rfl : joinV "least" (.int i) (.int j) = .int (if j < i then j else i)), by split <;> omega⟩
  · exact ⟨_, (by kernel_rfl : joinV "most" (.int i) (.int j) = .int (if j > i then j else i)), by split <;> omega⟩
  · exact absurd rfl h1
  · exact absurd rfl h2
theorem join_ok {h k : Str} {a b : V} (hm : h ∈ h11) (h1 : (hRow h).1 = none ∨ (hRow h).1 = some k) (ha : VK k a) (hb : VK k b) : Fit h a b ∧ VK (hRow h).2 (joinV h a b) := by
  have ne : ("truth" : Str) ≠ "integer" := by decide +kernel
  rcases row_facts h hm with ⟨e1, m1, e2⟩ | ⟨e1, e2, rfl⟩ | ⟨e1, e2, m1, n1⟩
  · have ek : k = "integer" := by
      rcases h1 with z | z
      · rw [e1] at z; cases z
      · rw [e1] at z; exact (Option.some.inj z).symm
    subst ek
    rcases ha with ⟨e, _⟩ | ⟨_, i, rfl, hi⟩
    · exact absurd e.symm ne
    · rcases hb with ⟨e, _⟩ | ⟨_, j, rfl, hj⟩
      · exact absurd e.symm ne
      · refine ⟨.inl ⟨m1, i, j, rfl, rfl, hi, hj⟩, ?_⟩
        rcases e2 with ⟨e2, n1, n2⟩ | ⟨e2, rfl⟩
        · obtain ⟨z, e3, e4⟩ := join_int m1 n1 n2 hi hj
          rw [e2, e3]
          exact .inr ⟨rfl, z, rfl, e4⟩
        · rw [e2, (by kernel_rfl : joinV "less" (.int i) (.int j) = .bl (decide (i < j)))]
          exact .inl ⟨rfl, _, rfl⟩
  · rw [e2]
    rcases ha with ⟨rfl, x, rfl⟩ | ⟨rfl, i, rfl, hi⟩
    · rcases hb with ⟨_, y, rfl⟩ | ⟨e, _⟩
      · exact ⟨.inr ⟨by decide +kernel, x, y, rfl, rfl⟩, .inl ⟨rfl, _, (by kernel_rfl : joinV "same" (.bl x) (.bl y) = .bl (decide (x = y)))⟩⟩
      · exact absurd e ne
    · rcases hb with ⟨e, _⟩ | ⟨_, j, rfl, hj⟩
      · exact absurd e.symm ne
      · exact ⟨.inl ⟨by decide +kernel, i, j, rfl, rfl, hi, hj⟩, .inl ⟨rfl, _, (by kernel_rfl : joinV "same" (.int i) (.int j) = .bl (decide (i = j)))⟩⟩
  · have ek : k = "truth" := by
      rcases h1 with z | z
      · rw [e1] at z; cases z
      · rw [e1] at z; exact (Option.some.inj z).symm
    subst ek
    rcases ha with ⟨_, x, rfl⟩ | ⟨e, _⟩
    · rcases hb with ⟨_, y, rfl⟩ | ⟨e, _⟩
      · refine ⟨.inr ⟨m1, x, y, rfl, rfl⟩, ?_⟩
        rw [e2]
        simp only [hB, List.mem_cons, List.not_mem_nil, or_false] at m1
        rcases m1 with rfl | rfl | rfl
        · exact absurd rfl n1
        · exact .inl ⟨rfl, _, (by kernel_rfl : joinV "and" (.bl x) (.bl y) = .bl (x && y))⟩
        · exact .inl ⟨rfl, _, (by kernel_rfl : joinV "or" (.bl x) (.bl y) = .bl (x || y))⟩
      · exact absurd e ne
    · exact absurd e ne
theorem heads_two : ∀ h ∈ heads, h = "not" ∨ h ∈ h11 := by decide +kernel
theorem hsz_two : ∀ h ∈ h11, hsz h = 2 ∧ h ≠ "not" := by decide +kernel
/-- the parts of a sum that fits -/
inductive Parts (j : Nat) (f : Str → Option V) (h : Str) : List PyData → Str → V → Prop
  | one {p : PyData} : h = "not" → kindN j (kf f) p = some ("truth" : Str) → VK "truth" (mkN j f p) → Parts j f h [p] "truth" (notV (mkN j f p))
  | two {p q : PyData} {k : Str} : h ∈ h11 → kindN j (kf f) p = some k → kindN j (kf f) q = some k → Fit h (mkN j f p) (mkN j f q) → VK (hRow h).2 (joinV h (mkN j f p) (mkN j f q)) → Parts j f h [p, q] (hRow h).2 (joinV h (mkN j f p) (mkN j f q))
theorem parts_of {j : Nat} {f : Str → Option V} {h k : Str} {ps : List PyData} (hh : h ∈ heads) (hl : ps.length = hsz h) (ih : ∀ p ∈ ps, ∀ k, kindN j (kf f) p = some k → VK k (mkN j f p)) (e : comb h (ps.map (kindN j (kf f))) = some k) : ∃ v, Parts j f h ps k v := by
  obtain ⟨a, r, e1, e2, e3, rfl⟩ := comb_inv e
  rcases heads_two h hh with rfl | hm
  · match ps, hl with
    | [p], _ =>
      have q : kindN j (kf f) p = some a := by
        have := congrArg List.head? e1
        exact Option.some.inj this
      have ea : a = "truth" := by
        rcases e3 with z | z
        · exact absurd z (by decide +kernel)
        · exact ((Option.some.inj ((by kernel_rfl : (hRow "not").1 = some ("truth" : Str)).symm.trans z))).symm
      subst ea
      have er : (hRow "not").2 = ("truth" : Str) := by kernel_rfl
      rw [er]
      exact ⟨_, .one rfl q (ih p (List.mem_cons_self ..) _ q)⟩
  · rw [(hsz_two h hm).1] at hl
    match ps, hl with
    | [p, q], _ =>
      have e1' : [kindN j (kf f) p, kindN j (kf f) q] = some a :: r := e1
      injection e1' with q1 q2
      have q3 : kindN j (kf f) q = some a := e2 _ (by rw [← q2]; exact List.mem_cons_self ..)
      obtain ⟨f1, f2⟩ := join_ok hm e3 (ih p (List.mem_cons_self ..) _ q1) (ih q (List.mem_cons_of_mem _ (List.mem_cons_self ..)) _ q3)
      exact ⟨_, .two hm q1 q3 f1 f2⟩
theorem parts_vk {j : Nat} {f : Str → Option V} {h k : Str} {ps : List PyData} {v : V} (p : Parts j f h ps k v) : VK k v := by
  cases p with
  | one _ _ h =>
    rcases h with ⟨_, b, e⟩ | ⟨e, _⟩
    · rw [e]; exact .inl ⟨rfl, _, rfl⟩
    · exact absurd e (by decide +kernel)
  | two _ _ _ _ h => exact h
theorem parts_mk {j : Nat} {f : Str → Option V} {h k : Str} {ps : List PyData} {v : V} (p : Parts j f h ps k v) : mkN (j + 1) f (.tuple (.str h :: ps)) = v := by cases p <;> rfl
theorem mk_ok {f : Str → Option V} (hf : ∀ z v, f z = some v → VK (kword v) v) : ∀ (n : Nat) {d : PyData} {m : Nat} {k : Str}, Sz d m → m ≤ n → kindN n (kf f) d = some k → VK k (mkN n f d)
  | 0, _, _, _, h, hm, _ => by
    have := sz_pos h
    omega
  | n + 1, d, m, k, h, hm, hk => by
    cases h with
    | pl hp =>
      cases d with
      | str z =>
        have hk : (f z).map kword = some k := hk
        cases e : f z with
        | none => rw [e] at hk; cases hk
        | some v =>
          rw [e] at hk
          cases hk
          show VK _ ((f z).getD .non)
          rw [e]
          exact hf z v e
      | bool b => cases hk; exact .inl ⟨rfl, b, rfl⟩
      | int i =>
        cases hk
        have hp : (false || ((decide ((-1000 : Int) ≤ i) && decide (i ≤ (1000 : Int))) || false)) = true := hp
        simp only [Bool.false_or, Bool.or_false, Bool.and_eq_true, decide_eq_true_eq] at hp
        exact .inr ⟨rfl, i, rfl, hp⟩
      | _ => cases hp
    | @nd z ps m' hh hl hs =>
      obtain ⟨v, p⟩ := parts_of hh hl (fun q hq k' e => by
        obtain ⟨a, ha, hle⟩ := szs_mem hs hq
        exact mk_ok hf n ha (by omega) e) hk
      rw [parts_mk p]
      exact parts_vk p
def ValsOf (kvs : List (Key × V)) (f : Str → Option V) : Prop := ∀ z : Str, valV kvs (Sum.inr z : Key) = f z
section
variable {P : Program} {w : World} {K : PySem.W.Frag} {mg : Str → Option Value} {base : Heap} {ga ha CS D : Addr} {es : Array DictEntry} {n : Nat}
def cMade (K : PySem.W.Frag) (n : Nat) (o : Option Addr) (G : Hp) (vs : List V) (t : T) : Prop := o = none ∧ ∃ x d a kvs f k, vs = [x, .ref a] ∧ (Vl K G x d ∧ Sm1 d) ∧ (∃ m, Sz d m ∧ m ≤ n) ∧ G a = some (.dK kvs) ∧ ValsOf kvs f ∧ (∀ z v, f z = some v → VK (kword v) v) ∧ kindN n (kf f) d = some k ∧ t = tIs (mkN n f d)
theorem ok_made_by (T : Txt4 K mg w ga ha es n) (d : Df K mg "made_by" s_made_by) (G_joined : Own P w K mg base CX0 2 "joined" s_joined ["head", "one", "other"] (spC (cJoin K))) : ∀ k, Own P w K mg base CX0 (k + 2) "made_by" s_made_by ["term", "values"] (spC (cMade K k))
  | 0 => d.own fun f fd F => ⟨fun vs H Q E h => by
      obtain ⟨o, G, t, _, ⟨_, x, d, a, kvs, f, k, _, _, ⟨m, hm, h0⟩, _⟩, _⟩ := h
      have := sz_pos hm
      omega, fun A outer s H args us vs Q E hr he hb hv h => by
      obtain ⟨o, G, t, _, ⟨_, x, d, a, kvs, f, k, _, _, ⟨m, hm, h0⟩, _⟩, _⟩ := h
      have := sz_pos hm
      omega⟩
  | j + 1 => d.own fun f fd F => F.ok sc_made_by (fun vs H Q E h => by obtain ⟨o, G, t, _, ⟨_, x, d, a, kvs, f, k, rfl, _⟩, _⟩ := h; rfl) (fun cdv A outer s H vs Q E hr h => by
    have G_made_by := ok_made_by T d G_joined j
    obtain ⟨o, G, t, kn, ⟨rfl, x, d, a, kvs, f, kk, rfl, ⟨hv, hsm⟩, ⟨m, hsz, hmj⟩, hka, hf, hok, hkind, rfl⟩, k⟩ := h
    refine ⟨_, (pss_cons (ps_if (pt_val (pe_callB (kIsi (K := K) rfl) (by rfl) T.n_isinstance (by decide +kernel) (pa_cons (pv 0) (pa_cons (pe_bltn (v := .ty "str") (by rfl) T.n_str (by decide +kernel) rfl) pa_nil)))) (pss_one (ps_ret (pe_dget (Nat.lt_of_le_of_lt (Nat.add_le_add_left (by decide) _) hr.units) (pv 1) (pv 0) (fun _ _ => rfl)))) pss_nil)
   (pss_cons (ps_if (pt_not (pt_val (pe_callB (kIsi (K := K) rfl) (by rfl) T.n_isinstance (by decide +kernel) (pa_cons (pv 0) (pa_cons (pe_bltn (v := .ty "tuple") (by rfl) T.n_tuple (by decide +kernel) rfl) pa_nil))))) (pss_one (ps_ret (pv 0))) pss_nil)
   (pss_cons (ps_setLc (i := 2) (own := [("part", 3)]) rfl sc_made_by.nd rfl rfl (sw_true rfl rfl rfl (by decide +kernel)) (pi_tupK (K := K) rfl (pe_slice (kSl (K := K) rfl) (pv 0) (po_some pe_int) po_none)) (blkOk_by (own := [("part", 3)]) (N := ["term", "values", "parts", "part"]) (sc := defScope s_made_by) (by decide +kernel)) (fun _ _ _ _ _ => (pg_name (i := 3) sc_made_by.nd rfl (Or.inl rfl))) (fun _ _ _ _ _ => pts_nil) (fun _ _ _ _ _ => (pe_own G_made_by pb_made_by (hr.mono (by first | decide | exact Nat.le_refl _ | omega)) rfl pass0 (pa_cons (pv 3) (pa_cons (pv 1) pa_nil)))))
   (pss_one (ps_ret (pe_ifExp (pt_cmpR (kEq (K := K) rfl hr.units) (pe_ix (kIx (K := K) rfl) (pv 0) pe_int (fun _ _ => rfl)) (pe_globE rfl T.g_NOT) (nomark _)) (pe_not (pe_ix (kIx (K := K) rfl) (pv 2) pe_int (fun _ _ => rfl))) (pe_own G_joined pb_joined (hr.mono (by first | decide | exact Nat.le_refl _ | omega)) rfl pass0 (pa_cons (pe_ix (kIx (K := K) rfl) (pv 0) pe_int (fun _ _ => rfl)) (pa_cons (pe_ix (kIx (K := K) rfl) (pv 2) pe_int (fun _ _ => rfl)) (pa_cons (pe_ix (kIx (K := K) rfl) (pv 2) pe_int (fun _ _ => rfl)) pa_nil)))))))))), ?_⟩
    have vx : ∀ {G' σ'}, σ'[0]? = some (some x) → Ex G G' → Ev none (tVar 0) σ' G' (tV K d) := fun h e => ev_v h (hv.up e)
    have g0 := Go.refl kn
    cases hsz with
    | pl hp =>
      cases d with
      | str z =>
        have ex := hv.str
        subst ex
        refine q_when g0 (p := (· = true)) (et_b (ev_isiV (vx rfl (Ex.refl _)) ki_str)) (fun _ G2 H2 g2 _ => ?_) fun z => nomatch z
        have hkind : (f z).map kword = some kk := hkind
        cases e : f z with
        | none => rw [e] at hkind; cases hkind
        | some v =>
          have em : mkN (j + 1) f (.str z) = v := by
            show (f z).getD .non = v
            rw [e]
            rfl
          rw [em] at k
          exact s_ret g2 (ev_dget (k := (Sum.inr z : Key)) (ev_x rfl) (ev_x rfl) (.inl (g2.gg _ _ hka)) ((hf z).trans e)) k
      | bool b =>
        refine q_when g0 (p := (· = false)) (et_b (ev_isiV (vx rfl (Ex.refl _)) ki_str)) (fun z => nomatch z) fun _ G2 H2 g2 _ => ?_
        refine q_when g2 (p := (· = !false)) (et_not (et_b (ev_isiV (vx rfl g2.gg) ki_tup))) (fun _ G3 H3 g3 _ => ?_) fun z => nomatch z
        exact s_ret g3 (vx rfl g3.gg).isBl k
      | int i =>
        refine q_when g0 (p := (· = false)) (et_b (ev_isiV (vx rfl (Ex.refl _)) ki_str)) (fun z => nomatch z) fun _ G2 H2 g2 _ => ?_
        refine q_when g2 (p := (· = !false)) (et_not (et_b (ev_isiV (vx rfl g2.gg) ki_tup))) (fun _ G3 H3 g3 _ => ?_) fun z => nomatch z
        exact s_ret g3 (vx rfl g3.gg).isInt k
      | none => cases hp
      | list _ => cases hp
      | tuple _ => cases hp
      | dict _ => cases hp
    | @nd h ps m' hh hl hps =>
      refine q_when g0 (p := (· = false)) (et_b (ev_isiV (vx rfl (Ex.refl _)) ki_str)) (fun z => nomatch z) fun _ G2 H2 g2 _ => ?_
      refine q_when g2 (p := (· = !true)) (et_not (et_b (ev_isiV (vx rfl g2.gg) ki_tup))) (fun z => nomatch z) fun _ G4 H4 g4 _ => ?_
      have hv4 := hv.up g4.gg
      obtain ⟨ax, vs, rfl, hsa, hda⟩ := hv4.tup
      obtain ⟨v, prt⟩ := parts_of hh hl (fun q hq k' e => by
        obtain ⟨a, ha, hle⟩ := szs_mem hps hq
        exact mk_ok hok j ha (by omega) e) hkind
      rw [parts_mk prt] at k
      have pk : ∀ p ∈ ps, ∃ k', kindN j (kf f) p = some k' := by
        cases prt with
        | one _ q _ => exact fun p hp => by cases List.mem_singleton.mp hp; exact ⟨_, q⟩
        | two _ q1 q2 _ _ =>
          intro p hp
          rcases List.mem_cons.mp hp with rfl | e
          · exact ⟨_, q1⟩
          · cases List.mem_singleton.mp e
            exact ⟨_, q2⟩
      cases hda with
      | @cons v0 zs _ _ h0 hda =>
        have lz := dps_len hda
        refine q_asg (t := tKL (ps.map (mkN j f))) g4 (((en_lc (P := fun _ xs => xs = zs) (fun _ i _ acc => acc = (ps.take i).map (mkN j f)) (ei_tup (K := K) (ev_sl1 (ev_x rfl) hsa) fun G' v e u => ?_) (fun _ => rfl) (fun _ _ _ _ _ _ h => h) (fun G' xs e hp => ⟨?_, rfl⟩) fun G' xs i z acc e hp hz la r => ?_).impN fun G' ys h => ?_).ev (P := fun _ ys => ys = ps.map (mkN j f)) fun G' p ys e hp hy => ⟨p, rfl, by rw [hp, hy.now]⟩) fun r G5 H5 g5 _ w5 => ?_
        · obtain ⟨b, h1, h2⟩ := u.now
          exact ⟨b, zs, h1, h2, fun _ _ => rfl⟩
        · rw [hp.now, lz, hl]
          unfold hsz
          split <;> decide
        · rw [hp.now] at hz
          obtain ⟨di, hdi, hdz⟩ := dps_at' hda hz
          have hmem : di ∈ ps := List.mem_of_getElem? hdi
          refine ⟨(· = true), fun G2 H2 e2 kn2 Q2 q2 => q2 true G2 H2 (.refl kn2) rfl, fun _ G1 eG => ⟨tIs (mkN j f di), ev_call (ea_cons (ev_x rfl) (ea_cons (ev_x rfl) ea_nil)) fun G2 vs2 e2 al => ?_, fun G2 y e2 u => ?_⟩, fun z => nomatch z⟩
          · rw [all2 al]
            obtain ⟨mz, hmz, hle⟩ := szs_mem hps hmem
            obtain ⟨k', hk'⟩ := pk di hmem
            have e4 := (e.trans eG).trans e2
            exact ⟨none, _, .inl rfl, ⟨rfl, z, di, a, kvs, f, k', rfl, ⟨.inl (dp_up e4 _ hdz), (sm_tup hsm).2 di (List.mem_cons_of_mem _ hmem)⟩, ⟨mz, hmz, by omega⟩, (g4.gg.trans e4) _ _ hka, hf, hok, hk', rfl⟩, fun _ _ _ w => w⟩
          · rw [u.eq, r, List.take_succ, hdi, List.map_append]
            rfl
        · obtain ⟨xs, hP, _, h1⟩ := h
          rw [h1, hP.now, lz, List.take_length]
        · obtain ⟨pp, rfl, hpp⟩ := w5.now
          have vx5 : ∀ {G' σ'}, σ'[0]? = some (some (.ref ax)) → Ex G5 G' → Ev none (tVar 0) σ' G' (tV K (.tuple (.str h :: ps))) := fun h e => ev_v h (hv.up (g5.gg.trans e))
          have hd0 : ∀ {G' σ'}, σ'[0]? = some (some (.ref ax)) → Ex G5 G' → Ev none (tOp (rIx K) (tVar 0) (tC (.int 0))) σ' G' (tIs (.str h)) := fun h e => (ev_ixT (i := 0) (vx5 h e) ev_k rfl).isStr
          have tst := fun {b : Bool} (hb : decide (V.str h = V.str "not") = b) => et_test (o := none) (ev_op2 (hd0 (G' := G5) (σ' := (start ["term", "values", "parts", "part"] [.ref ax, .ref a]).set 2 (some (.ref pp))) rfl (Ex.refl _)) (ev_k (v := .str "not")) (ro_eqS (K := K) rfl hb))
          cases prt with
          | @one p e1 e2 e3 =>
            subst e1
            rcases e3 with ⟨_, b, eb⟩ | ⟨e, _⟩
            · rw [eb] at k
              rw [show [p].map (mkN j f) = [mkN j f p] from rfl, eb] at hpp
              exact s_ret g5 (ev_if (p := (· = true)) (tst rfl) (fun _ => ev_not (ev_op2 (ev_x rfl) ev_k (ro_ixL (v := .bl b) (.of hpp) (at_of (j := 0) rfl rfl)))) fun z => nomatch z) k
            · exact absurd e (by decide +kernel)
          | @two p q k' e1 e2 e3 e4 e5 =>
            have hn : decide (V.str h = V.str "not") = false := by
              rw [eq_str]
              exact decide_eq_false (hsz_two h e1).2
            refine s_ret g5 (ev_if (p := (· = false)) (tst hn) (fun z => nomatch z) fun _ => ev_call (ea_cons (hd0 rfl (Ex.refl _)) (ea_cons (ev_op2 (ev_x rfl) ev_k (ro_ixL (v := mkN j f p) (.of hpp) (at_of (j := 0) rfl rfl))) (ea_cons (ev_op2 (ev_x rfl) ev_k (ro_ixL (v := mkN j f q) (.of hpp) (at_of (j := 1) rfl rfl))) ea_nil))) fun G' vs e al => ?_) k
            rw [all3 al]
            exact ⟨none, _, .inl rfl, ⟨rfl, h, _, _, rfl, e4, rfl⟩, fun _ _ _ w => w⟩)
end
end K14
set_option Elab.async false
set_option linter.all false
set_option maxRecDepth 100000
set_option maxHeartbeats 4000000
namespace K14
open PySem L2 Ty
open Evl (Ex ex_l ex_t)
-- OV is_values: {"iter:value.items()": "(pi_items (pv 0))", "lock:all([is_name(name) and (is_truth(item) or is_within(item, LOW, HIGH)) for name, item in value.items()])": ""}
-- OV kinds_of_values: {"iter:values.items()": "(pi_items (pv 0))", "lock:{name: TRUTH if is_truth(value) else INTEGER for name, value in values.items()}": ""}
abbrev s_is_values : Stmt := top 31
theorem sc_is_values : FnScope ["value", "name", "item"] ["value"] (defScope s_is_values) := ⟨rfl, rfl, rfl, by decide +kernel, rfl, by decide +kernel, by decide +kernel⟩
theorem pb_is_values : PosB "is_values" s_is_values ["value"] := fun _ _ _ _ _ _ us hl => match us, hl with | [_], _ => rfl
abbrev s_kinds_of_values : Stmt := top 32
theorem sc_kinds_of_values : FnScope ["values", "name", "value"] ["values"] (defScope s_kinds_of_values) := ⟨rfl, rfl, rfl, by decide +kernel, rfl, by decide +kernel, by decide +kernel⟩
theorem pb_kinds_of_values : PosB "kinds_of_values" s_kinds_of_values ["values"] := fun _ _ _ _ _ _ us hl => match us, hl with | [_], _ => rfl
/-! ### dicts of values -/
def isVal (d : PyData) : Bool := isBool d || inR d (-1000) 1000
def isValues : PyData → Bool
  | .dict es => es.all fun p => nameD p.1 && isVal p.2
  | _ => false
/-- keys and values, none too long -/
def okK : PyData → Prop
  | .dict es => es.length ≤ 900 ∧ ∀ p ∈ es, Sm1 p.1 ∧ Sm1 p.2
  | _ => True
def valB : V → Bool
  | .bl _ => true
  | .int i => decide (-1000 ≤ i) && decide (i ≤ 1000)
  | _ => false
theorem val_eq {K : PySem.W.Frag} {G : Hp} {v : V} {d : PyData} (h : Dp K G v d) : valB v = isVal d := by
  cases h <;> first | rfl | (show _ = (false || _); rw [Bool.false_or]; rfl)
theorem all_vals {K : PySem.W.Frag} {G : Hp} : ∀ {kvs : List (Key × V)} {es : List (PyData × PyData)}, DKs K G kvs es → (kvs.map fun kv => nameV (kV kv.1) && valB kv.2).all id = isValues (.dict es)
  | _, _, .nil => rfl
  | _, _, .cons (k := k) a r => by
    show ((nameV (kV k) && valB _) && _) = ((nameD (kD k) && isVal _) && _)
    rw [show (List.all _ id) = _ from all_vals r, val_eq a, name_vl (K := K) (.inl (dp_key (k := k) (G := G)))]
    rfl
section
variable {P : Program} {w : World} {K : PySem.W.Frag} {mg : Str → Option Value} {base : Heap} {ga ha CS D : Addr} {es : Array DictEntry} {n : Nat}
def cIv (K : PySem.W.Frag) (o : Option Addr) (G : Hp) (vs : List V) (t : T) : Prop := o = none ∧ ∃ x d, vs = [x] ∧ (Vl K G x d ∧ okK d) ∧ t = tIs (.bl (isValues d))
theorem ok_is_values (T : Txt4 K mg w ga ha es n) (d : Df K mg "is_values" s_is_values) (G_is_name : Own P w K mg base CX0 2 "is_name" s_is_name ["value"] (spC (cVal K nameV))) (G_is_truth : Own P w K mg base CX0 1 "is_truth" s_is_truth ["value"] (spC (cV1 K isBool)))
    (G_is_within : Own P w K mg base CX0 2 "is_within" s_is_within ["value", "low", "high"] (spC (cV3 K))) : Own P w K mg base CX0 3 "is_values" s_is_values ["value"] (spC (cIv K)) :=
  d.own fun f fd F => F.ok sc_is_values (fun vs H Q E h => by obtain ⟨o, G, t, _, ⟨_, x, d, rfl, _⟩, _⟩ := h; rfl) (fun cdv A outer s H vs Q E hr h => by
    obtain ⟨o, G, t, kn, ⟨rfl, x, d, rfl, ⟨hv, hk⟩, rfl⟩, k⟩ := h
    refine ⟨_, (pss_cons (ps_if (pt_not (pt_val (pe_callB (kIsi (K := K) rfl) (by rfl) T.n_isinstance (by decide +kernel) (pa_cons (pv 0) (pa_cons (pe_bltn (v := .ty "dict") (by rfl) T.n_dict (by decide +kernel) rfl) pa_nil))))) (pss_one (ps_ret pe_bl)) pss_nil)
   (pss_one (ps_ret (pe_lock (pe_callB (kAll (K := K) rfl rfl) (by rfl) T.n_all (by decide +kernel) (pa_cons (pe_lc (own := [("name", 1), ("item", 2)]) rfl sc_is_values.nd (pi_items (pv 0)) (blkOk_by (own := [("name", 1), ("item", 2)]) (N := ["value", "name", "item"]) (sc := defScope s_is_values) (by decide +kernel)) (fun _ _ _ _ _ => (pg_tupK (K := K) (n := 2) rfl rfl (pgs_cons (pg_name (i := 1) sc_is_values.nd rfl (Or.inl rfl)) (pgs_cons (pg_name (i := 2) sc_is_values.nd rfl (Or.inl rfl)) pgs_nil)))) (fun _ _ _ _ _ => pts_nil) (fun _ _ _ _ _ => (pe_and (pe_own G_is_name pb_is_name (hr.mono (by first | decide | exact Nat.le_refl _ | omega)) rfl pass0 (pa_cons (pv 1) pa_nil)) (pe_one (pe_or (pe_own G_is_truth pb_is_truth (hr.mono (by first | decide | exact Nat.le_refl _ | omega)) rfl pass0 (pa_cons (pv 2) pa_nil)) (pe_one (pe_own G_is_within pb_is_within (hr.mono (by first | decide | exact Nat.le_refl _ | omega)) rfl pass0 (pa_cons (pv 2) (pa_cons (pe_globE rfl T.g_LOW) (pa_cons (pe_globE rfl T.g_HIGH) pa_nil)))))))))) pa_nil)))))), ?_⟩
    have g0 := Go.refl kn
    have vx : ∀ {G' σ'}, σ'[0]? = some (some x) → Ex G G' → Ev none (tVar 0) σ' G' (tV K d) := fun h e => ev_v h (hv.up e)
    cases d with
    | dict es =>
      obtain ⟨a, kvs, rfl, hka, hks⟩ := hv.dic
      refine q_when g0 (p := (· = !true)) (et_not (et_b (ev_isiV (vx rfl (Ex.refl _)) ki_dict))) (fun z => nomatch z) fun _ G2 H2 g2 _ => ?_
      refine s_ret (t := tIs (.bl (isValues (.dict es)))) g2 (ev_lock (b := a) (w := .dK kvs) (fun G' e => (g2.gg.trans e) _ _ hka) trivial fun G' od e => ?_) k
      have hG := (g2.gg.trans e) _ _ hka
      have hk' : DKs K (upd G' a (.frz od (.dK kvs))) kvs es := (hks.up (g2.gg.trans e)).lock hG
      refine ev_to (ev_allN (bs := kvs.map fun kv => nameV (kV kv.1) && valB kv.2) ((en_mapP (K := K) (P := fun _ ps => ps = prs kvs) (fun p => .bl (nameV p.1 && valB p.2)) (ej_items (ev_x rfl) upd_same fun _ _ => rfl) (fun _ _ => rfl) (fun G2 xs e2 hp => ?_) fun G2 xs i y1 y2 e2 hp hi => ?_).impN fun G2 ys h => ?_)) (all_vals hks)
      · rw [hp]
        show (kvs.map _).length ≤ 100000
        rw [List.length_map, hks.len]
        have := hk.1
        omega
      · rw [hp] at hi
        unfold prs at hi
        rw [List.getElem?_map] at hi
        obtain ⟨⟨kk, vv⟩, hkv, ez⟩ := Option.map_eq_some_iff.mp hi
        cases ez
        obtain ⟨dv, hd, hdp⟩ := (hk'.up e2).at hkv
        obtain ⟨s1, s2⟩ := hk.2 _ (List.mem_of_getElem? hd)
        refine ev_and (a := nameV (kV kk)) (b := valB vv) (ev_call (ea_cons (ev_x rfl) ea_nil) fun G'' vs e al => ?_) fun _ => ?_
        · rw [all1 al]
          exact ⟨none, _, .inl rfl, ⟨rfl, _, rfl, kv_vl (d := kD kk) (.inl dp_key) s1, rfl⟩, fun _ _ _ w => w⟩
        · exact ev_to (ev_or (a := isBool dv) (b := inR dv (-1000) 1000) (ev_callV1 (ev_v rfl (.inl hdp))) fun _ => ev_callV3 (ev_v rfl (.inl hdp)) ev_k ev_k) (val_eq hdp).symm
      · obtain ⟨xs, hp, rfl⟩ := h
        rw [hp, prs, List.map_map, List.map_map]; rfl
    | none => exact q_when g0 (p := (· = !false)) (et_not (et_b (ev_isiV (vx rfl (Ex.refl _)) ki_dict))) (fun _ G2 H2 g2 _ => s_ret g2 ev_k k) fun z => nomatch z
    | bool b => exact q_when g0 (p := (· = !false)) (et_not (et_b (ev_isiV (vx rfl (Ex.refl _)) ki_dict))) (fun _ G2 H2 g2 _ => s_ret g2 ev_k k) fun z => nomatch z
    | int b => exact q_when g0 (p := (· = !false)) (et_not (et_b (ev_isiV (vx rfl (Ex.refl _)) ki_dict))) (fun _ G2 H2 g2 _ => s_ret g2 ev_k k) fun z => nomatch z
    | str b => exact q_when g0 (p := (· = !false)) (et_not (et_b (ev_isiV (vx rfl (Ex.refl _)) ki_dict))) (fun _ G2 H2 g2 _ => s_ret g2 ev_k k) fun z => nomatch z
    | list b => exact q_when g0 (p := (· = !false)) (et_not (et_b (ev_isiV (vx rfl (Ex.refl _)) ki_dict))) (fun _ G2 H2 g2 _ => s_ret g2 ev_k k) fun z => nomatch z
    | tuple b => exact q_when g0 (p := (· = !false)) (et_not (et_b (ev_isiV (vx rfl (Ex.refl _)) ki_dict))) (fun _ G2 H2 g2 _ => s_ret g2 ev_k k) fun z => nomatch z)
/-! the kinds of values -/
theorem merge_nodup : ∀ (l acc : List (Key × V)), ((acc ++ l).map (·.1)).Nodup → mergeK acc l = acc ++ l
  | [], acc, _ => (List.append_nil acc).symm
  | p :: l, acc, h => by
    have e1 : putK acc p.1 p.2 = acc ++ [p] := by
      unfold putK
      rw [if_neg]
      intro z
      obtain ⟨q, hq, e⟩ := List.any_eq_true.mp z
      rw [List.map_append, List.nodup_append] at h
      exact h.2.2 q.1 (List.mem_map.mpr ⟨q, hq, rfl⟩) p.1 (List.mem_cons_self ..) (of_decide_eq_true e)
    show mergeK (putK acc p.1 p.2) l = _
    rw [e1, merge_nodup l (acc ++ [p]) (by rw [List.append_assoc]; exact h), List.append_assoc]
    rfl
def kwK (kv : Key × V) : Key × V := (kv.1, .str (kword kv.2))
theorem val_map {k : Key} : ∀ kvs : List (Key × V), valV (kvs.map kwK) k = (valV kvs k).map fun v => .str (kword v)
  | [] => rfl
  | kv :: kvs => by
    by_cases e : kv.1 = k
    · rw [List.map_cons, valV_pos (p := kwK kv) e, valV_pos e]; rfl
    · rw [List.map_cons, valV_neg (p := kwK kv) e, valV_neg e, val_map kvs]
def cKov (K : PySem.W.Frag) (o : Option Addr) (G : Hp) (vs : List V) (t : T) : Prop := o = none ∧ ∃ a kvs, vs = [.ref a] ∧ G a = some (.dK kvs) ∧ kvs.length ≤ 900 ∧ (kvs.map (·.1)).Nodup ∧ (∀ kv ∈ kvs, valB kv.2 = true) ∧ t = fun G v => ∃ b, v = .ref b ∧ G b = some (.dK (kvs.map kwK))
theorem ev_callVb {o : Option Addr} {σ : L2.St} {G : Hp} {te : TE} {E : XK} {x : V} (hx : valB x = true) (h : Ev o te σ G (tIs x)) : Ev o (tCall (spC (cV1 K isBool)) [] E (tCons te tNil)) σ G (tIs (.bl (match x with | .bl _ => true | _ => false))) :=
  ev_call (ea_cons h ea_nil) fun G' vs e al => by
    rw [all1 al]
    cases x with
    | bl b => exact ⟨none, _, .inr rfl, ⟨rfl, _, .bool b, rfl, vl_bl, rfl⟩, fun _ _ _ w => w⟩
    | int i => exact ⟨none, _, .inr rfl, ⟨rfl, _, .int i, rfl, vl_int, rfl⟩, fun _ _ _ w => w⟩
    | _ => cases hx
theorem ok_kinds_of_values (T : Txt4 K mg w ga ha es n) (d : Df K mg "kinds_of_values" s_kinds_of_values) (G_is_truth : Own P w K mg base CX0 1 "is_truth" s_is_truth ["value"] (spC (cV1 K isBool))) : Own P w K mg base CX0 2 "kinds_of_values" s_kinds_of_values ["values"] (spC (cKov K)) :=
  d.own fun f fd F => F.ok sc_kinds_of_values (fun vs H Q E h => by obtain ⟨o, G, t, _, ⟨_, a, kvs, rfl, _⟩, _⟩ := h; rfl) (fun cdv A outer s H vs Q E hr h => by
    obtain ⟨o, G, t, kn, ⟨rfl, a, kvs, rfl, hka, hkl, hnd, hval, rfl⟩, k⟩ := h
    refine ⟨_, (pss_one (ps_ret (pe_lock (pe_dc (own := [("name", 1), ("value", 2)]) rfl sc_kinds_of_values.nd (pi_items (pv 0)) (blkOk_by (own := [("name", 1), ("value", 2)]) (N := ["values", "name", "value"]) (sc := defScope s_kinds_of_values) (by decide +kernel)) (fun _ _ _ _ _ => (pg_tupK (K := K) (n := 2) rfl rfl (pgs_cons (pg_name (i := 1) sc_kinds_of_values.nd rfl (Or.inl rfl)) (pgs_cons (pg_name (i := 2) sc_kinds_of_values.nd rfl (Or.inl rfl)) pgs_nil)))) (fun _ _ _ _ _ => pts_nil) (fun _ _ _ _ _ => (pv 1)) (fun _ _ _ _ _ => (pe_ifExp (pt_val (pe_own G_is_truth pb_is_truth (hr.mono (by first | decide | exact Nat.le_refl _ | omega)) rfl pass0 (pa_cons (pv 2) pa_nil))) (pe_globE rfl T.g_TRUTH) (pe_globE rfl T.g_INTEGER))))))), ?_⟩
    refine s_ret (Go.refl kn) (ev_lockT (b := a) (w := .dK kvs) (t := fun G v => ∃ b, v = .ref b ∧ G b = some (.dK (kvs.map kwK))) (fun G' e => e _ _ hka) trivial (fun G' od e => ?_) fun G2 G' od v h2 u e => ?_) k
    · refine (ev_dcP (K := K) (P := fun _ ps => ps = prs kvs) (fun p => ((match p.1 with | .int i => Sum.inl i | .str z => Sum.inr z | _ => Sum.inl 0), .str (kword p.2))) (ej_items (ev_x rfl) upd_same fun _ _ => rfl) (fun _ _ => rfl) (fun G2 xs e2 hp => ?_) (fun G2 xs i y1 y2 e2 hp hi => ?_) fun G2 xs i y1 y2 e2 hp hi => ?_).imp fun G2 v e2 u => fun G3 e3 => ?_
      · rw [hp]
        show (kvs.map _).length ≤ 50000
        rw [List.length_map]
        omega
      · rw [hp] at hi
        unfold prs at hi
        rw [List.getElem?_map] at hi
        obtain ⟨⟨kk, vv⟩, hkv, ez⟩ := Option.map_eq_some_iff.mp hi
        cases ez
        cases kk with
        | inl i => exact ev_x rfl
        | inr z => exact ev_x rfl
      · rw [hp] at hi
        unfold prs at hi
        rw [List.getElem?_map] at hi
        obtain ⟨⟨kk, vv⟩, hkv, ez⟩ := Option.map_eq_some_iff.mp hi
        cases ez
        have hb := hval _ (List.mem_of_getElem? hkv)
        refine ev_if (et_b (ev_callVb hb (ev_x rfl))) (fun z => ?_) fun z => ?_
        · cases vv with
          | bl b => exact ev_k
          | _ => cases z
        · cases vv with
          | bl b => cases z
          | _ => exact ev_k
      · obtain ⟨b, xs, rfl, hp, hb⟩ := u G3 e3
        refine ⟨b, rfl, ?_⟩
        have em : xs.map (fun p => ((match p.1 with | .int i => Sum.inl i | .str z => Sum.inr z | _ => Sum.inl 0 : Key), V.str (kword p.2))) = kvs.map kwK := by
          rw [hp, prs, List.map_map]
          refine List.map_congr_left fun kv _ => ?_
          obtain ⟨kk, vv⟩ := kv
          cases kk <;> rfl
        rw [em, merge_nodup _ [] (by
          rw [List.nil_append, List.map_map]
          exact hnd)] at hb
        exact hb
    · obtain ⟨b, rfl, hb⟩ := u.now
      refine ⟨b, rfl, e _ _ ?_⟩
      rw [upd_ne (fun z => by rw [z, h2] at hb; cases hb)]
      exact hb)
end
end K14
set_option Elab.async false
set_option linter.all false
set_option maxRecDepth 100000
set_option maxHeartbeats 4000000
namespace K14
open PySem L2 Ty
open Evl (Ex ex_l ex_t)
abbrev s_value_of : Stmt := top 33
theorem sc_value_of : FnScope ["term", "values"] ["term", "values"] (defScope s_value_of) := ⟨rfl, rfl, rfl, by decide +kernel, rfl, by decide +kernel, by decide +kernel⟩
theorem pb_value_of : PosB "value_of" s_value_of ["term", "values"] := fun _ _ _ _ _ _ us hl => match us, hl with | [_, _], _ => rfl
/-! ### a dict of values, as a function -/
def pvV : PyData → V
  | .bool b => .bl b
  | .int i => .int i
  | _ => .non
def vfOf : List (PyData × PyData) → Str → Option V
  | [], _ => none
  | (.str k, v) :: r, z => if k = z then some (pvV v) else vfOf r z
  | _ :: r, z => vfOf r z
theorem vals_of {K : PySem.W.Frag} {G : Hp} : ∀ {kvs : List (Key × V)} {es : List (PyData × PyData)}, DKs K G kvs es → isValues (.dict es) = true → ValsOf kvs (vfOf es)
  | _, _, .nil, _ => fun _ => rfl
  | (k, v) :: kvs, _, .cons (d := d) (es := es) a r, h => fun z => by
    have h' : ((nameD (kD k) && isVal d) && isValues (.dict es)) = true := h
    rw [Bool.and_eq_true, Bool.and_eq_true] at h'
    obtain ⟨⟨h1, h2⟩, h3⟩ := h'
    have ih := vals_of r h3 z
    cases k with
    | inl i => cases h1
    | inr y =>
      have ev : v = pvV d := by
        cases d with
        | bool b => cases a; rfl
        | int i => cases a; rfl
        | _ => cases h2
      rw [ev]
      show valV ((Sum.inr y, pvV d) :: kvs) (Sum.inr z : Key) = (if y = z then some (pvV d) else vfOf es z)
      by_cases e : y = z
      · subst e
        rw [if_pos rfl, valV_pos rfl]
      · rw [if_neg e, valV_neg (fun q => e (Sum.inr.inj q))]
        exact ih
theorem pv_vk {d : PyData} (h : isVal d = true) : VK (kword (pvV d)) (pvV d) := by
  cases d with
  | bool b => exact .inl ⟨rfl, b, rfl⟩
  | int i =>
    have h : (false || (decide ((-1000 : Int) ≤ i) && decide (i ≤ (1000 : Int)))) = true := h
    simp only [Bool.false_or, Bool.and_eq_true, decide_eq_true_eq] at h
    exact .inr ⟨rfl, i, rfl, h⟩
  | _ => cases h
theorem vf_vk : ∀ {es : List (PyData × PyData)}, isValues (.dict es) = true → ∀ z v, vfOf es z = some v → VK (kword v) v
  | [], _, z, v, e => nomatch e
  | (k, d) :: es, h, z, v, e => by
    have h' : ((nameD k && isVal d) && isValues (.dict es)) = true := h
    rw [Bool.and_eq_true, Bool.and_eq_true] at h'
    obtain ⟨⟨h1, h2⟩, h3⟩ := h'
    cases k with
    | str y =>
      have e : (if y = z then some (pvV d) else vfOf es z) = some v := e
      by_cases c : y = z
      · rw [if_pos c] at e
        cases e
        exact pv_vk h2
      · rw [if_neg c] at e
        exact vf_vk h3 z v e
    | _ => cases h1
/-- no key twice -/
def ndK : PyData → Prop
  | .dict es => (es.map (·.1)).Nodup
  | _ => True
theorem nd_keys {K : PySem.W.Frag} {G : Hp} {kvs : List (Key × V)} {es : List (PyData × PyData)} (h : DKs K G kvs es) (nd : (es.map (·.1)).Nodup) : (kvs.map (·.1)).Nodup := by
  have e : ∀ {kvs : List (Key × V)} {es : List (PyData × PyData)}, DKs K G kvs es → es.map (·.1) = (kvs.map (·.1)).map kD := fun {kvs es} h => by
    induction h with
    | nil => rfl
    | cons a r ih => rw [List.map_cons, List.map_cons, List.map_cons, ih]
  rw [e h] at nd
  exact (List.pairwise_map.mp nd).imp fun h q => h (congrArg kD q)
theorem vb_of {K : PySem.W.Frag} {G : Hp} : ∀ {kvs : List (Key × V)} {es : List (PyData × PyData)}, DKs K G kvs es → isValues (.dict es) = true → ∀ kv ∈ kvs, valB kv.2 = true
  | _, _, .nil, _ => fun _ z => nomatch z
  | (k, v) :: kvs, _, .cons (d := d) (es := es) a r, h => fun kv hm => by
    have h' : ((nameD (kD k) && isVal d) && isValues (.dict es)) = true := h
    rw [Bool.and_eq_true, Bool.and_eq_true] at h'
    obtain ⟨⟨h1, h2⟩, h3⟩ := h'
    rcases List.mem_cons.mp hm with rfl | hm
    · rw [val_eq a]; exact h2
    · exact vb_of r h3 kv hm
noncomputable def kindVo (d e : PyData) : Option Str := match e with
  | .dict es => kindN 40 (kf (vfOf es)) d
  | _ => none
noncomputable def mkVo (d e : PyData) : V := match e with
  | .dict es => mkN 40 (vfOf es) d
  | _ => .non
def Er3 (d e : PyData) (CS CV CU : Addr) (x y : V) : Er := fun c g => (isSum d = false ∧ c = .ref CS ∧ g = x) ∨ (isSum d = true ∧ isValues e = false ∧ c = .ref CV ∧ g = y) ∨ (isSum d = true ∧ isValues e = true ∧ kindVo d e = none ∧ c = .ref CU ∧ g = .non)
def cValueOf (K : PySem.W.Frag) (CS CV CU : Addr) (o : Option Addr) (G : Hp) (vs : List V) (t : T) (B : Er) : Prop := o = none ∧ ∃ x d y e, vs = [x, y] ∧ (Vl K G x d ∧ Sm1 d) ∧ (Vl K G y e ∧ okK e ∧ ndK e) ∧
  t = (fun _ v => isSum d = true ∧ isValues e = true ∧ (kindVo d e).isSome = true ∧ v = mkVo d e) ∧ B = Er3 d e CS CV CU x y
section
variable {P : Program} {w : World} {K : PySem.W.Frag} {mg : Str → Option Value} {base : Heap} {ga ha CS CV CU D : Addr} {es : Array DictEntry} {n : Nat}
theorem oV_non (k : Option Str) : decide (oV k = .non) = !k.isSome := by cases k <;> rfl
theorem ok_value_of {DV DU : Addr} (T : Txt4 K mg w ga ha es n) (d : Df K mg "value_of" s_value_of) (E_InvalidValues : OwnE P w K mg base 1 "InvalidValues" CV DV) (E_Unfit : OwnE0 P w K mg base 2 "Unfit" CU DU) (G_check_sum : Own P w K mg base (CXo P w) 5 "check_sum" s_check_sum ["term"] (spR (cCheck K CS)))
    (G_is_values : Own P w K mg base CX0 3 "is_values" s_is_values ["value"] (spC (cIv K))) (G_kind_in : Own P w K mg base CX0 41 "kind_in" s_kind_in ["term", "kinds"] (spC (cKind K 40))) (G_kinds_of_values : Own P w K mg base CX0 2 "kinds_of_values" s_kinds_of_values ["values"] (spC (cKov K)))
    (G_made_by : Own P w K mg base CX0 42 "made_by" s_made_by ["term", "values"] (spC (cMade K 40))) :
    Own P w K mg base (CXo P w) 43 "value_of" s_value_of ["term", "values"] (spR (cValueOf K CS CV CU)) :=
  d.own fun f fd F => F.okX sc_value_of (fun vs H Q E h => by obtain ⟨o, G, t, B, kn, ⟨_, x, d, y, e, rfl, _⟩, _⟩ := h; rfl) (fun cdv A outer s H vs Q E hr h => by
    obtain ⟨o, G, t, B, kn, ⟨rfl, x, d, y, e, rfl, ⟨hd, hsm⟩, ⟨he, hok, hnd⟩, rfl, rfl⟩, k, kE⟩ := h
    refine ⟨_, (pss_cons (ps_expr (pe_ownW G_check_sum pb_check_sum (hr.mono (by first | decide | exact Nat.le_refl _ | omega)) rfl (takes_of rfl rfl rfl rfl) (pa_cons (pv 0) pa_nil)))
   (pss_cons (ps_if (pt_not (pt_val (pe_own G_is_values pb_is_values (hr.mono (by first | decide | exact Nat.le_refl _ | omega)) rfl pass0 (pa_cons (pv 1) pa_nil)))) (pss_one (ps_raiseE E_InvalidValues rfl (takes_of rfl rfl rfl rfl) (hr.mono (by first | decide | exact Nat.le_refl _ | omega)) rfl (pv 1))) pss_nil)
   (pss_cons (ps_if (pt_cmpR op_isN (pe_own G_kind_in pb_kind_in (hr.mono (by first | decide | exact Nat.le_refl _ | omega)) rfl pass0 (pa_cons (pv 0) (pa_cons (pe_own G_kinds_of_values pb_kinds_of_values (hr.mono (by first | decide | exact Nat.le_refl _ | omega)) rfl pass0 (pa_cons (pv 1) pa_nil)) pa_nil))) pe_non (nomark _)) (pss_one (ps_raise0 E_Unfit rfl (takes_of rfl rfl rfl rfl) (hr.mono (by first | decide | exact Nat.le_refl _ | omega)) rfl)) pss_nil)
   (pss_one (ps_ret (pe_own G_made_by pb_made_by (hr.mono (by first | decide | exact Nat.le_refl _ | omega)) rfl pass0 (pa_cons (pv 0) (pa_cons (pv 1) pa_nil)))))))), ?_⟩
    refine q_dropX (Go.refl kn) (ex_call (B := Er1 (isSum d) CS x) (fun c dd g G2 H2 g2 e b => kE c dd g G2 H2 g2 e (.inl b)) (ea_cons (ev_x rfl) ea_nil) (calls_check hd hsm)) fun r G2 H2 g2 _ w2 => ?_
    have hs := w2.now.1
    have tk : EvT none (tNot (tB (tCall (spC (cIv K)) [] E0 (tCons (tVar 1) tNil)))) (start ["term", "values"] [x, y]) G2 (· = !isValues e) := et_not (et_b (ev_call (ea_cons (ev_x rfl) ea_nil) fun G' vs e2 al => by
      rw [all1 al]
      exact ⟨none, _, .inl rfl, ⟨rfl, y, e, rfl, ⟨he.up (g2.gg.trans e2), hok⟩, rfl⟩, fun _ _ _ w => w⟩))
    cases hk : isValues e with
    | false =>
      rw [hk] at tk
      exact q_when g2 (p := (· = !false)) tk (fun _ G3 H3 g3 _ => s_raise g3 E_InvalidValues.sup (ev_x rfl) fun dd G4 H4 g4 _ e' => kE _ dd y G4 H4 g4 e' (.inr (.inl ⟨hs, hk, rfl, rfl⟩))) fun z => nomatch z
    | true =>
      rw [hk] at tk
      refine q_when g2 (p := (· = !true)) tk (fun z => nomatch z) fun _ G3 H3 g3 _ => ?_
      cases e with
      | dict es =>
        obtain ⟨a, kvs, rfl, hka, hks⟩ := he.dic
        obtain ⟨m, hz, hm⟩ : ∃ m, Sz d m ∧ m ≤ 40 := by
          obtain ⟨t, h1, h2⟩ := good_of hs
          cases h1 with
          | cons p q => cases q; exact ⟨_, p, by omega⟩
        have hvals := vals_of hks hk
        have ek : Ev none (tCall (spC (cKind K 40)) [] E0 (tCons (tVar 0) (tCons (tCall (spC (cKov K)) [] E0 (tCons (tVar 1) tNil)) tNil))) (start ["term", "values"] [x, .ref a]) G3 (tIs (oV (kindVo d (.dict es)))) :=
          ev_call (ea_cons (ev_x rfl) (ea_cons (s := fun G v => ∃ b, v = .ref b ∧ G b = some (.dK (kvs.map kwK))) (ev_call (ea_cons (ev_x rfl) ea_nil) fun G' vs e2 al => by
            rw [all1 al]
            exact ⟨none, _, .inl rfl, ⟨rfl, a, kvs, rfl, (g3.gg.trans e2) _ _ hka, by rw [hks.len]; exact hok.1, nd_keys hks hnd, vb_of hks hk, rfl⟩, fun _ _ _ w => w⟩) ea_nil)) fun G' vs e2 al => by
          cases al with
          | cons a1 al => cases al with
            | cons a2 al =>
              cases al
              obtain ⟨b, rfl, hb⟩ := a2.now
              rw [a1.eq]
              refine ⟨none, _, .inl rfl, ⟨rfl, x, d, b, _, kf (vfOf es), rfl, ⟨hd.up (g3.gg.trans e2), hsm⟩, ⟨m, hz, hm⟩, hb, fun z => ?_, rfl⟩, fun _ _ _ w => w⟩
              rw [val_map, hvals z]
              unfold kf
              cases vfOf es z <;> rfl
        cases hkd : kindVo d (.dict es) with
        | none =>
          rw [hkd] at ek
          refine q_when g3 (p := (· = true)) (et_test (ev_isN ek rfl)) (fun _ G4 H4 g4 _ => s_raise0 g4 E_Unfit.sup fun dd G5 H5 g5 _ e' => kE _ dd .non G5 H5 g5 e' (.inr (.inr ⟨hs, hk, hkd, rfl, rfl⟩))) fun z => nomatch z
        | some kk =>
          rw [hkd] at ek
          refine q_when g3 (p := (· = false)) (et_test (ev_isN ek rfl)) (fun z => nomatch z) fun _ G4 H4 g4 _ => ?_
          refine s_ret (t := tIs (mkVo d (.dict es))) g4 (ev_call (ea_cons (ev_x rfl) (ea_cons (ev_x rfl) ea_nil)) fun G' vs e2 al => ?_) fun v G5 H5 g5 u => k v G5 H5 g5 fun G6 e6 => ⟨hs, hk, by rw [hkd]; rfl, u.eq⟩
          rw [all2 al]
          exact ⟨none, _, .inl rfl, ⟨rfl, x, d, a, kvs, vfOf es, kk, rfl, ⟨hd.up (g4.gg.trans e2), hsm⟩, ⟨m, hz, hm⟩, (g4.gg.trans e2) _ _ hka, hvals, vf_vk hk, hkd, rfl⟩, fun _ _ _ w => w⟩
      | _ => cases hk)
end
end K14
set_option Elab.async false
set_option linter.all false
set_option maxRecDepth 100000
set_option maxHeartbeats 4000000
namespace K14
open PySem L2 Ty
open Evl (Ex ex_l ex_t)
abbrev s__law_asked : Stmt := top 51
theorem sc__law_asked : FnScope ["args", "by_name", "e"] ["args", "by_name"] (defScope s__law_asked) := ⟨rfl, rfl, rfl, by decide +kernel, rfl, by decide +kernel, by decide +kernel⟩
theorem pb__law_asked : PosB "_law_asked" s__law_asked ["args", "by_name"] := fun _ _ _ _ _ _ us hl => match us, hl with | [_, _], _ => rfl
structure Txt5 (K : PySem.W.Frag) (mg : Str → Option Value) (w : World) (ga ha : Addr) (es : Array DictEntry) (n : Nat) (CS CV CU D : Addr) : Prop extends Txt4 K mg w ga ha es n where
  g_TalkError : ∃ u, mg "TalkError" = some u ∧ RelV (.ref D) u
  c_InvalidSum : mg "InvalidSum" = some (.ref CS)
  c_InvalidValues : mg "InvalidValues" = some (.ref CV)
  c_Unfit : mg "Unfit" = some (.ref CU)
  xf_InvalidSum : XfC K CS
  xf_InvalidValues : XfC K CV
  no_InvalidSum_given : PySem.W.findIn K (.ref CS) "given" = some none
  no_InvalidValues_given : PySem.W.findIn K (.ref CV) "given" = some none
  ex_InvalidSum : ExcC K CS
  ex_InvalidValues : ExcC K CV
  ex_Unfit : ExcC K CU
  kS : PySem.W.kitOne K (.ref CS) (.ref D) = some true
  kV : PySem.W.kitOne K (.ref CV) (.ref D) = some true
  kU : PySem.W.kitOne K (.ref CU) (.ref D) = some true
  mSS : PySem.W.exmOne K (.ref CS) (.ref CS) = some true
  mVS : PySem.W.exmOne K (.ref CV) (.ref CS) = some false
  mUS : PySem.W.exmOne K (.ref CU) (.ref CS) = some false
  mVV : PySem.W.exmOne K (.ref CV) (.ref CV) = some true
  mUV : PySem.W.exmOne K (.ref CU) (.ref CV) = some false
  mUU : PySem.W.exmOne K (.ref CU) (.ref CU) = some true
noncomputable def outV (d e : PyData) (x y : V) : List V := if isSum d = true then if isValues e = true then if (kindVo d e).isSome = true then [.str "told", mkVo d e] else [.str "unfit", .non] else [.str "values", y] else [.str "sum", x]
def cAsked (K : PySem.W.Frag) (o : Option Addr) (G : Hp) (vs : List V) (p : PL) : Prop := o = none ∧ ∃ (la : Addr) (x y : V) (d e : PyData) (bn : Bool), vs = [.ref la, .bl bn] ∧ SqL K G la [x, y] ∧ (Vl K G x d ∧ Sm1 d) ∧ (Vl K G y e ∧ okK e ∧ ndK e) ∧ p = fun _ xs => xs = outV d e x y
section
variable {P : Program} {w : World} {K : PySem.W.Frag} {mg : Str → Option Value} {base : Heap} {ga ha CS CV CU D : Addr} {es : Array DictEntry} {n : Nat}
theorem calls_value {o : Option Addr} {G : Hp} {x y : V} {d e : PyData} {ts : List T} {gV : List V → List V} (hd : Vl K G x d) (hs : Sm1 d) (he : Vl K G y e) (hk : okK e) (hn : ndK e) (hg : ∀ G' vs, AllU G' ts vs → gV vs = [x, y]) :
    CallsR (cValueOf K CS CV CU) o G ts (fun _ v => isSum d = true ∧ isValues e = true ∧ (kindVo d e).isSome = true ∧ v = mkVo d e) (Er3 d e CS CV CU x y) gV := fun G' vs e al => by
  rw [hg G' vs al]
  exact ⟨none, _, _, .inr rfl, ⟨rfl, x, d, y, _, rfl, ⟨hd.up e, hs⟩, ⟨he.up e, hk, hn⟩, rfl, rfl⟩, fun _ _ _ w => w, fun _ _ h => h⟩
theorem ok_asked (T : Txt5 K mg w ga ha es n CS CV CU D) (d : Df K mg "_law_asked" s__law_asked) (G_value_of : Own P w K mg base (CXo P w) 43 "value_of" s_value_of ["term", "values"] (spR (cValueOf K CS CV CU))) :
    Own P w K mg base CX0 44 "_law_asked" s__law_asked ["args", "by_name"] (spN (cAsked K)) :=
  d.own fun f fd F => F.ok sc__law_asked (fun vs H Q E h => by obtain ⟨o, G, t, kn, ⟨_, la, x, y, d, e, bn, rfl, _⟩, _⟩ := h; rfl) (fun cdv A outer s H vs Q E hr h => by
    obtain ⟨o, G, PP, kn, ⟨rfl, la, x, y, d, e, bn, rfl, hs, ⟨hd, hsm⟩, ⟨he, hok, hnd⟩, rfl⟩, k⟩ := h
    refine ⟨_, (pss_one (ps_try_manyAs (i := 2) rfl rfl sc__law_asked.nd rfl (by rfl) takes0 (fun W pn xe tk po => (pss_one (ps_ret (pe_lst (pa_cons pe_str (pa_cons (pe_ifExp (pt_val (pv 1)) (pe_ownKW (ks := ["values", "term"]) (g := (fun (zs : List Value) => match zs with | [w0, w1] => [w1, w0] | _ => [])) (gV := (fun (zs : List V) => match zs with | [w0, w1] => [w1, w0] | _ => [])) G_value_of (fun _ _ _ _ _ _ ws hl => match ws, hl with | [_, _], _ => rfl) (fun {zs ws} hl r => match zs, ws, hl, r with | [_, _], _, _, .cons r0 (.cons r1 (Paired.nil)) => .cons r1 (.cons r0 (.nil))) (hr.mono (by first | decide | exact Nat.le_refl _ | omega)) rfl tk (pk_cons (pe_ix (kIx (K := K) rfl) (pv 0) pe_int (fun _ _ => rfl)) (pk_cons (pe_ix (kIx (K := K) rfl) (pv 0) pe_int (fun _ _ => rfl)) pk_nil))) (pe_ownW G_value_of pb_value_of (hr.mono (by first | decide | exact Nat.le_refl _ | omega)) rfl tk (pa_cons (pe_ix (kIx (K := K) rfl) (pv 0) pe_int (fun _ _ => rfl)) (pa_cons (pe_ix (kIx (K := K) rfl) (pv 0) pe_int (fun _ _ => rfl)) pa_nil)))) pa_nil)))))) (HdsAs.cons ⟨rfl, by decide, .inl T.c_InvalidSum⟩ (fun a oe cls d pn hz hf => (pss_one (ps_ret (pe_lst (pa_cons (pe_ifExp (pt_val (pe_callB (call_isD hz hf) (by rfl) T.n_isinstance (by decide +kernel) (pa_cons (pv 2) (pa_cons (pe_globE rfl T.g_TalkError) pa_nil)))) pe_str pe_str) (pa_cons (pe_xf T.xf_InvalidSum T.no_InvalidSum_given hz hf (pv 2)) pa_nil)))))) (HdsAs.cons ⟨rfl, by decide, .inl T.c_InvalidValues⟩ (fun a oe cls d pn hz hf => (pss_one (ps_ret (pe_lst (pa_cons (pe_ifExp (pt_val (pe_callB (call_isD hz hf) (by rfl) T.n_isinstance (by decide +kernel) (pa_cons (pv 2) (pa_cons (pe_globE rfl T.g_TalkError) pa_nil)))) pe_str pe_str) (pa_cons (pe_xf T.xf_InvalidValues T.no_InvalidValues_given hz hf (pv 2)) pa_nil)))))) (HdsAs.cons ⟨rfl, by decide, .inl T.c_Unfit⟩ (fun a oe cls d pn hz hf => (pss_one (ps_ret (pe_lst (pa_cons (pe_ifExp (pt_val (pe_callB (call_isD hz hf) (by rfl) T.n_isinstance (by decide +kernel) (pa_cons (pv 2) (pa_cons (pe_globE rfl T.g_TalkError) pa_nil)))) pe_str pe_str) (pa_cons pe_non pa_nil)))))) HdsAs.nil))))), ?_⟩
    have tk : Tk none G H (wManyAs K 2 (fun _ _ _ _ => False) { nx := fun _ H' => Q .non H', rt := Q } (clausesM K 2 D [("sum", CS, true), ("values", CV, true), ("unfit", CU, false)])) (start ["args", "by_name", "e"] [.ref la, .bl bn])
        (fun c z => ∃ p ∈ [(("sum" : Str), CS, true), ("values", CV, true), ("unfit", CU, false)], c = .ref p.2.1 ∧ (p.2.2 = false → z = .non) ∧ outV d e x y = [.str p.1, z]) :=
      Tk.imp (tk_manyM (good := fun w z => (w = "unfit" → z = .non) ∧ outV d e x y = [.str w, z]) (show 2 < 3 by decide) (fun p hp => by
        rcases List.mem_cons.mp hp with rfl | hp
        · exact ⟨T.ex_InvalidSum, T.kS, fun z => nomatch z⟩
        · rcases List.mem_cons.mp hp with rfl | hp
          · exact ⟨T.ex_InvalidValues, T.kV, fun z => nomatch z⟩
          · rw [List.mem_singleton.mp hp]; exact ⟨T.ex_Unfit, T.kU, fun _ z hz => hz.1 rfl⟩)
        ⟨T.mSS, (fun p hp => by
          rcases List.mem_cons.mp hp with rfl | hp
          · exact T.mVS
          · rw [List.mem_singleton.mp hp]; exact T.mUS), T.mVV, (fun p hp => by rw [List.mem_singleton.mp hp]; exact T.mUV), T.mUU, (fun p hp => nomatch hp), trivial⟩
        fun w z p xs G3 H3 ho g3 hp h3 n3 hx => k p xs G3 H3 g3 hp h3 n3 (by rw [hx]; exact fun G' _ => ho.2.symm)) fun c z ⟨p, hp, e1, e2, e3⟩ => ⟨p, hp, e1, (fun hw => e2 (by
          rcases List.mem_cons.mp hp with rfl | hp
          · exact absurd hw (show ("sum" : Str) ≠ "unfit" by decide +kernel)
          · rcases List.mem_cons.mp hp with rfl | hp
            · exact absurd hw (show ("values" : Str) ≠ "unfit" by decide +kernel)
            · rw [List.mem_singleton.mp hp])), e3⟩
    have er : ∀ {c z}, Er3 d e CS CV CU x y c z → ∃ p ∈ [(("sum" : Str), CS, true), ("values", CV, true), ("unfit", CU, false)], c = .ref p.2.1 ∧ (p.2.2 = false → z = .non) ∧ outV d e x y = [.str p.1, z] := fun h => by
      unfold outV
      rcases h with ⟨h1, h2, h3⟩ | ⟨h1, h2, h3, h4⟩ | ⟨h1, h2, h3, h4, h5⟩
      · exact ⟨_, List.mem_cons_self .., h2, (fun z => nomatch z), by rw [h1, h3, if_neg (by decide)]⟩
      · exact ⟨_, List.mem_cons_of_mem _ (List.mem_cons_self ..), h3, (fun z => nomatch z), by rw [h1, h2, h4, if_pos rfl, if_neg (by decide)]⟩
      · exact ⟨_, List.mem_cons_of_mem _ (List.mem_cons_of_mem _ (List.mem_cons_self ..)), h4, (fun _ => h5), by rw [h1, h2, h3, h5, if_pos rfl, if_pos rfl, if_neg (by decide)]⟩
    have g0 := Go.refl kn
    have ix0 : ∀ {G' : Hp}, Ex G G' → Ev none (tOp (rIx K) (tVar 0) (tC (.int 0))) (start ["args", "by_name", "e"] [.ref la, .bl bn]) G' (tIs x) := fun e => ev_op2 (ev_x rfl) ev_k (ro_ixL (ex_l e hs) (at_of (j := 0) rfl rfl))
    have ix1 : ∀ {G' : Hp}, Ex G G' → Ev none (tOp (rIx K) (tVar 0) (tC (.int 1))) (start ["args", "by_name", "e"] [.ref la, .bl bn]) G' (tIs y) := fun e => ev_op2 (ev_x rfl) ev_k (ro_ixL (ex_l e hs) (at_of (j := 1) rfl rfl))
    have by_ : ∀ {G' : Hp}, EvT none (tB (tVar 1)) (start ["args", "by_name", "e"] [.ref la, .bl bn]) G' (· = bn) := et_b (ev_x rfl)
    refine s_retLX g0 (eax_cons (s := tIs (.str "told")) ev_k.toX (eax_cons (s := fun _ v => isSum d = true ∧ isValues e = true ∧ (kindVo d e).isSome = true ∧ v = mkVo d e) (ex_if by_ (fun _ => ?_) fun _ => ?_) eax_nil)) (by show 2 ≤ 100000; decide) fun p xs G3 H3 g3 hp h3 n3 w3 => k p xs G3 H3 g3 hp h3 n3 fun G' e' => ?_
    · exact ex_kw rfl tk (ea_cons (ix1 (Ex.refl _)) (ea_cons (ix0 (Ex.refl _)) ea_nil)) fun G' vs e al => by
        obtain ⟨o', t', B', h1, h2, h3, h4⟩ := calls_value (CS := CS) (CV := CV) (CU := CU) (o := none) (gV := fun (zs : List V) => match zs with | [w0, w1] => [w1, w0] | _ => []) hd hsm he hok hnd (fun G' vs al => by rw [all2 al]) G' vs e al
        exact ⟨o', t', B', h1, h2, h3, fun c x b => er (h4 c x b)⟩
    · exact ex_call tk (ea_cons (ix0 (Ex.refl _)) (ea_cons (ix1 (Ex.refl _)) ea_nil)) fun G' vs e al => by
        obtain ⟨o', t', B', h1, h2, h3, h4⟩ := calls_value (CS := CS) (CV := CV) (CU := CU) (o := none) (gV := id) hd hsm he hok hnd (fun G' vs al => all2 al) G' vs e al
        exact ⟨o', t', B', h1, h2, h3, fun c x b => er (h4 c x b)⟩
    · have h' := w3 G' e'
      cases h' with
      | cons a1 h' => cases h' with
        | cons a2 h' =>
          cases h'
          rw [a1.eq]
          obtain ⟨e1, e2, e3, e4⟩ := a2.now
          show _ = outV d e x y
          unfold outV
          rw [if_pos e1, if_pos e2, if_pos e3, e4])
end
end K14
set_option Elab.async false
set_option linter.all false
set_option maxRecDepth 100000
set_option maxHeartbeats 4000000
namespace K14
open PySem L2 Ty
open Evl (Ex ex_l ex_t)
abbrev s__law_into : Stmt := top 52
theorem sc__law_into : FnScope ["number"] ["number"] (defScope s__law_into) := ⟨rfl, rfl, rfl, by decide +kernel, rfl, by decide +kernel, by decide +kernel⟩
theorem pb__law_into : PosB "_law_into" s__law_into ["number"] := fun _ _ _ _ _ _ us hl => match us, hl with | [_], _ => rfl
abbrev s__law_quotient : Stmt := top 53
theorem sc__law_quotient : FnScope ["one", "other", "whole"] ["one", "other"] (defScope s__law_quotient) := ⟨rfl, rfl, rfl, by decide +kernel, rfl, by decide +kernel, by decide +kernel⟩
theorem pb__law_quotient : PosB "_law_quotient" s__law_quotient ["one", "other"] := fun _ _ _ _ _ _ us hl => match us, hl with | [_, _], _ => rfl
/-! ### quotients by the parts' sizes -/
def ab (i : Int) : Int := if i < 0 then -i else i
def quoW (i j : Int) : Int := if (decide (i < 0)) = (decide (j < 0)) then ab i / ab j else 0 - ab i / ab j - (if ab i / ab j * ab j = ab i then 0 else 1)
theorem fd_pos {i j q r : Int} (hj : 0 < j) (e : r + j * q = i) (h0 : 0 ≤ r) (h1 : r < j) : i.fdiv j = q := by
  rw [Int.fdiv_eq_ediv_of_nonneg _ (Int.le_of_lt hj)]
  exact ((Int.ediv_emod_unique hj).mpr ⟨e, h0, h1⟩).1
theorem fd_neg {i j q r : Int} (hj : j < 0) (e : r + j * q = i) (h0 : r ≤ 0) (h1 : j < r) : i.fdiv j = q := by
  have h := fd_pos (i := -i) (j := -j) (q := q) (r := -r) (by omega) (by rw [Int.neg_mul]; omega) (by omega) (by omega)
  rwa [Int.neg_fdiv_neg] at h
theorem quo_eq {i j : Int} (hj : j ≠ 0) : quoW i j = i.fdiv j := by
  have e := Int.mul_ediv_add_emod (ab i) (ab j)
  have jp : 0 < ab j := by unfold ab; split <;> omega
  have s0 := Int.emod_nonneg (ab i) (Int.ne_of_gt jp)
  have s1 := Int.emod_lt_of_pos (ab i) jp
  unfold quoW
  generalize hw : ab i / ab j = w at *
  generalize hs : ab i % ab j = s at *
  by_cases hi : i < 0
  · have ei : ab i = -i := if_pos hi
    by_cases hn : j < 0
    · have ej : ab j = -j := if_pos hn
      rw [ej] at jp s1
      rw [ei, ej] at e ⊢
      rw [if_pos (by rw [decide_eq_true hi, decide_eq_true hn])]
      refine (fd_neg (r := -s) hn ?_ (by omega) (by omega)).symm
      rw [Int.neg_mul] at e
      omega
    · have ej : ab j = j := if_neg hn
      rw [ej] at jp s1
      rw [ei, ej] at e ⊢
      rw [if_neg (by rw [decide_eq_true hi, decide_eq_false hn]; decide)]
      by_cases hz : w * j = -i
      · rw [if_pos hz]
        refine (fd_pos (r := 0) (by omega) ?_ (by omega) (by omega)).symm
        rw [Int.mul_comm] at hz
        rw [show 0 - w - 0 = -w by omega, Int.mul_neg]
        omega
      · rw [if_neg hz]
        rw [Int.mul_comm w] at hz
        refine (fd_pos (r := j - s) (by omega) ?_ (by omega) (by omega)).symm
        rw [show 0 - w - 1 = -(w + 1) by omega, Int.mul_neg, Int.mul_add, Int.mul_one]
        omega
  · have ei : ab i = i := if_neg hi
    by_cases hn : j < 0
    · have ej : ab j = -j := if_pos hn
      rw [ej] at jp s1
      rw [ei, ej] at e ⊢
      rw [if_neg (by rw [decide_eq_false hi, decide_eq_true hn]; decide)]
      rw [Int.neg_mul] at e
      by_cases hz : w * -j = i
      · rw [if_pos hz]
        refine (fd_neg (r := 0) hn ?_ (by omega) (by omega)).symm
        rw [Int.mul_comm, Int.neg_mul] at hz
        rw [show 0 - w - 0 = -w by omega, Int.mul_neg]
        omega
      · rw [if_neg hz]
        rw [Int.mul_comm, Int.neg_mul] at hz
        refine (fd_neg (r := s + j) hn ?_ (by omega) (by omega)).symm
        rw [show 0 - w - 1 = -(w + 1) by omega, Int.mul_neg, Int.mul_add, Int.mul_one]
        omega
    · have ej : ab j = j := if_neg hn
      rw [ej] at jp s1
      rw [ei, ej] at e ⊢
      rw [if_pos (by rw [decide_eq_false hi, decide_eq_false hn])]
      refine (fd_pos (r := s) (by omega) ?_ s0 s1).symm
      omega
def quoD (i j : Int) : Int := if j = 0 then 0 else i.fdiv j
def quoM (i j : Int) : Int := if j = 0 then 0 else i.fmod j
section
variable {o : Option Addr} {σ : L2.St} {G : Hp} {te : TE} {i : Int} {b : Bool}
theorem ev_abs (h : Ev o te σ G (tIs (.int i))) : Ev o (tCB (fun xs H Q => ∃ i, xs = [V.int i] ∧ Q (V.int (if i < 0 then -i else i)) H) (tCons te tNil)) σ G (tIs (.int (ab i))) := ev_cb1 h fun G' _ => rc_q u_is fun _ _ _ _ _ q => ⟨i, rfl, q⟩
theorem ev_int1 (h : Ev o te σ G (tIs (.int i))) : Ev o (tCB (fun xs H Q => (∃ i, xs = [V.int i] ∧ Q (V.int i) H) ∨ ∃ k, xs = [V.bl k] ∧ Q (V.int (if k = true then 1 else 0)) H) (tCons te tNil)) σ G (tIs (.int i)) := ev_cb1 h fun G' _ => rc_q u_is fun _ _ _ _ _ q => .inl ⟨i, rfl, q⟩
theorem ev_intB (h : Ev o te σ G (tIs (.bl b))) : Ev o (tCB (fun xs H Q => (∃ i, xs = [V.int i] ∧ Q (V.int i) H) ∨ ∃ k, xs = [V.bl k] ∧ Q (V.int (if k = true then 1 else 0)) H) (tCons te tNil)) σ G (tIs (.int (if b = true then 1 else 0))) := ev_cb1 h fun G' _ => rc_q u_is fun _ _ _ _ _ q => .inr ⟨b, rfl, q⟩
end
section
variable {P : Program} {w : World} {K : PySem.W.Frag} {mg : Str → Option Value} {base : Heap} {ga ha CS CV CU D : Addr} {es : Array DictEntry} {n : Nat}
theorem ok_linto (T : Txt4 K mg w ga ha es n) (d : Df K mg "_law_into" s__law_into) : Own P w K mg base CX0 1 "_law_into" s__law_into ["number"] (spC (cKeep K)) :=
  d.own fun f fd F => F.ok sc__law_into (fun vs H Q E h => by obtain ⟨o, G, t, kn, ⟨_, i, rfl, _⟩, _⟩ := h; rfl) (fun cdv A outer s H vs Q E hr h => by
    obtain ⟨o, G, t, kn, ⟨rfl, i, rfl, rfl⟩, k⟩ := h
    refine ⟨_, (pss_one (ps_ret (pe_op op_sub (pe_op op_mod (pe_callTy call_int1 (by rfl) T.n_int (by decide +kernel) (pa_cons (pe_op (kAdd (K := K) rfl) (pv 0) pe_int) pa_nil)) pe_int) pe_int))), ?_⟩
    have ek : (i + 1000) % 2001 - 1000 = keep i := by
      unfold keep
      rw [show (1000 - (-1000) + 1 : Int) = 2001 by decide]
      omega
    rw [← ek] at k
    exact s_ret (Go.refl kn) (ev_i0 (g := fun i j => .int (i - j)) (ev_iC (C := fun _ j => 0 < j) (g := fun i j => .int (i % j)) (ev_int1 (ev_addI (ev_x rfl) ev_k)) ev_k (by decide)) ev_k) k)
def cQuo (o : Option Addr) (G : Hp) (vs : List V) (p : PL) : Prop := o = none ∧ ∃ i j : Int, vs = [.int i, .int j] ∧ (-2000 ≤ i ∧ i ≤ 2000 ∧ -2000 ≤ j ∧ j ≤ 2000) ∧ p = fun _ xs => xs = [.int (quoD i j), .int (quoM i j)]
theorem ok_quotient (T : Txt4 K mg w ga ha es n) (d : Df K mg "_law_quotient" s__law_quotient) : Own P w K mg base CX0 1 "_law_quotient" s__law_quotient ["one", "other"] (spN cQuo) :=
  d.own fun f fd F => F.ok sc__law_quotient (fun vs H Q E h => by obtain ⟨o, G, t, kn, ⟨_, i, j, rfl, _⟩, _⟩ := h; rfl) (fun cdv A outer s H vs Q E hr h => by
    obtain ⟨o, G, p, kn, ⟨rfl, i, j, rfl, ⟨hi, hi2, hj, hj2⟩, rfl⟩, k⟩ := h
    refine ⟨_, (pss_cons (ps_if (pt_cmpR (kEq (K := K) rfl hr.units) (pv 1) pe_int (nomark _)) (pss_one (ps_ret (pe_lst (pa_cons pe_int (pa_cons pe_int pa_nil))))) pss_nil)
   (pss_cons (ps_set (i := 2) sc__law_quotient.nd rfl (Or.inl rfl) (pe_op op_fdiv (pe_callB call_abs (by rfl) T.n_abs (by decide +kernel) (pa_cons (pv 0) pa_nil)) (pe_callB call_abs (by rfl) T.n_abs (by decide +kernel) (pa_cons (pv 1) pa_nil))))
   (pss_cons (ps_if (pt_cmpR (kNe (K := K) rfl hr.units) (pe_cmpR gLt (pv 0) pe_int (nomark _)) (pe_cmpR gLt (pv 1) pe_int (nomark _)) (nomark _)) (pss_one (ps_set (i := 2) sc__law_quotient.nd rfl (Or.inl rfl) (pe_op op_sub (pe_op op_sub pe_int (pv 2)) (pe_callTy call_int1 (by rfl) T.n_int (by decide +kernel) (pa_cons (pe_cmpR (kNe (K := K) rfl hr.units) (pe_op gMul (pv 2) (pe_callB call_abs (by rfl) T.n_abs (by decide +kernel) (pa_cons (pv 1) pa_nil))) (pe_callB call_abs (by rfl) T.n_abs (by decide +kernel) (pa_cons (pv 0) pa_nil)) (nomark _)) pa_nil))))) pss_nil)
   (pss_one (ps_ret (pe_lst (pa_cons (pv 2) (pa_cons (pe_op op_sub (pv 0) (pe_op gMul (pv 2) (pv 1))) pa_nil)))))))), ?_⟩
    have g0 := Go.refl kn
    by_cases hz : j = 0
    · subst hz
      exact q_when g0 (p := (· = true)) (et_test (ev_op2 (ev_x rfl) ev_k (ro_eqS rfl (by simp)))) (fun _ G2 H2 g2 _ => s_retN g2 ((en_lst (ea_cons ev_k (ea_cons ev_k ea_nil)) (by show 2 ≤ 100000; decide)).impN fun G' xs h => all2 h) k) fun z => nomatch z
    · have e1 : quoD i j = quoW i j := by unfold quoD; rw [if_neg hz, quo_eq hz]
      have e2 : quoM i j = i - quoW i j * j := by unfold quoM; rw [if_neg hz, Int.fmod_def, quo_eq hz, Int.mul_comm]
      rw [e1, e2] at k
      have jp : 0 < ab j ∧ ab j ≤ 2000 := by unfold ab; split <;> omega
      have ip : 0 ≤ ab i ∧ ab i ≤ 2000 := by unfold ab; split <;> omega
      have wp : 0 ≤ ab i / ab j ∧ ab i / ab j ≤ 2000 := ⟨Int.ediv_nonneg ip.1 (by omega), Int.le_trans (Int.ediv_le_self _ ip.1) ip.2⟩
      refine q_when g0 (p := (· = false)) (et_test (ev_op2 (ev_x rfl) ev_k (ro_eqS rfl (by simp [hz])))) (fun z => nomatch z) fun _ G2 H2 g2 _ => ?_
      refine q_asg (t := tIs (.int (ab i / ab j))) g2 (ev_iC (C := CDiv) (g := fun i j => .int (i / j)) (ev_abs (ev_x rfl)) (ev_abs (ev_x rfl)) ⟨jp.1, by omega⟩) fun v G3 H3 g3 _ w3 => ?_
      rw [w3.eq]
      have tl : ∀ {W : Int} {G4 H4}, Go none G H G4 H4 → W = quoW i j → -3000 ≤ W ∧ W ≤ 3000 → tRet (tLst (tCons (tVar 2) (tCons (tOp (rI0 fun i j => V.int (i - j)) (tVar 0) (tOp rMulG (tVar 2) (tVar 1))) tNil))) { nx := fun x H' => Q V.non H', rt := Q } ((start ["one", "other", "whole"] [.int i, .int j]).set 2 (some (.int W))) H4 := fun {W G4 H4} g4 eW hW => by
        subst eW
        exact s_retN g4 ((en_lst (ea_cons (ev_x rfl) (ea_cons (ev_i0 (g := fun i j => .int (i - j)) (ev_x rfl) (ev_op2 (ev_x rfl) (ev_x rfl) (ro_mulI (.inl ⟨by omega, by omega⟩)))) ea_nil)) (by show 2 ≤ 100000; decide)).impN fun G' xs h => all2 h) k
      have tst : EvT none (tTest (tOp (rNeG K) (tOp (rI0 fun i j => V.bl (decide (i < j))) (tVar 0) (tC (V.int 0))) (tOp (rI0 fun i j => V.bl (decide (i < j))) (tVar 1) (tC (V.int 0))))) ((start ["one", "other", "whole"] [.int i, .int j]).set 2 (some (.int (ab i / ab j)))) G3 (· = !decide (decide (i < 0) = decide (j < 0))) :=
        et_test (ev_op2 (ev_i0 (g := fun i j => .bl (decide (i < j))) (ev_x rfl) ev_k) (ev_i0 (g := fun i j => .bl (decide (i < j))) (ev_x rfl) ev_k) (ro_neS rfl (by simp)))
      by_cases hc : decide (i < 0) = decide (j < 0)
      · rw [decide_eq_true hc] at tst
        exact q_when g3 (p := (· = !true)) tst (fun z => nomatch z) fun _ G4 H4 g4 _ => tl g4 (by unfold quoW; rw [if_pos hc]) (by omega)
      · rw [decide_eq_false hc] at tst
        refine q_when g3 (p := (· = !false)) tst (fun _ G4 H4 g4 _ => ?_) fun z => nomatch z
        refine s_asg (t := tIs (.int (quoW i j))) g4 ?_ fun v G5 H5 g5 _ w5 => ?_
        · have q : quoW i j = 0 - ab i / ab j - (if (!decide (ab i / ab j * ab j = ab i)) = true then 1 else 0) := by
            unfold quoW
            rw [if_neg hc]
            by_cases z : ab i / ab j * ab j = ab i
            · rw [if_pos z, decide_eq_true z]; rfl
            · rw [if_neg z, decide_eq_false z]; rfl
          rw [q]
          exact ev_i0 (g := fun i j => .int (i - j)) (ev_i0 (g := fun i j => .int (i - j)) ev_k (ev_x rfl)) (ev_intB (ev_op2 (ev_op2 (ev_x rfl) (ev_abs (ev_x rfl)) (ro_mulI (.inl ⟨by omega, by omega⟩))) (ev_abs (ev_x rfl)) (ro_neS rfl (by simp))))
        · rw [w5.eq]
          refine tl g5 rfl ?_
          unfold quoW
          rw [if_neg hc]
          split <;> omega)
end
end K14
set_option Elab.async false
set_option linter.all false
set_option maxRecDepth 100000
set_option maxHeartbeats 4000000
namespace K14
open PySem L2 Ty
open Evl (Ex ex_l ex_t)
-- OV _law_makes: {"iter:term[1:]": "(pi_tupK (K := K) rfl (pe_slice (kSl (K := K) rfl) (pv 0) (po_some pe_int) po_none))", "values[term]": "(pe_dget (Nat.lt_of_le_of_lt (Nat.add_le_add_left (by decide) _) hr.units) (pv 1) (pv 0) (fun _ _ => rfl))"}
abbrev s__law_makes : Stmt := top 54
theorem sc__law_makes : FnScope ["term", "values", "parts", "head", "one", "other", "part"] ["term", "values"] (defScope s__law_makes) := ⟨rfl, rfl, rfl, by decide +kernel, rfl, by decide +kernel, by decide +kernel⟩
theorem pb__law_makes : PosB "_law_makes" s__law_makes ["term", "values"] := fun _ _ _ _ _ _ us hl => match us, hl with | [_, _], _ => rfl
section
variable {o : Option Addr} {σ : L2.St} {Ge He G H : Hp} {ta tb tc : TE} {s t u : T} {De : Ends} {tz : TS}
theorem q_par3V {i j l : Nat} (g : Go o Ge He G H) (h1 : Ev o ta σ G s) (h2 : ∀ G', Ex G G' → Ev o tb σ G' t) (h3 : ∀ G', Ex G G' → Ev o tc σ G' u)
    (k : ∀ x v w G2 H2, Go o Ge He G2 H2 → U s G2 x → U t G2 v → U u G2 w → tz De (((σ.set i (some x)).set j (some v)).set l (some w)) H2) :
    tSeq (tPar3 i j l (tCons ta (tCons tb (tCons tc tNil)))) tz De σ H :=
  h1 G H (Ex.refl _) g.kn _ fun x G2 H2 g2 w2 => h2 G2 g2.gg G2 H2 (Ex.refl _) g2.kn _ fun v G3 H3 g3 w3 => h3 G3 (g2.gg.trans g3.gg) G3 H3 (Ex.refl _) g3.kn _ fun w G4 H4 g4 w4 =>
    ⟨x, v, w, rfl, k x v w G4 H4 (g.trans (g2.trans (g3.trans g4))) (w2.up (g3.trans g4).gg) (w3.up g4.gg) w4⟩
end
section
variable {P : Program} {w : World} {K : PySem.W.Frag} {mg : Str → Option Value} {base : Heap} {ga ha CS CV CU D : Addr} {es : Array DictEntry} {n : Nat}
theorem ok_lmakes (T : Txt4 K mg w ga ha es n) (d : Df K mg "_law_makes" s__law_makes) (G__law_into : Own P w K mg base CX0 1 "_law_into" s__law_into ["number"] (spC (cKeep K))) (G__law_quotient : Own P w K mg base CX0 1 "_law_quotient" s__law_quotient ["one", "other"] (spN cQuo)) : ∀ k, Own P w K mg base CX0 (k + 2) "_law_makes" s__law_makes ["term", "values"] (spC (cMade K k))
  | 0 => d.own fun f fd F => ⟨fun vs H Q E h => by
      obtain ⟨o, G, t, _, ⟨_, x, d, a, kvs, f, k, _, _, ⟨m, hm, h0⟩, _⟩, _⟩ := h
      have := sz_pos hm
      omega, fun A outer s H args us vs Q E hr he hb hv h => by
      obtain ⟨o, G, t, _, ⟨_, x, d, a, kvs, f, k, _, _, ⟨m, hm, h0⟩, _⟩, _⟩ := h
      have := sz_pos hm
      omega⟩
  | j + 1 => d.own fun f fd F => F.ok sc__law_makes (fun vs H Q E h => by obtain ⟨o, G, t, _, ⟨_, x, d, a, kvs, f, k, rfl, _⟩, _⟩ := h; rfl) (fun cdv A outer s H vs Q E hr h => by
    have G__law_makes := ok_lmakes T d G__law_into G__law_quotient j
    obtain ⟨o, G, t, kn, ⟨rfl, x, d, a, kvs, f, kk, rfl, ⟨hv, hsm⟩, ⟨m, hsz, hmj⟩, hka, hf, hok, hkind, rfl⟩, k⟩ := h
    refine ⟨_, (pss_cons (ps_if (pt_val (pe_callB (kIsi (K := K) rfl) (by rfl) T.n_isinstance (by decide +kernel) (pa_cons (pv 0) (pa_cons (pe_bltn (v := .ty "str") (by rfl) T.n_str (by decide +kernel) rfl) pa_nil)))) (pss_one (ps_ret (pe_dget (Nat.lt_of_le_of_lt (Nat.add_le_add_left (by decide) _) hr.units) (pv 1) (pv 0) (fun _ _ => rfl)))) pss_nil)
   (pss_cons (ps_if (pt_not (pt_val (pe_callB (kIsi (K := K) rfl) (by rfl) T.n_isinstance (by decide +kernel) (pa_cons (pv 0) (pa_cons (pe_bltn (v := .ty "tuple") (by rfl) T.n_tuple (by decide +kernel) rfl) pa_nil))))) (pss_one (ps_ret (pv 0))) pss_nil)
   (pss_cons (ps_setLc (i := 2) (own := [("part", 6)]) rfl sc__law_makes.nd rfl rfl (sw_true rfl rfl rfl (by decide +kernel)) (pi_tupK (K := K) rfl (pe_slice (kSl (K := K) rfl) (pv 0) (po_some pe_int) po_none)) (blkOk_by (own := [("part", 6)]) (N := ["term", "values", "parts", "head", "one", "other", "part"]) (sc := defScope s__law_makes) (by decide +kernel)) (fun _ _ _ _ _ => (pg_name (i := 6) sc__law_makes.nd rfl (Or.inl rfl))) (fun _ _ _ _ _ => pts_nil) (fun _ _ _ _ _ => (pe_own G__law_makes pb__law_makes (hr.mono (by first | decide | exact Nat.le_refl _ | omega)) rfl pass0 (pa_cons (pv 6) (pa_cons (pv 1) pa_nil)))))
   (pss_cons (ps_par3 (i := 3) (j := 4) (l := 5) rfl sc__law_makes.nd rfl rfl rfl (by decide) (by decide) (by decide) rfl rfl rfl (pa_cons (pe_ix (kIx (K := K) rfl) (pv 0) pe_int (fun _ _ => rfl)) (pa_cons (pe_ix (kIx (K := K) rfl) (pv 2) pe_int (fun _ _ => rfl)) (pa_cons (pe_ix (kIx (K := K) rfl) (pv 2) (pe_un un_neg pe_int) (fun _ _ => rfl)) pa_nil))) (by rfl))
   (pss_cons (ps_if (pt_cmpR (kEq (K := K) rfl hr.units) (pv 3) pe_str (nomark _)) (pss_one (ps_ret (pe_not (pv 4)))) pss_nil)
   (pss_cons (ps_if (pt_cmpR (kIn (K := K) rfl) (pv 3) (pe_tup (pa_cons pe_str (pa_cons pe_str (pa_cons pe_str pa_nil)))) (by rfl)) (pss_one (ps_ret (pe_own G__law_into pb__law_into (hr.mono (by first | decide | exact Nat.le_refl _ | omega)) rfl pass0 (pa_cons (pe_ifExp (pt_cmpR (kEq (K := K) rfl hr.units) (pv 3) pe_str (nomark _)) (pe_op (kAdd (K := K) rfl) (pv 4) (pv 5)) (pe_ifExp (pt_cmpR (kEq (K := K) rfl hr.units) (pv 3) pe_str (nomark _)) (pe_op op_sub (pv 4) (pv 5)) (pe_op gMul (pv 4) (pv 5)))) pa_nil)))) pss_nil)
   (pss_cons (ps_if (pt_cmpR (kIn (K := K) rfl) (pv 3) (pe_tup (pa_cons pe_str (pa_cons pe_str pa_nil))) (by rfl)) (pss_one (ps_ret (pe_own G__law_into pb__law_into (hr.mono (by first | decide | exact Nat.le_refl _ | omega)) rfl pass0 (pa_cons (pe_ix (kIx (K := K) rfl) (pe_own G__law_quotient pb__law_quotient (hr.mono (by first | decide | exact Nat.le_refl _ | omega)) rfl pass0 (pa_cons (pv 4) (pa_cons (pv 5) pa_nil))) (pe_callTy call_int1 (by rfl) T.n_int (by decide +kernel) (pa_cons (pe_cmpR (kEq (K := K) rfl hr.units) (pv 3) pe_str (nomark _)) pa_nil)) (fun _ _ => rfl)) pa_nil)))) pss_nil)
   (pss_cons (ps_if (pt_cmpR (kIn (K := K) rfl) (pv 3) (pe_tup (pa_cons pe_str (pa_cons pe_str pa_nil))) (by rfl)) (pss_one (ps_ret (pe_ifExp (pt_cmpR (kEq (K := K) rfl hr.units) (pe_cmpR gLt (pv 4) (pv 5) (nomark _)) (pe_cmpR (kEq (K := K) rfl hr.units) (pv 3) pe_str (nomark _)) (nomark _)) (pv 4) (pv 5)))) pss_nil)
   (pss_cons (ps_if (pt_cmpR (kEq (K := K) rfl hr.units) (pv 3) pe_str (nomark _)) (pss_one (ps_ret (pe_cmpR gLt (pv 4) (pv 5) (nomark _)))) pss_nil)
   (pss_cons (ps_if (pt_cmpR (kEq (K := K) rfl hr.units) (pv 3) pe_str (nomark _)) (pss_one (ps_ret (pe_cmpR (kEq (K := K) rfl hr.units) (pv 4) (pv 5) (nomark _)))) pss_nil)
   (pss_one (ps_ret (pe_ifExp (pt_cmpR (kEq (K := K) rfl hr.units) (pv 3) pe_str (nomark _)) (pe_and (pv 4) (pe_one (pv 5))) (pe_or (pv 4) (pe_one (pv 5)))))))))))))))), ?_⟩
    have vx : ∀ {G' σ'}, σ'[0]? = some (some x) → Ex G G' → Ev none (tVar 0) σ' G' (tV K d) := fun h e => ev_v h (hv.up e)
    have g0 := Go.refl kn
    cases hsz with
    | pl hp =>
      cases d with
      | str z =>
        have ex := hv.str
        subst ex
        refine q_when g0 (p := (· = true)) (et_b (ev_isiV (vx rfl (Ex.refl _)) ki_str)) (fun _ G2 H2 g2 _ => ?_) fun z => nomatch z
        have hkind : (f z).map kword = some kk := hkind
        cases e : f z with
        | none => rw [e] at hkind; cases hkind
        | some v =>
          have em : mkN (j + 1) f (.str z) = v := by
            show (f z).getD .non = v
            rw [e]
            rfl
          rw [em] at k
          exact s_ret g2 (ev_dget (k := (Sum.inr z : Key)) (ev_x rfl) (ev_x rfl) (.inl (g2.gg _ _ hka)) ((hf z).trans e)) k
      | bool b =>
        refine q_when g0 (p := (· = false)) (et_b (ev_isiV (vx rfl (Ex.refl _)) ki_str)) (fun z => nomatch z) fun _ G2 H2 g2 _ => ?_
        refine q_when g2 (p := (· = !false)) (et_not (et_b (ev_isiV (vx rfl g2.gg) ki_tup))) (fun _ G3 H3 g3 _ => ?_) fun z => nomatch z
        exact s_ret g3 (vx rfl g3.gg).isBl k
      | int i =>
        refine q_when g0 (p := (· = false)) (et_b (ev_isiV (vx rfl (Ex.refl _)) ki_str)) (fun z => nomatch z) fun _ G2 H2 g2 _ => ?_
        refine q_when g2 (p := (· = !false)) (et_not (et_b (ev_isiV (vx rfl g2.gg) ki_tup))) (fun _ G3 H3 g3 _ => ?_) fun z => nomatch z
        exact s_ret g3 (vx rfl g3.gg).isInt k
      | none => cases hp
      | list _ => cases hp
      | tuple _ => cases hp
      | dict _ => cases hp
    | @nd h ps m' hh hl hps =>
      refine q_when g0 (p := (· = false)) (et_b (ev_isiV (vx rfl (Ex.refl _)) ki_str)) (fun z => nomatch z) fun _ G2 H2 g2 _ => ?_
      refine q_when g2 (p := (· = !true)) (et_not (et_b (ev_isiV (vx rfl g2.gg) ki_tup))) (fun z => nomatch z) fun _ G4 H4 g4 _ => ?_
      have hv4 := hv.up g4.gg
      obtain ⟨ax, vs, rfl, hsa, hda⟩ := hv4.tup
      obtain ⟨v, prt⟩ := parts_of hh hl (fun q hq k' e => by
        obtain ⟨a, ha, hle⟩ := szs_mem hps hq
        exact mk_ok hok j ha (by omega) e) hkind
      rw [parts_mk prt] at k
      have pk : ∀ p ∈ ps, ∃ k', kindN j (kf f) p = some k' := by
        cases prt with
        | one _ q _ => exact fun p hp => by cases List.mem_singleton.mp hp; exact ⟨_, q⟩
        | two _ q1 q2 _ _ =>
          intro p hp
          rcases List.mem_cons.mp hp with rfl | e
          · exact ⟨_, q1⟩
          · cases List.mem_singleton.mp e
            exact ⟨_, q2⟩
      cases hda with
      | @cons v0 zs _ _ h0 hda =>
        have lz := dps_len hda
        refine q_asg (t := tKL (ps.map (mkN j f))) g4 (((en_lc (P := fun _ xs => xs = zs) (fun _ i _ acc => acc = (ps.take i).map (mkN j f)) (ei_tup (K := K) (ev_sl1 (ev_x rfl) hsa) fun G' v e u => ?_) (fun _ => rfl) (fun _ _ _ _ _ _ h => h) (fun G' xs e hp => ⟨?_, rfl⟩) fun G' xs i z acc e hp hz la r => ?_).impN fun G' ys h => ?_).ev (P := fun _ ys => ys = ps.map (mkN j f)) fun G' p ys e hp hy => ⟨p, rfl, by rw [hp, hy.now]⟩) fun r G5 H5 g5 _ w5 => ?_
        · obtain ⟨b, h1, h2⟩ := u.now
          exact ⟨b, zs, h1, h2, fun _ _ => rfl⟩
        · rw [hp.now, lz, hl]
          unfold hsz
          split <;> decide
        · rw [hp.now] at hz
          obtain ⟨di, hdi, hdz⟩ := dps_at' hda hz
          have hmem : di ∈ ps := List.mem_of_getElem? hdi
          refine ⟨(· = true), fun G2 H2 e2 kn2 Q2 q2 => q2 true G2 H2 (.refl kn2) rfl, fun _ G1 eG => ⟨tIs (mkN j f di), ev_call (ea_cons (ev_x rfl) (ea_cons (ev_x rfl) ea_nil)) fun G2 vs2 e2 al => ?_, fun G2 y e2 u => ?_⟩, fun z => nomatch z⟩
          · rw [all2 al]
            obtain ⟨mz, hmz, hle⟩ := szs_mem hps hmem
            obtain ⟨k', hk'⟩ := pk di hmem
            have e4 := (e.trans eG).trans e2
            exact ⟨none, _, .inl rfl, ⟨rfl, z, di, a, kvs, f, k', rfl, ⟨.inl (dp_up e4 _ hdz), (sm_tup hsm).2 di (List.mem_cons_of_mem _ hmem)⟩, ⟨mz, hmz, by omega⟩, (g4.gg.trans e4) _ _ hka, hf, hok, hk', rfl⟩, fun _ _ _ w => w⟩
          · rw [u.eq, r, List.take_succ, hdi, List.map_append]
            rfl
        · obtain ⟨xs, hP, _, h1⟩ := h
          rw [h1, hP.now, lz, List.take_length]
        · obtain ⟨pp, rfl, hpp⟩ := w5.now
          have hd0 : ∀ {G' σ'}, σ'[0]? = some (some (.ref ax)) → Ex G5 G' → Ev none (tOp (rIx K) (tVar 0) (tC (.int 0))) σ' G' (tIs (.str h)) := fun hσ e => (ev_ixT (i := 0) (ev_v hσ (hv.up (g5.gg.trans e)) : Ev none (tVar 0) _ _ (tV K (.tuple (.str h :: ps)))) ev_k rfl).isStr
          have par : ∀ {a1 b1 : V}, atI (ps.map (mkN j f)) 0 = some a1 → atI (ps.map (mkN j f)) (-1) = some b1 → ∀ {tz : TS} {De : Ends}, (∀ G6 H6, Go none G H G6 H6 → tz De [some (.ref ax), some (.ref a), some (.ref pp), some (.str h), some a1, some b1, none] H6) →
              tSeq (tPar3 3 4 5 (tCons (tOp (rIx K) (tVar 0) (tC (V.int 0))) (tCons (tOp (rIx K) (tVar 2) (tC (V.int 0))) (tCons (tOp (rIx K) (tVar 2) (tUn (rU fun i => V.int (-i)) (tC (V.int 1)))) tNil)))) tz De [some (.ref ax), some (.ref a), some (.ref pp), none, none, none, none] H5 := fun {a1 b1} h1 h2 {tz De} kk =>
            q_par3V g5 (hd0 rfl (Ex.refl _)) (fun G' e => ev_op2 (ev_x rfl) ev_k (ro_ixL (.of (e _ _ hpp)) h1)) (fun G' e => ev_op2 (ev_x rfl) (ev_neg ev_k) (ro_ixL (.of (e _ _ hpp)) h2)) fun x1 x2 x3 G6 H6 g6 w1 w2 w3 => by
              rw [w1.eq, w2.eq, w3.eq]
              exact kk G6 H6 g6
          cases prt with
          | @one p e1 e2 e3 =>
            subst e1
            rcases e3 with ⟨_, b, eb⟩ | ⟨e, _⟩
            · rw [eb] at k
              rw [show [p].map (mkN j f) = [mkN j f p] from rfl, eb] at par
              refine par rfl rfl fun G6 H6 g6 => ?_
              exact q_when g6 (p := (· = true)) (et_test (ev_op2 (ev_x rfl) ev_k (ro_eqS rfl (by kernel_rfl)))) (fun _ G7 H7 g7 _ => s_ret g7 (ev_not (ev_x rfl)) k) fun z => nomatch z
            · exact absurd e (by decide +kernel)
          | @two p q k' e1 e2 e3 fit e5 =>
            have hn : decide (V.str h = V.str "not") = false := by
              rw [eq_str]
              exact decide_eq_false (hsz_two h e1).2
            refine par (a1 := mkN j f p) (b1 := mkN j f q) rfl rfl fun G6 H6 g6 => ?_
            refine q_when g6 (p := (· = false)) (et_test (ev_op2 (ev_x rfl) ev_k (ro_eqS rfl hn))) (fun z => nomatch z) fun _ G7 H7 g7 _ => ?_
            clear par e2 e3 e5 e1 hn hkind hpp g5 hd0
            generalize mkN j f p = a1 at *
            generalize mkN j f q = b1 at *
            have in2 : ∀ {x y : Str} {r : Bool} {G' σ'}, σ'[3]? = some (some (.str h)) → inV (.str h) [.str x, .str y] = r → EvT none (tTest (tOp (rInG K false) (tVar 3) (tTup (tCons (tC (.str x)) (tCons (tC (.str y)) tNil))))) σ' G' (· = r) := fun {x y r G' σ'} h0 hb =>
              et_test (ev_op (s := tIs (.str h)) (u := tTupU K [tIs (.str x), tIs (.str y)]) (ev_x h0) (ev_tup (ea_cons ev_k (ea_cons ev_k ea_nil)) (by show 2 ≤ 100000; decide)) fun G3 x' y' e3 hx hy => by
                obtain ⟨p, vs, rfl, hq, hal⟩ := hy.now
                rw [hx.eq]
                rw [all2 hal] at hq
                have q := ro_inT (neg := false) (x := .str h) (K := K) (o := none) hq rfl rfl
                rw [show (if false then !inV (.str h) [.str x, .str y] else inV (.str h) [.str x, .str y]) = r from hb] at q
                exact q)
            have in3 : ∀ {x y z : Str} {r : Bool} {G' σ'}, σ'[3]? = some (some (.str h)) → inV (.str h) [.str x, .str y, .str z] = r → EvT none (tTest (tOp (rInG K false) (tVar 3) (tTup (tCons (tC (.str x)) (tCons (tC (.str y)) (tCons (tC (.str z)) tNil)))))) σ' G' (· = r) := fun {x y z r G' σ'} h0 hb =>
              et_test (ev_op (s := tIs (.str h)) (u := tTupU K [tIs (.str x), tIs (.str y), tIs (.str z)]) (ev_x h0) (ev_tup (ea_cons ev_k (ea_cons ev_k (ea_cons ev_k ea_nil))) (by show 3 ≤ 100000; decide)) fun G3 x' y' e3 hx hy => by
                obtain ⟨p, vs, rfl, hq, hal⟩ := hy.now
                rw [hx.eq]
                rw [all3 hal] at hq
                have q := ro_inT (neg := false) (x := .str h) (K := K) (o := none) hq rfl rfl
                rw [show (if false then !inV (.str h) [.str x, .str y, .str z] else inV (.str h) [.str x, .str y, .str z]) = r from hb] at q
                exact q)
            have eqh : ∀ {x : Str} {r : Bool} {G' σ'}, σ'[3]? = some (some (.str h)) → decide (V.str h = V.str x) = r → EvT none (tTest (tOp (rEqG K) (tVar 3) (tC (.str x)))) σ' G' (· = r) := fun h0 hb => et_test (ev_op2 (ev_x h0) ev_k (ro_eqS rfl hb))
            have kept : ∀ {te : TE} {i : Int} {G' σ' E}, Ev none te σ' G' (tIs (.int i)) → Ev none (tCall (spC (cKeep K)) [] E (tCons te tNil)) σ' G' (tIs (.int (keep i))) := fun ht => ev_call (ea_cons ht ea_nil) fun G'' vs e al => by
              rw [all1 al]
              exact ⟨none, _, .inl rfl, ⟨rfl, _, rfl, rfl⟩, fun _ _ _ w => w⟩
            have quo : ∀ {i j : Int} {G' σ' E}, σ'[4]? = some (some (.int i)) → σ'[5]? = some (some (.int j)) → (-1000 ≤ i ∧ i ≤ 1000) → (-1000 ≤ j ∧ j ≤ 1000) → Ev none (tCall (spN cQuo) [] E (tCons (tVar 4) (tCons (tVar 5) tNil))) σ' G' (tKL [.int (quoD i j), .int (quoM i j)]) := fun {i j G' σ' E} h4 h5 hi hj =>
              (en_call (P := fun _ xs => xs = [.int (quoD i j), .int (quoM i j)]) (ea_cons (ev_x h4) (ea_cons (ev_x h5) ea_nil)) fun G'' vs e al => by
                rw [all2 al]
                exact ⟨none, _, .inl rfl, ⟨rfl, i, j, rfl, ⟨by omega, by omega, by omega, by omega⟩, rfl⟩, fun _ _ _ h => h⟩).ev fun G' a xs e ha hp => ⟨a, rfl, by rw [ha, hp.now]⟩
            rcases fit with ⟨hm, i, j, rfl, rfl, hi, hj⟩ | ⟨hm, x, y, rfl, rfl⟩
            · simp only [hI, List.mem_cons, List.not_mem_nil, or_false] at hm
              rcases hm with rfl | rfl | rfl | rfl | rfl | rfl | rfl | rfl | rfl
              · rw [show joinV "plus" (.int i) (.int j) = .int (keep (i + j)) from by kernel_rfl] at k
                exact q_when g7 (p := (· = true)) (in3 rfl (by kernel_rfl)) (fun _ G8 H8 g8 _ => s_ret g8 (kept (ev_if (p := (· = true)) (eqh rfl (by kernel_rfl)) (fun _ => ev_addI (ev_x rfl) (ev_x rfl)) fun z => nomatch z)) k) fun z => nomatch z
              · rw [show joinV "minus" (.int i) (.int j) = .int (keep (i - j)) from by kernel_rfl] at k
                exact q_when g7 (p := (· = true)) (in3 rfl (by kernel_rfl)) (fun _ G8 H8 g8 _ => s_ret g8 (kept (ev_if (p := (· = false)) (eqh rfl (by kernel_rfl)) (fun z => nomatch z) fun _ => ev_if (p := (· = true)) (eqh rfl (by kernel_rfl)) (fun _ => ev_i0 (g := fun i j => .int (i - j)) (ev_x rfl) (ev_x rfl)) fun z => nomatch z)) k) fun z => nomatch z
              · rw [show joinV "times" (.int i) (.int j) = .int (keep (i * j)) from by kernel_rfl] at k
                exact q_when g7 (p := (· = true)) (in3 rfl (by kernel_rfl)) (fun _ G8 H8 g8 _ => s_ret g8 (kept (ev_if (p := (· = false)) (eqh rfl (by kernel_rfl)) (fun z => nomatch z) fun _ => ev_if (p := (· = false)) (eqh rfl (by kernel_rfl)) (fun z => nomatch z) fun _ => ev_op2 (ev_x rfl) (ev_x rfl) (ro_mulI (.inl ⟨by omega, by omega⟩)))) k) fun z => nomatch z
              · rw [show joinV "over" (.int i) (.int j) = .int (keep (quoD i j)) from by kernel_rfl] at k
                refine q_when g7 (p := (· = false)) (in3 rfl (by kernel_rfl)) (fun z => nomatch z) fun _ G8 H8 g8 _ => q_when g8 (p := (· = true)) (in2 rfl (by kernel_rfl)) (fun _ G9 H9 g9 _ => s_ret g9 (kept ?_) k) fun z => nomatch z
                exact ev_op (s := tKL [.int (quoD i j), .int (quoM i j)]) (u := tIs (.int 0)) (quo rfl rfl hi hj) (ev_intB (b := false) (ev_op2 (ev_x rfl) ev_k (ro_eqS rfl (by kernel_rfl)))) fun G' x' y' e hx hy => by
                  obtain ⟨l, rfl, hl⟩ := hx.now
                  rw [hy.eq]
                  exact ro_ixL (.of hl) (at_of (j := 0) rfl rfl)
              · rw [show joinV "rest" (.int i) (.int j) = .int (keep (quoM i j)) from by kernel_rfl] at k
                refine q_when g7 (p := (· = false)) (in3 rfl (by kernel_rfl)) (fun z => nomatch z) fun _ G8 H8 g8 _ => q_when g8 (p := (· = true)) (in2 rfl (by kernel_rfl)) (fun _ G9 H9 g9 _ => s_ret g9 (kept ?_) k) fun z => nomatch z
                exact ev_op (s := tKL [.int (quoD i j), .int (quoM i j)]) (u := tIs (.int 1)) (quo rfl rfl hi hj) (ev_intB (b := true) (ev_op2 (ev_x rfl) ev_k (ro_eqS rfl (by kernel_rfl)))) fun G' x' y' e hx hy => by
                  obtain ⟨l, rfl, hl⟩ := hx.now
                  rw [hy.eq]
                  exact ro_ixL (.of hl) (at_of (j := 1) rfl rfl)
              · rw [show joinV "least" (.int i) (.int j) = .int (if j < i then j else i) from by kernel_rfl] at k
                refine q_when g7 (p := (· = false)) (in3 rfl (by kernel_rfl)) (fun z => nomatch z) fun _ G8 H8 g8 _ => q_when g8 (p := (· = false)) (in2 rfl (by kernel_rfl)) (fun z => nomatch z) fun _ G9 H9 g9 _ => q_when g9 (p := (· = true)) (in2 rfl (by kernel_rfl)) (fun _ GA HA gA _ => s_ret gA (ev_if (p := (· = decide (decide (i < j) = true))) (et_test (ev_op2 (ev_i0 (g := fun i j => .bl (decide (i < j))) (ev_x rfl) (ev_x rfl)) (ev_op2 (ev_x rfl) ev_k (ro_eqS (b := true) rfl (by kernel_rfl))) (ro_eqS rfl (by simp)))) (fun hc => ?_) fun hc => ?_) k) fun z => nomatch z
                · have hc := of_decide_eq_true hc.symm
                  have q : (if j < i then j else i) = i := by
                    revert hc
                    by_cases hl : i < j
                    · rw [decide_eq_true hl]; intro hc; first | (rw [if_neg (by omega)]) | exact nomatch hc
                    · rw [decide_eq_false hl]; intro hc; first | (split <;> omega) | exact nomatch hc
                  rw [q]; exact ev_x rfl
                · have hc := of_decide_eq_false hc.symm
                  have q : (if j < i then j else i) = j := by
                    revert hc
                    by_cases hl : i < j
                    · rw [decide_eq_true hl]; intro hc; first | exact absurd rfl hc | (rw [if_pos (by omega)])
                    · rw [decide_eq_false hl]; intro hc; first | exact absurd rfl hc | (split <;> omega)
                  rw [q]; exact ev_x rfl
              · rw [show joinV "most" (.int i) (.int j) = .int (if j > i then j else i) from by kernel_rfl] at k
                refine q_when g7 (p := (· = false)) (in3 rfl (by kernel_rfl)) (fun z => nomatch z) fun _ G8 H8 g8 _ => q_when g8 (p := (· = false)) (in2 rfl (by kernel_rfl)) (fun z => nomatch z) fun _ G9 H9 g9 _ => q_when g9 (p := (· = true)) (in2 rfl (by kernel_rfl)) (fun _ GA HA gA _ => s_ret gA (ev_if (p := (· = decide (decide (i < j) = false))) (et_test (ev_op2 (ev_i0 (g := fun i j => .bl (decide (i < j))) (ev_x rfl) (ev_x rfl)) (ev_op2 (ev_x rfl) ev_k (ro_eqS (b := false) rfl (by kernel_rfl))) (ro_eqS rfl (by simp)))) (fun hc => ?_) fun hc => ?_) k) fun z => nomatch z
                · have hc := of_decide_eq_true hc.symm
                  have q : (if j > i then j else i) = i := by
                    revert hc
                    by_cases hl : i < j
                    · rw [decide_eq_true hl]; intro hc; first | (rw [if_neg (by omega)]) | exact nomatch hc
                    · rw [decide_eq_false hl]; intro hc; first | (split <;> omega) | exact nomatch hc
                  rw [q]; exact ev_x rfl
                · have hc := of_decide_eq_false hc.symm
                  have q : (if j > i then j else i) = j := by
                    revert hc
                    by_cases hl : i < j
                    · rw [decide_eq_true hl]; intro hc; first | exact absurd rfl hc | (rw [if_pos (by omega)])
                    · rw [decide_eq_false hl]; intro hc; first | exact absurd rfl hc | (split <;> omega)
                  rw [q]; exact ev_x rfl
              · rw [show joinV "less" (.int i) (.int j) = .bl (decide (i < j)) from by kernel_rfl] at k
                exact q_when g7 (p := (· = false)) (in3 rfl (by kernel_rfl)) (fun z => nomatch z) fun _ G8 H8 g8 _ => q_when g8 (p := (· = false)) (in2 rfl (by kernel_rfl)) (fun z => nomatch z) fun _ G9 H9 g9 _ => q_when g9 (p := (· = false)) (in2 rfl (by kernel_rfl)) (fun z => nomatch z) fun _ GA HA gA _ => q_when gA (p := (· = true)) (eqh rfl (by kernel_rfl)) (fun _ GB HB gB _ => s_ret gB (ev_i0 (g := fun i j => .bl (decide (i < j))) (ev_x rfl) (ev_x rfl)) k) fun z => nomatch z
              · rw [show joinV "same" (.int i) (.int j) = .bl (decide (i = j)) from by kernel_rfl] at k
                exact q_when g7 (p := (· = false)) (in3 rfl (by kernel_rfl)) (fun z => nomatch z) fun _ G8 H8 g8 _ => q_when g8 (p := (· = false)) (in2 rfl (by kernel_rfl)) (fun z => nomatch z) fun _ G9 H9 g9 _ => q_when g9 (p := (· = false)) (in2 rfl (by kernel_rfl)) (fun z => nomatch z) fun _ GA HA gA _ => q_when gA (p := (· = false)) (eqh rfl (by kernel_rfl)) (fun z => nomatch z) fun _ GB HB gB _ => q_when gB (p := (· = true)) (eqh rfl (by kernel_rfl)) (fun _ GC HC gC _ => s_ret gC (ev_op2 (ev_x rfl) (ev_x rfl) (ro_eqS rfl (by simp))) k) fun z => nomatch z
            · simp only [hB, List.mem_cons, List.not_mem_nil, or_false] at hm
              rcases hm with rfl | rfl | rfl
              · rw [show joinV "same" (.bl x) (.bl y) = .bl (decide (x = y)) from by kernel_rfl] at k
                exact q_when g7 (p := (· = false)) (in3 rfl (by kernel_rfl)) (fun z => nomatch z) fun _ G8 H8 g8 _ => q_when g8 (p := (· = false)) (in2 rfl (by kernel_rfl)) (fun z => nomatch z) fun _ G9 H9 g9 _ => q_when g9 (p := (· = false)) (in2 rfl (by kernel_rfl)) (fun z => nomatch z) fun _ GA HA gA _ => q_when gA (p := (· = false)) (eqh rfl (by kernel_rfl)) (fun z => nomatch z) fun _ GB HB gB _ => q_when gB (p := (· = true)) (eqh rfl (by kernel_rfl)) (fun _ GC HC gC _ => s_ret gC (ev_op2 (ev_x rfl) (ev_x rfl) (ro_eqS rfl (by simp))) k) fun z => nomatch z
              · rw [show joinV "and" (.bl x) (.bl y) = .bl (x && y) from by kernel_rfl] at k
                exact q_when g7 (p := (· = false)) (in3 rfl (by kernel_rfl)) (fun z => nomatch z) fun _ G8 H8 g8 _ => q_when g8 (p := (· = false)) (in2 rfl (by kernel_rfl)) (fun z => nomatch z) fun _ G9 H9 g9 _ => q_when g9 (p := (· = false)) (in2 rfl (by kernel_rfl)) (fun z => nomatch z) fun _ GA HA gA _ => q_when gA (p := (· = false)) (eqh rfl (by kernel_rfl)) (fun z => nomatch z) fun _ GB HB gB _ => q_when gB (p := (· = false)) (eqh rfl (by kernel_rfl)) (fun z => nomatch z) fun _ GC HC gC _ => s_ret gC (ev_if (p := (· = true)) (eqh rfl (by kernel_rfl)) (fun _ => ev_and (ev_x rfl) fun _ => ev_x rfl) fun z => nomatch z) k
              · rw [show joinV "or" (.bl x) (.bl y) = .bl (x || y) from by kernel_rfl] at k
                exact q_when g7 (p := (· = false)) (in3 rfl (by kernel_rfl)) (fun z => nomatch z) fun _ G8 H8 g8 _ => q_when g8 (p := (· = false)) (in2 rfl (by kernel_rfl)) (fun z => nomatch z) fun _ G9 H9 g9 _ => q_when g9 (p := (· = false)) (in2 rfl (by kernel_rfl)) (fun z => nomatch z) fun _ GA HA gA _ => q_when gA (p := (· = false)) (eqh rfl (by kernel_rfl)) (fun z => nomatch z) fun _ GB HB gB _ => q_when gB (p := (· = false)) (eqh rfl (by kernel_rfl)) (fun z => nomatch z) fun _ GC HC gC _ => s_ret gC (ev_if (p := (· = false)) (eqh rfl (by kernel_rfl)) (fun z => nomatch z) fun _ => ev_or (ev_x rfl) fun _ => ev_x rfl) k)
end
end K14
set_option Elab.async false
set_option linter.all false
set_option maxRecDepth 100000
set_option maxHeartbeats 4000000
namespace K14
open PySem L2 Ty
open Evl (Ex ex_l ex_t)
-- OV _law_drawn_values: {"stmt:found[name] = _law_take(box, 2) == 0 if truth else [_law_take(box, 2001) - 1000, [0, 1, -1, 1000, -1000, 2, -7, 999][_law_take(box, 8)]][_law_take(box, 2)]": "(ps_dput (Nat.lt_of_le_of_lt (Nat.add_le_add_left (by decide) _) hr.units) (pv 2) (pv 3) (pe_ifExp (pt_val (pv 4)) (pe_cmpR (kEq (K := K) rfl hr.units) (pe_own G__law_take pb__law_take (hr.mono (by first | decide | exact Nat.le_refl _ | omega)) rfl pass0 (pa_cons (pv 0) (pa_cons pe_int pa_nil))) pe_int (nomark _)) (pe_ix (kIx (K := K) rfl) (pe_lst (pa_cons (pe_op op_sub (pe_own G__law_take pb__law_take (hr.mono (by first | decide | exact Nat.le_refl _ | omega)) rfl pass0 (pa_cons (pv 0) (pa_cons pe_int pa_nil))) pe_int) (pa_cons (pe_ix (kIx (K := K) rfl) (pe_lst (pa_cons pe_int (pa_cons pe_int (pa_cons (pe_un un_neg pe_int) (pa_cons pe_int (pa_cons (pe_un un_neg pe_int) (pa_cons pe_int (pa_cons (pe_un un_neg pe_int) (pa_cons pe_int pa_nil))))))))) (pe_own G__law_take pb__law_take (hr.mono (by first | decide | exact Nat.le_refl _ | omega)) rfl pass0 (pa_cons (pv 0) (pa_cons pe_int pa_nil))) (fun _ _ => rfl)) pa_nil))) (pe_own G__law_take pb__law_take (hr.mono (by first | decide | exact Nat.le_refl _ | omega)) rfl pass0 (pa_cons (pv 0) (pa_cons pe_int pa_nil))) (fun _ _ => rfl))) rfl)"}
abbrev s__law_drawn_values : Stmt := top 55
theorem sc__law_drawn_values : FnScope ["box", "names", "found", "name", "truth"] ["box", "names"] (defScope s__law_drawn_values) := ⟨rfl, rfl, rfl, by decide +kernel, rfl, by decide +kernel, by decide +kernel⟩
theorem pb__law_drawn_values : PosB "_law_drawn_values" s__law_drawn_values ["box", "names"] := fun _ _ _ _ _ _ us hl => match us, hl with | [_, _], _ => rfl
theorem putK_new {kvs : List (Key × V)} {k : Key} {v : V} (h : k ∉ kvs.map (·.1)) : putK kvs k v = kvs ++ [(k, v)] := by
  unfold putK
  rw [if_neg fun z => h (any_key.mp z)]
/-- a value of a name -/
def tW : T := fun _ v => valB v = true
section
variable {K : PySem.W.Frag} {o : Option Addr} {σ : L2.St} {G H : Hp} {ta tb te : TE} {ti : TE} {t : T}
theorem ev_pickT {tl : TA} {m : Nat} {n : Int} (h : EvA o tl σ G (List.replicate m t)) (hi : Ev o ti σ G (tRng 0 n)) (hn : n ≤ m) (hl : m ≤ 100000) : Ev o (tOp (rIx K) (tLst tl) ti) σ G t :=
  ev_op ((en_lst h (by rw [List.length_replicate]; exact hl)).ev (t := fun G v => ∃ a vs, v = .ref a ∧ G a = some (.lst vs) ∧ UP (fun G xs => AllU G (List.replicate m t) xs) G vs) fun G' a xs e ha hp => ⟨a, xs, rfl, ha, hp⟩) hi fun G' x y e hx hy => by
    obtain ⟨a, vs, rfl, ha, hp⟩ := hx.now
    obtain ⟨i, rfl, i0, i1⟩ := hy.now
    have hlv := hp.now.len
    rw [List.length_replicate] at hlv
    have hi : i.toNat < vs.length := by omega
    obtain ⟨t', ht, hu⟩ := hp.now.at (List.getElem?_eq_getElem hi)
    have et : t' = t := by
      rw [List.getElem?_replicate] at ht
      split at ht
      · exact (Option.some.inj ht).symm
      · cases ht
    subst et
    exact fun G1 H1 e1 kn1 Q q => ro_ixL (.of ha) (at_of (j := i.toNat) (by omega) (List.getElem?_eq_getElem hi)) G1 H1 e1 kn1 Q fun v' G3 H3 g3 w3 => q v' G3 H3 g3 (by rw [w3.eq]; exact hu.up (e1.trans g3.gg))
theorem ev_rngEq {n : Int} (h : Ev o te σ G (tRng 0 n)) : Ev o (tOp (rEqG K) te (tC (.int 0))) σ G tBool := ev_op h ev_k fun G' x y e hx hy => by
  obtain ⟨i, rfl, _⟩ := hx.now
  rw [hy.eq]
  exact fun G1 H1 e1 kn1 Q q => ro_eqS rfl rfl G1 H1 e1 kn1 Q fun v G3 H3 g3 w3 => q v G3 H3 g3 (by rw [w3.eq]; exact fun _ _ => ⟨_, rfl⟩)
theorem ev_rngGt {n : Int} (h : Ev o te σ G (tRng 0 n)) : Ev o (tOp (rI0 fun i j => V.bl (decide (j < i))) te (tC (.int 0))) σ G tBool := ev_op h ev_k fun G' x y e hx hy => by
  obtain ⟨i, rfl, _⟩ := hx.now
  rw [hy.eq]
  exact fun G1 H1 e1 kn1 Q q => ro_I0 G1 H1 e1 kn1 Q fun v G3 H3 g3 w3 => q v G3 H3 g3 (by rw [w3.eq]; exact fun _ _ => ⟨_, rfl⟩)
theorem ev_run {Q : L2.VK} (h : Ev o te σ G t) (kn : Kn o G H) (q : ∀ v G2 H2, Go o G H G2 H2 → U t G2 v → Q v H2) : te σ H Q := h G H (Ex.refl _) kn Q q
theorem tW_int {G : Hp} {i : Int} (h : -1000 ≤ i ∧ i ≤ 1000) : U tW G (.int i) := fun _ _ => by
  show (decide ((-1000 : Int) ≤ i) && decide (i ≤ (1000 : Int))) = true
  rw [decide_eq_true h.1, decide_eq_true h.2]
  rfl
end
section
variable {P : Program} {w : World} {K : PySem.W.Frag} {mg : Str → Option Value} {base : Heap} {ga ha CS CV CU D : Addr} {es : Array DictEntry} {n : Nat}
def cDrawn (K : PySem.W.Frag) (o : Option Addr) (G : Hp) (vs : List V) (t : T) : Prop := ∃ (b l : Addr) (ns : List Str), o = some b ∧ vs = [.ref b, .ref l] ∧ SqL K G l (ns.map V.str) ∧ ns.Nodup ∧ ns.length ≤ 100 ∧ t = fun G v => ∃ a kvs, v = .ref a ∧ G a = some (.dK kvs) ∧ kvs.map (·.1) = ns.map Sum.inr ∧ ∀ kv ∈ kvs, valB kv.2 = true
theorem ok_ldrawn (T : Txt4 K mg w ga ha es n) (d : Df K mg "_law_drawn_values" s__law_drawn_values) (G__law_take : Own P w K mg base CX0 1 "_law_take" s__law_take ["box", "many"] (spC cTake)) : Own P w K mg base CX0 2 "_law_drawn_values" s__law_drawn_values ["box", "names"] (spC (cDrawn K)) :=
  d.own fun f fd F => F.ok sc__law_drawn_values (fun vs H Q E h => by obtain ⟨o, G, t, kn, ⟨b, l, ns, _, rfl, _⟩, _⟩ := h; rfl) (fun cdv A outer s H vs Q E hr h => by
    obtain ⟨o, G, t, kn, ⟨b, l, ns, rfl, rfl, hl, hnd, hln, rfl⟩, k⟩ := h
    refine ⟨_, (pss_cons (ps_set (i := 2) sc__law_drawn_values.nd rfl (Or.inl rfl) pe_dnewK)
   (pss_cons (ps_for PassesOwn.never rfl (pi_listK (K := K) rfl (pv 1)) (pg_name (i := 3) sc__law_drawn_values.nd rfl (Or.inl rfl)) (pss_cons (ps_set (i := 4) sc__law_drawn_values.nd rfl (Or.inl rfl) (pe_ifExp (pt_cmpR op_gt (pe_own G__law_take pb__law_take (hr.mono (by first | decide | exact Nat.le_refl _ | omega)) rfl pass0 (pa_cons (pv 0) (pa_cons pe_int pa_nil))) pe_int (nomark _)) (pe_cmpR (kIn (K := K) rfl) (pv 3) (pe_tup (pa_cons pe_str (pa_cons pe_str pa_nil))) (by rfl)) (pe_cmpR (kEq (K := K) rfl hr.units) (pe_own G__law_take pb__law_take (hr.mono (by first | decide | exact Nat.le_refl _ | omega)) rfl pass0 (pa_cons (pv 0) (pa_cons pe_int pa_nil))) pe_int (nomark _))))
   (pss_one (ps_dput (Nat.lt_of_le_of_lt (Nat.add_le_add_left (by decide) _) hr.units) (pv 2) (pv 3) (pe_ifExp (pt_val (pv 4)) (pe_cmpR (kEq (K := K) rfl hr.units) (pe_own G__law_take pb__law_take (hr.mono (by first | decide | exact Nat.le_refl _ | omega)) rfl pass0 (pa_cons (pv 0) (pa_cons pe_int pa_nil))) pe_int (nomark _)) (pe_ix (kIx (K := K) rfl) (pe_lst (pa_cons (pe_op op_sub (pe_own G__law_take pb__law_take (hr.mono (by first | decide | exact Nat.le_refl _ | omega)) rfl pass0 (pa_cons (pv 0) (pa_cons pe_int pa_nil))) pe_int) (pa_cons (pe_ix (kIx (K := K) rfl) (pe_lst (pa_cons pe_int (pa_cons pe_int (pa_cons (pe_un un_neg pe_int) (pa_cons pe_int (pa_cons (pe_un un_neg pe_int) (pa_cons pe_int (pa_cons (pe_un un_neg pe_int) (pa_cons pe_int pa_nil))))))))) (pe_own G__law_take pb__law_take (hr.mono (by first | decide | exact Nat.le_refl _ | omega)) rfl pass0 (pa_cons (pv 0) (pa_cons pe_int pa_nil))) (fun _ _ => rfl)) pa_nil))) (pe_own G__law_take pb__law_take (hr.mono (by first | decide | exact Nat.le_refl _ | omega)) rfl pass0 (pa_cons (pv 0) (pa_cons pe_int pa_nil))) (fun _ _ => rfl))) rfl))))
   (pss_one (ps_ret (pv 2))))), ?_⟩
    refine fun q hq => ?_
    have hob := kn.nbox hq
    have gA : Go (some b) G H G (upd H q (.dK [])) := .tmp kn hq
    have gq0 : G q = none := Evl.fresh_back kn.sub hq
    refine q_for (P := fun _ xs => xs = ns.map V.str) gA (ei_list (K := K) (ev_x rfl) fun G2 v e u => ⟨l, _, u.eq, ex_l e hl, fun _ _ => rfl⟩)
      (fun zs i σ' G' H' => ∃ (kvs : List (Key × V)) (y3 y4 : Option V), σ' = [some (.ref b), some (.ref l), some (.ref q), y3, y4] ∧ G' q = none ∧ H' q = some (.dK kvs) ∧ kvs.map (·.1) = (ns.take i).map Sum.inr ∧ ∀ kv ∈ kvs, valB kv.2 = true)
      (fun zs G' H' g' gl hz => ⟨[], _, _, rfl, gl.nw q gq0 (by rw [upd_same]; simp), gl.kp q _ upd_same hob, rfl, fun _ z => nomatch z⟩) (fun Gs zs e0 hz' i v σ' G1 H1 hv g1 e1 hi => ?_) fun zs σ' G' H' g' e' hz' hi => ?_
    · obtain ⟨kvs, y3, y4, rfl, gq, hq1, hks, hvb⟩ := hi
      rw [hz'.now, List.getElem?_map] at hv
      obtain ⟨z, hz, rfl⟩ := Option.map_eq_some_iff.mp hv
      have gi := Go.refl g1.kn
      have hzl : i < ns.length := by
        rcases Nat.lt_or_ge i ns.length with h | h
        · exact h
        · rw [List.getElem?_eq_none h] at hz; cases hz
      refine q_asg (t := tBool) g1 (ev_if (et_testU (ev_rngGt (take_at rfl ev_k ⟨by decide, by decide⟩))) (fun _ => ?_) fun _ => ev_rngEq (take_at rfl ev_k ⟨by decide, by decide⟩)) fun v4 G2 H2 g2 g12 w2 => ?_
      · exact ev_op (s := tIs (.str z)) (u := tTupU K [tIs (.str "t"), tIs (.str "yes")]) (ev_x rfl) (ev_tup (ea_cons ev_k (ea_cons ev_k ea_nil)) (by show 2 ≤ 100000; decide)) fun G3 x' y' e3 hx hy => by
          obtain ⟨p, vs, rfl, hq, hal⟩ := hy.now
          rw [hx.eq]
          rw [all2 hal] at hq
          exact fun G1 H1 e1 kn1 Q q => ro_inT (neg := false) (x := .str z) (K := K) hq rfl rfl G1 H1 e1 kn1 Q fun v G3 H3 g3 w3 => q v G3 H3 g3 (by rw [w3.eq]; exact fun _ _ => ⟨_, rfl⟩)
      · have hq2 := g12.kp q _ hq1 hob
        have gq2 : G2 q = none := g12.nw q gq (by rw [hq1]; simp)
        refine ev_run (G := G2) (H := H2) (o := some b) (t := tW) (ev_if (et_bU (ev_var rfl w2)) (fun _ => (ev_rngEq (take_at rfl ev_k ⟨by decide, by decide⟩)).imp fun G3 v e3 u => fun G4 e4 => ?_) fun _ => ev_pickT (m := 2) (ea_cons ?_ (ea_cons ?_ ea_nil)) (take_at rfl ev_k ⟨by decide, by decide⟩) (by decide) (by decide)) g2.kn fun v G3 H3 g3 w3 => ?_
        · obtain ⟨c, rfl⟩ := u G4 e4
          rfl
        · exact ev_op (s := tRng 0 2001) (take_at rfl ev_k ⟨by decide, by decide⟩) ev_k fun G3 x y e hx hy => by
            obtain ⟨i, rfl, i0, i1⟩ := hx.now
            rw [hy.eq]
            exact fun G1 H1 e1 kn1 Q q => ro_I0 G1 H1 e1 kn1 Q fun v G3 H3 g3 w3 => q v G3 H3 g3 (by rw [w3.eq]; exact tW_int (by omega))
        · have c : ∀ {te : TE} {i : Int} {σ G}, Ev (some b) te σ G (tIs (.int i)) → (-1000 ≤ i ∧ i ≤ 1000) → Ev (some b) te σ G tW := fun h hi => h.imp fun G' v e u => by rw [u.eq]; exact tW_int hi
          exact ev_pickT (m := 8) (ea_cons (c ev_k (by decide)) (ea_cons (c ev_k (by decide)) (ea_cons (c (ev_neg ev_k) (by decide)) (ea_cons (c ev_k (by decide)) (ea_cons (c (ev_neg ev_k) (by decide)) (ea_cons (c ev_k (by decide)) (ea_cons (c (ev_neg ev_k) (by decide)) (ea_cons (c ev_k (by decide)) ea_nil)))))))) (take_at rfl ev_k ⟨by decide, by decide⟩) (by decide) (by decide)
        · have hq3 := g3.kp q _ hq2 hob
          have gq3 : G3 q = none := g3.nw q gq2 (by rw [hq2]; simp)
          have lk : kvs.length ≤ 100 := by
            have := congrArg List.length hks
            rw [List.length_map, List.length_map, List.length_take] at this
            omega
          have hnm : (Sum.inr z : Key) ∉ kvs.map (·.1) := fun h => by
            rw [hks] at h
            obtain ⟨z', hz', e⟩ := List.mem_map.mp h
            cases e
            have nd := hnd
            rw [← List.take_append_drop i ns] at nd
            refine (List.nodup_append.mp nd).2.2 z hz' z ?_ rfl
            exact List.mem_of_getElem? (i := 0) (by rw [List.getElem?_drop]; exact hz)
          refine ⟨_, rfl, _, rfl, q, _, rfl, DPut.k (k := (Sum.inr z : Key)) hq3 (Evl.sz_lt (by omega)), G3, (g2.trans g3).mut ?_ gq3 hob, e1.trans (g12.gg.trans g3.gg), _, _, _, rfl, gq3, upd_same, ?_, ?_⟩
          · exact hq
          · rw [putK_new hnm, List.map_append, hks, List.take_succ, hz, List.map_append]
            rfl
          · rw [putK_new hnm]
            intro kv hm
            rcases List.mem_append.mp hm with h | h
            · exact hvb kv h
            · rw [List.mem_singleton.mp h]; exact w3.now
    · obtain ⟨kvs, y3, y4, rfl, gq, hq1, hks, hvb⟩ := hi
      rw [hz'.now, List.length_map, List.take_length] at hks
      exact ⟨_, rfl, k _ (upd G' q (.dK kvs)) H' (g'.fix hq hq1 gq hob) fun G2 e2 => ⟨q, kvs, rfl, e2 _ _ upd_same, hks, hvb⟩⟩)
end
end K14
set_option Elab.async false
set_option linter.all false
set_option maxRecDepth 100000
set_option maxHeartbeats 4000000
namespace K14
open PySem L2 Ty
open Evl (Ex ex_l ex_t)
-- OV _law_term_right: {"call:dict([(name, 'truth' if isinstance(values[name], bool) else 'integer') for name in values])": "(kDictP (K := K) rfl rfl)", "call:dict(values)": "call_dictOf", "lock:dict([(name, 'truth' if isinstance(values[name], bool) else 'integer') for name in values])": "", "iter:values": "(pi_keys (pv 5))", "values[name]": "(pe_dget (Nat.lt_of_le_of_lt (Nat.add_le_add_left (by decide) _) hr.units) (pv 5) (pv 9) (fun _ _ => rfl))"}
abbrev s__law_term_right : Stmt := top 56
theorem sc__law_term_right : FnScope ["box", "term", "by_name", "turn", "names", "values", "kinds", "due", "held", "name"] ["box", "term", "by_name"] (defScope s__law_term_right) := ⟨rfl, rfl, rfl, by decide +kernel, rfl, by decide +kernel, by decide +kernel⟩
theorem pb__law_term_right : PosB "_law_term_right" s__law_term_right ["box", "term", "by_name"] := fun _ _ _ _ _ _ us hl => match us, hl with | [_, _, _], _ => rfl
/-! ### dicts of values as data -/
def vD : V → PyData
  | .bl b => .bool b
  | .int i => .int i
  | _ => .none
def esOf (kvs : List (Key × V)) : List (PyData × PyData) := kvs.map fun kv => (kD kv.1, vD kv.2)
theorem dks_of {K : PySem.W.Frag} {G : Hp} : ∀ {kvs : List (Key × V)}, (∀ kv ∈ kvs, valB kv.2 = true) → DKs K G kvs (esOf kvs)
  | [], _ => .nil
  | (k, v) :: kvs, h => by
    have hv := h (k, v) (List.mem_cons_self ..)
    refine .cons ?_ (dks_of fun kv m => h kv (List.mem_cons_of_mem _ m))
    cases v with
    | bl b => exact .bl b
    | int i => exact .int i
    | _ => cases hv
theorem es_vals : ∀ {kvs : List (Key × V)}, (∀ kv ∈ kvs, nameV (kV kv.1) = true) → (∀ kv ∈ kvs, valB kv.2 = true) → isValues (.dict (esOf kvs)) = true := fun {kvs} h1 h2 => by
  rw [← all_vals (K := []) (G := fun _ => none) (dks_of h2)]
  rw [List.all_eq_true]
  intro b hb
  obtain ⟨kv, hm, rfl⟩ := List.mem_map.mp hb
  rw [h1 kv hm, h2 kv hm]
  rfl
theorem sm_key (k : Key) (h : nameV (kV k) = true) : Sm1 (kD k) := by
  cases k with
  | inl i => cases h
  | inr z => exact (fx_plain (d := .str z) (show (false || (false || nameD (.str z))) = true from h)).sm
theorem es_ok {kvs : List (Key × V)} (h1 : ∀ kv ∈ kvs, nameV (kV kv.1) = true) (h2 : ∀ kv ∈ kvs, valB kv.2 = true) (hl : kvs.length ≤ 900) : okK (.dict (esOf kvs)) := by
  refine ⟨by unfold esOf; rw [List.length_map]; exact hl, fun p hp => ?_⟩
  obtain ⟨kv, hm, rfl⟩ := List.mem_map.mp hp
  refine ⟨sm_key _ (h1 kv hm), ?_⟩
  have hv := h2 kv hm
  obtain ⟨k, v⟩ := kv
  cases v with
  | bl b => exact ⟨⟨1, rfl⟩, .inr rfl⟩
  | int i => exact ⟨⟨1, rfl⟩, .inr rfl⟩
  | _ => cases hv
theorem es_nd {kvs : List (Key × V)} (h : (kvs.map (·.1)).Nodup) : ndK (.dict (esOf kvs)) := by
  show ((kvs.map fun kv => (kD kv.1, vD kv.2)).map (·.1)).Nodup
  rw [List.map_map]
  have e : kvs.map ((·.1) ∘ fun kv => (kD kv.1, vD kv.2)) = (kvs.map (·.1)).map kD := by rw [List.map_map]; rfl
  rw [e]
  refine List.pairwise_map.mpr (h.imp fun {a b} hab q => hab ?_)
  cases a <;> cases b <;> cases q <;> rfl
def n7 : List Str := ["n", "num", "t", "yes", "m", "zz", "i"]
theorem n7_ok : ∀ z ∈ n7, nameV (.str z) = true := fun z hz => by
  simp only [n7, List.mem_cons, List.not_mem_nil, or_false] at hz
  rcases hz with rfl | rfl | rfl | rfl | rfl | rfl | rfl <;> kernel_rfl
theorem n7_nd : n7.Nodup := by decide +kernel
/-- a known list of names, none twice -/
def tNs (K : PySem.W.Frag) : T := fun G v => ∃ (l : Addr) (ns : List Str), v = .ref l ∧ SqL K G l (ns.map V.str) ∧ ns.Nodup ∧ ns.length ≤ 7 ∧ ∀ z ∈ ns, nameV (.str z) = true
def unS : V → Str
  | .str z => z
  | _ => ""
theorem perm_strs {xs : List V} {zs : List Str} (h : xs.Perm (zs.map V.str)) : ∃ ys : List Str, xs = ys.map V.str ∧ ys.Perm zs := by
  refine ⟨xs.map unS, ?_, ?_⟩
  · rw [List.map_map]
    refine (List.map_id _).symm.trans (List.map_congr_left fun x hx => ?_)
    obtain ⟨z, _, rfl⟩ := List.mem_map.mp (h.mem_iff.mp hx)
    rfl
  · have := h.map unS
    rw [List.map_map] at this
    have e : zs.map (unS ∘ V.str) = zs := by
      refine (List.map_congr_left (g := id) fun x _ => rfl).trans (List.map_id _)
    rwa [e] at this
theorem cut_strs {zs : List Str} {lo hi : Option Int} : ∃ ys : List Str, cutV (zs.map V.str) lo hi = ys.map V.str ∧ ys.Sublist zs := by
  unfold cutV
  rw [List.map_drop.symm, List.map_take.symm]
  exact ⟨_, rfl, (List.take_sublist _ _).trans (List.drop_sublist _ _)⟩
section
variable {K : PySem.W.Frag} {o : Option Addr} {σ : L2.St} {G H : Hp} {te : TE} {t : T}
theorem Ev.any (h : Ev none te σ G t) : Ev o te σ G t := fun G1 H1 e kn Q q => h G1 H1 e kn.pure Q fun v G2 H2 g2 w2 => q v G2 H2 (g2.pure kn) w2
/-- a pair -/
def tPx (K : PySem.W.Frag) (kv : Key × V) : T := fun G v => ∃ a, v = .ref a ∧ SqT K G a [kV kv.1, kv.2]
theorem prs_px : ∀ {kvs : List (Key × V)} {xs : List V}, AllU G (kvs.map (tPx K)) xs → ∃ ps : List Addr, xs = ps.map V.ref ∧ Paired (fun a kv => SqT K G a [kV kv.1, kv.2]) ps kvs
  | [], _, .nil => ⟨[], rfl, .nil⟩
  | kv :: kvs, _, .cons h r => by
    obtain ⟨a, rfl, ha⟩ := h.now
    obtain ⟨ps, rfl, hp⟩ := prs_px r
    exact ⟨a :: ps, rfl, .cons ha hp⟩
theorem ev_dictX {kvs : List (Key × V)} (h : EvN o te σ G (fun G xs => AllU G (kvs.map (tPx K)) xs)) : Ev o (tCB (rDictP K) (tCons te tNil)) σ G (fun G v => ∃ a, v = .ref a ∧ G a = some (.dK (mergeK [] kvs))) := fun G1 H1 e kn Q q =>
  (h.ev (t := fun G v => ∃ a xs, v = .ref a ∧ G a = some (.lst xs) ∧ AllU G (kvs.map (tPx K)) xs) fun G' a xs e ha hp => ⟨a, xs, rfl, ha, hp.now⟩) G1 H1 e kn _ fun v G2 H2 g2 w2 => by
    obtain ⟨a, xs, rfl, hs, hx⟩ := w2.now
    obtain ⟨ps, rfl, h3⟩ := prs_px hx
    exact ⟨a, ps, kvs, rfl, .of (g2.kn.sub _ _ hs), L2.Paired.mapP h3 fun _ _ z => ex_t g2.kn.sub z, fun d hd => q _ _ _ (g2.trans (.new g2.kn hd)) fun G' e' => ⟨d, rfl, e' d _ upd_same⟩⟩
end
theorem valV_mem' {kvs : List (Key × V)} {i : Nat} {kv : Key × V} (hn : (kvs.map (·.1)).Nodup) (h : kvs[i]? = some kv) : valV kvs kv.1 = some kv.2 := by
  induction kvs generalizing i with
  | nil => simp at h
  | cons p kvs ih =>
    cases i with
    | zero =>
      cases (show some _ = some _ from h)
      exact valV_pos rfl
    | succ i =>
      have hn' := List.nodup_cons.mp hn
      have hm : kv ∈ kvs := List.mem_of_getElem? h
      rw [valV_neg (fun e => hn'.1 (by show p.1 ∈ _; rw [e]; exact List.mem_map.mpr ⟨kv, hm, rfl⟩))]
      exact ih hn'.2 h
section
variable {P : Program} {w : World} {K : PySem.W.Frag} {mg : Str → Option Value} {base : Heap} {ga ha CS CV CU D : Addr} {es : Array DictEntry} {n : Nat}
def cTermR (K : PySem.W.Frag) (o : Option Addr) (G : Hp) (vs : List V) (t : T) : Prop := ∃ (b : Addr) (x : V) (d : PyData) (m : Nat) (bn : Bool), o = some b ∧ vs = [.ref b, x, .bl bn] ∧ (Vl K G x d ∧ Sm1 d) ∧ Sz d m ∧ m ≤ 40 ∧ t = tIs (.bl true)
theorem ok_term_right (T : Txt5 K mg w ga ha es n CS CV CU D) (d : Df K mg "_law_term_right" s__law_term_right) (G__law_mixed : Own P w K mg base CX0 2 "_law_mixed" s__law_mixed ["box", "items"] (spN (cMixed K)))
    (G__law_same : Own P w K mg base CX0 50 "_law_same" s__law_same ["told", "due"] (spC (cSame K 50))) (G__law_drawn_values : Own P w K mg base CX0 2 "_law_drawn_values" s__law_drawn_values ["box", "names"] (spC (cDrawn K)))
    (G__law_asked : Own P w K mg base CX0 44 "_law_asked" s__law_asked ["args", "by_name"] (spN (cAsked K))) (G__law_kind : Own P w K mg base CX0 41 "_law_kind" s__law_kind ["term", "kinds"] (spC (cKind K 40))) (G__law_makes : Own P w K mg base CX0 42 "_law_makes" s__law_makes ["term", "values"] (spC (cMade K 40))) :
    Own P w K mg base CX0 51 "_law_term_right" s__law_term_right ["box", "term", "by_name"] (spC (cTermR K)) :=
  d.own fun f fd F => F.ok sc__law_term_right (fun vs H Q E h => by obtain ⟨o, G, t, kn, ⟨b, x, d, m, bn, _, rfl, _⟩, _⟩ := h; rfl) (fun cdv A outer s H vs Q E hr h => by
    obtain ⟨o, G, t, kn, ⟨b, x, d, m, bn, rfl, rfl, ⟨hx, hsm⟩, hz, hm, rfl⟩, k⟩ := h
    refine ⟨_, (pss_cons (ps_for PassesOwn.never rfl (pi_range1 rfl T.n_range (pa_cons pe_int pa_nil)) (pg_name (i := 3) sc__law_term_right.nd rfl (Or.inl rfl)) (pss_cons (ps_set (i := 4) sc__law_term_right.nd rfl (Or.inl rfl) (pe_lst (pa_cons pe_str (pa_cons pe_str (pa_cons pe_str (pa_cons pe_str (pa_cons pe_str (pa_cons pe_str (pa_cons pe_str pa_nil)))))))))
   (pss_cons (ps_set (i := 5) sc__law_term_right.nd rfl (Or.inr rfl) (pe_own G__law_drawn_values pb__law_drawn_values (hr.mono (by first | decide | exact Nat.le_refl _ | omega)) rfl pass0 (pa_cons (pv 0) (pa_cons (pe_ifExp (pt_cmpR gLt (pv 3) pe_int (nomark _)) (pv 4) (pe_slice (kSl (K := K) rfl) (pe_own G__law_mixed pb__law_mixed (hr.mono (by first | decide | exact Nat.le_refl _ | omega)) rfl pass0 (pa_cons (pv 0) (pa_cons (pv 4) pa_nil))) po_none (po_some pe_int))) pa_nil))))
   (pss_cons (ps_set (i := 6) sc__law_term_right.nd rfl (Or.inl rfl) (pe_lock (pe_callTy (kDictP (K := K) rfl rfl) (by rfl) T.n_dict (by decide +kernel) (pa_cons (pe_lc (own := [("name", 9)]) rfl sc__law_term_right.nd (pi_keys (pv 5)) (blkOk_by (own := [("name", 9)]) (N := ["box", "term", "by_name", "turn", "names", "values", "kinds", "due", "held", "name"]) (sc := defScope s__law_term_right) (by decide +kernel)) (fun _ _ _ _ _ => (pg_name (i := 9) sc__law_term_right.nd rfl (Or.inl rfl))) (fun _ _ _ _ _ => pts_nil) (fun _ _ _ _ _ => (pe_tup (pa_cons (pv 9) (pa_cons (pe_ifExp (pt_val (pe_callB (kIsi (K := K) rfl) (by rfl) T.n_isinstance (by decide +kernel) (pa_cons (pe_dget (Nat.lt_of_le_of_lt (Nat.add_le_add_left (by decide) _) hr.units) (pv 5) (pv 9) (fun _ _ => rfl)) (pa_cons (pe_bltn (v := .ty "bool") (by rfl) T.n_bool (by decide +kernel) rfl) pa_nil)))) pe_str pe_str) pa_nil))))) pa_nil))))
   (pss_cons (ps_set (i := 7) sc__law_term_right.nd rfl (Or.inl rfl) (pe_ifExp (pt_cmpR op_isN (pe_own G__law_kind pb__law_kind (hr.mono (by first | decide | exact Nat.le_refl _ | omega)) rfl pass0 (pa_cons (pv 1) (pa_cons (pv 6) pa_nil))) pe_non (nomark _)) (pe_lst (pa_cons pe_str (pa_cons pe_non pa_nil))) (pe_lst (pa_cons pe_str (pa_cons (pe_own G__law_makes pb__law_makes (hr.mono (by first | decide | exact Nat.le_refl _ | omega)) rfl pass0 (pa_cons (pv 1) (pa_cons (pv 5) pa_nil))) pa_nil)))))
   (pss_cons (ps_set (i := 8) sc__law_term_right.nd rfl (Or.inl rfl) (pe_callTy call_dictOf (by rfl) T.n_dict (by decide +kernel) (pa_cons (pv 5) pa_nil)))
   (pss_cons (ps_if (pt_not (pt_val (pe_own G__law_same pb__law_same (hr.mono (by first | decide | exact Nat.le_refl _ | omega)) rfl pass0 (pa_cons (pe_lst (pa_cons (pe_own G__law_asked pb__law_asked (hr.mono (by first | decide | exact Nat.le_refl _ | omega)) rfl pass0 (pa_cons (pe_lst (pa_cons (pv 1) (pa_cons (pv 5) pa_nil))) (pa_cons (pv 2) pa_nil))) (pa_cons (pe_own G__law_asked pb__law_asked (hr.mono (by first | decide | exact Nat.le_refl _ | omega)) rfl pass0 (pa_cons (pe_lst (pa_cons (pv 1) (pa_cons (pv 5) pa_nil))) (pa_cons (pe_not (pv 2)) pa_nil))) (pa_cons (pv 5) pa_nil)))) (pa_cons (pe_lst (pa_cons (pv 7) (pa_cons (pv 7) (pa_cons (pv 8) pa_nil)))) pa_nil))))) (pss_one (ps_ret pe_bl)) pss_nil)
   (pss_one (ps_set (i := 2) sc__law_term_right.nd rfl (Or.inl rfl) (pe_not (pv 2)))))))))))
   (pss_one (ps_ret pe_bl))), ?_⟩
    refine q_for (Go.refl kn) (ei_rng1 (P := fun _ zs => zs = intsV 0 4) (Pn := fun n => n = 4) (ea_cons (ev_k.imp fun _ _ _ u => by rw [u.eq]; exact fun _ _ => ⟨4, rfl, rfl⟩) ea_nil) (fun n e => by omega) fun G' n _ e _ _ => by rw [e]; rfl)
      (fun zs i σ' G' H' => ∃ (c : Bool) (y3 y4 y5 y6 y7 y8 : Option V), σ' = [some (.ref b), some x, some (.bl c), y3, y4, y5, y6, y7, y8, none]) (fun zs G' H' g' gl hz => ⟨bn, _, _, _, _, _, _, rfl⟩) (fun Gs zs e0 hz' i v σ' G1 H1 hv g1 e1 hi => ?_) fun zs σ' G' H' g' e' hz' hi => s_ret g' ev_k k
    obtain ⟨c, y3, y4, y5, y6, y7, y8, rfl⟩ := hi
    have gi := Go.refl g1.kn
    have hx1 := hx.up g1.gg
    obtain ⟨iv, rfl⟩ : ∃ iv : Int, v = .int iv := by
      rw [hz'.now] at hv
      exact ⟨_, (intsV_get hv).1⟩
    refine q_asg (t := tLS n7) gi ((en_lst (ea_cons ev_k (ea_cons ev_k (ea_cons ev_k (ea_cons ev_k (ea_cons ev_k (ea_cons ev_k (ea_cons ev_k ea_nil))))))) (by show 7 ≤ 100000; decide)).ev fun G' a xs e ha hp => ⟨a, rfl, by rw [ha, all7 hp.now]; rfl⟩) fun v4 G2 H2 g2 _ w2 => ?_
    obtain ⟨la, rfl, hla⟩ := w2.now
    refine q_asg (t := fun G v => ∃ a kvs, v = .ref a ∧ G a = some (.dK kvs) ∧ (kvs.map (·.1)).Nodup ∧ kvs.length ≤ 7 ∧ (∀ kv ∈ kvs, nameV (kV kv.1) = true) ∧ ∀ kv ∈ kvs, valB kv.2 = true) g2 (ev_call (ea_cons (ev_x rfl) (ea_cons (s := tNs K) (ev_if (p := fun _ => True) ?_ (fun _ => ?_) fun _ => ?_) ea_nil)) fun G' vs e al => ?_) fun v5 G3 H3 g3 g23 w3 => ?_
    · exact et_testU ((ev_i0 (g := fun i j => .bl (decide (i < j))) (ev_x rfl) ev_k).imp fun _ _ _ u => by rw [u.eq]; exact fun _ _ => ⟨_, rfl⟩)
    · exact (ev_x rfl).imp fun G' v e u => by
        rw [u.eq]
        exact fun G2 e2 => ⟨la, n7, rfl, .of ((e.trans e2) _ _ hla), n7_nd, by decide, n7_ok⟩
    · refine (en_slN (P := fun _ xs => ∃ ns : List Str, xs = ns.map V.str ∧ ns.Nodup ∧ ns.length ≤ 7 ∧ ∀ z ∈ ns, nameV (.str z) = true) (P' := fun _ xs => xs.Perm (n7.map V.str)) (en_call (ea_cons (ev_x rfl) (ea_cons (ev_x rfl) ea_nil)) fun G' vs e al => ?_) eo_none (eo_some ev_k) fun G' xs h => ?_).ev fun G' a xs e ha hp => ?_
      · rw [all2 al]
        exact ⟨some b, _, .inl rfl, ⟨b, la, _, rfl, rfl, .of (e _ _ hla), (by decide), rfl⟩, fun _ _ _ h => h⟩
      · obtain ⟨ys, rfl, hp⟩ := perm_strs h
        obtain ⟨ws, hw, hs⟩ := cut_strs (zs := ys) (lo := none) (hi := some 3)
        exact ⟨ws, hw, hs.nodup (hp.nodup_iff.mpr n7_nd), Nat.le_trans hs.length_le (by rw [hp.length_eq]; decide), fun z hz => n7_ok z (hp.mem_iff.mp (hs.subset hz))⟩
      · obtain ⟨ns, rfl, h1, h2, h3⟩ := hp.now
        exact ⟨a, ns, rfl, .of ha, h1, h2, h3⟩
    · cases al with
      | cons a1 al => cases al with
        | cons a2 al =>
          cases al
          obtain ⟨l, ns, rfl, h1, h2, h3, h4⟩ := a2.now
          rw [a1.eq]
          refine ⟨some b, _, .inl rfl, ⟨b, l, ns, rfl, rfl, h1, h2, by omega, rfl⟩, fun G'' v e2 w => fun G3 e3 => ?_⟩
          obtain ⟨a, kvs, hv, ha, hk, hb⟩ := w G3 e3
          refine ⟨a, kvs, hv, ha, ?_, ?_, fun kv hm => ?_, hb⟩
          · rw [hk]
            exact List.pairwise_map.mpr (h2.imp fun {a b} hab q => hab (Sum.inr.inj q))
          · have := congrArg List.length hk
            rw [List.length_map, List.length_map] at this
            omega
          · have : kv.1 ∈ kvs.map (·.1) := List.mem_map.mpr ⟨kv, hm, rfl⟩
            rw [hk] at this
            obtain ⟨z, hz, e⟩ := List.mem_map.mp this
            rw [← e]
            exact h4 z hz
    obtain ⟨a, kvs, rfl, hka, hnd, hkl, hnm, hvb⟩ := w3.now
    have hks : ∀ {G'}, DKs K G' kvs (esOf kvs) := dks_of hvb
    have hiv : isValues (.dict (esOf kvs)) = true := es_vals hnm hvb
    have hok : okK (.dict (esOf kvs)) := es_ok hnm hvb (by omega)
    have hndk : ndK (.dict (esOf kvs)) := es_nd hnd
    have hval : ValsOf kvs (vfOf (esOf kvs)) := vals_of (G := G3) hks hiv
    refine q_asg (t := fun G v => ∃ a, v = .ref a ∧ G a = some (.dK (kvs.map kwK))) g3 (Ev.any (ev_lockT (b := a) (w := .dK kvs) (t := fun G v => ∃ a, v = .ref a ∧ G a = some (.dK (mergeK [] (kvs.map kwK)))) (fun G' e => e _ _ hka) trivial (fun G' od e => ?_) fun G2 G' od v h2 u e => ?_)) fun v6 G4 H4 g4 g34 w4 => ?_
    · refine ev_dictX (en_row (zs := kvs.map fun kv => kV kv.1) ((kvs.map kwK).map (tPx K)) (ei_keys (kvs := kvs) (ev_x rfl) upd_same fun _ _ _ _ => rfl) (fun _ => rfl) (by rw [List.length_map]; omega) (by simp) fun G'' i z t e2 hz ht => ?_)
      rw [List.getElem?_map] at hz
      rw [List.map_map, List.getElem?_map] at ht
      obtain ⟨⟨kk, vv⟩, hkv, ez⟩ := Option.map_eq_some_iff.mp hz
      rw [hkv] at ht
      cases ht
      cases ez
      have hbv := hvb _ (List.mem_of_getElem? hkv)
      refine (ev_tup (K := K) (ts := [tIs (kV kk), tIs (.str (kword vv))]) (ea_cons (ev_x rfl) (ea_cons ?_ ea_nil)) (by show 2 ≤ 100000; decide)).imp fun G3 v e3 u => fun G4 e4 => ?_
      · have vm := valV_mem' hnd hkv
        cases vv with
        | bl bb => exact ev_if (p := (· = true)) (et_b (ev_isi (ev_dget (k := kk) (kvs := kvs) (ev_x rfl) (ev_x rfl) (.inr ⟨od, e2 _ _ upd_same⟩) vm) (.bl bb) (by decide +kernel))) (fun _ => ev_k) fun z => nomatch z
        | int ii => exact ev_if (p := (· = false)) (et_b (ev_isi (ev_dget (k := kk) (kvs := kvs) (ev_x rfl) (ev_x rfl) (.inr ⟨od, e2 _ _ upd_same⟩) vm) (.int ii) (by decide +kernel))) (fun z => nomatch z) fun _ => ev_k
        | _ => cases hbv
      · obtain ⟨a, vs, rfl, hs, hu⟩ := u G4 e4
        rw [all2 hu] at hs
        exact ⟨a, rfl, hs⟩
    · obtain ⟨q, rfl, hq⟩ := u.now
      rw [merge_nodup _ [] (by rw [List.nil_append, List.map_map]; exact hnd), List.nil_append] at hq
      refine ⟨q, rfl, e _ _ ?_⟩
      rw [upd_ne (fun z => by rw [z, h2] at hq; cases hq)]
      exact hq
    obtain ⟨ka, rfl, hkk⟩ := w4.now
    have hka4 := g34.gg _ _ hka
    have hx4 := hx1.up g4.gg
    have kof : KindsOf (kvs.map kwK) (kf (vfOf (esOf kvs))) := fun z => by
      rw [val_map, hval z]
      unfold kf
      cases vfOf (esOf kvs) z <;> rfl
    have hsum : isSum d = true := sz_sum hz hm
    have hvl : ∀ {G'}, Ex G4 G' → Vl K G' (.ref a) (.dict (esOf kvs)) := fun e => .inr ⟨a, kvs, _, rfl, rfl, e _ _ hka4, hks⟩
    have ekd : ∀ {σ' G' E}, σ'[1]? = some (some x) → σ'[6]? = some (some (.ref ka)) → Ex G4 G' → Ev (some b) (tCall (spC (cKind K 40)) [] E (tCons (tVar 1) (tCons (tVar 6) tNil))) σ' G' (tIs (oV (kindVo d (.dict (esOf kvs))))) := fun h1 h6 e => ev_call (ea_cons (ev_x h1) (ea_cons (ev_x h6) ea_nil)) fun G'' vs e2 al => by
      rw [all2 al]
      exact ⟨none, _, .inr rfl, ⟨rfl, x, d, ka, _, _, rfl, ⟨hx4.up (e.trans e2), hsm⟩, ⟨m, hz, hm⟩, (e.trans e2) _ _ hkk, kof, rfl⟩, fun _ _ _ w => w⟩
    have hdue : ∃ w1 w2 : V, outV d (.dict (esOf kvs)) x (.ref a) = [w1, w2] ∧ fl w1 = true ∧ fl w2 = true := by
      unfold outV
      rw [if_pos hsum, if_pos hiv]
      cases hkd : kindVo d (.dict (esOf kvs)) with
      | none => exact ⟨_, _, rfl, rfl, rfl⟩
      | some kk =>
        refine ⟨_, _, rfl, rfl, ?_⟩
        have vk := mk_ok (vf_vk hiv) 40 hz hm (show kindN 40 (kf (vfOf (esOf kvs))) d = some kk from hkd)
        show fl (mkN 40 (vfOf (esOf kvs)) d) = true
        rcases vk with ⟨_, b, e⟩ | ⟨_, i, e, _⟩ <;> rw [e] <;> rfl
    obtain ⟨w1, w2, hout, hf1, hf2⟩ := hdue
    refine q_asg (t := tKL [w1, w2]) g4 ?_ fun v7 G5 H5 g5 g45 w5 => ?_
    · cases hkd : kindVo d (.dict (esOf kvs)) with
      | none =>
        have ek := ekd (σ' := [some (.ref b), some x, some (.bl c), some (.int iv), some (.ref la), some (.ref a), some (.ref ka), y7, y8, none]) (G' := G4) (E := E0) rfl rfl (Ex.refl _)
        rw [hkd] at ek
        unfold outV at hout
        rw [if_pos hsum, if_pos hiv, hkd, if_neg (by decide)] at hout
        rw [← hout]
        exact ev_if (p := (· = true)) (et_test (ev_isN ek rfl)) (fun _ => ev_lst2 ev_k ev_k) fun z => nomatch z
      | some kk =>
        have ek := ekd (σ' := [some (.ref b), some x, some (.bl c), some (.int iv), some (.ref la), some (.ref a), some (.ref ka), y7, y8, none]) (G' := G4) (E := E0) rfl rfl (Ex.refl _)
        rw [hkd] at ek
        unfold outV at hout
        rw [if_pos hsum, if_pos hiv, hkd, if_pos (c := (some kk).isSome = true) rfl] at hout
        rw [← hout]
        refine ev_if (p := (· = false)) (et_test (ev_isN ek rfl)) (fun z => nomatch z) fun _ => ev_lst2 ev_k (ev_call (ea_cons (ev_x rfl) (ea_cons (ev_x rfl) ea_nil)) fun G'' vs e2 al => ?_)
        rw [all2 al]
        exact ⟨none, _, .inr rfl, ⟨rfl, x, d, a, kvs, vfOf (esOf kvs), kk, rfl, ⟨hx4.up e2, hsm⟩, ⟨m, hz, hm⟩, e2 _ _ hka4, hval, vf_vk hiv, hkd, rfl⟩, fun _ _ _ w => w⟩
    obtain ⟨da, rfl, hda⟩ := w5.now
    refine q_asg (t := fun G v => ∃ q, v = .ref q ∧ G q = some (.dK kvs)) g5 (ev_dictOf (ev_x rfl) (g45.gg _ _ hka4)) fun v8 G6 H6 g6 g56 w6 => ?_
    obtain ⟨ha8, rfl, hha⟩ := w6.now
    have hda6 := g56.gg _ _ hda
    have g46 := g45.trans g56
    have one : ∀ {tn : TE} {c2 : Bool} {E : XK} {σ'}, σ'[1]? = some (some x) → σ'[5]? = some (some (.ref a)) → Ev (some b) tn σ' G6 (tIs (.bl c2)) →
        Ev (some b) (tCall (spN (cAsked K)) [] E (tCons (tLst (tCons (tVar 1) (tCons (tVar 5) tNil))) (tCons tn tNil))) σ' G6 (tKL [w1, w2]) := fun {tn c2 E σ'} h1 h5 hn =>
      (en_call (P := fun _ xs => xs = [w1, w2]) (ea_cons (ev_lst2 (ev_x h1) (ev_x h5)) (ea_cons hn ea_nil)) fun G' vs e al => by
        cases al with
        | cons a1 al => cases al with
          | cons a2 al =>
            cases al
            obtain ⟨l, rfl, hl⟩ := a1.now
            rw [a2.eq]
            exact ⟨none, _, .inr rfl, ⟨rfl, l, x, .ref a, d, .dict (esOf kvs), c2, rfl, .of hl, ⟨hx4.up (g46.gg.trans e), hsm⟩, ⟨hvl (g46.gg.trans e), hok, hndk⟩, rfl⟩, fun G'' xs e2 h => by rw [← hout]; exact h⟩).ev fun G' p xs e ha hp => ⟨p, rfl, by rw [ha, hp.now]⟩
    refine q_when g6 (p := (· = !true)) (et_not (et_b (ev_sameR (s := fun G v => ∃ p r1 r2, v = .ref p ∧ G p = some (.lst [.ref r1, .ref r2, .ref a]) ∧ G r1 = some (.lst [w1, w2]) ∧ G r2 = some (.lst [w1, w2])) (t := fun G v => ∃ p, v = .ref p ∧ G p = some (.lst [.ref da, .ref da, .ref ha8]))
      ((en_lst (ts := [tKL [w1, w2], tKL [w1, w2], tIs (.ref a)]) (ea_cons (one (c2 := c) rfl rfl (ev_x rfl)) (ea_cons (one (c2 := !c) rfl rfl (ev_not (ev_x rfl))) (ea_cons (ev_x rfl) ea_nil))) (by show 3 ≤ 100000; decide)).ev fun G' p xs e ha hp => three ha hp.now)
      ((en_lst (ts := [tIs (.ref da), tIs (.ref da), tIs (.ref ha8)]) (ea_cons (ev_x rfl) (ea_cons (ev_x rfl) (ea_cons (ev_x rfl) ea_nil))) (by show 3 ≤ 100000; decide)).ev fun G' p xs e ha hp => ⟨p, rfl, by rw [ha, all3 hp.now]⟩) fun G' x' y' e hx' hy' => ?_))) (fun z => nomatch z) fun _ G7 H7 g7 _ => ?_
    · obtain ⟨p, r1, r2, rfl, h1, h2, h3⟩ := hx'
      obtain ⟨p', rfl, h1'⟩ := hy'
      have inner : ∀ {r : Addr}, G' r = some (.lst [w1, w2]) → Sm K 49 G' (.ref r) (.ref da) := fun {r} q => .inr (.inl ⟨r, da, _, _, rfl, rfl, .of q, .of (e _ _ hda6), (by show 2 ≤ 1000; decide), .cons (.flat hf1) (.cons (.flat hf2) .nil)⟩)
      exact .inr (.inl ⟨p, p', _, _, rfl, rfl, .of h1, .of h1', (by show 3 ≤ 1000; decide), .cons (inner h2) (.cons (inner h3) (.cons (sm_dict2 ((g46.gg.trans e) _ _ hka4) (e _ _ hha) (by omega) fun kv hm => sm0_flat (by
        have hv := hvb kv hm
        obtain ⟨k0, v0⟩ := kv
        cases v0 <;> first | rfl | cases hv)) .nil))⟩)
    · refine s_asg (t := tIs (.bl (!c))) g7 (ev_not (ev_x rfl)) fun v G8 H8 g8 gl8 w8 => ?_
      rw [w8.eq]
      exact ⟨G8, g1.trans g8, e1.trans g8.gg, !c, _, _, _, _, _, _, rfl⟩)
end
end K14
set_option Elab.async false
set_option linter.all false
set_option maxRecDepth 100000
set_option maxHeartbeats 4000000
namespace K14
open PySem L2 Ty
open Evl (Ex ex_l ex_t)
abbrev s__law_refused_right : Stmt := top 57
theorem sc__law_refused_right : FnScope ["box", "term", "by_name", "value", "given", "told", "wrongs", "one", "k"] ["box", "term", "by_name"] (defScope s__law_refused_right) := ⟨rfl, rfl, rfl, by decide +kernel, rfl, by decide +kernel, by decide +kernel⟩
theorem pb__law_refused_right : PosB "_law_refused_right" s__law_refused_right ["box", "term", "by_name"] := fun _ _ _ _ _ _ us hl => match us, hl with | [_, _, _], _ => rfl
/-- keys and values, none too long, no key twice, as a test -/
def okKb : PyData → Bool
  | .dict es => (decide (es.length ≤ 900) && es.all fun p => (okm 50 p.1 && p.1.canLay0) && (okm 50 p.2 && p.2.canLay0))
  | _ => true
theorem okK_dec {d : PyData} (h : okKb d = true) : okK d := by
  cases d with
  | dict es =>
    obtain ⟨h1, h2⟩ := Bool.and_eq_true_iff.mp h
    refine ⟨of_decide_eq_true h1, fun p hp => ?_⟩
    have q := List.all_eq_true.mp h2 p hp
    simp only [Bool.and_eq_true] at q
    exact ⟨⟨⟨50, q.1.1⟩, .inr q.1.2⟩, ⟨⟨50, q.2.1⟩, .inr q.2.2⟩⟩
  | _ => trivial
section
variable {K : PySem.W.Frag} {o : Option Addr} {σ : L2.St} {G : Hp} {te tk tv tk2 tv2 : TE} {d d2 : PyData} {z z2 : Str}
/-- a value that is no dict of values -/
def tWr (K : PySem.W.Frag) : T := fun G v => ∃ d, Vl K G v d ∧ okn 50 d = true ∧ okK d ∧ ndK d ∧ isValues d = false
theorem okw (h : Ev o te σ G (tV K d)) (h1 : okn 50 d = true) (h2 : okK d) (h4 : ndK d) (h3 : isValues d = false) : Ev o te σ G (tWr K) := h.imp fun G' v _ w => fun G2 e => ⟨d, w.now.up e, h1, h2, h4, h3⟩
theorem d1 (hk : ∀ G', Ev o tk σ G' (tIs (.str z))) (hv : ∀ G', Ev o tv σ G' (tV K d)) (h : (d.canLay0 && okn 50 (.dict [(.str z, d)]) && okKb (.dict [(.str z, d)])) = true) (hn : isValues (.dict [(.str z, d)]) = false) : Ev o (tDisp [(tk, tv)]) σ G (tWr K) := by
  simp only [Bool.and_eq_true] at h
  exact okw (ev_disp1V hk hv h.1.1) h.1.2 (okK_dec h.2) (List.pairwise_singleton _ _) hn
/-- a value that is no sum -/
def tBad (K : PySem.W.Frag) : T := fun G v => ∃ d, Vl K G v d ∧ okn 50 d = true ∧ Sm1 d ∧ isSum d = false
end
section
variable {P : Program} {w : World} {K : PySem.W.Frag} {mg : Str → Option Value} {base : Heap} {ga ha CS CV CU D : Addr} {es : Array DictEntry} {n : Nat}
theorem ok_refused (T : Txt5 K mg w ga ha es n CS CV CU D) (d : Df K mg "_law_refused_right" s__law_refused_right) (G__law_mixed : Own P w K mg base CX0 2 "_law_mixed" s__law_mixed ["box", "items"] (spN (cMixed K)))
    (G__law_near_sums : Own P w K mg base CX0 3 "_law_near_sums" s__law_near_sums ["box", "term"] (spN (cNear K))) (G__law_is_sum : Own P w K mg base CX0 3 "_law_is_sum" s__law_is_sum ["value"] (spC (cN K isSum))) (G__law_copy : Own P w K mg base CX0 1 "_law_copy" s__law_copy ["value"] (spCopy K)) (G__law_blamed : Own P w K mg base CX0 51 "_law_blamed" s__law_blamed ["given", "value"] (spBlame K))
    (G__law_asked : Own P w K mg base CX0 44 "_law_asked" s__law_asked ["args", "by_name"] (spN (cAsked K))) :
    Own P w K mg base CX0 52 "_law_refused_right" s__law_refused_right ["box", "term", "by_name"] (spC (cTermR K)) :=
  d.own fun f fd F => F.ok sc__law_refused_right (fun vs H Q E h => by obtain ⟨o, G, t, _, ⟨b, x, d, m, bn, _, rfl, _⟩, _⟩ := h; rfl) (fun cdv A outer s H vs Q E hr h => by
    obtain ⟨o, G, p, kn, ⟨b, x, d, m, bn, rfl, rfl, ⟨hx, hsm⟩, hz, hm, rfl⟩, k⟩ := h
    refine ⟨_, (pss_cons (ps_for PassesOwn.never rfl (pi_listK (K := K) rfl (pe_slice (kSl (K := K) rfl) (pe_lc (own := [("one", 7)]) rfl sc__law_refused_right.nd (pi_listK (K := K) rfl (pe_own G__law_near_sums pb__law_near_sums (hr.mono (by first | decide | exact Nat.le_refl _ | omega)) rfl pass0 (pa_cons (pv 0) (pa_cons (pv 1) pa_nil)))) (blkOk_by (own := [("one", 7)]) (N := ["box", "term", "by_name", "value", "given", "told", "wrongs", "one", "k"]) (sc := defScope s__law_refused_right) (by decide +kernel)) (fun _ _ _ _ _ => (pg_name (i := 7) sc__law_refused_right.nd rfl (Or.inl rfl))) (fun _ _ _ _ _ => (pts_one (pt_not (pt_val (pe_own G__law_is_sum pb__law_is_sum (hr.mono (by first | decide | exact Nat.le_refl _ | omega)) rfl pass0 (pa_cons (pv 7) pa_nil)))))) (fun _ _ _ _ _ => (pv 7))) po_none (po_some pe_int))) (pg_name (i := 3) sc__law_refused_right.nd rfl (Or.inl rfl)) (pss_cons (ps_set (i := 4) sc__law_refused_right.nd rfl (Or.inl rfl) (pe_own G__law_copy pb__law_copy (hr.mono (by first | decide | exact Nat.le_refl _ | omega)) rfl pass0 (pa_cons (pv 3) pa_nil)))
   (pss_cons (ps_set (i := 5) sc__law_refused_right.nd rfl (Or.inl rfl) (pe_own G__law_asked pb__law_asked (hr.mono (by first | decide | exact Nat.le_refl _ | omega)) rfl pass0 (pa_cons (pe_lst (pa_cons (pv 4) (pa_cons pe_non pa_nil))) (pa_cons (pv 2) pa_nil))))
   (pss_cons (ps_if (PW.pt (pw_or (pt_cmpR (kNe (K := K) rfl hr.units) (pe_ix (kIx (K := K) rfl) (pv 5) pe_int (fun _ _ => rfl)) pe_str (nomark _)) (pw_or1 (pt_not (pt_val (pe_own G__law_blamed pb__law_blamed (hr.mono (by first | decide | exact Nat.le_refl _ | omega)) rfl pass0 (pa_cons (pe_ix (kIx (K := K) rfl) (pv 5) pe_int (fun _ _ => rfl)) (pa_cons (pv 4) pa_nil)))))))) (pss_one (ps_ret pe_bl)) pss_nil)
   (pss_one (ps_set (i := 2) sc__law_refused_right.nd rfl (Or.inl rfl) (pe_not (pv 2))))))))
   (pss_cons (ps_set (i := 6) sc__law_refused_right.nd rfl (Or.inr rfl) (pe_lst (pa_cons pe_non (pa_cons pe_int (pa_cons pe_str (pa_cons (pe_lst pa_nil) (pa_cons (pe_tup (pa_cons pe_str (pa_cons pe_int pa_nil))) (pa_cons pe_bl (pa_cons (pe_disp (pps_cons pe_str pe_non pps_nil) (by rfl) (by rfl) (fun z => by cases z) (by decide)) (pa_cons (pe_disp (pps_cons pe_str pe_str pps_nil) (by rfl) (by rfl) (fun z => by cases z) (by decide)) (pa_cons (pe_disp (pps_cons pe_str pe_int pps_nil) (by rfl) (by rfl) (fun z => by cases z) (by decide)) (pa_cons (pe_disp (pps_cons pe_str (pe_un un_neg pe_int) pps_nil) (by rfl) (by rfl) (fun z => by cases z) (by decide)) (pa_cons (pe_disp (pps_cons pe_str pe_int pps_nil) (by rfl) (by rfl) (fun z => by cases z) (by decide)) (pa_cons (pe_disp (pps_cons pe_str pe_int pps_nil) (by rfl) (by rfl) (fun z => by cases z) (by decide)) (pa_cons (pe_disp (pps_cons pe_str pe_bl pps_nil) (by rfl) (by rfl) (fun z => by cases z) (by decide)) (pa_cons (pe_disp (pps_cons pe_str (pe_lst (pa_cons pe_int pa_nil)) pps_nil) (by rfl) (by rfl) (fun z => by cases z) (by decide)) (pa_cons (pe_disp (pps_cons pe_str pe_int (pps_cons pe_str (pe_tup (pa_cons pe_int pa_nil)) pps_nil)) (by rfl) (by rfl) (fun z => by cases z) (by decide)) (pa_cons (pe_disp (pps_cons pe_str pe_int pps_nil) (by rfl) (by rfl) (fun z => by cases z) (by decide)) (pa_cons (pe_disp (pps_cons pe_str (pe_op op_pow pe_int pe_int) pps_nil) (by rfl) (by rfl) (fun z => by cases z) (by decide)) pa_nil)))))))))))))))))))
   (pss_cons (ps_for PassesOwn.never rfl (pi_listK (K := K) rfl (pe_lc (own := [("k", 8)]) rfl sc__law_refused_right.nd (pi_listK (K := K) rfl (pe_slice (kSl (K := K) rfl) (pe_own G__law_mixed pb__law_mixed (hr.mono (by first | decide | exact Nat.le_refl _ | omega)) rfl pass0 (pa_cons (pv 0) (pa_cons (pe_listRg rfl (by rfl) T.n_list (prg_1 (by rfl) T.n_range (pe_callB (kLen (K := K) rfl) (by rfl) T.n_len (by decide +kernel) (pa_cons (pv 6) pa_nil)))) pa_nil))) po_none (po_some pe_int))) (blkOk_by (own := [("k", 8)]) (N := ["box", "term", "by_name", "value", "given", "told", "wrongs", "one", "k"]) (sc := defScope s__law_refused_right) (by decide +kernel)) (fun _ _ _ _ _ => (pg_name (i := 8) sc__law_refused_right.nd rfl (Or.inl rfl))) (fun _ _ _ _ _ => pts_nil) (fun _ _ _ _ _ => (pe_ix (kIx (K := K) rfl) (pv 6) (pv 8) (fun _ _ => rfl))))) (pg_name (i := 3) sc__law_refused_right.nd rfl (Or.inl rfl)) (pss_cons (ps_set (i := 4) sc__law_refused_right.nd rfl (Or.inl rfl) (pe_own G__law_copy pb__law_copy (hr.mono (by first | decide | exact Nat.le_refl _ | omega)) rfl pass0 (pa_cons (pv 3) pa_nil)))
   (pss_cons (ps_set (i := 5) sc__law_refused_right.nd rfl (Or.inl rfl) (pe_own G__law_asked pb__law_asked (hr.mono (by first | decide | exact Nat.le_refl _ | omega)) rfl pass0 (pa_cons (pe_lst (pa_cons (pv 1) (pa_cons (pv 4) pa_nil))) (pa_cons (pv 2) pa_nil))))
   (pss_cons (ps_if (PW.pt (pw_or (pt_cmpR (kNe (K := K) rfl hr.units) (pe_ix (kIx (K := K) rfl) (pv 5) pe_int (fun _ _ => rfl)) pe_str (nomark _)) (pw_or1 (pt_not (pt_val (pe_own G__law_blamed pb__law_blamed (hr.mono (by first | decide | exact Nat.le_refl _ | omega)) rfl pass0 (pa_cons (pe_ix (kIx (K := K) rfl) (pv 5) pe_int (fun _ _ => rfl)) (pa_cons (pv 4) pa_nil)))))))) (pss_one (ps_ret pe_bl)) pss_nil)
   (pss_one (ps_set (i := 2) sc__law_refused_right.nd rfl (Or.inl rfl) (pe_not (pv 2))))))))
   (pss_one (ps_ret pe_bl))))), ?_⟩
    have hsum := sz_sum hz hm
    refine q_for (Go.refl kn) (ei_listN (P := pAll 60 (tBad K)) (en_slA (P' := pAll 60 (tBad K)) ((en_lc (P := pAll 60 (tNr K)) (fun xs i G' acc => acc.length ≤ i ∧ ∀ y ∈ acc, U (tBad K) G' y) (ei_listN (en_call (P := pAll 60 (tNr K)) (ea_cons (ev_x rfl) (ea_cons (ev_x rfl) ea_nil)) fun G' vs e al => ?_) fun _ _ _ h => h) (fun _ => rfl) (fun _ _ _ _ _ e h => ⟨h.1, fun y hy => (h.2 y hy).up e⟩) (fun G' xs e h => ⟨by have := h.now.1; omega, Nat.le_refl _, fun _ z => nomatch z⟩) fun G' xs i v acc e hP hv la r => ?_).impN fun G' ys h => ?_) eu_none (eu_some (ev_k.imp fun _ _ _ u => fun _ _ => ⟨_, u.eq⟩)) fun _ _ _ _ h => ⟨Nat.le_trans cut_len h.1, fun x hx => h.2 x (cut_mem hx)⟩) fun _ _ _ h => h)
      (fun zs i σ' G' H' => ∃ (c : Bool) (y3 y4 y5 y6 y7 y8 : Option V), σ' = [some (.ref b), some x, some (.bl c), y3, y4, y5, y6, y7, y8]) (fun zs G' H' g' gl hz => ⟨bn, _, _, _, _, _, _, rfl⟩) (fun Gs zs e0 hz' i v σ' G1 H1 hv g1 e1 hi => ?_) (fun zs σ' G' H' g' e' hz hi => ?_)
    · rw [all2 al]
      exact ⟨some b, _, .inl rfl, ⟨b, x, d, m, rfl, rfl, hx.up e, hz, hm, rfl⟩, fun _ _ _ h => h⟩
    · obtain ⟨dv, hdv, okv, hsv⟩ := (hP.now.2 v (List.mem_of_getElem? hv)).now
      refine ⟨(· = !isSum dv), et_not (et_b (ev_call (ea_cons (ev_x rfl) ea_nil) fun G'' vs e2 al => ?_)), fun hb G2 e2 => ⟨tBad K, ev_var rfl fun G3 e3 => ⟨dv, hdv.up (e2.trans e3), okv, hsv, ?_⟩, fun G3 y e3 u => ⟨by rw [List.length_append]; have := r.1; show _ + 1 ≤ _; omega, fun z hz' => ?_⟩⟩, fun _ G2 e2 => ⟨by have := r.1; omega, fun y hy => (r.2 y hy).up e2⟩⟩
      · rw [all1 al]
        exact ⟨none, _, .inr rfl, ⟨rfl, v, dv, rfl, ⟨hdv.up e2, hsv⟩, rfl⟩, fun _ _ _ w => w⟩
      · have hb' : true = !isSum dv := hb
        revert hb'
        cases isSum dv <;> decide
      · rcases List.mem_append.mp hz' with h | h
        · exact (r.2 z h).up (e2.trans e3)
        · rw [List.mem_singleton.mp h]; exact u
    · obtain ⟨xs, hP, hl, h1, h2⟩ := h
      exact ⟨by have := hP.now.1; omega, h2⟩
    · obtain ⟨c, y3, y4, y5, y6, y7, y8, rfl⟩ := hi
      obtain ⟨dv, hdv, okv, hsv, hno⟩ := ((hz'.up e1).now.2 v (List.mem_of_getElem? hv)).now
      have gi := Go.refl g1.kn
      refine q_asg (t := tCp K G1 dv) gi (ev_copy (ev_v rfl hdv)) fun v' G6 H6 g6 _ w6 => ?_
      refine q_asg (t := tKL [.str "sum", v']) g6 ((en_call (P := fun _ xs => xs = [.str "sum", v']) (ea_cons (ev_lst2 (ev_x rfl) ev_k) (ea_cons (ev_x rfl) ea_nil)) fun G' vs e al => ?_).ev fun G' a xs e ha hp => ⟨a, rfl, by rw [ha, hp.now]⟩) fun tt G7 H7 g7 g67 w7 => ?_
      · cases al with
        | cons a1 al => cases al with
          | cons a2 al =>
            cases al
            obtain ⟨la, rfl, hla⟩ := a1.now
            rw [a2.eq]
            refine ⟨none, _, .inr rfl, ⟨rfl, la, v', .non, dv, .none, c, rfl, .of hla, ⟨(w6.up e).now.vl, hsv⟩, ⟨vl_non, trivial, trivial⟩, rfl⟩, fun G'' xs e2 h => fun G3 e3 => ?_⟩
            have h' : xs = outV dv .none v' .non := h G3 e3
            unfold outV at h'
            rw [hno, if_neg (by decide)] at h'
            exact h'
      obtain ⟨pt, rfl, hpt⟩ := w7.now
      exact s_blame (d := dv) g7 (w6.up g67.gg) okv (ev_op2 (ev_x rfl) ev_k (ro_ixL (.of hpt) (at_of (j := 0) rfl rfl))) (ev_op2 (ev_x rfl) ev_k (ro_ixL (.of hpt) (at_of (j := 1) rfl rfl))) (ev_x rfl) fun G8 H8 g8 => by
        refine s_asg (t := tIs (.bl (!c))) g8 (ev_not (ev_x rfl)) fun v9 G9 H9 g9 gl9 w9 => ?_
        rw [w9.eq]
        exact ⟨G9, g1.trans g9, e1.trans g9.gg, !c, _, _, _, _, _, _, rfl⟩
    obtain ⟨c0, y3, y4, y5, y6, y7, y8, rfl⟩ := hi
    refine q_asg g' (en_items (n := 17) (t := tWr K) (ea_cons (okw (Ev.vNon ev_k) rfl trivial trivial rfl) (ea_cons (okw (Ev.vInt ev_k) rfl trivial trivial rfl) (ea_cons (okw (Ev.vStr ev_k) rfl trivial trivial rfl) (ea_cons (okw (ev_lstV (ds := []) ea_nil sh_nil (by decide)) rfl trivial trivial rfl) (ea_cons (okw (ev_tupV (ds := [.str "n", .int 1]) (ea_cons (Ev.vStr ev_k) (ea_cons (Ev.vInt ev_k) ea_nil)) (sh_all (by decide +kernel)) (by decide)) rfl trivial trivial rfl) (ea_cons (okw (Ev.vBl ev_k) rfl trivial trivial rfl)
      (ea_cons (d1 (z := "n") (d := .none) (fun _ => ev_k) (fun _ => Ev.vNon ev_k) (by decide +kernel) (by kernel_rfl)) (ea_cons (d1 (z := "n") (d := .str "1") (fun _ => ev_k) (fun _ => Ev.vStr ev_k) (by decide +kernel) (by kernel_rfl)) (ea_cons (d1 (z := "n") (d := .int 1001) (fun _ => ev_k) (fun _ => Ev.vInt ev_k) (by decide +kernel) (by kernel_rfl)) (ea_cons (d1 (z := "n") (d := .int (-1001)) (fun _ => ev_k) (fun _ => Ev.vInt (ev_neg (Ev.isInt (K := K) (Ev.vInt ev_k)))) (by decide +kernel) (by kernel_rfl)) (ea_cons (d1 (z := "wait") (d := .int 1) (fun _ => ev_k) (fun _ => Ev.vInt ev_k) (by decide +kernel) (by kernel_rfl)) (ea_cons (d1 (z := "A") (d := .int 1) (fun _ => ev_k) (fun _ => Ev.vInt ev_k) (by decide +kernel) (by kernel_rfl))
      (ea_cons (d1 (z := "") (d := .bool true) (fun _ => ev_k) (fun _ => Ev.vBl ev_k) (by decide +kernel) (by kernel_rfl)) (ea_cons (d1 (z := "n") (d := .list [.int 1]) (fun _ => ev_k) (fun _ => ev_lstV (ds := [.int 1]) (ea_cons (Ev.vInt ev_k) ea_nil) (sh_all (by decide +kernel)) (by decide)) (by decide +kernel) (by kernel_rfl)) (ea_cons (okw (ev_disp2V (z := "n") (z2 := "m") (d := .int 1) (d2 := .tuple [.int 1]) (by decide +kernel) (fun _ => ev_k) (fun _ => Ev.vInt ev_k) (fun _ => ev_k) (fun _ => ev_tupV (ds := [.int 1]) (ea_cons (Ev.vInt ev_k) ea_nil) (sh_all (by decide +kernel)) (by decide)) (by decide +kernel) (by decide +kernel)) (by decide +kernel) (okK_dec (by decide +kernel)) (by show List.Nodup [PyData.str "n", PyData.str "m"]; simp [List.nodup_cons]; decide +kernel) (by kernel_rfl))
      (ea_cons (d1 (z := "abcdefghi") (d := .int 1) (fun _ => ev_k) (fun _ => Ev.vInt ev_k) (by decide +kernel) (by kernel_rfl)) (ea_cons (d1 (z := "n") (d := .int (10 ^ (20 : Int).toNat)) (fun _ => ev_k) (fun _ => Ev.vInt (ev_iC (C := CPow) ev_k ev_k ⟨by decide, by decide, by decide⟩)) (by decide +kernel) (by kernel_rfl)) ea_nil))))))))))))))))) (by decide)).list fun v G3 H3 g3 _ w3 => ?_
    obtain ⟨wa, xs, rfl, ha, hl, hxs⟩ := w3.now
    refine q_for g3 (ei_listN (P := pAll 17 (tWr K)) (en_shufS (n := 17) (i := 6) (E := E0) rfl rfl (fun _ => rfl) (fun _ => rfl) (fun _ => rfl) ha hl (by decide) hxs) fun _ _ _ h => h)
      (fun zs i σ' G' H' => ∃ (c : Bool) (y3 y4 y5 y7 y8 : Option V), σ' = [some (.ref b), some x, some (.bl c), y3, y4, y5, some (.ref wa), y7, y8]) (fun zs G' H' g' gl hz => ⟨c0, _, _, _, _, _, rfl⟩) (fun Gs zs e0 hz' i v σ' G1 H1 hv g1 e1 hi => ?_) (fun zs σ' G' H' g' e' hz hi => s_ret g' ev_k k)
    obtain ⟨c, y3, y4, y5, y7, y8, rfl⟩ := hi
    obtain ⟨dv, hdv, okv, hok, hnd, hno⟩ := ((hz'.up e1).now.2 v (List.mem_of_getElem? hv)).now
    have gi := Go.refl g1.kn
    have hx1 := hx.up g1.gg
    refine q_asg (t := tCp K G1 dv) gi (ev_copy (ev_v rfl hdv)) fun v' G6 H6 g6 _ w6 => ?_
    refine q_asg (t := tKL [.str "values", v']) g6 ((en_call (P := fun _ xs => xs = [.str "values", v']) (ea_cons (ev_lst2 (ev_x rfl) (ev_x rfl)) (ea_cons (ev_x rfl) ea_nil)) fun G' vs e al => ?_).ev fun G' a xs e ha hp => ⟨a, rfl, by rw [ha, hp.now]⟩) fun tt G7 H7 g7 g67 w7 => ?_
    · cases al with
      | cons a1 al => cases al with
        | cons a2 al =>
          cases al
          obtain ⟨la, rfl, hla⟩ := a1.now
          rw [a2.eq]
          refine ⟨none, _, .inr rfl, ⟨rfl, la, x, v', d, dv, c, rfl, .of hla, ⟨hx1.up (g6.gg.trans e), hsm⟩, ⟨(w6.up e).now.vl, hok, hnd⟩, rfl⟩, fun G'' xs e2 h => fun G3 e3 => ?_⟩
          have h' : xs = outV d dv x v' := h G3 e3
          unfold outV at h'
          rw [if_pos hsum, hno, if_neg (by decide)] at h'
          exact h'
    obtain ⟨pt, rfl, hpt⟩ := w7.now
    exact s_blame (d := dv) g7 (w6.up g67.gg) okv (ev_op2 (ev_x rfl) ev_k (ro_ixL (.of hpt) (at_of (j := 0) rfl rfl))) (ev_op2 (ev_x rfl) ev_k (ro_ixL (.of hpt) (at_of (j := 1) rfl rfl))) (ev_x rfl) fun G8 H8 g8 => by
      refine s_asg (t := tIs (.bl (!c))) g8 (ev_not (ev_x rfl)) fun v9 G9 H9 g9 gl9 w9 => ?_
      rw [w9.eq]
      exact ⟨G9, g1.trans g9, e1.trans g9.gg, !c, _, _, _, _, _, rfl⟩)
end
end K14
set_option Elab.async false
set_option linter.all false
set_option maxRecDepth 100000
set_option maxHeartbeats 4000000
namespace K14
open PySem L2 Ty
open Evl (Ex ex_l ex_t)
-- OV _law_divided_right: {"stmt:whole, rest = _law_quotient(one, other)": "(ps_asg (pe_own G__law_quotient pb__law_quotient (hr.mono (by first | decide | exact Nat.le_refl _ | omega)) rfl pass0 (pa_cons (pv 4) (pa_cons (pv 5) pa_nil))) (pg_unlK (K := K) (n := 2) rfl rfl (pgs_cons (pg_name (i := 6) sc.nd rfl (Or.inl rfl)) (pgs_cons (pg_name (i := 7) sc.nd rfl (Or.inl rfl)) pgs_nil))))"}
abbrev s__law_divided_right : Stmt := top 58
theorem sc__law_divided_right : FnScope ["box", "by_name", "numbers", "turn", "one", "other", "whole", "rest", "told"] ["box", "by_name"] (defScope s__law_divided_right) := ⟨rfl, rfl, rfl, by decide +kernel, rfl, by decide +kernel, by decide +kernel⟩
theorem pb__law_divided_right : PosB "_law_divided_right" s__law_divided_right ["box", "by_name"] := fun _ _ _ _ _ _ us hl => match us, hl with | [_, _], _ => rfl
section
variable {X : Cx} {K : PySem.W.Frag}
theorem pg_unlK {es : List Expr} {k : Nat} {t : TGs} {n : Nat} {pos : Pos} (e : X.K = K) (hc : X.calm = true) (h : PGs X es t)
    (hn : (assignEach es X.env).length = n := by rfl) (hst : (assignEach es X.env).findIdx? (·.1) = none := by rfl) : PG X (.Tuple es k pos) (gUnl K n t) := e ▸ pg_unl hc h hn hst
end
theorem quo_facts {i j : Int} (hj : j ≠ 0) : quoD i j * j + quoM i j = i ∧ ab (quoM i j) < ab j ∧ (quoM i j ≠ 0 → (quoM i j < 0 ↔ j < 0)) := by
  have e1 : quoD i j = i.fdiv j := if_neg hj
  have e2 : quoM i j = i.fmod j := if_neg hj
  rw [e1, e2]
  have h0 : i.fdiv j * j + i.fmod j = i := by
    rw [Int.fmod_def, Int.mul_comm]
    omega
  refine ⟨h0, ?_⟩
  unfold ab
  rcases Int.lt_or_gt_of_ne hj with h | h
  · have h1 := Int.fmod_nonneg_of_pos (-i) (b := -j) (by omega)
    have h2 := Int.fmod_lt_of_pos (-i) (b := -j) (by omega)
    have h3 : (-i).fmod (-j) = -(i.fmod j) := by
      rw [Int.fmod_def, Int.fmod_def, Int.neg_fdiv_neg, Int.neg_mul]
      omega
    rw [h3] at h1 h2
    refine ⟨by split <;> (try split) <;> omega, fun hm => by omega⟩
  · have h1 := Int.fmod_nonneg_of_pos i h
    have h2 := Int.fmod_lt_of_pos i h
    refine ⟨by split <;> (try split) <;> omega, fun hm => by omega⟩
/-- a number within bounds -/
def tIn : T := fun _ v => ∃ i : Int, v = .int i ∧ -1000 ≤ i ∧ i ≤ 1000
theorem keep_id {i : Int} (h : -1000 ≤ i ∧ i ≤ 1000) : keep i = i := by
  unfold keep
  rw [show (1000 - (-1000) + 1 : Int) = 2001 by decide]
  omega
theorem pl_int {i : Int} (h : -1000 ≤ i ∧ i ≤ 1000) : plain (.int i) = true := by
  show (false || ((decide ((-1000 : Int) ≤ i) && decide (i ≤ (1000 : Int))) || false)) = true
  rw [decide_eq_true h.1, decide_eq_true h.2]
  rfl
theorem iv_int {i : Int} (h : -1000 ≤ i ∧ i ≤ 1000) : isVal (.int i) = true := by
  show (false || (decide ((-1000 : Int) ≤ i) && decide (i ≤ (1000 : Int)))) = true
  rw [decide_eq_true h.1, decide_eq_true h.2]
  rfl
theorem three3 {G' : Hp} {p : Addr} {xs : List V} {l1 l2 l3 : List V} (ha : G' p = some (.lst xs)) (h : AllU G' [tKL l1, tKL l2, tKL l3] xs) : ∃ p' r1 r2 r3, V.ref p = .ref p' ∧ G' p' = some (.lst [.ref r1, .ref r2, .ref r3]) ∧ G' r1 = some (.lst l1) ∧ G' r2 = some (.lst l2) ∧ G' r3 = some (.lst l3) := by
  cases h with
  | cons a1 h => cases h with
    | cons a2 h => cases h with
      | cons a3 h =>
        cases h
        obtain ⟨r1, rfl, h1⟩ := a1.now
        obtain ⟨r2, rfl, h2⟩ := a2.now
        obtain ⟨r3, rfl, h3⟩ := a3.now
        exact ⟨p, r1, r2, r3, rfl, ha, h1, h2, h3⟩
section
variable {P : Program} {w : World} {K : PySem.W.Frag} {mg : Str → Option Value} {base : Heap} {ga ha CS CV CU D : Addr} {es : Array DictEntry} {n : Nat}
def cDiv (o : Option Addr) (G : Hp) (vs : List V) (t : T) : Prop := ∃ (b : Addr) (bn : Bool), o = some b ∧ vs = [.ref b, .bl bn] ∧ t = tIs (.bl true)
theorem ok_divided (T : Txt5 K mg w ga ha es n CS CV CU D) (d : Df K mg "_law_divided_right" s__law_divided_right) (G__law_take : Own P w K mg base CX0 1 "_law_take" s__law_take ["box", "many"] (spC cTake)) (G__law_same : Own P w K mg base CX0 50 "_law_same" s__law_same ["told", "due"] (spC (cSame K 50)))
    (G__law_quotient : Own P w K mg base CX0 1 "_law_quotient" s__law_quotient ["one", "other"] (spN cQuo)) (G__law_into : Own P w K mg base CX0 1 "_law_into" s__law_into ["number"] (spC (cKeep K))) (G__law_asked : Own P w K mg base CX0 44 "_law_asked" s__law_asked ["args", "by_name"] (spN (cAsked K))) :
    Own P w K mg base CX0 51 "_law_divided_right" s__law_divided_right ["box", "by_name"] (spC cDiv) :=
  d.own fun f fd F => F.ok sc__law_divided_right (fun vs H Q E h => by obtain ⟨o, G, t, _, ⟨b, bn, _, rfl, _⟩, _⟩ := h; rfl) (fun cdv A outer s H vs Q E hr h => by
    obtain ⟨o, G, p, kn, ⟨b, bn, rfl, rfl, rfl⟩, k⟩ := h
    refine ⟨_, (pss_cons (ps_set (i := 2) sc__law_divided_right.nd rfl (Or.inl rfl) (pe_lst (pa_cons pe_int (pa_cons pe_int (pa_cons (pe_un un_neg pe_int) (pa_cons pe_int (pa_cons (pe_un un_neg pe_int) (pa_cons pe_int (pa_cons (pe_un un_neg pe_int) (pa_cons pe_int (pa_cons (pe_un un_neg pe_int) (pa_cons pe_int (pa_cons (pe_un un_neg pe_int) (pa_cons (pe_op op_sub (pe_own G__law_take pb__law_take (hr.mono (by first | decide | exact Nat.le_refl _ | omega)) rfl pass0 (pa_cons (pv 0) (pa_cons pe_int pa_nil))) pe_int) pa_nil))))))))))))))
   (pss_cons (ps_for PassesOwn.never rfl (pi_range1 rfl T.n_range (pa_cons pe_int pa_nil)) (pg_name (i := 3) sc__law_divided_right.nd rfl (Or.inl rfl)) (pss_cons (ps_par (i := 4) (j := 5) (by rfl) sc__law_divided_right.nd rfl rfl (by decide) rfl rfl (pa_cons (pe_ix (kIx (K := K) rfl) (pv 2) (pe_own G__law_take pb__law_take (hr.mono (by first | decide | exact Nat.le_refl _ | omega)) rfl pass0 (pa_cons (pv 0) (pa_cons pe_int pa_nil))) (fun _ _ => rfl)) (pa_cons (pe_ix (kIx (K := K) rfl) (pv 2) (pe_own G__law_take pb__law_take (hr.mono (by first | decide | exact Nat.le_refl _ | omega)) rfl pass0 (pa_cons (pv 0) (pa_cons pe_int pa_nil))) (fun _ _ => rfl)) pa_nil)) (by rfl))
   (pss_cons (ps_asg (pe_own G__law_quotient pb__law_quotient (hr.mono (by first | decide | exact Nat.le_refl _ | omega)) rfl pass0 (pa_cons (pv 4) (pa_cons (pv 5) pa_nil))) (pg_unlK (K := K) (n := 2) rfl rfl (pgs_cons (pg_name (i := 6) sc__law_divided_right.nd rfl (Or.inl rfl)) (pgs_cons (pg_name (i := 7) sc__law_divided_right.nd rfl (Or.inl rfl)) pgs_nil))))
   (pss_cons (ps_if (PW.pt (pw_and (pt_cmpR (kNe (K := K) rfl hr.units) (pv 5) pe_int (nomark _)) (pw_and1 (PW.pt (pw_or (pt_cmpR (kNe (K := K) rfl hr.units) (pe_op (kAdd (K := K) rfl) (pe_op gMul (pv 6) (pv 5)) (pv 7)) (pv 4) (nomark _)) (pw_or (pt_cmpR op_ge (pe_callB call_abs (by rfl) T.n_abs (by decide +kernel) (pa_cons (pv 7) pa_nil)) (pe_callB call_abs (by rfl) T.n_abs (by decide +kernel) (pa_cons (pv 5) pa_nil)) (nomark _)) (pw_or1 (PW.pt (pw_and (pt_cmpR (kNe (K := K) rfl hr.units) (pv 7) pe_int (nomark _)) (pw_and1 (pt_cmpR (kNe (K := K) rfl hr.units) (pe_cmpR gLt (pv 7) pe_int (nomark _)) (pe_cmpR gLt (pv 5) pe_int (nomark _)) (nomark _)))))))))))) (pss_one (ps_ret pe_bl)) pss_nil)
   (pss_cons (ps_set (i := 8) sc__law_divided_right.nd rfl (Or.inl rfl) (pe_lst (pa_cons (pe_own G__law_asked pb__law_asked (hr.mono (by first | decide | exact Nat.le_refl _ | omega)) rfl pass0 (pa_cons (pe_lst (pa_cons (pe_tup (pa_cons pe_str (pa_cons (pv 4) (pa_cons (pv 5) pa_nil)))) (pa_cons pe_dnewK pa_nil))) (pa_cons (pv 1) pa_nil))) (pa_cons (pe_own G__law_asked pb__law_asked (hr.mono (by first | decide | exact Nat.le_refl _ | omega)) rfl pass0 (pa_cons (pe_lst (pa_cons (pe_tup (pa_cons pe_str (pa_cons pe_str (pa_cons pe_str pa_nil)))) (pa_cons (pe_disp (pps_cons pe_str (pv 4) (pps_cons pe_str (pv 5) pps_nil)) (by rfl) (by rfl) (fun z => by cases z) (by decide)) pa_nil))) (pa_cons (pe_not (pv 1)) pa_nil))) (pa_cons (pe_own G__law_asked pb__law_asked (hr.mono (by first | decide | exact Nat.le_refl _ | omega)) rfl pass0 (pa_cons (pe_lst (pa_cons (pe_tup (pa_cons pe_str (pa_cons (pv 4) (pa_cons (pv 5) pa_nil)))) (pa_cons pe_dnewK pa_nil))) (pa_cons (pv 1) pa_nil))) pa_nil)))))
   (pss_one (ps_if (pt_not (pt_val (pe_own G__law_same pb__law_same (hr.mono (by first | decide | exact Nat.le_refl _ | omega)) rfl pass0 (pa_cons (pv 8) (pa_cons (pe_lst (pa_cons (pe_lst (pa_cons pe_str (pa_cons (pe_own G__law_into pb__law_into (hr.mono (by first | decide | exact Nat.le_refl _ | omega)) rfl pass0 (pa_cons (pv 6) pa_nil)) pa_nil))) (pa_cons (pe_lst (pa_cons pe_str (pa_cons (pv 7) pa_nil))) (pa_cons (pe_lst (pa_cons pe_str (pa_cons (pe_own G__law_into pb__law_into (hr.mono (by first | decide | exact Nat.le_refl _ | omega)) rfl pass0 (pa_cons (pe_op gMul (pv 4) (pv 5)) pa_nil)) pa_nil))) pa_nil)))) pa_nil))))) (pss_one (ps_ret pe_bl)) pss_nil)))))))
   (pss_one (ps_ret pe_bl)))), ?_⟩
    have c : ∀ {te : TE} {i : Int} {σ G}, Ev (some b) te σ G (tIs (.int i)) → (-1000 ≤ i ∧ i ≤ 1000) → Ev (some b) te σ G tIn := fun h hi => h.imp fun G' v e u => by
      rw [u.eq]
      exact fun _ _ => ⟨_, rfl, hi⟩
    refine q_asg (t := fun G v => ∃ a xs, v = .ref a ∧ G a = some (.lst xs) ∧ xs.length = 12 ∧ ∀ x ∈ xs, U tIn G x) (Go.refl kn) ((en_lst (ts := List.replicate 12 tIn) (ea_cons (c ev_k (by decide)) (ea_cons (c ev_k (by decide)) (ea_cons (c (ev_neg ev_k) (by decide)) (ea_cons (c ev_k (by decide)) (ea_cons (c (ev_neg ev_k) (by decide)) (ea_cons (c ev_k (by decide)) (ea_cons (c (ev_neg ev_k) (by decide)) (ea_cons (c ev_k (by decide)) (ea_cons (c (ev_neg ev_k) (by decide)) (ea_cons (c ev_k (by decide)) (ea_cons (c (ev_neg ev_k) (by decide)) (ea_cons ?_ ea_nil)))))))))))) (by decide)).ev fun G' a xs e ha hp => ?_) fun v2 G2 H2 g2 _ w2 => ?_
    · exact ev_op (s := tRng 0 2001) (take_at rfl ev_k ⟨by decide, by decide⟩) ev_k fun G3 x y e hx hy => by
        obtain ⟨i, rfl, i0, i1⟩ := hx.now
        rw [hy.eq]
        exact fun G1 H1 e1 kn1 Q q => ro_I0 G1 H1 e1 kn1 Q fun v G3 H3 g3 w3 => q v G3 H3 g3 (by rw [w3.eq]; exact fun _ _ => ⟨_, rfl, by omega, by omega⟩)
    · have hl := hp.now.len
      rw [List.length_replicate] at hl
      refine ⟨a, xs, rfl, ha, hl, fun x hx => ?_⟩
      obtain ⟨i, hi⟩ := List.getElem?_of_mem hx
      obtain ⟨t', ht, hu⟩ := hp.now.at hi
      have et : t' = tIn := by
        rw [List.getElem?_replicate] at ht
        split at ht
        · exact (Option.some.inj ht).symm
        · cases ht
      exact et ▸ hu
    obtain ⟨na, xs, rfl, hna, hxl, hxs⟩ := w2.now
    refine q_for g2 (ei_rng1 (P := fun _ zs => zs = intsV 0 10) (Pn := fun n => n = 10) (ea_cons (ev_k.imp fun _ _ _ u => by rw [u.eq]; exact fun _ _ => ⟨10, rfl, rfl⟩) ea_nil) (fun n e => by omega) fun G' n _ e _ _ => by rw [e]; rfl)
      (fun zs i σ' G' H' => ∃ (y3 y4 y5 y6 y7 y8 : Option V), σ' = [some (.ref b), some (.bl bn), some (.ref na), y3, y4, y5, y6, y7, y8]) (fun zs G' H' g' gl hz => ⟨_, _, _, _, _, _, rfl⟩) (fun Gs zs e0 hz' i v σ' G1 H1 hv g1 e1 hi => ?_) fun zs σ' G' H' g' e' hz' hi => s_ret g' ev_k k
    obtain ⟨y3, y4, y5, y6, y7, y8, rfl⟩ := hi
    have gi := Go.refl g1.kn
    have hna1 := (e0.trans e1) _ _ hna
    have hxs1 : ∀ x ∈ xs, U tIn G1 x := fun x hx => (hxs x hx).up (e0.trans e1)
    refine q_parV gi (ev_ixR (n := 12) (ev_x rfl) hna1 hxs1 (take_at rfl ev_k ⟨by decide, by decide⟩) (by omega)) (ev_ixR (n := 12) (ev_x rfl) hna1 hxs1 (take_at rfl ev_k ⟨by decide, by decide⟩) (by omega)) fun v4 v5 G3 H3 g3 _ w4 w5 => ?_
    obtain ⟨p, rfl, hp⟩ := w4.now
    obtain ⟨q, rfl, hq⟩ := w5.now
    refine ev_run (G := G3) (H := H3) (o := some b) (t := tKL [.int (quoD p q), .int (quoM p q)]) ((en_call (P := fun _ xs => xs = [.int (quoD p q), .int (quoM p q)]) (ea_cons (ev_x rfl) (ea_cons (ev_x rfl) ea_nil)) fun G' vs e al => ?_).ev fun G' a xs e ha hp => ⟨a, rfl, by rw [ha, hp.now]⟩) g3.kn fun v6 G4 H4 g4' w6 => ?_
    · rw [all2 al]
      exact ⟨none, _, .inr rfl, ⟨rfl, p, q, rfl, ⟨by omega, by omega, by omega, by omega⟩, rfl⟩, fun _ _ _ h => h⟩
    obtain ⟨la, rfl, hla⟩ := w6.now
    have g4 := g3.trans g4'
    refine ⟨la, _, rfl, .of (g4'.kn.sub _ _ hla), rfl, _, _, rfl, _, _, rfl, rfl, ?_⟩
    have hM : -1000 ≤ quoM p q ∧ quoM p q ≤ 1000 := by
      by_cases hz : q = 0
      · have : quoM p q = 0 := if_pos hz
        omega
      · have := (quo_facts (i := p) hz).2.1
        unfold ab at this
        split at this <;> split at this <;> omega
    have hD : -1000 ≤ quoD p q ∧ quoD p q ≤ 1000 := by
      by_cases hz : q = 0
      · have : quoD p q = 0 := if_pos hz
        omega
      · have e : quoD p q = quoW p q := by
          rw [quo_eq hz]
          exact if_neg hz
        have h1 : 0 ≤ ab p ∧ ab p ≤ 1000 := by unfold ab; split <;> omega
        have h2 : 0 < ab q := by unfold ab; split <;> omega
        have h3 : 0 ≤ ab p / ab q ∧ ab p / ab q ≤ 1000 := ⟨Int.ediv_nonneg h1.1 (by omega), Int.le_trans (Int.ediv_le_self _ h1.1) h1.2⟩
        have h4 : 1 < ab q ∨ ab q = 1 := by omega
        rw [e]
        unfold quoW
        split
        · exact ⟨by omega, by omega⟩
        · split
          · exact ⟨by omega, by omega⟩
          · rename_i hne
            refine ⟨?_, by omega⟩
            rcases h4 with h4 | h4
            · have h5 : ab p / ab q * ab q ≤ ab p := Int.ediv_mul_le _ (by omega)
              have h6 : ab p / ab q * 2 ≤ ab p / ab q * ab q := Int.mul_le_mul_of_nonneg_left (by omega) h3.1
              omega
            · rw [h4, Int.ediv_one, Int.mul_one] at hne
              exact absurd rfl hne
    refine q_when g4 (p := (· = false)) (EvT.to (a := (!decide (q = 0)) && (false || (false || ((!decide (quoM p q = 0)) && false)))) (et_and (et_test (ev_op2 (ev_x rfl) ev_k (ro_neS rfl (by simp)))) fun hq0 => ?_) (by simp)) (fun z => nomatch z) fun _ G5 H5 g5 _ => ?_
    · have hz : q ≠ 0 := by simpa using hq0
      obtain ⟨f1, f2, f3⟩ := quo_facts (i := p) hz
      refine et_or (et_test (ev_op2 (ev_addI (ev_op2 (ev_x rfl) (ev_x rfl) (ro_mulI (.inl ⟨by omega, by omega⟩))) (ev_x rfl)) (ev_x rfl) (ro_neS rfl (by simp [f1])))) fun _ => et_or (et_test (ev_to (ev_i0 (g := fun i j => .bl (decide (j ≤ i))) (ev_abs (ev_x rfl)) (ev_abs (ev_x rfl))) (decide_eq_false (by omega)))) fun _ => et_and (et_test (ev_op2 (ev_x rfl) ev_k (ro_neS rfl (by simp)))) fun hm => ?_
      have hm' : quoM p q ≠ 0 := by simpa using hm
      exact et_test (ev_op2 (ev_i0 (g := fun i j => .bl (decide (i < j))) (ev_x rfl) ev_k) (ev_i0 (g := fun i j => .bl (decide (i < j))) (ev_x rfl) ev_k) (ro_neS rfl (by simp [f3 hm'])))
    have ask : ∀ {d e : PyData} {ta tb tn : TE} {c2 : Bool} {σ' : L2.St} {E : XK} {u : V} {kk : Str}, Ev (some b) ta σ' G5 (tV K d) → Ev (some b) tb σ' G5 (tV K e) → Ev (some b) tn σ' G5 (tIs (.bl c2)) → isSum d = true → Sm1 d → isValues e = true → okK e → ndK e → kindVo d e = some kk → mkVo d e = u →
        Ev (some b) (tCall (spN (cAsked K)) [] E (tCons (tLst (tCons ta (tCons tb tNil))) (tCons tn tNil))) σ' G5 (tKL [.str "told", u]) := fun {d e ta tb tn c2 σ' E u kk} ha hb hn h1 h2 h3 h4 h5 h6 h7 =>
      (en_call (P := fun _ xs => xs = [.str "told", u]) (ea_cons (s := fun G v => ∃ la x y, v = .ref la ∧ G la = some (.lst [x, y]) ∧ Vl K G x d ∧ Vl K G y e) ((en_lst (ea_cons ha (ea_cons hb ea_nil)) (by show 2 ≤ 100000; decide)).ev fun G' a xs e ha hp => by
        have hp' := hp.now
        cases hp' with
        | cons a1 hp' => cases hp' with
          | cons a2 hp' =>
            cases hp'
            exact ⟨a, _, _, rfl, ha, a1.now, a2.now⟩) (ea_cons hn ea_nil)) fun G' vs e' al => by
        cases al with
        | cons a1 al => cases al with
          | cons a2 al =>
            cases al
            obtain ⟨l, x, y, rfl, hl, hx, hy⟩ := a1.now
            rw [a2.eq]
            refine ⟨none, _, .inr rfl, ⟨rfl, l, x, y, d, e, c2, rfl, .of hl, ⟨hx, h2⟩, ⟨hy, h4, h5⟩, rfl⟩, fun G'' xs e2 h => fun G3 e3 => ?_⟩
            have h' : xs = outV d e x y := h G3 e3
            unfold outV at h'
            rw [if_pos h1, if_pos h3, h6, if_pos (c := (some kk).isSome = true) rfl, h7] at h'
            exact h').ev fun G' a xs e ha hp => ⟨a, rfl, by rw [ha, hp.now]⟩
    have szI : ∀ {h : Str}, h ∈ heads → hsz h = 2 → Sz (.tuple [.str h, .int p, .int q]) 3 := fun h1 h2 => .nd h1 (by rw [h2]; rfl) (.cons (.pl (pl_int hp)) (.cons (.pl (pl_int hq)) .nil))
    have szN : Sz (.tuple [.str "rest", .str "n", .str "m"]) 3 := .nd (by decide +kernel) (by decide +kernel) (.cons (.pl (by kernel_rfl)) (.cons (.pl (by kernel_rfl)) .nil))
    have evI : ∀ {h : Str} {σ' G'}, PyData.strOk h = true → σ'[4]? = some (some (.int p)) → σ'[5]? = some (some (.int q)) → Ev (some b) (tTup (tCons (tC (.str h)) (tCons (tVar 4) (tCons (tVar 5) tNil)))) σ' G' (tV K (.tuple [.str h, .int p, .int q])) := fun hs h4 h5 =>
      ev_tupV (ds := [.str _, .int p, .int q]) (ea_cons (Ev.vStr ev_k) (ea_cons (Ev.vInt (ev_x h4)) (ea_cons (Ev.vInt (ev_x h5)) ea_nil))) (sh_cons (sh_str hs) (sh_cons sh_int (sh_cons sh_int sh_nil))) (by show 3 ≤ 100000; decide)
    have dE : isValues (.dict [(.str "n", .int p), (.str "m", .int q)]) = true := by
      show ((nameD (.str "n") && isVal (.int p)) && ((nameD (.str "m") && isVal (.int q)) && true)) = true
      rw [iv_int hp, iv_int hq]
      kernel_rfl
    refine q_asg (t := fun G v => ∃ a r1 r2 r3, v = .ref a ∧ G a = some (.lst [.ref r1, .ref r2, .ref r3]) ∧ G r1 = some (.lst [.str "told", .int (keep (quoD p q))]) ∧ G r2 = some (.lst [.str "told", .int (keep (quoM p q))]) ∧ G r3 = some (.lst [.str "told", .int (keep (p * q))])) g5 ((en_lst (ts := [tKL [.str "told", .int (keep (quoD p q))], tKL [.str "told", .int (keep (quoM p q))], tKL [.str "told", .int (keep (p * q))]]) (ea_cons
      (ask (kk := "integer") (c2 := bn) (evI (by decide +kernel) rfl rfl) ev_dnewV (ev_x rfl) (sz_sum (szI (by decide +kernel) (by decide +kernel)) (by decide)) (sz_fx (szI (by decide +kernel) (by decide +kernel))).sm rfl ⟨by decide, fun _ z => nomatch z⟩ .nil (by kernel_rfl) (by kernel_rfl)) (ea_cons
      (ask (kk := "integer") (c2 := !bn) (d := .tuple [.str "rest", .str "n", .str "m"]) (e := .dict [(.str "n", .int p), (.str "m", .int q)]) (ev_tupV (ds := [.str "rest", .str "n", .str "m"]) (ea_cons (Ev.vStr ev_k) (ea_cons (Ev.vStr ev_k) (ea_cons (Ev.vStr ev_k) ea_nil))) (sh_all (by decide +kernel)) (by show 3 ≤ 100000; decide)) (ev_disp2V (z := "n") (z2 := "m") (d := .int p) (d2 := .int q) (by decide +kernel) (fun _ => ev_k) (fun _ => Ev.vInt (ev_x rfl)) (fun _ => ev_k) (fun _ => Ev.vInt (ev_x rfl)) rfl rfl) (ev_not (ev_x rfl)) (sz_sum szN (by decide)) (sz_fx szN).sm dE ?_ ?_ (by kernel_rfl) (by kernel_rfl)) (ea_cons
      (ask (kk := "integer") (c2 := bn) (evI (by decide +kernel) rfl rfl) ev_dnewV (ev_x rfl) (sz_sum (szI (by decide +kernel) (by decide +kernel)) (by decide)) (sz_fx (szI (by decide +kernel) (by decide +kernel))).sm rfl ⟨by decide, fun _ z => nomatch z⟩ .nil (by kernel_rfl) (by kernel_rfl)) ea_nil))) (by show 3 ≤ 100000; decide)).ev fun G' a xs e ha hp => three3 ha hp.now) fun v8 G6 H6 g6 _ w8 => ?_
    · exact ⟨by show 2 ≤ 900; decide, fun z hz => by
        rcases List.mem_cons.mp hz with rfl | hz
        · exact ⟨⟨⟨1, by kernel_rfl⟩, .inr (by kernel_rfl)⟩, ⟨⟨1, rfl⟩, .inr rfl⟩⟩
        · rw [List.mem_singleton.mp hz]
          exact ⟨⟨⟨1, by kernel_rfl⟩, .inr (by kernel_rfl)⟩, ⟨⟨1, rfl⟩, .inr rfl⟩⟩⟩
    · show List.Nodup [PyData.str "n", PyData.str "m"]
      simp [List.nodup_cons]
      decide +kernel
    obtain ⟨ta, r1, r2, r3, rfl, hta, hr1, hr2, hr3⟩ := w8.now
    have kept : ∀ {te : TE} {i : Int} {G' σ' E}, Ev (some b) te σ' G' (tIs (.int i)) → Ev (some b) (tCall (spC (cKeep K)) [] E (tCons te tNil)) σ' G' (tIs (.int (keep i))) := fun ht => ev_call (ea_cons ht ea_nil) fun G'' vs e al => by
      rw [all1 al]
      exact ⟨none, _, .inr rfl, ⟨rfl, _, rfl, rfl⟩, fun _ _ _ w => w⟩
    refine s_when g6 (p := (· = !true)) (et_not (et_b (ev_sameR (s := tIs (.ref ta)) (t := fun G v => ∃ a r1 r2 r3, v = .ref a ∧ G a = some (.lst [.ref r1, .ref r2, .ref r3]) ∧ G r1 = some (.lst [.str "told", .int (keep (quoD p q))]) ∧ G r2 = some (.lst [.str "told", .int (quoM p q)]) ∧ G r3 = some (.lst [.str "told", .int (keep (p * q))])) (ev_x rfl)
      ((en_lst (ts := [tKL [.str "told", .int (keep (quoD p q))], tKL [.str "told", .int (quoM p q)], tKL [.str "told", .int (keep (p * q))]]) (ea_cons (ev_lst2 ev_k (kept (ev_x rfl))) (ea_cons (ev_lst2 ev_k (ev_x rfl)) (ea_cons (ev_lst2 ev_k (kept (ev_op2 (ev_x rfl) (ev_x rfl) (ro_mulI (.inl ⟨by omega, by omega⟩))))) ea_nil))) (by show 3 ≤ 100000; decide)).ev fun G' a xs e ha hp => three3 ha hp.now) fun G' x' y' e hx' hy' => ?_))) (fun z => nomatch z) fun _ G7 H7 g7 _ => ⟨G7, g1.trans g7, e1.trans g7.gg, _, _, _, _, _, _, rfl⟩
    obtain ⟨pa, s1, s2, s3, rfl, h0, h1, h2, h3⟩ := hy'
    have ex : x' = .ref ta := hx'
    rw [ex]
    rw [keep_id hM] at hr2
    have inner : ∀ {r s : Addr} {i : Int}, G' r = some (.lst [.str "told", .int i]) → G' s = some (.lst [.str "told", .int i]) → Sm K 49 G' (.ref r) (.ref s) := fun {r s i} q q' => .inr (.inl ⟨r, s, _, _, rfl, rfl, .of q, .of q', (by show 2 ≤ 1000; decide), .cons (.flat rfl) (.cons (.flat rfl) .nil)⟩)
    exact .inr (.inl ⟨ta, pa, _, _, rfl, rfl, .of (e _ _ hta), .of h0, (by show 3 ≤ 1000; decide), .cons (inner (e _ _ hr1) h1) (.cons (inner (e _ _ hr2) h2) (.cons (inner (e _ _ hr3) h3) .nil))⟩))
end
end K14
set_option Elab.async false
set_option linter.all false
set_option maxRecDepth 100000
set_option maxHeartbeats 4000000
namespace K14
open PySem L2 Ty
open Evl (Ex ex_l ex_t)
abbrev s_law : Stmt := top 59
theorem sc_law : FnScope ["script", "k", "box", "by_name", "known", "turn", "term"] ["script"] (defScope s_law) := ⟨rfl, rfl, rfl, by decide +kernel, rfl, by decide +kernel, by decide +kernel⟩
theorem pb_law : PosB "law" s_law ["script"] := fun _ _ _ _ _ _ us hl => match us, hl with | [_], _ => rfl
theorem sb_38 (l : Nat) (h : l < 32) : sb l ≤ 38 := (sb_pos l h).2
def rows4 : List (Str × Str) := [("n", "integer"), ("num", "integer"), ("t", "truth"), ("yes", "truth")]
theorem rows4_ok : ∀ r ∈ rows4, nameV (.str r.1) = true := fun r hr => by
  simp only [rows4, List.mem_cons, List.not_mem_nil, or_false] at hr
  rcases hr with rfl | rfl | rfl | rfl <;> kernel_rfl
section
variable {P : Program} {w : World} {K : PySem.W.Frag} {mg : Str → Option Value} {base : Heap} {ga ha CS CV CU D : Addr} {es : Array DictEntry} {n : Nat}
def cLaw (K : PySem.W.Frag) (o : Option Addr) (G : Hp) (vs : List V) (t : T) : Prop := o = none ∧ ∃ (a : Addr) (ns : List Int), vs = [.ref a] ∧ SqL K G a (ns.map V.int) ∧ t = tIs (.bl true)
theorem ok_law (T : Txt5 K mg w ga ha es n CS CV CU D) {f : Addr} {fd : FuncData} (F : Fun K "law" "law" s_law f fd) (G__law_term_right : Own P w K mg base CX0 51 "_law_term_right" s__law_term_right ["box", "term", "by_name"] (spC (cTermR K)))
    (G__law_refused_right : Own P w K mg base CX0 52 "_law_refused_right" s__law_refused_right ["box", "term", "by_name"] (spC (cTermR K))) (G__law_divided_right : Own P w K mg base CX0 51 "_law_divided_right" s__law_divided_right ["box", "by_name"] (spC cDiv))
    (G__law_take : Own P w K mg base CX0 1 "_law_take" s__law_take ["box", "many"] (spC cTake)) (G__law_box : Own P w K mg base CX0 1 "_law_box" s__law_box ["great"] (spN cBox)) (G__law_cell : Own P w K mg base CX0 1 "_law_cell" s__law_cell ["script", "k"] (spC (cCell K)))
    (G__law_sum : Own P w K mg base CX0 33 "_law_sum" s__law_sum ["box", "kind", "known", "left"] (spC (cLSum K 32))) (G__law_wild : Own P w K mg base CX0 33 "_law_wild" s__law_wild ["box", "left"] (spC (cLWild K 32))) :
    FnOk P w K mg base CX0 53 f fd ["script"] (spC (cLaw K)) :=
  F.ok sc_law (fun vs H Q E h => by obtain ⟨o, G, t, _, ⟨_, a, ns, rfl, _⟩, _⟩ := h; rfl) (fun cdv A outer s H vs Q E hr h => by
    obtain ⟨o, G, p, kn, ⟨rfl, a, ns, rfl, hs, rfl⟩, k⟩ := h
    refine ⟨_, (pss_cons (ps_for PassesOwn.never rfl (pi_range1 rfl T.n_range (pa_cons (pe_callB (call_max2 rfl) (by rfl) T.n_max (by decide +kernel) (pa_cons pe_int (pa_cons (pe_callB (call_min2 rfl) (by rfl) T.n_min (by decide +kernel) (pa_cons pe_int (pa_cons (pe_callB (kLen (K := K) rfl) (by rfl) T.n_len (by decide +kernel) (pa_cons (pv 0) pa_nil)) pa_nil))) pa_nil))) pa_nil)) (pg_name (i := 1) sc_law.nd rfl (Or.inl rfl)) (pss_cons (ps_set (i := 2) sc_law.nd rfl (Or.inl rfl) (pe_own G__law_box pb__law_box (hr.mono (by first | decide | exact Nat.le_refl _ | omega)) rfl pass0 (pa_cons (pe_own G__law_cell pb__law_cell (hr.mono (by first | decide | exact Nat.le_refl _ | omega)) rfl pass0 (pa_cons (pv 0) (pa_cons (pv 1) pa_nil))) pa_nil)))
   (pss_cons (ps_set (i := 3) sc_law.nd rfl (Or.inl rfl) (pe_cmpR (kEq (K := K) rfl hr.units) (pe_own G__law_take pb__law_take (hr.mono (by first | decide | exact Nat.le_refl _ | omega)) rfl pass0 (pa_cons (pv 2) (pa_cons pe_int pa_nil))) pe_int (nomark _)))
   (pss_cons (ps_set (i := 4) sc_law.nd rfl (Or.inl rfl) (pe_lst (pa_cons (pe_tup (pa_cons pe_str (pa_cons pe_str pa_nil))) (pa_cons (pe_tup (pa_cons pe_str (pa_cons pe_str pa_nil))) (pa_cons (pe_tup (pa_cons pe_str (pa_cons pe_str pa_nil))) (pa_cons (pe_tup (pa_cons pe_str (pa_cons pe_str pa_nil))) pa_nil))))))
   (pss_cons (ps_for PassesOwn.never rfl (pi_range1 rfl T.n_range (pa_cons pe_int pa_nil)) (pg_name (i := 5) sc_law.nd rfl (Or.inl rfl)) (pss_one (ps_for PassesOwn.never rfl (pi_listK (K := K) rfl (pe_lst (pa_cons (pe_own G__law_sum pb__law_sum (hr.mono (by first | decide | exact Nat.le_refl _ | omega)) rfl pass0 (pa_cons (pv 2) (pa_cons (pe_ix (kIx (K := K) rfl) (pe_lst (pa_cons pe_str (pa_cons pe_str pa_nil))) (pe_op op_mod (pv 5) pe_int) (fun _ _ => rfl)) (pa_cons (pv 4) (pa_cons (pe_ix (kIx (K := K) rfl) (pe_lst (pa_cons pe_int (pa_cons pe_int (pa_cons pe_int (pa_cons pe_int pa_nil))))) (pv 5) (fun _ _ => rfl)) pa_nil))))) (pa_cons (pe_own G__law_wild pb__law_wild (hr.mono (by first | decide | exact Nat.le_refl _ | omega)) rfl pass0 (pa_cons (pv 2) (pa_cons (pe_ix (kIx (K := K) rfl) (pe_lst (pa_cons pe_int (pa_cons pe_int (pa_cons pe_int (pa_cons pe_int pa_nil))))) (pv 5) (fun _ _ => rfl)) pa_nil))) pa_nil)))) (pg_name (i := 6) sc_law.nd rfl (Or.inl rfl)) (pss_cons (ps_if (PW.pt (pw_or (pt_not (pt_val (pe_own G__law_term_right pb__law_term_right (hr.mono (by first | decide | exact Nat.le_refl _ | omega)) rfl pass0 (pa_cons (pv 2) (pa_cons (pv 6) (pa_cons (pv 3) pa_nil)))))) (pw_or1 (pt_not (pt_val (pe_own G__law_refused_right pb__law_refused_right (hr.mono (by first | decide | exact Nat.le_refl _ | omega)) rfl pass0 (pa_cons (pv 2) (pa_cons (pv 6) (pa_cons (pe_not (pv 3)) pa_nil))))))))) (pss_one (ps_ret pe_bl)) pss_nil)
   (pss_one (ps_set (i := 3) sc_law.nd rfl (Or.inl rfl) (pe_not (pv 3))))))))
   (pss_one (ps_if (pt_not (pt_val (pe_own G__law_divided_right pb__law_divided_right (hr.mono (by first | decide | exact Nat.le_refl _ | omega)) rfl pass0 (pa_cons (pv 2) (pa_cons (pv 3) pa_nil))))) (pss_one (ps_ret pe_bl)) pss_nil)))))))
   (pss_one (ps_ret pe_bl))), ?_⟩
    refine q_for (Go.refl kn) (ei_rng1 (P := fun _ zs => ∃ n : Nat, n ≤ 4 ∧ zs = intsV 0 n) (Pn := fun n => 0 ≤ n ∧ n ≤ 4) (ea_cons ?_ ea_nil) (fun n e => by omega) fun G' n _ e _ _ => ⟨n.toNat, by omega, rfl⟩)
      (fun zs i σ' G' H' => ∃ y1 y2 y3 y4 y5 y6 : Option V, σ' = [some (.ref a), y1, y2, y3, y4, y5, y6]) (fun zs G' H' g' gl hz => ⟨_, _, _, _, _, _, rfl⟩) (fun Gs zs e0 hz i x σ' G' H' hx g' e' hi => ?_) (fun zs σ' G' H' g' e' hz hi => ?_)
    · -- max(2, min(4, len(script)))
      refine ev_cb (ea_cons ev_k (ea_cons (ev_cb (ea_cons ev_k (ea_cons (ev_cb1 (ev_x rfl) fun G' e => rc_lenL (ex_l e hs)) ea_nil)) (t := fun _ v => ∃ n : Int, v = .int n ∧ 0 ≤ n ∧ n ≤ 4) fun G' vs e al => ?_) ea_nil)) fun G' vs e al => ?_
      · rw [all2 al]
        exact rc_q (fun _ _ => ⟨_, rfl, by split <;> omega, by split <;> omega⟩) fun _ _ _ _ _ q => ⟨_, _, rfl, q⟩
      · cases al with
        | cons a1 al => cases al with
          | cons a2 al =>
            cases al
            obtain ⟨n, rfl, h0, h1⟩ := a2.now
            rw [a1.eq]
            exact rc_q (fun _ _ => ⟨_, rfl, by split <;> omega, by split <;> omega⟩) fun _ _ _ _ _ q => ⟨_, _, rfl, q⟩
    · obtain ⟨y1, y2, y3, y4, y5, y6, rfl⟩ := hi
      obtain ⟨n, hn, hz'⟩ := hz.now
      rw [hz'] at hx
      obtain ⟨rfl, hi4⟩ := intsV_get hx
      have hs' := ex_l (e0.trans e') hs
      -- box = ..
      refine q_asgN (P := pBox) g' (en_call (ea_cons (s := tInt) (ev_call (t := tInt) (ea_cons (ev_x rfl) (ea_cons (ev_x rfl) ea_nil)) fun G3 vs e3 al => ?_) ea_nil) fun G2 vs e al => ?_) fun pb xs G2 H2 g2 gl hp0 hpH _ hpb gpb hxs => ?_
      · rw [all2 al]
        exact ⟨none, _, .inr rfl, ⟨rfl, a, ns, _, rfl, ex_l e3 hs', ⟨by omega, by omega⟩, rfl⟩, fun _ _ _ w => w⟩
      · cases al with
        | cons a1 al =>
          cases al
          obtain ⟨n, rfl⟩ := a1.now
          exact ⟨none, _, .inl rfl, ⟨rfl, n, rfl, rfl⟩, fun _ _ _ w => w⟩
      obtain ⟨bn, bg, br, bc, rfl⟩ := hxs.now
      have kb : Kn (some pb) G2 H2 := ⟨g2.kn.sub, fun c e => by cases e; exact ⟨⟨bn, bg, br, bc, hpb⟩, gpb⟩⟩
      have gb := Go.refl kb
      have eGs : Ex Gs G2 := e'.trans gl.gg
      -- by_name = ..
      refine q_asg (t := tBool) gb (ev_op (s := tRng 0 2) (take_at (j := 2) rfl ev_k ⟨by decide, by decide⟩) ev_k fun G3 x y e hx hy => ?_) fun v G3 H3 g3 _ w3 => ?_
      · obtain ⟨i, rfl, _⟩ := hx.now
        rw [hy.eq]
        exact ro_q (fun _ _ => ⟨_, rfl⟩) fun _ _ _ _ _ q => .inl ⟨rfl, q⟩
      obtain ⟨c, rfl⟩ := w3.now
      -- known = ..
      have row : ∀ {ta tb : TE} {z u : Str} {G' σ'}, PyData.strOk z = true → PyData.strOk u = true → Ev (some pb) ta σ' G' (tIs (.str z)) → Ev (some pb) tb σ' G' (tIs (.str u)) → Ev (some pb) (tTup (tCons ta (tCons tb tNil))) σ' G' (tV K (rowD (z, u))) := fun {ta tb z u G' σ'} h1 h2 ha hb =>
        ev_tupV (ds := [.str z, .str u]) (ea_cons (Ev.vStr ha) (ea_cons (Ev.vStr hb) ea_nil)) (sh_cons (sh_str h1) (sh_cons (sh_str h2) sh_nil)) (by show 2 ≤ 100000; decide)
      refine q_asg (t := tV K (.list (rows4.map rowD))) g3 (ev_lstV (ds := rows4.map rowD) (ea_cons (row (by decide +kernel) (by decide +kernel) ev_k ev_k) (ea_cons (row (by decide +kernel) (by decide +kernel) ev_k ev_k) (ea_cons (row (by decide +kernel) (by decide +kernel) ev_k ev_k) (ea_cons (row (by decide +kernel) (by decide +kernel) ev_k ev_k) ea_nil)))) (sh_all (by decide +kernel)) (by show 4 ≤ 100000; decide)) fun kv G4 H4 g4 _ w4 => ?_
      refine q_for g4 (ei_rng1 (P := fun _ zs => zs = intsV 0 4) (Pn := fun n => n = 4) (ea_cons (ev_k.imp fun _ _ _ u => by rw [u.eq]; exact fun _ _ => ⟨4, rfl, rfl⟩) ea_nil) (fun n e => by omega) fun G' n _ e _ _ => by rw [e]; rfl)
        (fun zs j σ' G' H' => ∃ (c : Bool) (y5 y6 : Option V), σ' = [some (.ref a), some (.int (0 + (i : Int))), some (.ref pb), some (.bl c), some kv, y5, y6]) (fun zs G' H' g' gl hz => ⟨c, _, _, rfl⟩) (fun Gt zt e1 ht j x σ' G5 H5 hx g5 e5 hi => ?_) (fun zt σ' G5 H5 g5 e5 ht hi => ?_)
      · obtain ⟨c, y5, y6, rfl⟩ := hi
        rw [ht.now] at hx
        obtain ⟨rfl, hj3⟩ := intsV_get hx
        have hkv := fun {G'} (e : Ex G5 G') => (w4 G' ((e1.trans e5).trans e))
        refine s_for g5 (ei_listN (P := pAll 2 (tSz K 38)) (en_items (n := 2) (t := tSz K 38) (ea_cons (ev_call (ts := [tIs (.ref pb), fun _ v => ∃ z : Str, v = .str z, tIs kv, fun _ v => ∃ l : Nat, v = .int l ∧ l < 32]) (ea_cons (ev_x rfl) (ea_cons ?_ (ea_cons (ev_x rfl) (ea_cons ?_ ea_nil)))) fun G6 vs e6 al => ?_) (ea_cons (ev_call (ts := [tIs (.ref pb), fun _ v => ∃ l : Nat, v = .int l ∧ l < 32]) (ea_cons (ev_x rfl) (ea_cons ?_ ea_nil)) fun G6 vs e6 al => ?_) ea_nil)) (by decide)) fun _ _ _ h => h)
          (fun zs j' σ' G' H' => ∃ (c : Bool) (y6 : Option V), σ' = [some (.ref a), some (.int (0 + (i : Int))), some (.ref pb), some (.bl c), some kv, some (.int (0 + (j : Int))), y6]) (fun zs G' H' g' gl hz => ⟨c, _, rfl⟩) (fun Gu zu e2 hu j' v σ' G6 H6 hv g6 e6 hi => ?_) (fun zu σ' G6 H6 g6 e6 hu hi => ?_)
        · refine (ev_pickS (K := K) (zs := ["integer", "truth"]) (n := 2) (ea_cons ev_k (ea_cons ev_k ea_nil)) (ev_op2 (ev_x rfl) ev_k (r := rI (fun _ j => 0 < j) fun i j => .int (i % j)) ?_) (by decide) (by decide)).imp fun _ _ _ u => fun _ _ => ?_
          · exact ro_q (z := .int ((0 + (j : Int)) % 2)) (fun _ _ => ⟨_, rfl, by omega, by omega⟩) fun _ _ _ _ _ q => ⟨_, 2, rfl, rfl, (show (0 : Int) < 2 by decide), q⟩
          · obtain ⟨z, _, rfl⟩ := u.now
            exact ⟨z, rfl⟩
        · exact pick3 (ds := [3, 9, 15, 31]) (ea_cons ev_k (ea_cons ev_k (ea_cons ev_k (ea_cons ev_k ea_nil)))) (i := 0 + (j : Int)) (ev_x rfl) ⟨by omega, by show (0 : Int) + j < 4; omega⟩ (by decide)
        · cases al with
          | cons a1 al => cases al with
            | cons a2 al => cases al with
              | cons a3 al => cases al with
                | cons a4 al =>
                  cases al
                  obtain ⟨z, rfl⟩ := a2.now
                  obtain ⟨l, rfl, hl⟩ := a4.now
                  rw [a1.eq, a3.eq]
                  refine ⟨some pb, _, .inl rfl, ⟨pb, z, kv, rows4, l, rfl, rfl, hkv e6, rows4_ok, by decide, ⟨hl, hl⟩, rfl⟩, fun G7 v e7 w G8 e8 => ?_⟩
                  obtain ⟨d, m, q1, q2, q3⟩ := w G8 e8
                  exact ⟨d, m, q1, q2, Nat.le_trans q3 (sb_38 l hl)⟩
        · exact pick3 (ds := [3, 8, 12, 20]) (ea_cons ev_k (ea_cons ev_k (ea_cons ev_k (ea_cons ev_k ea_nil)))) (i := 0 + (j : Int)) (ev_x rfl) ⟨by omega, by show (0 : Int) + j < 4; omega⟩ (by decide)
        · cases al with
          | cons a1 al => cases al with
            | cons a2 al =>
              cases al
              obtain ⟨l, rfl, hl⟩ := a2.now
              rw [a1.eq]
              refine ⟨some pb, _, .inl rfl, ⟨pb, l, rfl, rfl, ⟨hl, hl⟩, rfl⟩, fun G7 v e7 w G8 e8 => ?_⟩
              obtain ⟨d, m, q1, q2, q3⟩ := w G8 e8
              exact ⟨d, m, q1, q2, Nat.le_trans q3 (sb_38 l hl)⟩
        · obtain ⟨c, y6, rfl⟩ := hi
          have hvt := (hu.up e6).now.2 v (List.mem_of_getElem? hv)
          refine q_when g6 (p := (· = (!true || !true))) (et_or (et_not (et_b (ev_call (t := tIs (.bl true)) (ea_cons (ev_x rfl) (ea_cons (ev_x rfl) (ea_cons (ev_x rfl) ea_nil))) fun G8 vs e8 al => ?_))) fun _ => et_not (et_b (ev_call (t := tIs (.bl true)) (ea_cons (ev_x rfl) (ea_cons (ev_x rfl) (ea_cons (ev_not (ev_x rfl)) ea_nil))) fun G8 vs e8 al => ?_))) (fun z => nomatch z) fun _ G7 H7 g7 gl7 => ?_
          · rw [all3 al]
            obtain ⟨d, m, q1, q2, q3⟩ := hvt G8 e8
            exact ⟨some pb, _, .inl rfl, ⟨pb, v, d, m, c, rfl, rfl, ⟨q1, (sz_fx q2).sm⟩, q2, by omega, rfl⟩, fun _ _ _ w => w⟩
          · rw [all3 al]
            obtain ⟨d, m, q1, q2, q3⟩ := hvt G8 e8
            exact ⟨some pb, _, .inl rfl, ⟨pb, v, d, m, !c, rfl, rfl, ⟨q1, (sz_fx q2).sm⟩, q2, by omega, rfl⟩, fun _ _ _ w => w⟩
          · refine s_asg (t := tIs (.bl (!c))) g7 (ev_not (ev_x rfl)) fun v G8 H8 g8 gl8 w8 => ?_
            rw [w8.eq]
            exact ⟨G8, g8, e6.trans (gl7.gg.trans gl8.gg), !c, _, rfl⟩
        · obtain ⟨c, y6, rfl⟩ := hi
          exact ⟨G6, g6, e5.trans e6, c, _, _, rfl⟩
      · obtain ⟨c, y5, y6, rfl⟩ := hi
        refine s_when g5 (p := (· = !true)) (et_not (et_b (ev_call (t := tIs (.bl true)) (ea_cons (ev_x rfl) (ea_cons (ev_x rfl) ea_nil)) fun G8 vs e8 al => ?_))) (fun z => nomatch z) fun _ G6 H6 g6 _ => ?_
        · rw [all2 al]
          exact ⟨some pb, _, .inl rfl, ⟨pb, c, rfl, rfl, rfl⟩, fun _ _ _ w => w⟩
        · exact ⟨G6, g2.unbox hp0 g6, eGs.trans g6.gg, _, _, _, _, _, _, rfl⟩
    · exact s_ret g' ev_k k)
end
end K14
set_option Elab.async false
set_option linter.all false
set_option maxRecDepth 100000
set_option maxHeartbeats 4000000
namespace K14
open PySem L2 Ty
open Evl (Ex ex_l ex_t)
open Ex (SupC SupD spSup nscS ok_sup supBody)
abbrev s_init : Stmt := inClass (top 1) 0
section
variable {P : Program} {w : World} {K : PySem.W.Frag} {mg : Str → Option Value} {base : Heap} {f cc cda D : Addr} {dV kV doc pm ct oc : Value} {an od : Option Addr} {osl : Array (Option Value)}
theorem ok_init (lk : K.lookup f = some ⟨oc, od, .func (PySem.W.ksFn "__init__" "TalkError.__init__" (defArgs s_init) (defBody s_init) (defScope s_init) dV kV doc pm an (.ref cda) ct cc), osl⟩) (hcd : PySem.W.codeIn K (.ref cda) "TalkError.__init__" = true) (T : SupD K mg P D cc cda) :
    FnOk P w K mg base CX0 1 f (PySem.W.ksFn "__init__" "TalkError.__init__" (defArgs s_init) (defBody s_init) (defScope s_init) dV kV doc pm an (.ref cda) ct cc) ["self", "given"] (spSup K D) :=
  ok_sup lk hcd (nscS (by decide +kernel)) (by rfl) rfl rfl T fun _ => rfl
theorem bi_init {Td : Addr} {d0 : Value} {n : Nat} {sl : Array (Option Value)} (lT : K.lookup Td = some ⟨oc, od, .seq #[d0] n, sl⟩) :
    Binds K (PySem.W.ksFn "__init__" "TalkError.__init__" (defArgs s_init) (defBody s_init) (defScope s_init) (.ref Td) kV doc pm an (.ref cda) ct cc) ["self", "given"] [] := fun s us X hl => by
  rw [List.append_nil] at hl ⊢
  match us, hl with
  | [a, b], _ =>
    obtain ⟨k, e1, e2⟩ : ∃ k, bindArgs (PySem.W.ksFn "__init__" "TalkError.__init__" (defArgs s_init) (defBody s_init) (defScope s_init) (.ref Td) kV doc pm an (.ref cda) ct cc) ⟨[a, b], []⟩ = PySem.seqItems? (.ref Td) >>= k ∧ k (some #[d0]) = pure ((["self", "given"] : List Str).zip [a, b]) := ⟨_, rfl, by kernel_rfl⟩
    refine BindsTo.of_looks fun M => ?_
    rw [e1]
    exact looks_items X lT rfl (.of_pure e2)
/-- the same with the default for given -/
theorem bi_init1 {Td : Addr} {n : Nat} {sl : Array (Option Value)} (lT : K.lookup Td = some ⟨oc, od, .seq #[.none] n, sl⟩) :
    Binds K (PySem.W.ksFn "__init__" "TalkError.__init__" (defArgs s_init) (defBody s_init) (defScope s_init) (.ref Td) kV doc pm an (.ref cda) ct cc) ["self", "given"] [.none] := fun s us X hl => by
  have hl' : us.length = 1 := by
    rw [List.length_append] at hl
    exact Nat.succ.inj hl
  match us, hl' with
  | [a], _ =>
    obtain ⟨k, e1, e2⟩ : ∃ k, bindArgs (PySem.W.ksFn "__init__" "TalkError.__init__" (defArgs s_init) (defBody s_init) (defScope s_init) (.ref Td) kV doc pm an (.ref cda) ct cc) ⟨[a], []⟩ = PySem.seqItems? (.ref Td) >>= k ∧ k (some #[.none]) = pure ((["self", "given"] : List Str).zip [a, .none]) := ⟨_, rfl, by kernel_rfl⟩
    refine BindsTo.of_looks fun M => ?_
    rw [e1]
    exact looks_items X lT rfl (.of_pure e2)
abbrev s_initU : Stmt := inClass (top 4) 0
theorem ok_initU {fT CU : Addr} {fdT : FuncData} (lk : K.lookup f = some ⟨oc, od, .func (PySem.W.ksFn "__init__" "Unfit.__init__" (defArgs s_initU) (defBody s_initU) (defScope s_initU) dV kV doc pm an (.ref cda) ct cc), osl⟩) (hcd : PySem.W.codeIn K (.ref cda) "Unfit.__init__" = true) (T : SupD K mg P CU cc cda)
    (FT : FnOk P w K mg base CX0 1 fT fdT ["self", "given"] (spSup K D)) (hbT : Binds K fdT ["self", "given"] [.none]) (hfn : PySem.W.fnIn K fT = true) (htI : PySem.W.typeIn K (.ref fT) = some (.type "function")) :
    FnOk P w K mg base CX0 2 f (PySem.W.ksFn "__init__" "Unfit.__init__" (defArgs s_initU) (defBody s_initU) (defScope s_initU) dV kV doc pm an (.ref cda) ct cc) ["self"] (sp0 K CU D fT) :=
  Ex.ok_own (ps := []) (N := ["self", "__class__"]) lk hcd (NdefX.nscope_by (by decide +kernel)) (by rfl) rfl rfl rfl T FT hbT (.cons rfl .nil) (fun X => pass0) hfn htI (fun _ _ _ _ _ => pa_nil) (fun _ _ _ _ _ => pss_nil) (.inr ⟨rfl, rfl⟩) (fun _ => rfl) fun _ => rfl
theorem bi_initU : Binds K (PySem.W.ksFn "__init__" "Unfit.__init__" (defArgs s_initU) (defBody s_initU) (defScope s_initU) .none kV doc pm an (.ref cda) ct cc) ["self"] [] := fun s us X hl => by
  rw [List.append_nil] at hl ⊢
  match us, hl with
  | [a], _ => exact .of_eq rfl
/-- super at C's own class finds the def at fT -/
def subB (K : PySem.W.Frag) (C fT : Addr) : Bool := decide (PySem.W.ks_superIn K C C "__init__" = some (some (.ref fT))) && (decide (PySem.W.mroIn K C (.ref C) = some true) && PySem.W.fnIn K fT)
theorem subB_ok {C fT : Addr} (h : subB K C fT = true) (o : OexC K C) : Ex.SubC K C C fT ∧ PySem.W.fnIn K fT = true := by
  unfold subB at h
  simp only [Bool.and_eq_true, decide_eq_true_eq] at h
  exact ⟨⟨o, h.1, h.2.1⟩, h.2.2⟩
end
/-! the table of heads -/
theorem gram_eq : gram = (["again", "and", "close", "else", "ends", "false", "if", "integer", "least", "less", "minus", "most", "node", "not", "or", "over", "plus", "program", "protocol", "rest", "round", "same", "set", "stop", "take", "tell", "times", "to", "true", "truth", "wait", "word"] : List Str) := by decide +kernel
def relB' : V → Value → Bool
  | .non, .none => true
  | .str z, .str y _ => decide (y = z)
  | _, _ => false
theorem relB'_ok {v : V} {u : Value} (h : relB' v u = true) : RelV v u := by
  cases v with
  | non => cases u <;> first | rfl | cases h
  | str z =>
    cases u with
    | str y t =>
      have e : y = z := of_decide_eq_true h
      subst e
      exact ⟨t, rfl⟩
    | _ => cases h
  | _ => cases h
def rowB (K : PySem.W.Frag) (ha : Addr) (h : Str) : Bool := match PySem.W.nsIn K ha h with
  | some (some (.ref ra)) => (match K.lookup ra with
    | some ⟨.type c, _, .seq its _, _⟩ => decide (c = "tuple") && (match its.toList with
      | [a, b] => relB' (oV (hRow h).1) a && relB' (.str (hRow h).2) b
      | _ => false)
    | _ => false)
  | _ => false
theorem rowB_ok {K : PySem.W.Frag} {w : World} {ha : Addr} {es : Array DictEntry} {n : Nat} {h : Str} (D : KDict K w ha es n) (b : rowB K ha h = true) : ∃ ra, KDct K w ha h (.ref ra) ∧ SqT K (fun _ => none) ra [oV (hRow h).1, .str (hRow h).2] := by
  unfold rowB at b
  cases e1 : PySem.W.nsIn K ha h with
  | none => rw [e1] at b; cases b
  | some r =>
    rw [e1] at b
    cases r with
    | none => cases b
    | some u =>
      cases u with
      | ref ra =>
        have b : (match K.lookup ra with
          | some ⟨.type c, _, .seq its _, _⟩ => decide (c = "tuple") && (match its.toList with
            | [a, b] => relB' (oV (hRow h).1) a && relB' (.str (hRow h).2) b
            | _ => false)
          | _ => false) = true := b
        refine ⟨ra, ⟨es, n, _, D.at_, D.lit, e1, rfl⟩, ?_⟩
        cases e2 : K.lookup ra with
        | none => rw [e2] at b; cases b
        | some o =>
          obtain ⟨oc, od, dt, osl⟩ := o
          rw [e2] at b
          cases oc with
          | type c =>
            cases dt with
            | seq its m =>
              have b : (decide (c = "tuple") && (match its.toList with
                | [a, b] => relB' (oV (hRow h).1) a && relB' (.str (hRow h).2) b
                | _ => false)) = true := b
              obtain ⟨b1, b2⟩ := Bool.and_eq_true_iff.mp b
              have ec := of_decide_eq_true b1
              subst ec
              match e3 : its.toList with
              | [x, y] =>
                rw [e3] at b2
                obtain ⟨b3, b4⟩ := Bool.and_eq_true_iff.mp b2
                refine .inr ⟨_, its, m, e2, rfl, rfl, ?_, ?_⟩
                · have : its.size = 2 := by rw [← Array.length_toList, e3]; rfl
                  exact Evl.sz_of (by omega)
                · rw [e3]
                  exact .cons (relB'_ok b3) (.cons (relB'_ok b4) .nil)
              | [] => rw [e3] at b2; cases b2
              | [_] => rw [e3] at b2; cases b2
              | _ :: _ :: _ :: _ => rw [e3] at b2; cases b2
            | _ => cases b
          | _ => cases dt <;> cases b
      | _ => cases b
/-- the keys are the heads -/
def keyB (es : Array DictEntry) : Bool := decide (es.toList.map (fun e => match e.key with
  | .str x _ => some x
  | _ => none) = heads.map some) && !es.toList.any (·.refKey)
theorem hin_ok {K : PySem.W.Frag} {w : World} {ha : Addr} {es : Array DictEntry} {n : Nat} (D : KDict K w ha es n) (b : keyB es = true) (z : Str) : ∃ r, PySem.W.nsIn K ha z = some r ∧ r.isSome = decide (z ∈ heads) := by
  obtain ⟨b1, b2⟩ := Bool.and_eq_true_iff.mp b
  have b1 := of_decide_eq_true b1
  have b3 : es.toList.any (·.refKey) = false := by
    revert b2
    cases es.toList.any (·.refKey) <;> simp
  have key : ∀ (l : List DictEntry) (hs : List Str), l.map (fun e => match e.key with
      | .str x _ => some x
      | _ => none) = hs.map some → (l.find? (·.key.isStr z)).isSome = decide (z ∈ hs) := fun l => by
    induction l with
    | nil =>
      intro hs h
      cases hs with
      | nil => rfl
      | cons _ _ => cases h
    | cons e l ih =>
      intro hs h
      cases hs with
      | nil => cases h
      | cons y hs =>
        rw [List.map_cons, List.map_cons] at h
        injection h with h1 h2
        have ih := ih hs h2
        have ek : ∃ t, e.key = .str y t := by
          split at h1
          · rename_i x t q
            exact ⟨t, by rw [q, Option.some.inj h1]⟩
          · cases h1
        obtain ⟨t, ek⟩ := ek
        have es : e.key.isStr z = decide (z = y) := by
          rw [ek]
          show (y == z) = decide (z = y)
          by_cases q : z = y
          · rw [q, decide_eq_true rfl]; exact beq_self_eq_true y
          · rw [decide_eq_false q]; exact beq_eq_false_iff_ne.mpr fun r => q r.symm
        rw [List.find?_cons, es]
        by_cases q : z = y
        · subst q
          rw [decide_eq_true rfl, decide_eq_true (List.mem_cons_self ..)]
          rfl
        · rw [decide_eq_false q, ih]
          by_cases r : z ∈ hs
          · rw [decide_eq_true r, decide_eq_true (List.mem_cons_of_mem _ r)]
          · rw [decide_eq_false r, decide_eq_false fun m => (List.mem_cons.mp m).elim q r]
  have k := key es.toList heads b1
  unfold PySem.W.nsIn
  rw [D.at_]
  show ∃ r, (match es.toList.find? (·.key.isStr z) with
      | some e => some (some e.val)
      | none => if es.toList.any (·.refKey) = true then none else some none) = some r ∧ r.isSome = decide (z ∈ heads)
  rw [b3]
  revert k
  cases es.toList.find? (·.key.isStr z) with
  | some en => exact fun k => ⟨some en.val, rfl, k⟩
  | none => exact fun k => ⟨none, rfl, k⟩
end K14
set_option Elab.async false
set_option maxRecDepth 100000
namespace K14
open PySem L2 Ty
open Evl (Ex ex_l ex_t)
open Ex (SupC SupD spSup)
theorem law_fn {P : Program} {w : World} {K : PySem.W.Frag} {mg : Str → Option Value} {ga ha CS CV CU D fI fa : Addr} {es : Array DictEntry} {n : Nat} (T : Txt5 K mg w ga ha es n CS CV CU D)
    (e_InvalidSum : ErrF K CS D fI)
    (e_InvalidValues : ErrF K CV D fI)
    (fi : ∀ base : Heap, ∃ fd, FnOk P w K mg base CX0 1 fI fd ["self", "given"] (spSup K D) ∧ Binds K fd ["self", "given"] [])
    {fIUnfit : Addr} (e_Unfit : ErrF K CU D fIUnfit) (sub_Unfit : Ex.SubC K CU CU fI)
    (fiUnfit : ∀ base : Heap, ∃ fd, FnOk P w K mg base CX0 2 fIUnfit fd ["self"] (sp0 K CU D fI) ∧ Binds K fd ["self"] [])
    (d__law_box : Df K mg "_law_box" s__law_box)
    (d__law_take : Df K mg "_law_take" s__law_take)
    (d__law_cell : Df K mg "_law_cell" s__law_cell)
    (d__law_mixed : Df K mg "_law_mixed" s__law_mixed)
    (d__law_same : Df K mg "_law_same" s__law_same)
    (d__law_copy : Df K mg "_law_copy" s__law_copy)
    (d__law_blamed : Df K mg "_law_blamed" s__law_blamed)
    (d_is_letters : Df K mg "is_letters" s_is_letters)
    (d_is_name : Df K mg "is_name" s_is_name)
    (d__law_grammar : Df K mg "_law_grammar" s__law_grammar)
    (d__law_is_name : Df K mg "_law_is_name" s__law_is_name)
    (d_is_integer : Df K mg "is_integer" s_is_integer)
    (d__law_whole : Df K mg "_law_whole" s__law_whole)
    (d_is_truth : Df K mg "is_truth" s_is_truth)
    (d_is_within : Df K mg "is_within" s_is_within)
    (d_is_plain : Df K mg "is_plain" s_is_plain)
    (d_size_of : Df K mg "size_of" s_size_of)
    (d_is_sum : Df K mg "is_sum" s_is_sum)
    (d_check_sum : Df K mg "check_sum" s_check_sum)
    (d_kind_in : Df K mg "kind_in" s_kind_in)
    (d_kept_in : Df K mg "kept_in" s_kept_in)
    (d_joined : Df K mg "joined" s_joined)
    (d_made_by : Df K mg "made_by" s_made_by)
    (d_is_values : Df K mg "is_values" s_is_values)
    (d_kinds_of_values : Df K mg "kinds_of_values" s_kinds_of_values)
    (d_value_of : Df K mg "value_of" s_value_of)
    (d__law_heads : Df K mg "_law_heads" s__law_heads)
    (d__law_is_sum : Df K mg "_law_is_sum" s__law_is_sum)
    (d__law_kind : Df K mg "_law_kind" s__law_kind)
    (d__law_wild : Df K mg "_law_wild" s__law_wild)
    (d__law_sum : Df K mg "_law_sum" s__law_sum)
    (d__law_near_sums : Df K mg "_law_near_sums" s__law_near_sums)
    (d__law_asked : Df K mg "_law_asked" s__law_asked)
    (d__law_into : Df K mg "_law_into" s__law_into)
    (d__law_quotient : Df K mg "_law_quotient" s__law_quotient)
    (d__law_makes : Df K mg "_law_makes" s__law_makes)
    (d__law_drawn_values : Df K mg "_law_drawn_values" s__law_drawn_values)
    (d__law_term_right : Df K mg "_law_term_right" s__law_term_right)
    (d__law_refused_right : Df K mg "_law_refused_right" s__law_refused_right)
    (d__law_divided_right : Df K mg "_law_divided_right" s__law_divided_right)
    (d_law : Df K mg "law" s_law)
    (hfa : mg "law" = some (.ref fa)) : ∃ fd : FuncData, (∀ (s : Shared) (v : Value), BindsTo s fd ⟨[v], []⟩ [("script", v)]) ∧ ∀ base : Heap, K.In base → base.Ns mainGlobals mg → FnOk P w K mg base CX0 53 fa fd ["script"] (spC (cLaw K)) := by
  obtain ⟨f, fd, F, hm⟩ := d_law.ex
  rw [hm] at hfa
  cases hfa
  obtain ⟨_, _, kV, doc, pm, an, cdv, ct, _, rfl, _, _⟩ := id F.ex
  refine ⟨PySem.W.fnOf "law" "law" (defArgs s_law) (defBody s_law) (defScope s_law) .none kV doc pm an cdv ct, fun s v => .of_eq rfl, fun base _ _ => ?_⟩
  obtain ⟨fdI, FI, BI⟩ := fi base
  have t4 := T.toTxt4
  have t3 := t4.toTxt3
  have t2 := t3.toTxt2
  have t := t2.toTxt
  have E_InvalidSum : OwnE P w K mg base 1 "InvalidSum" CS D := ownE_mk e_InvalidSum FI BI T.c_InvalidSum
  have E_InvalidValues : OwnE P w K mg base 1 "InvalidValues" CV D := ownE_mk e_InvalidValues FI BI T.c_InvalidValues
  obtain ⟨fdUnfit, FUnfit, BUnfit⟩ := fiUnfit base
  have E_Unfit : OwnE0 P w K mg base 2 "Unfit" CU D := ⟨⟨fIUnfit, fI, fdUnfit, e_Unfit.ini, e_Unfit.tI, FUnfit, BUnfit, sub_Unfit⟩, e_Unfit.sup, T.c_Unfit⟩
  have o__law_box := ok_box (P := P) (w := w) (base := base) t d__law_box 
  have o__law_take := ok_take (P := P) (w := w) (base := base) t d__law_take 
  have o__law_cell := ok_cell (P := P) (w := w) (base := base) t d__law_cell 
  have o__law_mixed := ok_mixed (P := P) (w := w) (base := base) t d__law_mixed o__law_take
  have o__law_same := ok_same (P := P) (w := w) (base := base) t d__law_same 50
  have o__law_copy := ok_copy (P := P) (w := w) (base := base) t d__law_copy 
  have o__law_blamed := ok_blamed (P := P) (w := w) (base := base) t d__law_blamed o__law_same
  have o_is_letters := ok_letters (P := P) (w := w) (base := base) t2 d_is_letters 
  have o_is_name := ok_name (P := P) (w := w) (base := base) t2 d_is_name o_is_letters
  have o__law_grammar := ok_grammar (P := P) (w := w) (base := base)  d__law_grammar 
  have o__law_is_name := ok_lname (P := P) (w := w) (base := base) t2 d__law_is_name o__law_grammar
  have o_is_integer := ok_integer (P := P) (w := w) (base := base) t3 d_is_integer 
  have o__law_whole := ok_whole (P := P) (w := w) (base := base) t3 d__law_whole 
  have o_is_truth := ok_truth (P := P) (w := w) (base := base) t3 d_is_truth 
  have o_is_within := ok_within (P := P) (w := w) (base := base) t3 d_is_within o_is_integer
  have o_is_plain := ok_plain (P := P) (w := w) (base := base) t3 d_is_plain o_is_truth o_is_within o_is_name
  have o_size_of := ok_size (P := P) (w := w) (base := base) t3 d_size_of 
  have o_is_sum := ok_sum (P := P) (w := w) (base := base) t3 d_is_sum o_is_plain o_size_of
  have o_check_sum := ok_check (P := P) (w := w) (base := base) t3 d_check_sum E_InvalidSum o_is_sum
  have o_kind_in := ok_kind_in (P := P) (w := w) (base := base) t4 d_kind_in o_is_truth 40
  have o_kept_in := ok_kept_in (P := P) (w := w) (base := base) t4 d_kept_in 
  have o_joined := ok_joined (P := P) (w := w) (base := base) t4 d_joined o_kept_in
  have o_made_by := ok_made_by (P := P) (w := w) (base := base) t4 d_made_by o_joined 40
  have o_is_values := ok_is_values (P := P) (w := w) (base := base) t4 d_is_values o_is_name o_is_truth o_is_within
  have o_kinds_of_values := ok_kinds_of_values (P := P) (w := w) (base := base) t4 d_kinds_of_values o_is_truth
  have o_value_of := ok_value_of (P := P) (w := w) (base := base) t4 d_value_of E_InvalidValues E_Unfit o_check_sum o_is_values o_kind_in o_kinds_of_values o_made_by
  have o__law_heads := ok_lheads (P := P) (w := w) (base := base) t4 d__law_heads 
  have o__law_is_sum := ok_lis_sum (P := P) (w := w) (base := base) t4 d__law_is_sum o__law_heads o__law_whole o__law_is_name
  have o__law_kind := ok_lkind (P := P) (w := w) (base := base) t4 d__law_kind o__law_heads 40
  have o__law_wild := ok_lwild (P := P) (w := w) (base := base) t4 d__law_wild o__law_take 32
  have o__law_sum := ok_lsum (P := P) (w := w) (base := base) t4 d__law_sum o__law_take 32
  have o__law_near_sums := ok_near (P := P) (w := w) (base := base) t4 d__law_near_sums o__law_mixed
  have o__law_asked := ok_asked (P := P) (w := w) (base := base) T d__law_asked o_value_of
  have o__law_into := ok_linto (P := P) (w := w) (base := base) t4 d__law_into 
  have o__law_quotient := ok_quotient (P := P) (w := w) (base := base) t4 d__law_quotient 
  have o__law_makes := ok_lmakes (P := P) (w := w) (base := base) t4 d__law_makes o__law_into o__law_quotient 40
  have o__law_drawn_values := ok_ldrawn (P := P) (w := w) (base := base) t4 d__law_drawn_values o__law_take
  have o__law_term_right := ok_term_right (P := P) (w := w) (base := base) T d__law_term_right o__law_mixed o__law_same o__law_drawn_values o__law_asked o__law_kind o__law_makes
  have o__law_refused_right := ok_refused (P := P) (w := w) (base := base) T d__law_refused_right o__law_mixed o__law_near_sums o__law_is_sum o__law_copy o__law_blamed o__law_asked
  have o__law_divided_right := ok_divided (P := P) (w := w) (base := base) T d__law_divided_right o__law_take o__law_same o__law_quotient o__law_into o__law_asked
  exact ok_law (P := P) (w := w) (base := base) T F o__law_term_right o__law_refused_right o__law_divided_right o__law_take o__law_box o__law_cell o__law_sum o__law_wild
theorem tup_at {K : PySem.W.Frag} {ga : Addr} {dd : Option Addr} {its : Array Value} {n : Nat} {sl : Array (Option Value)} {xs : List V} (l : K.lookup ga = some ⟨.type "tuple", dd, .seq its n, sl⟩) (h : its.size ≤ 100000) (r : Vals xs its.toList) : SqT K (fun _ => none) ga xs :=
  .inr ⟨_, its, n, l, rfl, rfl, Evl.sz_of h, r⟩
theorem all_mk {P : Program} {w : World} {K : PySem.W.Frag} {h : Heap} {mg : Str → Option Value} {fa : Addr} (X : K.In h) (G : h.Ns mainGlobals mg) (hfa : mg "law" = some (.ref fa))
    {CS : Addr}
    {CV : Addr}
    {D : Addr}
    {fI : Addr}
    {ocI dkI dcI pmI ctI : Value} {odI anI : Option Addr} {slI : Array (Option Value)} {Td cdaI ccI : Addr}
    {ocT : Value} {odT : Option Addr} {slT : Array (Option Value)} {nT : Nat}
    {clC : Value} {cldC : Option Addr} {cslC : Array (Option Value)}
    {clK : Value} {cldK : Option Addr} {cslK : Array (Option Value)} {vsK : Array Value} {fileK : Str} {tfK : Tok}
    {CU : Addr}
    {fIUnfit : Addr}
    {ocUnfit dkUnfit dcUnfit pmUnfit ctUnfit : Value} {odUnfit anUnfit : Option Addr} {slUnfit : Array (Option Value)} {cdaUnfit ccUnfit : Addr}
    {clCUnfit : Value} {cldCUnfit : Option Addr} {cslCUnfit : Array (Option Value)}
    {clKUnfit : Value} {cldKUnfit : Option Addr} {cslKUnfit : Array (Option Value)} {vsKUnfit : Array Value} {fileKUnfit : Str} {tfKUnfit : Tok}
    {f0 : Addr} {od0 an0 : Option Addr} {sl0 : Array (Option Value)} {oc0 kV0 dc0 pm0 cd0 ct0 : Value}
    {f1 : Addr} {od1 an1 : Option Addr} {sl1 : Array (Option Value)} {oc1 kV1 dc1 pm1 cd1 ct1 : Value}
    {f2 : Addr} {od2 an2 : Option Addr} {sl2 : Array (Option Value)} {oc2 kV2 dc2 pm2 cd2 ct2 : Value}
    {f3 : Addr} {od3 an3 : Option Addr} {sl3 : Array (Option Value)} {oc3 kV3 dc3 pm3 cd3 ct3 : Value}
    {f4 : Addr} {od4 an4 : Option Addr} {sl4 : Array (Option Value)} {oc4 kV4 dc4 pm4 cd4 ct4 : Value}
    {f5 : Addr} {od5 an5 : Option Addr} {sl5 : Array (Option Value)} {oc5 kV5 dc5 pm5 cd5 ct5 : Value}
    {f6 : Addr} {od6 an6 : Option Addr} {sl6 : Array (Option Value)} {oc6 kV6 dc6 pm6 cd6 ct6 : Value}
    {f7 : Addr} {od7 an7 : Option Addr} {sl7 : Array (Option Value)} {oc7 kV7 dc7 pm7 cd7 ct7 : Value}
    {f8 : Addr} {od8 an8 : Option Addr} {sl8 : Array (Option Value)} {oc8 kV8 dc8 pm8 cd8 ct8 : Value}
    {f9 : Addr} {od9 an9 : Option Addr} {sl9 : Array (Option Value)} {oc9 kV9 dc9 pm9 cd9 ct9 : Value}
    {f10 : Addr} {od10 an10 : Option Addr} {sl10 : Array (Option Value)} {oc10 kV10 dc10 pm10 cd10 ct10 : Value}
    {f11 : Addr} {od11 an11 : Option Addr} {sl11 : Array (Option Value)} {oc11 kV11 dc11 pm11 cd11 ct11 : Value}
    {f12 : Addr} {od12 an12 : Option Addr} {sl12 : Array (Option Value)} {oc12 kV12 dc12 pm12 cd12 ct12 : Value}
    {f13 : Addr} {od13 an13 : Option Addr} {sl13 : Array (Option Value)} {oc13 kV13 dc13 pm13 cd13 ct13 : Value}
    {f14 : Addr} {od14 an14 : Option Addr} {sl14 : Array (Option Value)} {oc14 kV14 dc14 pm14 cd14 ct14 : Value}
    {f15 : Addr} {od15 an15 : Option Addr} {sl15 : Array (Option Value)} {oc15 kV15 dc15 pm15 cd15 ct15 : Value}
    {f16 : Addr} {od16 an16 : Option Addr} {sl16 : Array (Option Value)} {oc16 kV16 dc16 pm16 cd16 ct16 : Value}
    {f17 : Addr} {od17 an17 : Option Addr} {sl17 : Array (Option Value)} {oc17 kV17 dc17 pm17 cd17 ct17 : Value}
    {f18 : Addr} {od18 an18 : Option Addr} {sl18 : Array (Option Value)} {oc18 kV18 dc18 pm18 cd18 ct18 : Value}
    {f19 : Addr} {od19 an19 : Option Addr} {sl19 : Array (Option Value)} {oc19 kV19 dc19 pm19 cd19 ct19 : Value}
    {f20 : Addr} {od20 an20 : Option Addr} {sl20 : Array (Option Value)} {oc20 kV20 dc20 pm20 cd20 ct20 : Value}
    {f21 : Addr} {od21 an21 : Option Addr} {sl21 : Array (Option Value)} {oc21 kV21 dc21 pm21 cd21 ct21 : Value}
    {f22 : Addr} {od22 an22 : Option Addr} {sl22 : Array (Option Value)} {oc22 kV22 dc22 pm22 cd22 ct22 : Value}
    {f23 : Addr} {od23 an23 : Option Addr} {sl23 : Array (Option Value)} {oc23 kV23 dc23 pm23 cd23 ct23 : Value}
    {f24 : Addr} {od24 an24 : Option Addr} {sl24 : Array (Option Value)} {oc24 kV24 dc24 pm24 cd24 ct24 : Value}
    {f25 : Addr} {od25 an25 : Option Addr} {sl25 : Array (Option Value)} {oc25 kV25 dc25 pm25 cd25 ct25 : Value}
    {f26 : Addr} {od26 an26 : Option Addr} {sl26 : Array (Option Value)} {oc26 kV26 dc26 pm26 cd26 ct26 : Value}
    {f27 : Addr} {od27 an27 : Option Addr} {sl27 : Array (Option Value)} {oc27 kV27 dc27 pm27 cd27 ct27 : Value}
    {f28 : Addr} {od28 an28 : Option Addr} {sl28 : Array (Option Value)} {oc28 kV28 dc28 pm28 cd28 ct28 : Value}
    {f29 : Addr} {od29 an29 : Option Addr} {sl29 : Array (Option Value)} {oc29 kV29 dc29 pm29 cd29 ct29 : Value}
    {f30 : Addr} {od30 an30 : Option Addr} {sl30 : Array (Option Value)} {oc30 kV30 dc30 pm30 cd30 ct30 : Value}
    {f31 : Addr} {od31 an31 : Option Addr} {sl31 : Array (Option Value)} {oc31 kV31 dc31 pm31 cd31 ct31 : Value}
    {f32 : Addr} {od32 an32 : Option Addr} {sl32 : Array (Option Value)} {oc32 kV32 dc32 pm32 cd32 ct32 : Value}
    {f33 : Addr} {od33 an33 : Option Addr} {sl33 : Array (Option Value)} {oc33 kV33 dc33 pm33 cd33 ct33 : Value}
    {f34 : Addr} {od34 an34 : Option Addr} {sl34 : Array (Option Value)} {oc34 kV34 dc34 pm34 cd34 ct34 : Value}
    {f35 : Addr} {od35 an35 : Option Addr} {sl35 : Array (Option Value)} {oc35 kV35 dc35 pm35 cd35 ct35 : Value}
    {f36 : Addr} {od36 an36 : Option Addr} {sl36 : Array (Option Value)} {oc36 kV36 dc36 pm36 cd36 ct36 : Value}
    {f37 : Addr} {od37 an37 : Option Addr} {sl37 : Array (Option Value)} {oc37 kV37 dc37 pm37 cd37 ct37 : Value}
    {f38 : Addr} {od38 an38 : Option Addr} {sl38 : Array (Option Value)} {oc38 kV38 dc38 pm38 cd38 ct38 : Value}
    {f39 : Addr} {od39 an39 : Option Addr} {sl39 : Array (Option Value)} {oc39 kV39 dc39 pm39 cd39 ct39 : Value}
    {f40 : Addr} {od40 an40 : Option Addr} {sl40 : Array (Option Value)} {oc40 kV40 dc40 pm40 cd40 ct40 : Value}
    {u0 : Value}
    {u1 : Value}
    {u2 : Value}
    {u3 : Value}
    {u4 : Value}
    {u5 : Value}
    {u6 : Value}
    {u7 : Value}
    {ga : Addr} {dd0 : Option Addr} {its0 : Array Value} {nn0 : Nat} {tsl0 : Array (Option Value)}
    {ha : Addr}
    {es : Array DictEntry} {n : Nat}
    (cb0 : PySem.W.nsIn K mainGlobals "InvalidSum" = some (some (.ref CS)))
    (cb1 : PySem.W.nsIn K mainGlobals "InvalidValues" = some (some (.ref CV)))
    (bT : PySem.W.nsIn K mainGlobals "TalkError" = some (some (.ref D)))
    (iI : PySem.W.findIn K (.ref CS) "__init__" = some (some (.ref fI)))
    (li : K.lookup fI = some ⟨ocI, odI, .func (PySem.W.ksFn "__init__" "TalkError.__init__" (defArgs s_init) (defBody s_init) (defScope s_init) (.ref Td) dkI dcI pmI anI (.ref cdaI) ctI ccI), slI⟩)
    (ci : PySem.W.codeIn K (.ref cdaI) "TalkError.__init__" = true)
    (lT : K.lookup Td = some ⟨ocT, odT, .seq #[.none] nT, slT⟩)
    (lc : K.lookup ccI = some ⟨clC, cldC, .cell (some (.ref D)), cslC⟩)
    (lk : K.lookup cdaI = some ⟨clK, cldK, .fields vsK, cslK⟩)
    (lv : vsK[2]? = some (.str fileK tfK))
    (lf : ((P.main.file : Str) == fileK) = true)
    (lp : (P.main.scope.names.lookup ("super" : Str)).isSome = false)
    (cm : comB K D fI = true)
    (eb0 : errB K CS D fI = true)
    (eb1 : errB K CV D fI = true)
    (cbUUnfit : PySem.W.nsIn K mainGlobals "Unfit" = some (some (.ref CU)))
    (iIUnfit : PySem.W.findIn K (.ref CU) "__init__" = some (some (.ref fIUnfit)))
    (liUnfit : K.lookup fIUnfit = some ⟨ocUnfit, odUnfit, .func (PySem.W.ksFn "__init__" "Unfit.__init__" (defArgs s_initU) (defBody s_initU) (defScope s_initU) .none dkUnfit dcUnfit pmUnfit anUnfit (.ref cdaUnfit) ctUnfit ccUnfit), slUnfit⟩)
    (ciUnfit : PySem.W.codeIn K (.ref cdaUnfit) "Unfit.__init__" = true)
    (lcUnfit : K.lookup ccUnfit = some ⟨clCUnfit, cldCUnfit, .cell (some (.ref CU)), cslCUnfit⟩)
    (lkUnfit : K.lookup cdaUnfit = some ⟨clKUnfit, cldKUnfit, .fields vsKUnfit, cslKUnfit⟩)
    (lvUnfit : vsKUnfit[2]? = some (.str fileKUnfit tfKUnfit))
    (lfUnfit : ((P.main.file : Str) == fileKUnfit) = true)
    (ebUnfit : errB K CU D fIUnfit = true)
    (cmUnfit : comB K D fIUnfit = true)
    (cnUnfit : comB K CU fIUnfit = true)
    (sbUnfit : subB K CU fI = true)
    (xm0 : PySem.W.exmOne K (.ref CS) (.ref CS) = some true)
    (xm1 : PySem.W.exmOne K (.ref CV) (.ref CS) = some false)
    (xm2 : PySem.W.exmOne K (.ref CU) (.ref CS) = some false)
    (xm3 : PySem.W.exmOne K (.ref CV) (.ref CV) = some true)
    (xm4 : PySem.W.exmOne K (.ref CU) (.ref CV) = some false)
    (xm5 : PySem.W.exmOne K (.ref CU) (.ref CU) = some true)
    (a0 : PySem.W.nsIn K mainGlobals "_law_box" = some (some (.ref f0)))
    (l0 : K.lookup f0 = some ⟨oc0, od0, .func (PySem.W.fnOf "_law_box" "_law_box" (defArgs s__law_box) (defBody s__law_box) (defScope s__law_box) .none kV0 dc0 pm0 an0 cd0 ct0), sl0⟩)
    (c0 : PySem.W.codeIn K cd0 "_law_box" = true)
    (k0 : PySem.W.keepIn K (.ref f0) = true)
    (a1 : PySem.W.nsIn K mainGlobals "_law_take" = some (some (.ref f1)))
    (l1 : K.lookup f1 = some ⟨oc1, od1, .func (PySem.W.fnOf "_law_take" "_law_take" (defArgs s__law_take) (defBody s__law_take) (defScope s__law_take) .none kV1 dc1 pm1 an1 cd1 ct1), sl1⟩)
    (c1 : PySem.W.codeIn K cd1 "_law_take" = true)
    (k1 : PySem.W.keepIn K (.ref f1) = true)
    (a2 : PySem.W.nsIn K mainGlobals "_law_cell" = some (some (.ref f2)))
    (l2 : K.lookup f2 = some ⟨oc2, od2, .func (PySem.W.fnOf "_law_cell" "_law_cell" (defArgs s__law_cell) (defBody s__law_cell) (defScope s__law_cell) .none kV2 dc2 pm2 an2 cd2 ct2), sl2⟩)
    (c2 : PySem.W.codeIn K cd2 "_law_cell" = true)
    (k2 : PySem.W.keepIn K (.ref f2) = true)
    (a3 : PySem.W.nsIn K mainGlobals "_law_mixed" = some (some (.ref f3)))
    (l3 : K.lookup f3 = some ⟨oc3, od3, .func (PySem.W.fnOf "_law_mixed" "_law_mixed" (defArgs s__law_mixed) (defBody s__law_mixed) (defScope s__law_mixed) .none kV3 dc3 pm3 an3 cd3 ct3), sl3⟩)
    (c3 : PySem.W.codeIn K cd3 "_law_mixed" = true)
    (k3 : PySem.W.keepIn K (.ref f3) = true)
    (a4 : PySem.W.nsIn K mainGlobals "_law_same" = some (some (.ref f4)))
    (l4 : K.lookup f4 = some ⟨oc4, od4, .func (PySem.W.fnOf "_law_same" "_law_same" (defArgs s__law_same) (defBody s__law_same) (defScope s__law_same) .none kV4 dc4 pm4 an4 cd4 ct4), sl4⟩)
    (c4 : PySem.W.codeIn K cd4 "_law_same" = true)
    (k4 : PySem.W.keepIn K (.ref f4) = true)
    (a5 : PySem.W.nsIn K mainGlobals "_law_copy" = some (some (.ref f5)))
    (l5 : K.lookup f5 = some ⟨oc5, od5, .func (PySem.W.fnOf "_law_copy" "_law_copy" (defArgs s__law_copy) (defBody s__law_copy) (defScope s__law_copy) .none kV5 dc5 pm5 an5 cd5 ct5), sl5⟩)
    (c5 : PySem.W.codeIn K cd5 "_law_copy" = true)
    (k5 : PySem.W.keepIn K (.ref f5) = true)
    (a6 : PySem.W.nsIn K mainGlobals "_law_blamed" = some (some (.ref f6)))
    (l6 : K.lookup f6 = some ⟨oc6, od6, .func (PySem.W.fnOf "_law_blamed" "_law_blamed" (defArgs s__law_blamed) (defBody s__law_blamed) (defScope s__law_blamed) .none kV6 dc6 pm6 an6 cd6 ct6), sl6⟩)
    (c6 : PySem.W.codeIn K cd6 "_law_blamed" = true)
    (k6 : PySem.W.keepIn K (.ref f6) = true)
    (a7 : PySem.W.nsIn K mainGlobals "is_letters" = some (some (.ref f7)))
    (l7 : K.lookup f7 = some ⟨oc7, od7, .func (PySem.W.fnOf "is_letters" "is_letters" (defArgs s_is_letters) (defBody s_is_letters) (defScope s_is_letters) .none kV7 dc7 pm7 an7 cd7 ct7), sl7⟩)
    (c7 : PySem.W.codeIn K cd7 "is_letters" = true)
    (k7 : PySem.W.keepIn K (.ref f7) = true)
    (a8 : PySem.W.nsIn K mainGlobals "is_name" = some (some (.ref f8)))
    (l8 : K.lookup f8 = some ⟨oc8, od8, .func (PySem.W.fnOf "is_name" "is_name" (defArgs s_is_name) (defBody s_is_name) (defScope s_is_name) .none kV8 dc8 pm8 an8 cd8 ct8), sl8⟩)
    (c8 : PySem.W.codeIn K cd8 "is_name" = true)
    (k8 : PySem.W.keepIn K (.ref f8) = true)
    (a9 : PySem.W.nsIn K mainGlobals "_law_grammar" = some (some (.ref f9)))
    (l9 : K.lookup f9 = some ⟨oc9, od9, .func (PySem.W.fnOf "_law_grammar" "_law_grammar" (defArgs s__law_grammar) (defBody s__law_grammar) (defScope s__law_grammar) .none kV9 dc9 pm9 an9 cd9 ct9), sl9⟩)
    (c9 : PySem.W.codeIn K cd9 "_law_grammar" = true)
    (k9 : PySem.W.keepIn K (.ref f9) = true)
    (a10 : PySem.W.nsIn K mainGlobals "_law_is_name" = some (some (.ref f10)))
    (l10 : K.lookup f10 = some ⟨oc10, od10, .func (PySem.W.fnOf "_law_is_name" "_law_is_name" (defArgs s__law_is_name) (defBody s__law_is_name) (defScope s__law_is_name) .none kV10 dc10 pm10 an10 cd10 ct10), sl10⟩)
    (c10 : PySem.W.codeIn K cd10 "_law_is_name" = true)
    (k10 : PySem.W.keepIn K (.ref f10) = true)
    (a11 : PySem.W.nsIn K mainGlobals "is_integer" = some (some (.ref f11)))
    (l11 : K.lookup f11 = some ⟨oc11, od11, .func (PySem.W.fnOf "is_integer" "is_integer" (defArgs s_is_integer) (defBody s_is_integer) (defScope s_is_integer) .none kV11 dc11 pm11 an11 cd11 ct11), sl11⟩)
    (c11 : PySem.W.codeIn K cd11 "is_integer" = true)
    (k11 : PySem.W.keepIn K (.ref f11) = true)
    (a12 : PySem.W.nsIn K mainGlobals "_law_whole" = some (some (.ref f12)))
    (l12 : K.lookup f12 = some ⟨oc12, od12, .func (PySem.W.fnOf "_law_whole" "_law_whole" (defArgs s__law_whole) (defBody s__law_whole) (defScope s__law_whole) .none kV12 dc12 pm12 an12 cd12 ct12), sl12⟩)
    (c12 : PySem.W.codeIn K cd12 "_law_whole" = true)
    (k12 : PySem.W.keepIn K (.ref f12) = true)
    (a13 : PySem.W.nsIn K mainGlobals "is_truth" = some (some (.ref f13)))
    (l13 : K.lookup f13 = some ⟨oc13, od13, .func (PySem.W.fnOf "is_truth" "is_truth" (defArgs s_is_truth) (defBody s_is_truth) (defScope s_is_truth) .none kV13 dc13 pm13 an13 cd13 ct13), sl13⟩)
    (c13 : PySem.W.codeIn K cd13 "is_truth" = true)
    (k13 : PySem.W.keepIn K (.ref f13) = true)
    (a14 : PySem.W.nsIn K mainGlobals "is_within" = some (some (.ref f14)))
    (l14 : K.lookup f14 = some ⟨oc14, od14, .func (PySem.W.fnOf "is_within" "is_within" (defArgs s_is_within) (defBody s_is_within) (defScope s_is_within) .none kV14 dc14 pm14 an14 cd14 ct14), sl14⟩)
    (c14 : PySem.W.codeIn K cd14 "is_within" = true)
    (k14 : PySem.W.keepIn K (.ref f14) = true)
    (a15 : PySem.W.nsIn K mainGlobals "is_plain" = some (some (.ref f15)))
    (l15 : K.lookup f15 = some ⟨oc15, od15, .func (PySem.W.fnOf "is_plain" "is_plain" (defArgs s_is_plain) (defBody s_is_plain) (defScope s_is_plain) .none kV15 dc15 pm15 an15 cd15 ct15), sl15⟩)
    (c15 : PySem.W.codeIn K cd15 "is_plain" = true)
    (k15 : PySem.W.keepIn K (.ref f15) = true)
    (a16 : PySem.W.nsIn K mainGlobals "size_of" = some (some (.ref f16)))
    (l16 : K.lookup f16 = some ⟨oc16, od16, .func (PySem.W.fnOf "size_of" "size_of" (defArgs s_size_of) (defBody s_size_of) (defScope s_size_of) .none kV16 dc16 pm16 an16 cd16 ct16), sl16⟩)
    (c16 : PySem.W.codeIn K cd16 "size_of" = true)
    (k16 : PySem.W.keepIn K (.ref f16) = true)
    (a17 : PySem.W.nsIn K mainGlobals "is_sum" = some (some (.ref f17)))
    (l17 : K.lookup f17 = some ⟨oc17, od17, .func (PySem.W.fnOf "is_sum" "is_sum" (defArgs s_is_sum) (defBody s_is_sum) (defScope s_is_sum) .none kV17 dc17 pm17 an17 cd17 ct17), sl17⟩)
    (c17 : PySem.W.codeIn K cd17 "is_sum" = true)
    (k17 : PySem.W.keepIn K (.ref f17) = true)
    (a18 : PySem.W.nsIn K mainGlobals "check_sum" = some (some (.ref f18)))
    (l18 : K.lookup f18 = some ⟨oc18, od18, .func (PySem.W.fnOf "check_sum" "check_sum" (defArgs s_check_sum) (defBody s_check_sum) (defScope s_check_sum) .none kV18 dc18 pm18 an18 cd18 ct18), sl18⟩)
    (c18 : PySem.W.codeIn K cd18 "check_sum" = true)
    (k18 : PySem.W.keepIn K (.ref f18) = true)
    (a19 : PySem.W.nsIn K mainGlobals "kind_in" = some (some (.ref f19)))
    (l19 : K.lookup f19 = some ⟨oc19, od19, .func (PySem.W.fnOf "kind_in" "kind_in" (defArgs s_kind_in) (defBody s_kind_in) (defScope s_kind_in) .none kV19 dc19 pm19 an19 cd19 ct19), sl19⟩)
    (c19 : PySem.W.codeIn K cd19 "kind_in" = true)
    (k19 : PySem.W.keepIn K (.ref f19) = true)
    (a20 : PySem.W.nsIn K mainGlobals "kept_in" = some (some (.ref f20)))
    (l20 : K.lookup f20 = some ⟨oc20, od20, .func (PySem.W.fnOf "kept_in" "kept_in" (defArgs s_kept_in) (defBody s_kept_in) (defScope s_kept_in) .none kV20 dc20 pm20 an20 cd20 ct20), sl20⟩)
    (c20 : PySem.W.codeIn K cd20 "kept_in" = true)
    (k20 : PySem.W.keepIn K (.ref f20) = true)
    (a21 : PySem.W.nsIn K mainGlobals "joined" = some (some (.ref f21)))
    (l21 : K.lookup f21 = some ⟨oc21, od21, .func (PySem.W.fnOf "joined" "joined" (defArgs s_joined) (defBody s_joined) (defScope s_joined) .none kV21 dc21 pm21 an21 cd21 ct21), sl21⟩)
    (c21 : PySem.W.codeIn K cd21 "joined" = true)
    (k21 : PySem.W.keepIn K (.ref f21) = true)
    (a22 : PySem.W.nsIn K mainGlobals "made_by" = some (some (.ref f22)))
    (l22 : K.lookup f22 = some ⟨oc22, od22, .func (PySem.W.fnOf "made_by" "made_by" (defArgs s_made_by) (defBody s_made_by) (defScope s_made_by) .none kV22 dc22 pm22 an22 cd22 ct22), sl22⟩)
    (c22 : PySem.W.codeIn K cd22 "made_by" = true)
    (k22 : PySem.W.keepIn K (.ref f22) = true)
    (a23 : PySem.W.nsIn K mainGlobals "is_values" = some (some (.ref f23)))
    (l23 : K.lookup f23 = some ⟨oc23, od23, .func (PySem.W.fnOf "is_values" "is_values" (defArgs s_is_values) (defBody s_is_values) (defScope s_is_values) .none kV23 dc23 pm23 an23 cd23 ct23), sl23⟩)
    (c23 : PySem.W.codeIn K cd23 "is_values" = true)
    (k23 : PySem.W.keepIn K (.ref f23) = true)
    (a24 : PySem.W.nsIn K mainGlobals "kinds_of_values" = some (some (.ref f24)))
    (l24 : K.lookup f24 = some ⟨oc24, od24, .func (PySem.W.fnOf "kinds_of_values" "kinds_of_values" (defArgs s_kinds_of_values) (defBody s_kinds_of_values) (defScope s_kinds_of_values) .none kV24 dc24 pm24 an24 cd24 ct24), sl24⟩)
    (c24 : PySem.W.codeIn K cd24 "kinds_of_values" = true)
    (k24 : PySem.W.keepIn K (.ref f24) = true)
    (a25 : PySem.W.nsIn K mainGlobals "value_of" = some (some (.ref f25)))
    (l25 : K.lookup f25 = some ⟨oc25, od25, .func (PySem.W.fnOf "value_of" "value_of" (defArgs s_value_of) (defBody s_value_of) (defScope s_value_of) .none kV25 dc25 pm25 an25 cd25 ct25), sl25⟩)
    (c25 : PySem.W.codeIn K cd25 "value_of" = true)
    (k25 : PySem.W.keepIn K (.ref f25) = true)
    (a26 : PySem.W.nsIn K mainGlobals "_law_heads" = some (some (.ref f26)))
    (l26 : K.lookup f26 = some ⟨oc26, od26, .func (PySem.W.fnOf "_law_heads" "_law_heads" (defArgs s__law_heads) (defBody s__law_heads) (defScope s__law_heads) .none kV26 dc26 pm26 an26 cd26 ct26), sl26⟩)
    (c26 : PySem.W.codeIn K cd26 "_law_heads" = true)
    (k26 : PySem.W.keepIn K (.ref f26) = true)
    (a27 : PySem.W.nsIn K mainGlobals "_law_is_sum" = some (some (.ref f27)))
    (l27 : K.lookup f27 = some ⟨oc27, od27, .func (PySem.W.fnOf "_law_is_sum" "_law_is_sum" (defArgs s__law_is_sum) (defBody s__law_is_sum) (defScope s__law_is_sum) .none kV27 dc27 pm27 an27 cd27 ct27), sl27⟩)
    (c27 : PySem.W.codeIn K cd27 "_law_is_sum" = true)
    (k27 : PySem.W.keepIn K (.ref f27) = true)
    (a28 : PySem.W.nsIn K mainGlobals "_law_kind" = some (some (.ref f28)))
    (l28 : K.lookup f28 = some ⟨oc28, od28, .func (PySem.W.fnOf "_law_kind" "_law_kind" (defArgs s__law_kind) (defBody s__law_kind) (defScope s__law_kind) .none kV28 dc28 pm28 an28 cd28 ct28), sl28⟩)
    (c28 : PySem.W.codeIn K cd28 "_law_kind" = true)
    (k28 : PySem.W.keepIn K (.ref f28) = true)
    (a29 : PySem.W.nsIn K mainGlobals "_law_wild" = some (some (.ref f29)))
    (l29 : K.lookup f29 = some ⟨oc29, od29, .func (PySem.W.fnOf "_law_wild" "_law_wild" (defArgs s__law_wild) (defBody s__law_wild) (defScope s__law_wild) .none kV29 dc29 pm29 an29 cd29 ct29), sl29⟩)
    (c29 : PySem.W.codeIn K cd29 "_law_wild" = true)
    (k29 : PySem.W.keepIn K (.ref f29) = true)
    (a30 : PySem.W.nsIn K mainGlobals "_law_sum" = some (some (.ref f30)))
    (l30 : K.lookup f30 = some ⟨oc30, od30, .func (PySem.W.fnOf "_law_sum" "_law_sum" (defArgs s__law_sum) (defBody s__law_sum) (defScope s__law_sum) .none kV30 dc30 pm30 an30 cd30 ct30), sl30⟩)
    (c30 : PySem.W.codeIn K cd30 "_law_sum" = true)
    (k30 : PySem.W.keepIn K (.ref f30) = true)
    (a31 : PySem.W.nsIn K mainGlobals "_law_near_sums" = some (some (.ref f31)))
    (l31 : K.lookup f31 = some ⟨oc31, od31, .func (PySem.W.fnOf "_law_near_sums" "_law_near_sums" (defArgs s__law_near_sums) (defBody s__law_near_sums) (defScope s__law_near_sums) .none kV31 dc31 pm31 an31 cd31 ct31), sl31⟩)
    (c31 : PySem.W.codeIn K cd31 "_law_near_sums" = true)
    (k31 : PySem.W.keepIn K (.ref f31) = true)
    (a32 : PySem.W.nsIn K mainGlobals "_law_asked" = some (some (.ref f32)))
    (l32 : K.lookup f32 = some ⟨oc32, od32, .func (PySem.W.fnOf "_law_asked" "_law_asked" (defArgs s__law_asked) (defBody s__law_asked) (defScope s__law_asked) .none kV32 dc32 pm32 an32 cd32 ct32), sl32⟩)
    (c32 : PySem.W.codeIn K cd32 "_law_asked" = true)
    (k32 : PySem.W.keepIn K (.ref f32) = true)
    (a33 : PySem.W.nsIn K mainGlobals "_law_into" = some (some (.ref f33)))
    (l33 : K.lookup f33 = some ⟨oc33, od33, .func (PySem.W.fnOf "_law_into" "_law_into" (defArgs s__law_into) (defBody s__law_into) (defScope s__law_into) .none kV33 dc33 pm33 an33 cd33 ct33), sl33⟩)
    (c33 : PySem.W.codeIn K cd33 "_law_into" = true)
    (k33 : PySem.W.keepIn K (.ref f33) = true)
    (a34 : PySem.W.nsIn K mainGlobals "_law_quotient" = some (some (.ref f34)))
    (l34 : K.lookup f34 = some ⟨oc34, od34, .func (PySem.W.fnOf "_law_quotient" "_law_quotient" (defArgs s__law_quotient) (defBody s__law_quotient) (defScope s__law_quotient) .none kV34 dc34 pm34 an34 cd34 ct34), sl34⟩)
    (c34 : PySem.W.codeIn K cd34 "_law_quotient" = true)
    (k34 : PySem.W.keepIn K (.ref f34) = true)
    (a35 : PySem.W.nsIn K mainGlobals "_law_makes" = some (some (.ref f35)))
    (l35 : K.lookup f35 = some ⟨oc35, od35, .func (PySem.W.fnOf "_law_makes" "_law_makes" (defArgs s__law_makes) (defBody s__law_makes) (defScope s__law_makes) .none kV35 dc35 pm35 an35 cd35 ct35), sl35⟩)
    (c35 : PySem.W.codeIn K cd35 "_law_makes" = true)
    (k35 : PySem.W.keepIn K (.ref f35) = true)
    (a36 : PySem.W.nsIn K mainGlobals "_law_drawn_values" = some (some (.ref f36)))
    (l36 : K.lookup f36 = some ⟨oc36, od36, .func (PySem.W.fnOf "_law_drawn_values" "_law_drawn_values" (defArgs s__law_drawn_values) (defBody s__law_drawn_values) (defScope s__law_drawn_values) .none kV36 dc36 pm36 an36 cd36 ct36), sl36⟩)
    (c36 : PySem.W.codeIn K cd36 "_law_drawn_values" = true)
    (k36 : PySem.W.keepIn K (.ref f36) = true)
    (a37 : PySem.W.nsIn K mainGlobals "_law_term_right" = some (some (.ref f37)))
    (l37 : K.lookup f37 = some ⟨oc37, od37, .func (PySem.W.fnOf "_law_term_right" "_law_term_right" (defArgs s__law_term_right) (defBody s__law_term_right) (defScope s__law_term_right) .none kV37 dc37 pm37 an37 cd37 ct37), sl37⟩)
    (c37 : PySem.W.codeIn K cd37 "_law_term_right" = true)
    (k37 : PySem.W.keepIn K (.ref f37) = true)
    (a38 : PySem.W.nsIn K mainGlobals "_law_refused_right" = some (some (.ref f38)))
    (l38 : K.lookup f38 = some ⟨oc38, od38, .func (PySem.W.fnOf "_law_refused_right" "_law_refused_right" (defArgs s__law_refused_right) (defBody s__law_refused_right) (defScope s__law_refused_right) .none kV38 dc38 pm38 an38 cd38 ct38), sl38⟩)
    (c38 : PySem.W.codeIn K cd38 "_law_refused_right" = true)
    (k38 : PySem.W.keepIn K (.ref f38) = true)
    (a39 : PySem.W.nsIn K mainGlobals "_law_divided_right" = some (some (.ref f39)))
    (l39 : K.lookup f39 = some ⟨oc39, od39, .func (PySem.W.fnOf "_law_divided_right" "_law_divided_right" (defArgs s__law_divided_right) (defBody s__law_divided_right) (defScope s__law_divided_right) .none kV39 dc39 pm39 an39 cd39 ct39), sl39⟩)
    (c39 : PySem.W.codeIn K cd39 "_law_divided_right" = true)
    (k39 : PySem.W.keepIn K (.ref f39) = true)
    (a40 : PySem.W.nsIn K mainGlobals "law" = some (some (.ref f40)))
    (l40 : K.lookup f40 = some ⟨oc40, od40, .func (PySem.W.fnOf "law" "law" (defArgs s_law) (defBody s_law) (defScope s_law) .none kV40 dc40 pm40 an40 cd40 ct40), sl40⟩)
    (c40 : PySem.W.codeIn K cd40 "law" = true)
    (k40 : PySem.W.keepIn K (.ref f40) = true)
    (b0 : PySem.W.nsIn K mainGlobals "LETTERS" = some (some u0))
    (r0 : RelV (.str letters) u0)
    (b1 : PySem.W.nsIn K mainGlobals "MOST_NAME" = some (some u1))
    (r1 : RelV (.int 8) u1)
    (b2 : PySem.W.nsIn K mainGlobals "LOW" = some (some u2))
    (r2 : RelV (.int (-1000)) u2)
    (b3 : PySem.W.nsIn K mainGlobals "HIGH" = some (some u3))
    (r3 : RelV (.int 1000) u3)
    (b4 : PySem.W.nsIn K mainGlobals "INTEGER" = some (some u4))
    (r4 : RelV (.str "integer") u4)
    (b5 : PySem.W.nsIn K mainGlobals "TRUTH" = some (some u5))
    (r5 : RelV (.str "truth") u5)
    (b6 : PySem.W.nsIn K mainGlobals "NOT" = some (some u6))
    (r6 : RelV (.str "not") u6)
    (b7 : PySem.W.nsIn K mainGlobals "MOST_PARTS" = some (some u7))
    (r7 : RelV (.int 40) u7)
    (t0 : PySem.W.nsIn K mainGlobals "GRAMMAR" = some (some (.ref ga)))
    (tl0 : K.lookup ga = some ⟨.type "tuple", dd0, .seq its0 nn0, tsl0⟩)
    (th0 : its0.size ≤ 100000)
    (tv0 : Vals (gram.map V.str) its0.toList)
    (tH : PySem.W.nsIn K mainGlobals "HEADS" = some (some (.ref ha)))
    (lH : K.lookup ha = some ⟨.type "dict", none, .dict es n, #[]⟩)
    (liH : PySem.W.KeysLit w.params es.toList)
    (loH : (ha == sysModules) = false)
    (kB : keyB es = true)
    (rB : heads.all (rowB K ha) = true)
    (zset : PySem.W.nsIn K mainGlobals "set" = some none)
    (zsorted : PySem.W.nsIn K mainGlobals "sorted" = some none)
    (z0 : PySem.W.nsIn K mainGlobals "isinstance" = some none)
    (z1 : PySem.W.nsIn K mainGlobals "str" = some none)
    (z2 : PySem.W.nsIn K mainGlobals "bool" = some none)
    (z3 : PySem.W.nsIn K mainGlobals "int" = some none)
    (z4 : PySem.W.nsIn K mainGlobals "list" = some none)
    (z5 : PySem.W.nsIn K mainGlobals "tuple" = some none)
    (z6 : PySem.W.nsIn K mainGlobals "dict" = some none)
    (z7 : PySem.W.nsIn K mainGlobals "len" = some none)
    (z8 : PySem.W.nsIn K mainGlobals "all" = some none)
    (z9 : PySem.W.nsIn K mainGlobals "abs" = some none)
    (z10 : PySem.W.nsIn K mainGlobals "sum" = some none)
    (z11 : PySem.W.nsIn K mainGlobals "max" = some none)
    (z12 : PySem.W.nsIn K mainGlobals "min" = some none)
    (z13 : PySem.W.nsIn K mainGlobals "range" = some none)
    (zsup : PySem.W.nsIn K mainGlobals "super" = some none)
    : ∃ fd : FuncData, (∀ (s : Shared) (v : Value), BindsTo s fd ⟨[v], []⟩ [("script", v)]) ∧ ∀ base : Heap, K.In base → base.Ns mainGlobals mg → FnOk P w K mg base CX0 53 fa fd ["script"] (spC (cLaw K)) := by
  have e_InvalidSum : ErrF K CS D fI := errB_ok eb0 cm
  have e_InvalidValues : ErrF K CV D fI := errB_ok eb1 cm
  have e_Unfit : ErrF K CU D fIUnfit := errB_ok ebUnfit cmUnfit
  have T1 : Txt K mg := ⟨PySem.W.mg_none_of X G z0, PySem.W.mg_none_of X G z1, PySem.W.mg_none_of X G z2, PySem.W.mg_none_of X G z3, PySem.W.mg_none_of X G z4, PySem.W.mg_none_of X G z5, PySem.W.mg_none_of X G z6, PySem.W.mg_none_of X G z7, PySem.W.mg_none_of X G z8, PySem.W.mg_none_of X G z9, PySem.W.mg_none_of X G z10, PySem.W.mg_none_of X G z11, PySem.W.mg_none_of X G z12, PySem.W.mg_none_of X G z13⟩
  have kd : KDict K w ha es n := ⟨lH, liH, loH⟩
  have T : Txt5 K mg w ga ha es n CS CV CU D := ⟨⟨⟨⟨T1, gl_mk X G b0 r0, gl_mk X G b1 r1, ⟨_, PySem.W.mg_of X G t0, rfl⟩, tup_at tl0 th0 tv0⟩, PySem.W.mg_none_of X G zset, PySem.W.mg_none_of X G zsorted, gl_mk X G b2 r2, gl_mk X G b3 r3, gl_mk X G b4 r4, gl_mk X G b5 r5, gl_mk X G b6 r6, gl_mk X G b7 r7, ⟨_, PySem.W.mg_of X G tH, rfl⟩, kd, hin_ok kd kB⟩, fun h m => rowB_ok kd (List.all_eq_true.mp rB h m)⟩, ⟨_, PySem.W.mg_of X G bT, rfl⟩, PySem.W.mg_of X G cb0, PySem.W.mg_of X G cb1, PySem.W.mg_of X G cbUUnfit, e_InvalidSum.xf, e_InvalidValues.xf, e_InvalidSum.sup.no, e_InvalidValues.sup.no, e_InvalidSum.ex, e_InvalidValues.ex, e_Unfit.ex, e_InvalidSum.kit, e_InvalidValues.kit, e_Unfit.kit, xm0, xm1, xm2, xm3, xm4, xm5⟩
  have sd : SupD K mg P D ccI cdaI := supD_mk cm lc lk lv lf (PySem.W.mg_none_of X G zsup) lp
  have sdUnfit : SupD K mg P CU ccUnfit cdaUnfit := supD_mk cnUnfit lcUnfit lkUnfit lvUnfit lfUnfit (PySem.W.mg_none_of X G zsup) lp
  exact law_fn T e_InvalidSum e_InvalidValues (fun base => ⟨_, ok_init li ci sd, bi_init lT⟩) e_Unfit (subB_ok sbUnfit e_Unfit.sup.oex).1 (fun base => ⟨_, ok_initU liUnfit ciUnfit sdUnfit (ok_init li ci sd) (bi_init1 lT) (subB_ok sbUnfit e_Unfit.sup.oex).2 e_InvalidSum.tI, bi_initU⟩) (df_mk X G a0 l0 c0 k0) (df_mk X G a1 l1 c1 k1) (df_mk X G a2 l2 c2 k2) (df_mk X G a3 l3 c3 k3) (df_mk X G a4 l4 c4 k4) (df_mk X G a5 l5 c5 k5) (df_mk X G a6 l6 c6 k6) (df_mk X G a7 l7 c7 k7) (df_mk X G a8 l8 c8 k8) (df_mk X G a9 l9 c9 k9) (df_mk X G a10 l10 c10 k10) (df_mk X G a11 l11 c11 k11) (df_mk X G a12 l12 c12 k12) (df_mk X G a13 l13 c13 k13) (df_mk X G a14 l14 c14 k14) (df_mk X G a15 l15 c15 k15) (df_mk X G a16 l16 c16 k16) (df_mk X G a17 l17 c17 k17) (df_mk X G a18 l18 c18 k18) (df_mk X G a19 l19 c19 k19) (df_mk X G a20 l20 c20 k20) (df_mk X G a21 l21 c21 k21) (df_mk X G a22 l22 c22 k22) (df_mk X G a23 l23 c23 k23) (df_mk X G a24 l24 c24 k24) (df_mk X G a25 l25 c25 k25) (df_mk X G a26 l26 c26 k26) (df_mk X G a27 l27 c27 k27) (df_mk X G a28 l28 c28 k28) (df_mk X G a29 l29 c29 k29) (df_mk X G a30 l30 c30 k30) (df_mk X G a31 l31 c31 k31) (df_mk X G a32 l32 c32 k32) (df_mk X G a33 l33 c33 k33) (df_mk X G a34 l34 c34 k34) (df_mk X G a35 l35 c35 k35) (df_mk X G a36 l36 c36 k36) (df_mk X G a37 l37 c37 k37) (df_mk X G a38 l38 c38 k38) (df_mk X G a39 l39 c39 k39) (df_mk X G a40 l40 c40 k40) hfa
theorem walk {l : PySem.W.OpenLaw} {q : Program} {loose : List Str} {XP : (Str → Option Value) → Heap → Prop} {YP : World → Heap → Prop} {d : DefRec} {K : Params → PySem.W.Frag} (hn : l.most = some 63) (hdf : d.params.defaults = [])
    (hY : ∀ (w : World) (h : Heap), YP w h → (K w.params).In h)
    (F : ∀ (w : World) (mg : Str → Option Value) (fa : Addr) (h : Heap), (K w.params).In h → h.Ns mainGlobals mg → mg d.name = some (.ref fa) →
      ∃ fd : FuncData, (∀ (s : Shared) (u : Value), BindsTo s fd ⟨[u], []⟩ [("script", u)]) ∧ ∀ base : Heap, (K w.params).In base → base.Ns mainGlobals mg → FnOk l.prog w (K w.params) mg base CX0 53 fa fd ["script"] (spC (cLaw (K w.params)))) :
    PySem.W.WalkO q loose XP YP l.row.toRowW d [] (fun f vs => PySem.call f vs) :=
  L2.walk_of (n := 63) (k := 53) (x := "script") (CX := fun _ => CX0) (sp := fun w => spC (cLaw (K w.params))) hn (by decide) hdf ⟨rfl, by decide, by decide⟩ hY F
    (fun _ H a ns hl _ hS => ⟨none, H, _, ⟨Ex.refl H, fun _ z => nomatch z⟩, ⟨rfl, a, ns, rfl, hS, by first | rfl | exact ⟨hl, rfl⟩⟩, fun v G2 H2 _ w2 => w2.eq⟩) fun _ _ _ _ _ z => z
end K14
open PySem PySem.W PyProof.Rows
set_option maxRecDepth 100000 in
set_option maxHeartbeats 0 in
theorem PySem.Challenge.cw_onetalk_k14_what_sums_make_holds : PySem.Challenge.rw_onetalk_k14_what_sums_make.Holds := by
  w_on; o_law; k_head; (case hw => w_witness2)
  k_fill
  refine K14.walk (l := PySem.Challenge.rw_onetalk_k14_what_sums_make) rfl rfl (fun w h Y => PySem.W.kIn_of Y) ?F
  case F =>
    intro w mg fa h KX G hmg
    refine' K14.all_mk KX G hmg ?cb0 ?cb1 ?bT ?iI ?li ?ci ?lT ?lc ?lk ?lv ?lf ?lp ?cm ?eb0 ?eb1 ?cbUUnfit ?iIUnfit ?liUnfit ?ciUnfit ?lcUnfit ?lkUnfit ?lvUnfit ?lfUnfit ?ebUnfit ?cmUnfit ?cnUnfit ?sbUnfit ?xm0 ?xm1 ?xm2 ?xm3 ?xm4 ?xm5 ?a0 ?l0 ?c0 ?k0 ?a1 ?l1 ?c1 ?k1 ?a2 ?l2 ?c2 ?k2 ?a3 ?l3 ?c3 ?k3 ?a4 ?l4 ?c4 ?k4 ?a5 ?l5 ?c5 ?k5 ?a6 ?l6 ?c6 ?k6 ?a7 ?l7 ?c7 ?k7 ?a8 ?l8 ?c8 ?k8 ?a9 ?l9 ?c9 ?k9 ?a10 ?l10 ?c10 ?k10 ?a11 ?l11 ?c11 ?k11 ?a12 ?l12 ?c12 ?k12 ?a13 ?l13 ?c13 ?k13 ?a14 ?l14 ?c14 ?k14 ?a15 ?l15 ?c15 ?k15 ?a16 ?l16 ?c16 ?k16 ?a17 ?l17 ?c17 ?k17 ?a18 ?l18 ?c18 ?k18 ?a19 ?l19 ?c19 ?k19 ?a20 ?l20 ?c20 ?k20 ?a21 ?l21 ?c21 ?k21 ?a22 ?l22 ?c22 ?k22 ?a23 ?l23 ?c23 ?k23 ?a24 ?l24 ?c24 ?k24 ?a25 ?l25 ?c25 ?k25 ?a26 ?l26 ?c26 ?k26 ?a27 ?l27 ?c27 ?k27 ?a28 ?l28 ?c28 ?k28 ?a29 ?l29 ?c29 ?k29 ?a30 ?l30 ?c30 ?k30 ?a31 ?l31 ?c31 ?k31 ?a32 ?l32 ?c32 ?k32 ?a33 ?l33 ?c33 ?k33 ?a34 ?l34 ?c34 ?k34 ?a35 ?l35 ?c35 ?k35 ?a36 ?l36 ?c36 ?k36 ?a37 ?l37 ?c37 ?k37 ?a38 ?l38 ?c38 ?k38 ?a39 ?l39 ?c39 ?k39 ?a40 ?l40 ?c40 ?k40 ?b0 ?r0 ?b1 ?r1 ?b2 ?r2 ?b3 ?r3 ?b4 ?r4 ?b5 ?r5 ?b6 ?r6 ?b7 ?r7 ?t0 ?tl0 ?th0 ?tv0 ?tH ?lH ?liH ?loH ?kB ?rB ?zset ?zsorted ?z0 ?z1 ?z2 ?z3 ?z4 ?z5 ?z6 ?z7 ?z8 ?z9 ?z10 ?z11 ?z12 ?z13 ?zsup
    (case cb0 => k_is)
    (case cb1 => k_is)
    (case bT => k_is)
    (case iI => k_is)
    (case li => k_is)
    (case ci => k_is)
    (case lT => k_is)
    (case lc => k_is)
    (case lk => k_is)
    (case lv => first | exact rfl | kernel_rfl)
    (case lf => first | exact rfl | kernel_rfl | decide +kernel)
    (case lp => first | exact rfl | kernel_rfl | decide +kernel)
    (case cm => kernel_rfl)
    (case eb0 => kernel_rfl)
    (case eb1 => kernel_rfl)
    (case cbUUnfit => k_is)
    (case iIUnfit => k_is)
    (case liUnfit => k_is)
    (case ciUnfit => k_is)
    (case lcUnfit => k_is)
    (case lkUnfit => k_is)
    (case lvUnfit => first | exact rfl | kernel_rfl)
    (case lfUnfit => first | exact rfl | kernel_rfl | decide +kernel)
    (case ebUnfit => kernel_rfl)
    (case cmUnfit => kernel_rfl)
    (case cnUnfit => kernel_rfl)
    (case sbUnfit => kernel_rfl)
    (case xm0 => kernel_rfl)
    (case xm1 => kernel_rfl)
    (case xm2 => kernel_rfl)
    (case xm3 => kernel_rfl)
    (case xm4 => kernel_rfl)
    (case xm5 => kernel_rfl)
    (case a0 => k_is)
    (case l0 => k_is)
    (case c0 => k_is)
    (case k0 => k_is)
    (case a1 => k_is)
    (case l1 => k_is)
    (case c1 => k_is)
    (case k1 => k_is)
    (case a2 => k_is)
    (case l2 => k_is)
    (case c2 => k_is)
    (case k2 => k_is)
    (case a3 => k_is)
    (case l3 => k_is)
    (case c3 => k_is)
    (case k3 => k_is)
    (case a4 => k_is)
    (case l4 => k_is)
    (case c4 => k_is)
    (case k4 => k_is)
    (case a5 => k_is)
    (case l5 => k_is)
    (case c5 => k_is)
    (case k5 => k_is)
    (case a6 => k_is)
    (case l6 => k_is)
    (case c6 => k_is)
    (case k6 => k_is)
    (case a7 => k_is)
    (case l7 => k_is)
    (case c7 => k_is)
    (case k7 => k_is)
    (case a8 => k_is)
    (case l8 => k_is)
    (case c8 => k_is)
    (case k8 => k_is)
    (case a9 => k_is)
    (case l9 => k_is)
    (case c9 => k_is)
    (case k9 => k_is)
    (case a10 => k_is)
    (case l10 => k_is)
    (case c10 => k_is)
    (case k10 => k_is)
    (case a11 => k_is)
    (case l11 => k_is)
    (case c11 => k_is)
    (case k11 => k_is)
    (case a12 => k_is)
    (case l12 => k_is)
    (case c12 => k_is)
    (case k12 => k_is)
    (case a13 => k_is)
    (case l13 => k_is)
    (case c13 => k_is)
    (case k13 => k_is)
    (case a14 => k_is)
    (case l14 => k_is)
    (case c14 => k_is)
    (case k14 => k_is)
    (case a15 => k_is)
    (case l15 => k_is)
    (case c15 => k_is)
    (case k15 => k_is)
    (case a16 => k_is)
    (case l16 => k_is)
    (case c16 => k_is)
    (case k16 => k_is)
    (case a17 => k_is)
    (case l17 => k_is)
    (case c17 => k_is)
    (case k17 => k_is)
    (case a18 => k_is)
    (case l18 => k_is)
    (case c18 => k_is)
    (case k18 => k_is)
    (case a19 => k_is)
    (case l19 => k_is)
    (case c19 => k_is)
    (case k19 => k_is)
    (case a20 => k_is)
    (case l20 => k_is)
    (case c20 => k_is)
    (case k20 => k_is)
    (case a21 => k_is)
    (case l21 => k_is)
    (case c21 => k_is)
    (case k21 => k_is)
    (case a22 => k_is)
    (case l22 => k_is)
    (case c22 => k_is)
    (case k22 => k_is)
    (case a23 => k_is)
    (case l23 => k_is)
    (case c23 => k_is)
    (case k23 => k_is)
    (case a24 => k_is)
    (case l24 => k_is)
    (case c24 => k_is)
    (case k24 => k_is)
    (case a25 => k_is)
    (case l25 => k_is)
    (case c25 => k_is)
    (case k25 => k_is)
    (case a26 => k_is)
    (case l26 => k_is)
    (case c26 => k_is)
    (case k26 => k_is)
    (case a27 => k_is)
    (case l27 => k_is)
    (case c27 => k_is)
    (case k27 => k_is)
    (case a28 => k_is)
    (case l28 => k_is)
    (case c28 => k_is)
    (case k28 => k_is)
    (case a29 => k_is)
    (case l29 => k_is)
    (case c29 => k_is)
    (case k29 => k_is)
    (case a30 => k_is)
    (case l30 => k_is)
    (case c30 => k_is)
    (case k30 => k_is)
    (case a31 => k_is)
    (case l31 => k_is)
    (case c31 => k_is)
    (case k31 => k_is)
    (case a32 => k_is)
    (case l32 => k_is)
    (case c32 => k_is)
    (case k32 => k_is)
    (case a33 => k_is)
    (case l33 => k_is)
    (case c33 => k_is)
    (case k33 => k_is)
    (case a34 => k_is)
    (case l34 => k_is)
    (case c34 => k_is)
    (case k34 => k_is)
    (case a35 => k_is)
    (case l35 => k_is)
    (case c35 => k_is)
    (case k35 => k_is)
    (case a36 => k_is)
    (case l36 => k_is)
    (case c36 => k_is)
    (case k36 => k_is)
    (case a37 => k_is)
    (case l37 => k_is)
    (case c37 => k_is)
    (case k37 => k_is)
    (case a38 => k_is)
    (case l38 => k_is)
    (case c38 => k_is)
    (case k38 => k_is)
    (case a39 => k_is)
    (case l39 => k_is)
    (case c39 => k_is)
    (case k39 => k_is)
    (case a40 => k_is)
    (case l40 => k_is)
    (case c40 => k_is)
    (case k40 => k_is)
    (case b0 => k_is)
    (case r0 => exact ⟨_, rfl⟩)
    (case b1 => k_is)
    (case r1 => exact ⟨_, rfl⟩)
    (case b2 => k_is)
    (case r2 => exact ⟨_, rfl⟩)
    (case b3 => k_is)
    (case r3 => exact ⟨_, rfl⟩)
    (case b4 => k_is)
    (case r4 => exact ⟨_, rfl⟩)
    (case b5 => k_is)
    (case r5 => exact ⟨_, rfl⟩)
    (case b6 => k_is)
    (case r6 => exact ⟨_, rfl⟩)
    (case b7 => k_is)
    (case r7 => exact ⟨_, rfl⟩)
    (case t0 => k_is)
    (case tl0 => k_is)
    (case th0 => decide)
    (case tv0 => rw [K14.gram_eq]; (repeat (first | exact PySem.Paired.nil | refine PySem.Paired.cons ⟨_, rfl⟩ ?_)))
    (case tH => k_is)
    (case lH => k_is)
    (case liH => (repeat (first | exact trivial | refine ⟨⟨_, _, rfl, rfl⟩, ?_⟩)))
    (case loH => first | exact rfl | decide +kernel)
    (case kB => kernel_rfl)
    (case rB => kernel_rfl)
    (case zset => k_is)
    (case zsorted => k_is)
    (case z0 => k_is)
    (case z1 => k_is)
    (case z2 => k_is)
    (case z3 => k_is)
    (case z4 => k_is)
    (case z5 => k_is)
    (case z6 => k_is)
    (case z7 => k_is)
    (case z8 => k_is)
    (case z9 => k_is)
    (case z10 => k_is)
    (case z11 => k_is)
    (case z12 => k_is)
    (case z13 => k_is)
    (case zsup => k_is)
#print axioms PySem.Challenge.cw_onetalk_k14_what_sums_make_holds
