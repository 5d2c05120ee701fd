import PyProof.Rows.All
import Wide.All
import OpenK.AllK
import Wide.FinOn
import HandS.ForMost
import HandS.WordsExc
import HandS.Defaults
import HandS.Star
import HandS.Walk
import HandS.Zip
import HandS.IsInst
import HandS.Head0
import HandS.Head1
import HandS.Head2
import HandS.HeadHook1
import HandS.HeadHook2
import HandS.HeadEnd
import HandS.SlotsVar
import HandS.Property
import HandS.ClsMeth
import HandS.Slots
import HandS.SlotsOwn
import HandS.OwnEq
import KE.GoesEnum
import KE.GoesMore
import HandS.TupAny
import HandS.FStr
import HandS.TupLe
import HandS.TupSets
import HandS.SortOrd
import KE.KSortTup
import KE.KSortTupUse
import HandS.SetFor
import HandS.Strs
import HandS.RaiseMore
import HandS.DictComp
import HandS.Conv
import HandS.Style
import HandS.Wide
import HandS.More
import PySem.Challenge.RW_cancelwalks_k56_texts_written_and_read
set_option Elab.async false
set_option linter.all false
set_option maxRecDepth 100000
set_option maxHeartbeats 1000000
/-! Ev: what an expression's reading comes to: objects are made, and none is changed but those of a demesne. -/
namespace CW
open PySem PySem.Spec PyProof.Rows L2

/-! ### heaps that only grow -/
theorem Same.new {H : Hp} {p : Addr} {o : HO} (h : H p = none) : Same H (upd H p o) := fun b u e => by
  rw [upd_ne (ne_of_none e h)]; exact e
theorem Same.rd {H H' : Hp} {a : Addr} {u : HO} (e : Same H H') (h : Rd H a u) : Rd H' a u := by
  rcases h with h | ⟨o, h⟩
  · exact .inl (e a _ h)
  · exact .inr ⟨o, e a _ h⟩
theorem Same.tup {K : PySem.W.Frag} {H H' : Hp} {a : Addr} {xs : List V} (e : Same H H') (h : SqT K H a xs) : SqT K H' a xs := by
  rcases h with h | h
  · exact .inl (Same.rd e h)
  · exact .inr h
theorem Same.lst {K : PySem.W.Frag} {H H' : Hp} {a : Addr} {xs : List V} (e : Same H H') (h : SqL K H a xs) : SqL K H' a xs := by
  rcases h with h | h
  · exact .inl (Same.rd e h)
  · exact .inr h
mutual
theorem Same.dp {K : PySem.W.Frag} {H H' : Hp} (e : Same H H') : ∀ {v : V} {d : PyData}, Dp K H v d → Dp K H' v d
  | _, _, .non => .non
  | _, _, .bl b => .bl b
  | _, _, .int i => .int i
  | _, _, .str x => .str x
  | _, _, .lst h a => .lst (Same.lst e h) (Same.dpAll e a)
  | _, _, .tup h a => .tup (Same.tup e h) (Same.dpAll e a)
theorem Same.dpAll {K : PySem.W.Frag} {H H' : Hp} (e : Same H H') : ∀ {vs : List V} {ds : List PyData}, DpAll K H vs ds → DpAll K H' vs ds
  | _, _, .nil => .nil
  | _, _, .cons h t => .cons (Same.dp e h) (Same.dpAll e t)
end
theorem DpAll.len {K : PySem.W.Frag} {H : Hp} : ∀ {ws : List V} {ds : List PyData}, DpAll K H ws ds → ws.length = ds.length
  | _, _, .nil => rfl
  | _, _, .cons _ t => by simp [DpAll.len t]

/-! ### what holds of a value, whatever more is made -/
abbrev PV := V → Hp → Prop
class Mo (P : PV) : Prop where
  mo : ∀ {v : V} {H H' : Hp}, Same H H' → P v H → P v H'
def pEq (v : V) : PV := fun x _ => x = v
instance {v : V} : Mo (pEq v) := ⟨fun _ h => h⟩
/-- it is the data d -/
def pDat (K : PySem.W.Frag) (d : PyData) : PV := fun x H => Dp K H x d
instance {K : PySem.W.Frag} {d : PyData} : Mo (pDat K d) := ⟨fun e h => Same.dp e h⟩
def pAnd (P R : PV) : PV := fun x H => P x H ∧ R x H
instance {P R : PV} [Mo P] [Mo R] : Mo (pAnd P R) := ⟨fun e h => ⟨Mo.mo e h.1, Mo.mo e h.2⟩⟩
def pAny : PV := fun _ _ => True
instance : Mo pAny := ⟨fun _ h => h⟩
/-- it is one of f's values -/
def pEx {α : Type} (c : α → Prop) (P : α → PV) : PV := fun x H => ∃ a, c a ∧ P a x H
instance {α : Type} {c : α → Prop} {P : α → PV} [∀ a, Mo (P a)] : Mo (pEx c P) := ⟨fun e ⟨a, h1, h2⟩ => ⟨a, h1, Mo.mo e h2⟩⟩
def pSqL (K : PySem.W.Frag) (xs : List V) : PV := fun x H => ∃ p, x = .ref p ∧ SqL K H p xs
instance {K : PySem.W.Frag} {xs : List V} : Mo (pSqL K xs) := ⟨fun e ⟨p, h1, h2⟩ => ⟨p, h1, Same.lst e h2⟩⟩
def pSqT (K : PySem.W.Frag) (xs : List V) : PV := fun x H => ∃ p, x = .ref p ∧ SqT K H p xs
instance {K : PySem.W.Frag} {xs : List V} : Mo (pSqT K xs) := ⟨fun e ⟨p, h1, h2⟩ => ⟨p, h1, Same.tup e h2⟩⟩
theorem Paired.mono {α β : Type} {F G : α → β → Prop} (h : ∀ a b, F a b → G a b) : ∀ {l₁ : List α} {l₂ : List β}, Paired F l₁ l₂ → Paired G l₁ l₂
  | _, _, .nil => .nil
  | _, _, .cons r t => .cons (h _ _ r) (Paired.mono h t)
theorem Paired.snoc {α β : Type} {F : α → β → Prop} {a : α} {b : β} (h : F a b) : ∀ {l₁ : List α} {l₂ : List β}, Paired F l₁ l₂ → Paired F (l₁ ++ [a]) (l₂ ++ [b])
  | _, _, .nil => .cons h .nil
  | _, _, .cons r t => .cons r (Paired.snoc h t)
/-- a list (a tuple), one item for each, with what holds of each -/
def pMap {α : Type} (K : PySem.W.Frag) (R : α → PV) (as : List α) : PV := fun x H => ∃ p xs, x = .ref p ∧ SqL K H p xs ∧ Paired (fun a v => R a v H) as xs
def pMapT {α : Type} (K : PySem.W.Frag) (R : α → PV) (as : List α) : PV := fun x H => ∃ p xs, x = .ref p ∧ SqT K H p xs ∧ Paired (fun a v => R a v H) as xs
instance {α : Type} {K : PySem.W.Frag} {R : α → PV} {as : List α} [∀ a, Mo (R a)] : Mo (pMap K R as) := ⟨fun e ⟨p, xs, h1, h2, h3⟩ => ⟨p, xs, h1, Same.lst e h2, Paired.mono (fun a v h => Mo.mo e h) h3⟩⟩
instance {α : Type} {K : PySem.W.Frag} {R : α → PV} {as : List α} [∀ a, Mo (R a)] : Mo (pMapT K R as) := ⟨fun e ⟨p, xs, h1, h2, h3⟩ => ⟨p, xs, h1, Same.tup e h2, Paired.mono (fun a v h => Mo.mo e h) h3⟩⟩

/-! ### what may change -/
structure Dm where
  ds : Addr → Prop
  inv : Hp → Prop
  loc : ∀ {H H' : Hp}, (∀ d, ds d → H' d = H d) → inv H → inv H'
  there : ∀ {H : Hp} {d : Addr}, inv H → ds d → H d ≠ none
/-- nothing -/
def D0 : Dm := ⟨fun _ => False, fun _ => True, fun _ _ => trivial, fun _ h => h.elim⟩
theorem Dm.mono (D : Dm) {H H' : Hp} (e : Same H H') (i : D.inv H) : D.inv H' := D.loc (fun d hd => by
  cases q : H d with
  | none => exact absurd q (D.there i hd)
  | some o => exact e d o q) i
def SameX (D : Dm) (H H' : Hp) : Prop := ∀ b o, H b = some o → ¬ D.ds b → H' b = some o
theorem SameX.refl {D : Dm} (H : Hp) : SameX D H H := fun _ _ h _ => h
theorem SameX.of {D : Dm} {H H' : Hp} (e : Same H H') : SameX D H H' := fun b o h _ => e b o h
theorem SameX.trans {D : Dm} {H1 H2 H3 : Hp} (a : SameX D H1 H2) (b : SameX D H2 H3) : SameX D H1 H3 := fun x o h n => b x o (a x o h n) n
/-- the base B, which knows nothing of the demesne, stands in H -/
structure At (D : Dm) (B H : Hp) : Prop where
  off : ∀ d, D.ds d → B d = none
  sm : Same B H
  inv : D.inv H
/-- from (B, H) to (B2, H2): what is new is new, the base knows more, but of old things nothing more -/
structure Stp (D : Dm) (B H B2 H2 : Hp) : Prop where
  bs : Same B B2
  at2 : At D B2 H2
  x : SameX D H H2
  fr : ∀ b, H b ≠ none → B b = none → B2 b = none
section
variable {D : Dm} {B B2 B3 H H1 H2 H3 : Hp}
theorem Stp.refl (a : At D B H) : Stp D B H B H := ⟨Same.refl B, a, SameX.refl H, fun _ _ h => h⟩
theorem Stp.trans (a : Stp D B H B2 H2) (b : Stp D B2 H2 B3 H3) : Stp D B H B3 H3 := ⟨a.bs.trans b.bs, b.at2, a.x.trans b.x, fun c h1 h2 => by
  refine b.fr c (fun z => ?_) (a.fr c h1 h2)
  by_cases q : D.ds c
  · exact D.there a.at2.inv q z
  · cases e : H c with
    | none => exact h1 e
    | some o => rw [a.x c o e q] at z; cases z⟩
/-- something is made, and known -/
theorem Stp.made {p : Addr} {o : HO} (a : At D B H) (h : H p = none) : Stp D B H (upd B p o) (upd H p o) := by
  have hB : B p = none := a.sm.free h
  have hp : ¬ D.ds p := fun z => D.there a.inv z h
  refine ⟨Same.new hB, ⟨fun d hd => ?_, fun b u e => ?_, ?_⟩, SameX.of (Same.new h), fun b h1 h2 => ?_⟩
  · rw [upd_ne (fun z : d = p => hp (by rw [← z]; exact hd))]; exact a.off d hd
  · by_cases z : b = p
    · subst z; rw [upd_same] at e; rw [upd_same]; exact e
    · rw [upd_ne z] at e; rw [upd_ne z]; exact a.sm b u e
  · exact D.loc (fun d hd => upd_ne fun z : d = p => hp (by rw [← z]; exact hd)) a.inv
  · rw [upd_ne (fun z : b = p => h1 (by rw [z]; exact h))]; exact h2
/-- something is made, and not known yet -/
theorem Stp.hid {p : Addr} {o : HO} (a : At D B H) (h : H p = none) : Stp D B H B (upd H p o) :=
  ⟨Same.refl B, ⟨a.off, a.sm.trans (Same.new h), D.mono (Same.new h) a.inv⟩, SameX.of (Same.new h), fun _ _ h => h⟩
/-- what the base doesn't know changes -/
theorem At.chg {p : Addr} {o : HO} (a : At D B H) (h : B p = none) (hp : ¬ D.ds p) : At D B (upd H p o) :=
  ⟨a.off, fun b u e => by rw [upd_ne (ne_of_none e h)]; exact a.sm b u e, D.loc (fun d hd => upd_ne fun z : d = p => hp (by rw [← z]; exact hd)) a.inv⟩
/-- the base comes to know it -/
theorem At.know {p : Addr} {o : HO} (a : At D B H) (h : H p = some o) (hB : B p = none) (hp : ¬ D.ds p) : At D (upd B p o) H :=
  ⟨fun d hd => by rw [upd_ne (fun z : d = p => hp (by rw [← z]; exact hd))]; exact a.off d hd, fun b u e => by
    by_cases z : b = p
    · subst z; rw [upd_same] at e; rw [h]; exact e
    · rw [upd_ne z] at e; exact a.sm b u e, a.inv⟩
end

/-! ### evaluation -/
def EvR (D : Dm) (te : TE) (σ : L2.St) (B : Hp) (P : PV) : Prop := ∀ H, At D B H → ∀ Q : VK, (∀ v B2 H2, Stp D B H B2 H2 → P v B2 → Q v H2) → te σ H Q
def EvT (D : Dm) (tt : TT) (σ : L2.St) (B : Hp) (P : Bool → Prop) : Prop := ∀ H, At D B H → ∀ Q : Bool → Hp → Prop, (∀ b B2 H2, Stp D B H B2 H2 → P b → Q b H2) → tt σ H Q
def EvA (D : Dm) (ta : TA) (σ : L2.St) (B : Hp) (P : List V → Hp → Prop) : Prop := ∀ H, At D B H → ∀ Q : List V → Hp → Prop, (∀ vs B2 H2, Stp D B H B2 H2 → P vs B2 → Q vs H2) → ta σ H Q
/-- a rule by values -/
def EvV (D : Dm) (f : Hp → VK → Prop) (B : Hp) (P : PV) : Prop := ∀ H, At D B H → ∀ Q : VK, (∀ v B2 H2, Stp D B H B2 H2 → P v B2 → Q v H2) → f H Q
abbrev is (b : Bool) : Bool → Prop := fun c => c = b
section
variable {D : Dm} {K : PySem.W.Frag} {σ : L2.St} {B B' H : Hp} {te ta tb tc : TE} {t u : TT} {P P1 P2 : PV} {v x y z : V} {i j : Int} {b c : Bool}
theorem EvR.run {Q : VK} (h : EvR D te σ B P) (a : At D B H) (q : ∀ v B2 H2, Stp D B H B2 H2 → P v B2 → Q v H2) : te σ H Q := h H a Q q
theorem EvR.runE {Q : VK} (h : EvR D te σ B (pEq v)) (a : At D B H) (q : ∀ B2 H2, Stp D B H B2 H2 → Q v H2) : te σ H Q := h H a Q fun x B2 H2 e p => by rw [show x = v from p]; exact q B2 H2 e
theorem EvT.run {Q : Bool → Hp → Prop} {P : Bool → Prop} (h : EvT D t σ B P) (a : At D B H) (q : ∀ b B2 H2, Stp D B H B2 H2 → P b → Q b H2) : t σ H Q := h H a Q q
theorem EvR.imp (h : EvR D te σ B P) (g : ∀ v B2, Same B B2 → P v B2 → P1 v B2) : EvR D te σ B P1 := fun H a Q q => h H a Q fun v B2 H2 e p => q v B2 H2 e (g v B2 e.bs p)
theorem EvR.to (h : EvR D te σ B (pEq v)) (e : v = x) : EvR D te σ B (pEq x) := e ▸ h
theorem EvT.imp {P P' : Bool → Prop} (h : EvT D t σ B P) (g : ∀ b, P b → P' b) : EvT D t σ B P' := fun H a Q q => h H a Q fun v B2 H2 e p => q v B2 H2 e (g v p)
theorem EvT.to (h : EvT D t σ B (is b)) (e : b = c) : EvT D t σ B (is c) := e ▸ h
theorem EvV.now {f : Hp → VK → Prop} (h : ∀ H (Q : VK), Same B H → Q v H → f H Q) (hp : P v B) : EvV D f B P := fun H a Q q => h H Q a.sm (q v B H (Stp.refl a) hp)
theorem EvV.nowE {f : Hp → VK → Prop} (h : ∀ H (Q : VK), Same B H → Q v H → f H Q) : EvV D f B (pEq v) := EvV.now h rfl
/-- a new object -/
theorem EvV.new {f : Hp → VK → Prop} {o : HO} (h : ∀ H (Q : VK), Same B H → (∀ p, H p = none → Q (.ref p) (upd H p o)) → f H Q) (hp : ∀ p, B p = none → P (.ref p) (upd B p o)) : EvV D f B P :=
  fun H a Q q => h H Q a.sm fun p hn => q _ _ _ (Stp.made a hn) (hp p (a.sm.free hn))
theorem EvV.imp {f : Hp → VK → Prop} (h : EvV D f B P) (g : ∀ v B2, Same B B2 → P v B2 → P1 v B2) : EvV D f B P1 := fun H a Q q => h H a Q fun v B2 H2 e p => q v B2 H2 e (g v B2 e.bs p)
theorem ev_var {i : Nat} (h : σ[i]? = some (some v)) (hp : P v B) : EvR D (tVar i) σ B P := fun H a Q q => ⟨v, h, q v B H (Stp.refl a) hp⟩
theorem ev_varE {i : Nat} (h : σ[i]? = some (some v)) : EvR D (tVar i) σ B (pEq v) := ev_var h rfl
theorem ev_c : EvR D (tC v) σ B (pEq v) := fun H a Q q => q v B H (Stp.refl a) rfl
theorem ev_cP (h : P v B) : EvR D (tC v) σ B P := fun H a Q q => q v B H (Stp.refl a) h
theorem ev_op {r : R2} [Mo P1] (ha : EvR D ta σ B P1) (hb : ∀ B2, Same B B2 → EvR D tb σ B2 P2) (hr : ∀ x y B2, Same B B2 → P1 x B2 → P2 y B2 → EvV D (r x y) B2 P) : EvR D (tOp r ta tb) σ B P := fun H a Q q =>
  ha H a _ fun x B2 H2 e2 p => hb B2 e2.bs H2 e2.at2 _ fun y B3 H3 e3 p3 => hr x y B3 (e2.bs.trans e3.bs) (Mo.mo e3.bs p) p3 H3 e3.at2 Q fun z B4 H4 e4 p4 => q z B4 H4 ((e2.trans e3).trans e4) p4
theorem ev_opE {r : R2} (ha : EvR D ta σ B (pEq x)) (hb : ∀ B2, Same B B2 → EvR D tb σ B2 (pEq y)) (hr : ∀ B2, Same B B2 → EvV D (r x y) B2 P) : EvR D (tOp r ta tb) σ B P := ev_op ha hb fun x y B2 e h1 h2 => by
  rw [show x = _ from h1, show y = _ from h2]; exact hr B2 e
theorem ev_un {r : V → Hp → VK → Prop} (ha : EvR D ta σ B P1) (hr : ∀ x B2, Same B B2 → P1 x B2 → EvV D (r x) B2 P) : EvR D (tUn r ta) σ B P := fun H a Q q =>
  ha H a _ fun x B2 H2 e2 p => hr x B2 e2.bs p H2 e2.at2 Q fun z B4 H4 e4 p4 => q z B4 H4 (e2.trans e4) p4
theorem ev_I0 {g : Int → Int → V} (ha : EvR D ta σ B (pEq (.int i))) (hb : ∀ B2, Same B B2 → EvR D tb σ B2 (pEq (.int j))) : EvR D (tOp (rI0 g) ta tb) σ B (pEq (g i j)) := ev_opE ha hb fun _ _ => EvV.nowE fun _ _ _ q => ⟨i, j, rfl, rfl, q⟩
theorem ev_I {C : Int → Int → Prop} {g : Int → Int → V} (ha : EvR D ta σ B (pEq (.int i))) (hb : ∀ B2, Same B B2 → EvR D tb σ B2 (pEq (.int j))) (hc : C i j) : EvR D (tOp (rI C g) ta tb) σ B (pEq (g i j)) := ev_opE ha hb fun _ _ => EvV.nowE fun _ _ _ q => ⟨i, j, rfl, rfl, hc, q⟩
theorem ev_eq (ha : EvR D ta σ B (pEq x)) (hb : ∀ B2, Same B B2 → EvR D tb σ B2 (pEq y)) (hs : scal x y = true) : EvR D (tOp rEq ta tb) σ B (pEq (.bl (decide (x = y)))) := ev_opE ha hb fun _ _ => EvV.nowE fun _ _ _ q => ⟨hs, q⟩
theorem ev_ne (ha : EvR D ta σ B (pEq x)) (hb : ∀ B2, Same B B2 → EvR D tb σ B2 (pEq y)) (hs : scal x y = true) : EvR D (tOp rNe ta tb) σ B (pEq (.bl (!decide (x = y)))) := ev_opE ha hb fun _ _ => EvV.nowE fun _ _ _ q => ⟨hs, q⟩
theorem ev_isN (ha : EvR D ta σ B (pEq x)) : EvR D (tOp (fun x y H Q => y = .non ∧ Q (.bl (decide (x = .non))) H) ta (tC .non)) σ B (pEq (.bl (decide (x = .non)))) := ev_opE ha (fun _ _ => ev_c) fun _ _ => EvV.nowE fun _ _ _ q => ⟨rfl, q⟩
theorem ev_notN (ha : EvR D ta σ B (pEq x)) : EvR D (tOp (fun x y H Q => y = .non ∧ Q (.bl (!decide (x = .non))) H) ta (tC .non)) σ B (pEq (.bl (!decide (x = .non)))) := ev_opE ha (fun _ _ => ev_c) fun _ _ => EvV.nowE fun _ _ _ q => ⟨rfl, q⟩
theorem ev_eqD {d e : PyData} (ha : EvR D ta σ B (pDat K d)) (hb : ∀ B2, Same B B2 → EvR D tb σ B2 (pDat K e)) (sd : SeqAt.shaped d = true) (se : SeqAt.shaped e = true) : EvR D (tOp (rEqD K) ta tb) σ B (pEq (.bl (PyData.eqv d e))) :=
  ev_op ha hb fun x y B2 _ h1 h2 => EvV.nowE fun H Q e q => ⟨_, _, Same.dp e h1, Same.dp e h2, sd, se, q⟩
theorem ev_neD {d e : PyData} (ha : EvR D ta σ B (pDat K d)) (hb : ∀ B2, Same B B2 → EvR D tb σ B2 (pDat K e)) (sd : SeqAt.shaped d = true) (se : SeqAt.shaped e = true) : EvR D (tOp (rNeD K) ta tb) σ B (pEq (.bl (!PyData.eqv d e))) :=
  ev_op ha hb fun x y B2 _ h1 h2 => EvV.nowE fun H Q e q => ⟨_, _, Same.dp e h1, Same.dp e h2, sd, se, q⟩
/-! tests -/
theorem et_test (h : EvR D te σ B (pEq (.bl b))) : EvT D (tTest te) σ B (is b) := fun H a Q q => h H a _ fun v B2 H2 e2 p => ⟨b, p, q b B2 H2 e2 rfl⟩
theorem et_B (h : EvR D te σ B (pEq (.bl b))) : EvT D (tB te) σ B (is b) := fun H a Q q => h H a _ fun v B2 H2 e2 p => ⟨b, p, q b B2 H2 e2 rfl⟩
theorem et_and (h1 : EvT D t σ B (is b)) (h2 : b = true → ∀ B2, Same B B2 → EvT D u σ B2 (is c)) : EvT D (tAnd t u) σ B (is (b && c)) := fun H a Q q => h1 H a _ fun b' B2 H2 e2 p => by
  subst p
  cases b' with
  | true => exact h2 rfl B2 e2.bs H2 e2.at2 Q fun c' B3 H3 e3 p => by subst p; exact q _ B3 H3 (e2.trans e3) rfl
  | false => exact q _ B2 H2 e2 rfl
theorem et_or (h1 : EvT D t σ B (is b)) (h2 : b = false → ∀ B2, Same B B2 → EvT D u σ B2 (is c)) : EvT D (tOr t u) σ B (is (b || c)) := fun H a Q q => h1 H a _ fun b' B2 H2 e2 p => by
  subst p
  cases b' with
  | false => exact h2 rfl B2 e2.bs H2 e2.at2 Q fun c' B3 H3 e3 p => by subst p; exact q _ B3 H3 (e2.trans e3) rfl
  | true => exact q _ B2 H2 e2 rfl
/-! by ways -/
theorem et_orT (h1 : EvT D t σ B (is true)) : EvT D (tOr t u) σ B (is true) := (et_or (c := true) h1 fun h => nomatch h).to rfl
theorem et_orF (h1 : EvT D t σ B (is false)) (h2 : ∀ B2, Same B B2 → EvT D u σ B2 (is c)) : EvT D (tOr t u) σ B (is c) := (et_or h1 fun _ => h2).to rfl
theorem et_andT (h1 : EvT D t σ B (is true)) (h2 : ∀ B2, Same B B2 → EvT D u σ B2 (is c)) : EvT D (tAnd t u) σ B (is c) := (et_and h1 fun _ => h2).to rfl
theorem et_andF (h1 : EvT D t σ B (is false)) : EvT D (tAnd t u) σ B (is false) := (et_and (c := true) h1 fun h => nomatch h).to rfl
theorem et_not (h : EvT D t σ B (is b)) : EvT D (tNot t) σ B (is (!b)) := fun H a Q q => h H a _ fun b' B2 H2 e2 p => by subst p; exact q _ B2 H2 e2 rfl
theorem ev_andV (h1 : EvR D ta σ B (pEq (.bl b))) (h2 : b = true → ∀ B2, Same B B2 → EvR D tb σ B2 (pEq (.bl c))) : EvR D (tAndV ta tb) σ B (pEq (.bl (b && c))) := fun H a Q q => h1 H a _ fun v B2 H2 e2 p => ⟨b, p, by
  cases b with
  | true => exact h2 rfl B2 e2.bs H2 e2.at2 Q fun v B3 H3 e3 p => q v B3 H3 (e2.trans e3) p
  | false => exact q _ B2 H2 e2 rfl⟩
theorem ev_orV (h1 : EvR D ta σ B (pEq (.bl b))) (h2 : b = false → ∀ B2, Same B B2 → EvR D tb σ B2 (pEq (.bl c))) : EvR D (tOrV ta tb) σ B (pEq (.bl (b || c))) := fun H a Q q => h1 H a _ fun v B2 H2 e2 p => ⟨b, p, by
  cases b with
  | false => exact h2 rfl B2 e2.bs H2 e2.at2 Q fun v B3 H3 e3 p => q v B3 H3 (e2.trans e3) p
  | true => exact q _ B2 H2 e2 rfl⟩
theorem ev_andT (h1 : EvR D ta σ B (pEq (.bl true))) (h2 : ∀ B2, Same B B2 → EvR D tb σ B2 (pEq (.bl c))) : EvR D (tAndV ta tb) σ B (pEq (.bl c)) := (ev_andV h1 fun _ => h2).to rfl
theorem ev_andF (h1 : EvR D ta σ B (pEq (.bl false))) : EvR D (tAndV ta tb) σ B (pEq (.bl false)) := (ev_andV (c := true) h1 fun h => nomatch h).to rfl
theorem ev_orT (h1 : EvR D ta σ B (pEq (.bl true))) : EvR D (tOrV ta tb) σ B (pEq (.bl true)) := (ev_orV (c := true) h1 fun h => nomatch h).to rfl
theorem ev_orF (h1 : EvR D ta σ B (pEq (.bl false))) (h2 : ∀ B2, Same B B2 → EvR D tb σ B2 (pEq (.bl c))) : EvR D (tOrV ta tb) σ B (pEq (.bl c)) := (ev_orV h1 fun _ => h2).to rfl
theorem ev_notV (h1 : EvR D ta σ B (pEq (.bl b))) : EvR D (tNotV ta) σ B (pEq (.bl (!b))) := fun H a Q q => h1 H a _ fun v B2 H2 e2 p => ⟨b, p, q _ B2 H2 e2 rfl⟩
theorem ev_if {Pb : Bool → Prop} (h : EvT D t σ B Pb) (h1 : Pb true → ∀ B2, Same B B2 → EvR D ta σ B2 P) (h2 : Pb false → ∀ B2, Same B B2 → EvR D tb σ B2 P) : EvR D (tIf t ta tb) σ B P := fun H a Q q => h H a _ fun b B2 H2 e2 p => by
  cases b with
  | true => exact h1 p B2 e2.bs H2 e2.at2 Q fun v B3 H3 e3 p => q v B3 H3 (e2.trans e3) p
  | false => exact h2 p B2 e2.bs H2 e2.at2 Q fun v B3 H3 e3 p => q v B3 H3 (e2.trans e3) p
theorem ev_chain {r r' : R2} (ha : EvR D ta σ B (pEq x)) (hb : ∀ B2, Same B B2 → EvR D tb σ B2 (pEq y)) (hr : ∀ B2, Same B B2 → EvV D (r x y) B2 (pEq (.bl b))) (hc : b = true → ∀ B2, Same B B2 → EvR D tc σ B2 (pEq z))
    (hr' : b = true → ∀ B2, Same B B2 → EvV D (r' y z) B2 (pEq (.bl c))) : EvR D (tChain r r' ta tb tc) σ B (pEq (.bl (b && c))) := fun H a Q q => ha H a _ fun v B2 H2 e2 p => hb B2 e2.bs H2 e2.at2 _ fun w B3 H3 e3 p3 => by
  subst p; subst p3
  refine hr B3 (e2.bs.trans e3.bs) H3 e3.at2 _ fun k B4 H4 e4 p4 => ⟨b, p4, ?_⟩
  have e24 := (e2.trans e3).trans e4
  cases b with
  | true =>
    refine hc rfl B4 e24.bs H4 e4.at2 _ fun z' B5 H5 e5 p5 => ?_
    subst p5
    exact hr' rfl B5 (e24.bs.trans e5.bs) H5 e5.at2 Q fun m B6 H6 e6 p6 => q m B6 H6 ((e24.trans e5).trans e6) p6
  | false => exact q _ B4 H4 e24 rfl
/-! arguments, displays, calls -/
theorem ea_nil : EvA D tNil σ B (fun vs _ => vs = []) := fun H a Q q => q [] B H (Stp.refl a) rfl
theorem ea_cons {tr : TA} {R : List V → Hp → Prop} [Mo P] (h : EvR D te σ B P) (hr : ∀ B2, Same B B2 → EvA D tr σ B2 R) : EvA D (tCons te tr) σ B (fun vs H' => ∃ v r, vs = v :: r ∧ P v H' ∧ R r H') := fun H a Q q =>
  h H a _ fun v B2 H2 e2 p => hr B2 e2.bs H2 e2.at2 _ fun vs B3 H3 e3 p3 => q (v :: vs) B3 H3 (e2.trans e3) ⟨v, vs, rfl, Mo.mo e3.bs p, p3⟩
theorem ea_consE {tr : TA} {vs : List V} (h : EvR D te σ B (pEq v)) (hr : ∀ B2, Same B B2 → EvA D tr σ B2 (fun ws _ => ws = vs)) : EvA D (tCons te tr) σ B (fun ws _ => ws = v :: vs) := fun H a Q q =>
  h H a _ fun v' B2 H2 e2 p => hr B2 e2.bs H2 e2.at2 _ fun ws B3 H3 e3 p3 => q (v' :: ws) B3 H3 (e2.trans e3) (by rw [show v' = v from p, p3])
theorem ea_one [Mo P] (h : EvR D te σ B P) : EvA D (tCons te tNil) σ B (fun vs H' => ∃ v, vs = [v] ∧ P v H') := fun H a Q q =>
  h H a _ fun v B2 H2 e2 p => q [v] B2 H2 e2 ⟨v, rfl, p⟩
theorem ea_oneE (h : EvR D te σ B (pEq v)) : EvA D (tCons te tNil) σ B (fun vs _ => vs = [v]) := ea_consE h fun _ _ => ea_nil
theorem EvA.imp {ta : TA} {R R' : List V → Hp → Prop} (h : EvA D ta σ B R) (g : ∀ vs B2, Same B B2 → R vs B2 → R' vs B2) : EvA D ta σ B R' := fun H a Q q => h H a Q fun v B2 H2 e p => q v B2 H2 e (g v B2 e.bs p)
/-- a star's items ahead of the rest -/
theorem ea_star {tr : TA} {R R' : List V → Hp → Prop} (h : EvR D te σ B (fun x H' => ∃ p xs, x = .ref p ∧ (SqT K H' p xs ∨ SqL K H' p xs) ∧ R xs H')) (hR : ∀ xs H1 H2, Same H1 H2 → R xs H1 → R xs H2) (hr : ∀ B2, Same B B2 → EvA D tr σ B2 R') :
    EvA D (StX.tStar K te tr) σ B (fun ws H' => ∃ xs ys, ws = xs ++ ys ∧ R xs H' ∧ R' ys H') := fun H a Q q =>
  h H a _ fun v B2 H2 e2 p => by
    obtain ⟨p, xs, rfl, hl, hx⟩ := p
    refine ⟨p, xs, rfl, hl.elim (fun h => .inl (Same.tup e2.at2.sm h)) (fun h => .inr (Same.lst e2.at2.sm h)), hr B2 e2.bs H2 e2.at2 _ fun ws B3 H3 e3 p3 => q _ B3 H3 (e2.trans e3) ⟨xs, ws, rfl, hR _ _ _ e3.bs hx, p3⟩⟩
theorem ev_lst {ta : TA} {R : List V → Hp → Prop} (h : EvA D ta σ B R) (hl : ∀ vs H', R vs H' → vs.length ≤ 100000) (hR : ∀ xs H1 H2, Same H1 H2 → R xs H1 → R xs H2) : EvR D (tLst ta) σ B (fun x H' => ∃ p vs, x = .ref p ∧ H' p = some (.lst vs) ∧ R vs H') := fun H a Q q =>
  h H a _ fun ws B2 H2 e2 p => ⟨Nat.le_trans (hl _ _ p) (by decide), fun l hn => q _ _ _ (e2.trans (Stp.made e2.at2 hn)) ⟨l, ws, rfl, upd_same, hR _ _ _ (Same.new (e2.at2.sm.free hn)) p⟩⟩
theorem ev_tup {ta : TA} {R : List V → Hp → Prop} (h : EvA D ta σ B R) (hl : ∀ vs H', R vs H' → vs.length ≤ 100000) (hR : ∀ xs H1 H2, Same H1 H2 → R xs H1 → R xs H2) : EvR D (tTup ta) σ B (fun x H' => ∃ p vs, x = .ref p ∧ H' p = some (.tup vs) ∧ R vs H') := fun H a Q q =>
  h H a _ fun ws B2 H2 e2 p => ⟨Nat.le_trans (hl _ _ p) (by decide), fun l hn => q _ _ _ (e2.trans (Stp.made e2.at2 hn)) ⟨l, ws, rfl, upd_same, hR _ _ _ (Same.new (e2.at2.sm.free hn)) p⟩⟩
/-- displays as data -/
theorem ea_nilD : EvA D tNil σ B (fun ws H' => DpAll K H' ws []) := fun H a Q q => q [] B H (Stp.refl a) .nil
theorem ea_consD {tr : TA} {d : PyData} {ds : List PyData} (h : EvR D te σ B (pDat K d)) (hr : ∀ B2, Same B B2 → EvA D tr σ B2 (fun ws H' => DpAll K H' ws ds)) : EvA D (tCons te tr) σ B (fun ws H' => DpAll K H' ws (d :: ds)) := fun H a Q q =>
  h H a _ fun v B2 H2 e2 p => hr B2 e2.bs H2 e2.at2 _ fun vs B3 H3 e3 p3 => q (v :: vs) B3 H3 (e2.trans e3) (.cons (Same.dp e3.bs p) p3)
theorem ev_tupD {ta : TA} {ds : List PyData} (h : EvA D ta σ B (fun ws H' => DpAll K H' ws ds)) (hl : ds.length ≤ 100000) : EvR D (tTup ta) σ B (pDat K (.tuple ds)) :=
  (ev_tup h (fun vs H' p => by rw [DpAll.len p]; exact hl) fun xs H1 H2 e p => Same.dpAll e p).imp fun v B2 _ ⟨p, vs, h1, h2, h3⟩ => by rw [h1]; exact .tup (SqT.of h2) h3
theorem ev_lstD {ta : TA} {ds : List PyData} (h : EvA D ta σ B (fun ws H' => DpAll K H' ws ds)) (hl : ds.length ≤ 100000) : EvR D (tLst ta) σ B (pDat K (.list ds)) :=
  (ev_lst h (fun vs H' p => by rw [DpAll.len p]; exact hl) fun xs H1 H2 e p => Same.dpAll e p).imp fun v B2 _ ⟨p, vs, h1, h2, h3⟩ => by rw [h1]; exact .lst (SqL.of h2) h3
theorem ev_intD (h : EvR D te σ B (pEq (.int i))) : EvR D te σ B (pDat K (.int i)) := h.imp fun v H' _ p => by rw [show v = _ from p]; exact .int i
theorem ev_strD {z : Str} (h : EvR D te σ B (pEq (.str z))) : EvR D te σ B (pDat K (.str z)) := h.imp fun v H' _ p => by rw [show v = _ from p]; exact .str z
/-- a built-in's call -/
theorem ev_cb {r : List V → Hp → VK → Prop} {ta : TA} {R : List V → Hp → Prop} (h : EvA D ta σ B R) (hr : ∀ vs B2, Same B B2 → R vs B2 → EvV D (r vs) B2 P) : EvR D (tCB r ta) σ B P := fun H a Q q =>
  h H a _ fun vs B2 H2 e2 p => hr vs B2 e2.bs p H2 e2.at2 Q fun v B3 H3 e3 p3 => q v B3 H3 (e2.trans e3) p3
theorem ev_cbE {r : List V → Hp → VK → Prop} {ta : TA} {vs : List V} (h : EvA D ta σ B (fun ws _ => ws = vs)) (hr : ∀ B2, Same B B2 → EvV D (r vs) B2 P) : EvR D (tCB r ta) σ B P := ev_cb h fun ws B2 e p => by rw [p]; exact hr B2 e
end

/-! ### calls of the text's own defs, by name -/
/-- the module's name x is a def that keeps the promise sp, at most k deep -/
structure Fn (P : Program) (w : World) (K : PySem.W.Frag) (mg : Str → Option Value) (base : Heap) (k : Nat) (x : Str) (sp : Sp) : Prop where
  ex : ∃ f : Addr, mg x = some (.ref f) ∧ PySem.W.keepIn K (.ref f) = true ∧ FnR P w K mg base (L2.CX P w) k f sp
theorem Fn.mono {P : Program} {w : World} {K : PySem.W.Frag} {mg : Str → Option Value} {base : Heap} {j k : Nat} {x : Str} {sp : Sp} (F : Fn P w K mg base j x sp) (h : j ≤ k) : Fn P w K mg base k x sp :=
  let ⟨f, a, b, c⟩ := F.ex
  ⟨f, a, b, c.mono h⟩
theorem Fn.imp {P : Program} {w : World} {K : PySem.W.Frag} {mg : Str → Option Value} {base : Heap} {k : Nat} {x : Str} {sp sp' : Sp} (F : Fn P w K mg base k x sp) (h : ∀ vs H Q E, sp' vs H Q E → sp vs H Q E) : Fn P w K mg base k x sp' :=
  let ⟨f, a, b, c⟩ := F.ex
  ⟨f, a, b, c.imp h⟩
/-- f(e, ..) -/
def tFn (sp : Sp) (E : XK) (t : TA) : TE := fun σ H Q => t σ H fun vs H1 => sp vs H1 Q E
section
variable {X : Cx} {k : Nat} {x : Str} {sp : Sp} {E : XK} {e : Expr} {es : List Expr} {t : TA} {p pos : Pos}
theorem pe_fn (F : Fn X.prog X.w X.K X.mg X.base k x sp) (hr : Room k X.A) (hx : Passes (L2.CX X.prog X.w) X E) (ha : PA X (e :: es) t) (hg : Gl X x := by rfl) (hdb : (x == ("__debug__" : Str)) = false := by decide)
    (he : starEach (e :: es) X.env = (false, eval e X.env) :: starEach es X.env := by rfl) (hpl : (backTo pos (starEach es X.env)).any (·.1) = false := by rfl) :
    PE X (.Call (.Name x p) (e :: es) [] pos) (tFn sp E t) := by
  obtain ⟨f, hm, hk, F⟩ := F.ex
  refine ⟨fun pins s σ H Q I h => ?_⟩
  refine wpAny_Call_Name_kw (ld_glob I hg hm ?_ hdb)
  refine PySem.W.callWith_K (h₀ := X.base) I.ok.mod.kin hk (thn (ha.run pos pins s σ H _ I h) fun us s1 ⟨vs, H1, I1, r, q⟩ => ⟨I1.kIn, ?_⟩) he hpl
  exact wpAny_call (run_fnR F hr hx I1 r q)
end
section
variable {D : Dm} {σ : L2.St} {B : Hp} {P : PV} {sp : Sp} {E : XK} {t : TA} {R : List V → Hp → Prop} {vs : List V}
theorem ev_fn (h : EvA D t σ B R) (hs : ∀ vs B2, Same B B2 → R vs B2 → EvV D (fun H Q => sp vs H Q E) B2 P) : EvR D (tFn sp E t) σ B P := fun H a Q q =>
  h H a _ fun vs B2 H2 e2 p => hs vs B2 e2.bs p H2 e2.at2 Q fun v B3 H3 e3 p3 => q v B3 H3 (e2.trans e3) p3
theorem ev_fnE (h : EvA D t σ B (fun ws _ => ws = vs)) (hs : ∀ B2, Same B B2 → EvV D (fun H Q => sp vs H Q E) B2 P) : EvR D (tFn sp E t) σ B P := ev_fn h fun ws B2 e p => by rw [p]; exact hs B2 e
end

/-! ### walks -/
/-- what a turn gives, over a base -/
def Gives (D : Dm) (Y : Nat → Hp → V → Hp → Prop) (i : Nat) (PY : V → Hp → Prop) (B : Hp) : Prop := ∀ H x H', At D B H → Y i H x H' → ∃ B', Stp D B H B' H' ∧ PY x B'
/-- what is walked: n turns; PY i: what is known of the i-th item -/
def EvI (D : Dm) (wi : TI) (σ : L2.St) (B : Hp) (n : Nat) (PY : Nat → V → Hp → Prop) : Prop :=
  ∀ H, At D B H → ∀ R : It → Hp → Prop, (∀ J B2 H2 (G : Hp → Prop) (Y : Nat → Hp → V → Hp → Prop), Stp D B H B2 H2 → (∀ H1 H2, Same H1 H2 → G H1 → G H2) → Walk J n G Y → G B2 → (∀ i B3, i < n → Same B2 B3 → Gives D Y i (PY i) B3) → R J H2) → wi σ H R
/-- one turn of a target: it stores, and that is all -/
def Sets (D : Dm) (g : TG) (x : V) (σ : L2.St) (B : Hp) (σ2 : L2.St) : Prop := ∀ H, At D B H → ∀ k : L2.St → Hp → Prop, (∀ B2 H2, Stp D B H B2 H2 → k σ2 H2) → g x σ H k
section
variable {D : Dm} {K : PySem.W.Frag} {σ : L2.St} {B : Hp} {wi : TI} {g : TG} {tt : TT} {te : TE} {ta : TA} {vs : List Nat} {n : Nat} {PY : Nat → V → Hp → Prop} {v : V}
theorem sets_name {i : Nat} : Sets D (gName i) v σ B (σ.set i (some v)) := fun H a k q => q B H (Stp.refl a)
/-- a, b, .. = v, a tuple -/
theorem sets_tup {n : Nat} {t : TGs} {σ2 : L2.St} {p : Addr} {xs : List V} (h : SqT K B p xs) (hl : xs.length = n) (ht : ∀ H (k : L2.St → Hp → Prop), k σ2 H → t xs σ H k) : Sets D (gTup K n t) (.ref p) σ B σ2 :=
  fun H a k q => ⟨p, xs, rfl, Same.tup a.sm h, hl, ht H k (q B H (Stp.refl a))⟩
theorem EvI.imp {PY' : Nat → V → Hp → Prop} (h : EvI D wi σ B n PY) (g : ∀ i x B2, i < n → Same B B2 → PY i x B2 → PY' i x B2) : EvI D wi σ B n PY' := fun H a R r =>
  h H a R fun J B2 H2 G Y e m w g2 y => r J B2 H2 G Y e m w g2 fun i B3 hi s H3 x H4 a3 y3 => by
    obtain ⟨B4, e4, p⟩ := y i B3 hi s H3 x H4 a3 y3
    exact ⟨B4, e4, g i x B4 hi ((e.bs.trans s).trans e4.bs) p⟩
theorem ei_list {xs : List V} (h : EvR D te σ B (pSqL K xs)) : EvI D (iList K te) σ B xs.length (fun i x _ => xs[i]? = some x) := fun H a R r =>
  h H a _ fun v B2 H2 e ⟨p, e1, hl⟩ => ⟨p, e1, ⟨xs, Same.lst e.at2.sm hl⟩, r (Itl K p) B2 H2 (fun H => SqL K H p xs) (YAt xs) e (fun _ _ s h => Same.lst s h) walk_list hl fun i B3 _ _ H3 x H4 a3 y3 => ⟨B3, by rw [y3.1]; exact Stp.refl a3, y3.2⟩⟩
theorem ei_tup {xs : List V} (h : EvR D te σ B (pSqT K xs)) : EvI D (iTup K te) σ B xs.length (fun i x _ => xs[i]? = some x) := fun H a R r =>
  h H a _ fun v B2 H2 e ⟨p, e1, hl⟩ => ⟨p, e1, ⟨xs, Same.tup e.at2.sm hl⟩, r (Itt K p) B2 H2 (fun H => SqT K H p xs) (YAt xs) e (fun _ _ s h => Same.tup s h) walk_tup hl fun i B3 _ _ H3 x H4 a3 y3 => ⟨B3, by rw [y3.1]; exact Stp.refl a3, y3.2⟩⟩
theorem Paired.get {α β : Type} {F : α → β → Prop} : ∀ {l₁ : List α} {l₂ : List β}, Paired F l₁ l₂ → ∀ {i : Nat} {b : β}, l₂[i]? = some b → ∃ a, l₁[i]? = some a ∧ F a b
  | _, _, .nil, i, b, h => by simp at h
  | _, _, .cons r t, 0, b, h => by
    obtain rfl : _ = b := by simpa using h
    exact ⟨_, rfl, r⟩
  | _, _, .cons r t, i + 1, b, h => Paired.get t (by simpa using h)
theorem ei_listM {α : Type} {R : α → PV} {as : List α} [∀ a, Mo (R a)] (h : EvR D te σ B (pMap K R as)) : EvI D (iList K te) σ B as.length (fun i x B => ∃ a, as[i]? = some a ∧ R a x B) := fun H a R' r =>
  h H a _ fun v B2 H2 e ⟨p, xs, e1, hl, pr⟩ => ⟨p, e1, ⟨xs, Same.lst e.at2.sm hl⟩, r (Itl K p) B2 H2 (fun H => SqL K H p xs) (YAt xs) e (fun _ _ s h => Same.lst s h) (by rw [pr.length]; exact walk_list) hl fun i B3 _ s H3 x H4 a3 y3 => ⟨B3, by rw [y3.1]; exact Stp.refl a3, by
    obtain ⟨a, h1, h2⟩ := Paired.get pr y3.2
    exact ⟨a, h1, Mo.mo s h2⟩⟩⟩
theorem ei_tupM {α : Type} {R : α → PV} {as : List α} [∀ a, Mo (R a)] (h : EvR D te σ B (pMapT K R as)) : EvI D (iTup K te) σ B as.length (fun i x B => ∃ a, as[i]? = some a ∧ R a x B) := fun H a R' r =>
  h H a _ fun v B2 H2 e ⟨p, xs, e1, hl, pr⟩ => ⟨p, e1, ⟨xs, Same.tup e.at2.sm hl⟩, r (Itt K p) B2 H2 (fun H => SqT K H p xs) (YAt xs) e (fun _ _ s h => Same.tup s h) (by rw [pr.length]; exact walk_tup) hl fun i B3 _ s H3 x H4 a3 y3 => ⟨B3, by rw [y3.1]; exact Stp.refl a3, by
    obtain ⟨a, h1, h2⟩ := Paired.get pr y3.2
    exact ⟨a, h1, Mo.mo s h2⟩⟩⟩
theorem ei_str {z : Str} (h : EvR D te σ B (pEq (.str z))) : EvI D (iStr te) σ B z.cps.size (fun i x _ => ∃ c, z.cps[i]? = some c ∧ x = .str ⟨#[c]⟩) := fun H a R r =>
  h H a _ fun v B2 H2 e p => ⟨z, p, r (Its z) B2 H2 (fun _ => True) _ e (fun _ _ _ h => h) walk_str trivial fun i B3 _ _ H3 x H4 a3 y3 => ⟨B3, by rw [y3.1]; exact Stp.refl a3, y3.2⟩⟩
theorem ei_range1 {j : Int} (h : EvA D ta σ B (fun vs _ => vs = [.int j])) (hj : -(2 ^ 62) ≤ j ∧ j < 2 ^ 62) : EvI D (iRng1 ta) σ B j.toNat (fun i x _ => x = .int (i : Nat)) := fun H a R r =>
  h H a _ fun vs B2 H2 e p => ⟨j, p, hj.1, hj.2, r (Itr 0 j.toNat) B2 H2 (fun _ => True) _ e (fun _ _ _ h => h) walk_range trivial fun i B3 _ _ H3 x H4 a3 y3 => ⟨B3, by rw [y3.1]; exact Stp.refl a3, by rw [y3.2]; show V.int (0 + _) = _; rw [Int.zero_add]⟩⟩
theorem ei_range2 {i j : Int} (h : EvA D ta σ B (fun vs _ => vs = [.int i, .int j])) (hj : -(2 ^ 62) ≤ i ∧ i < 2 ^ 62 ∧ -(2 ^ 62) ≤ j ∧ j < 2 ^ 62) : EvI D (iRng2 ta) σ B (j - i).toNat (fun k x _ => x = .int (i + (k : Nat))) := fun H a R r =>
  h H a _ fun vs B2 H2 e p => ⟨i, j, p, hj, r (Itr i (j - i).toNat) B2 H2 (fun _ => True) _ e (fun _ _ _ h => h) walk_range trivial fun k B3 _ _ H3 x H4 a3 y3 => ⟨B3, by rw [y3.1]; exact Stp.refl a3, y3.2⟩⟩
/-- what a loop's turn is to reach -/
def Nx (D : Dm) (B : Hp) (Iv : Nat → L2.St → Hp → Hp → Prop) (i : Nat) : L2.St → Hp → Prop := fun σ H => ∃ Bn, Same B Bn ∧ At D Bn H ∧ Iv i σ Bn H
/-- for .. in ..: Iv by the turn, the slots, the base and the heap -/
theorem for_ev {tb : TS} {Ds : Ends} {H : Hp} (hi : EvI D wi σ B n PY) (a : At D B H) (Iv : Nat → L2.St → Hp → Hp → Prop) (h0 : ∀ B2 H2, Stp D B H B2 H2 → Iv 0 σ B2 H2)
    (hs : ∀ B2, Same B B2 → ∀ i x σ1 Bi Hi B' H', i < n → Same B2 Bi → At D Bi Hi → Iv i σ1 Bi Hi → Stp D Bi Hi B' H' → PY i x B' → g x σ1 H' fun σ2 H2 =>
      tb { Ds with nx := Nx D B2 Iv (i + 1), ct := Nx D B2 Iv (i + 1), bk := Ds.nx } σ2 H2)
    (hd : ∀ σ1 Bi Hi, Same B Bi → At D Bi Hi → Iv n σ1 Bi Hi → Ds.nx σ1 Hi) : tFor wi g tb Ds σ H :=
  hi H a _ fun J B2 H2 G Y e m w g2 y => by
    refine for_it w (Nx D B2 Iv) ⟨B2, Same.refl _, e.at2, h0 B2 H2 e⟩ (fun i σ1 Hi _ ⟨Bi, s2, ai, _⟩ => m _ _ (s2.trans ai.sm) g2) ?_ ?_
    · rintro i x σ1 H3 H4 hlt ⟨Bi, s2, ai, iv⟩ y4
      obtain ⟨B4, e4, p4⟩ := y i Bi hlt s2 H3 x H4 ai y4
      exact hs B2 e.bs i x σ1 Bi H3 B4 H4 hlt s2 ai iv e4 p4
    · rintro σ1 Hi ⟨Bi, s2, ai, iv⟩
      exact hd σ1 Bi Hi (e.bs.trans s2) ai iv
end

/-! ### comprehensions that change nothing of old -/
section
variable {D : Dm} {K : PySem.W.Frag} {σ : L2.St} {B : Hp} {wi : TI} {g : TG} {tt : TT} {te : TE} {vs : List Nat} {n : Nat} {PY : Nat → V → Hp → Prop}
theorem ev_lcF {R : Nat → PV} {Pb : Nat → Bool → Prop} [∀ i, Mo (R i)] (hi : EvI D wi σ B n PY) (hn : n < 100000)
    (hs : ∀ i x B2, i < n → Same B B2 → PY i x B2 → ∃ σ2, wipe σ2 vs = wipe σ vs ∧ Sets D g x (wipe σ vs) B2 σ2 ∧ ∀ B3, Same B2 B3 → EvT D tt σ2 B3 (Pb i) ∧ (Pb i true → ∀ B4, Same B3 B4 → EvR D te σ2 B4 (R i))) :
    EvR D (tLc wi g tt te vs) σ B (fun x H' => ∃ p xs f, x = .ref p ∧ H' p = some (.lst xs) ∧ (∀ i, i < n → Pb i (f i)) ∧ Paired (fun i v => R i v H') ((List.range n).filter f) xs) := fun H a Q q =>
  hi H a _ fun J B2 H2 G Y e2 hG w g2 hy L hL => by
    have hL2 : B2 L = none := e2.at2.sm.free hL
    have hLd : ¬ D.ds L := fun z => D.there e2.at2.inv z hL
    refine lc_it w (fun i H' => ∃ Bi xs f, Same B2 Bi ∧ At D Bi H' ∧ Bi L = none ∧ SameX D H2 H' ∧ (∀ b, H2 b ≠ none → B2 b = none → Bi b = none) ∧ H' L = some (.lst xs) ∧ (∀ j, j < i → Pb j (f j)) ∧ Paired (fun i v => R i v Bi) ((List.range i).filter f) xs)
      ⟨B2, [], fun _ => true, Same.refl _, (Stp.hid e2.at2 hL).at2, hL2, (Stp.hid e2.at2 hL).x, fun _ _ h => h, upd_same, fun j h => absurd h (Nat.not_lt_zero j), .nil⟩ (fun i H' _ ⟨Bi, _, _, s, a, _⟩ => hG _ _ (s.trans a.sm) g2) ?_ ?_
    · rintro i x H3 H4 hlt ⟨Bi, xs, f, si, ai, hLi, xi, fi, hx, hf, pr⟩ y
      obtain ⟨B4, e4, py⟩ := hy i Bi hlt si H3 x H4 ai y
      have hH3 : H3 L ≠ none := by rw [hx]; exact fun z => nomatch z
      have hL4 : B4 L = none := e4.fr L hH3 hLi
      obtain ⟨σ2, hw, hset, hrest⟩ := hs i x B4 hlt ((e2.bs.trans si).trans e4.bs) py
      have hlen : xs.length ≤ i := by
        have := pr.length
        have h2 : ((List.range i).filter f).length ≤ (List.range i).length := List.length_filter_le _ _
        rw [List.length_range] at h2
        omega
      have efil : ∀ b : Bool, (List.range (i + 1)).filter (fun j => if j = i then b else f j) = (List.range i).filter f ++ (if b = true then [i] else []) := by
        intro b
        rw [List.range_succ, List.filter_append]
        congr 1
        · refine List.filter_congr fun j hj => ?_
          have : j < i := List.mem_range.mp hj
          simp [Nat.ne_of_lt this]
        · cases b <;> simp
      have hfn : ∀ b, Pb i b → ∀ j, j < i + 1 → Pb j (if j = i then b else f j) := fun b hb j hj => by
        by_cases z : j = i
        · subst z; simpa using hb
        · simp only [if_neg z]; exact hf j (by omega)
      refine hset H4 e4.at2 _ fun B5 H5 e5 => ⟨hw, (hrest B5 e5.bs).1 H5 e5.at2 _ fun b B6 H6 e6 pb => ?_⟩
      have e36 := (e4.trans e5).trans e6
      have keep : ∀ {Bz Hz : Hp}, Stp D Bi H3 Bz Hz → Same B2 Bz ∧ Bz L = none ∧ SameX D H2 Hz ∧ (∀ b, H2 b ≠ none → B2 b = none → Bz b = none) ∧ Hz L = some (.lst xs) := fun {Bz Hz} e => by
        refine ⟨si.trans e.bs, e.fr L hH3 hLi, xi.trans e.x, fun b h1 h2 => e.fr b (fun z => ?_) (fi b h1 h2), e.x L _ hx hLd⟩
        by_cases d : D.ds b
        · exact D.there ai.inv d z
        · cases q : H2 b with
          | none => exact h1 q
          | some o => rw [xi b o q d] at z; cases z
      cases b with
      | false =>
        rw [if_neg Bool.false_ne_true]
        obtain ⟨k1, k2, k3, k4, k5⟩ := keep e36
        refine ⟨B6, xs, fun j => if j = i then false else f j, k1, e6.at2, k2, k3, k4, k5, hfn _ pb, ?_⟩
        rw [efil false, if_neg Bool.false_ne_true, List.append_nil]
        exact Paired.mono (fun a v h => Mo.mo e36.bs h) pr
      | true =>
        rw [if_pos rfl]
        refine (hrest B5 e5.bs).2 pb B6 e6.bs H6 e6.at2 _ fun v B7 H7 e7 hv => ?_
        have e37 := e36.trans e7
        obtain ⟨k1, k2, k3, k4, k5⟩ := keep e37
        refine ⟨xs, k5, Nat.lt_of_le_of_lt hlen (Nat.lt_of_lt_of_le (Nat.lt_trans hlt hn) (by decide)), B7, xs ++ [v], fun j => if j = i then true else f j, k1, e7.at2.chg k2 hLd, k2, fun b o h1 h2 => ?_, k4, upd_same, hfn _ pb, ?_⟩
        · have : b ≠ L := fun z => by rw [z, hL] at h1; cases h1
          rw [upd_ne this]; exact k3 b o h1 h2
        · rw [efil true, if_pos rfl]
          exact Paired.snoc (F := fun i v => R i v B7) hv (Paired.mono (fun a v h => Mo.mo e37.bs h) pr)
    · rintro H' ⟨Bi, xs, f, si, ai, hLi, xi, fi, hx, hf, pr⟩
      refine q _ (upd Bi L (.lst xs)) H' (e2.trans ⟨si.trans (Same.new hLi), ai.know hx hLi hLd, xi, fun b h1 h2 => ?_⟩) ⟨L, xs, f, rfl, upd_same, hf, Paired.mono (fun a v h => Mo.mo (Same.new hLi) h) pr⟩
      have : b ≠ L := fun z => h1 (by rw [z]; exact hL)
      rw [upd_ne this]; exact fi b h1 h2
/-- no test: each turn gives an item -/
theorem ev_lc {R : Nat → PV} [∀ i, Mo (R i)] (hi : EvI D wi σ B n PY) (hn : n < 100000)
    (hs : ∀ i x B2, i < n → Same B B2 → PY i x B2 → ∃ σ2, wipe σ2 vs = wipe σ vs ∧ Sets D g x (wipe σ vs) B2 σ2 ∧ ∀ B3, Same B2 B3 → EvR D te σ2 B3 (R i)) :
    EvR D (tLc wi g tYes te vs) σ B (fun x H' => ∃ p xs, x = .ref p ∧ H' p = some (.lst xs) ∧ Paired (fun i v => R i v H') (List.range n) xs) :=
  (ev_lcF (R := R) (Pb := fun _ => is true) hi hn fun i x B2 h1 h2 h4 => by
    obtain ⟨σ2, a, b, c⟩ := hs i x B2 h1 h2 h4
    exact ⟨σ2, a, b, fun B3 e => ⟨fun H at_ Q q => q true B3 H (Stp.refl at_) rfl, fun _ B4 e4 => c B4 (e.trans e4)⟩⟩).imp fun v B2 _ ⟨p, xs, f, h1, h2, h3, h4⟩ => ⟨p, xs, h1, h2, by
      have : (List.range n).filter f = List.range n := List.filter_eq_self.mpr fun j hj => h3 j (List.mem_range.mp hj)
      rw [this] at h4; exact h4⟩
end

/-! ### blocks that return -/
/-- the block returns, whatever stands behind it -/
def EvS (D : Dm) (t : TS) (σ : L2.St) (B : Hp) (P : PV) : Prop := ∀ H, At D B H → ∀ Ds : Ends, (∀ v B2 H2, Stp D B H B2 H2 → P v B2 → Ds.rt v H2) → t Ds σ H
/-- the block goes on, with such slots -/
def EvN (D : Dm) (t : TS) (σ : L2.St) (B : Hp) (P : L2.St → Hp → Prop) : Prop := ∀ H, At D B H → ∀ Ds : Ends, (∀ σ2 B2 H2, Stp D B H B2 H2 → P σ2 B2 → Ds.nx σ2 H2) → t Ds σ H
section
variable {D : Dm} {K : PySem.W.Frag} {σ : L2.St} {B : Hp} {te : TE} {tt : TT} {t u : TS} {g : TG} {P P1 : PV} {i : Nat} {b : Bool} {Pb : Bool → Prop}
theorem EvS.imp (h : EvS D t σ B P) (k : ∀ v B2, Same B B2 → P v B2 → P1 v B2) : EvS D t σ B P1 := fun H a Ds q => h H a Ds fun v B2 H2 e p => q v B2 H2 e (k v B2 e.bs p)
theorem es_ret (h : EvR D te σ B P) : EvS D (tRet te) σ B P := fun H a Ds q => h H a _ q
/-- if c: .. return ..; the rest -/
theorem es_ifs (h : EvT D tt σ B Pb) (h1 : Pb true → ∀ B2, Same B B2 → EvS D t σ B2 P) (h2 : Pb false → ∀ B2, Same B B2 → EvS D u σ B2 P) : EvS D (tSeq (tIfS tt t tNext) u) σ B P := fun H a Ds q => h H a _ fun b B2 H2 e p => by
  cases b with
  | true => exact h1 p B2 e.bs H2 e.at2 _ fun v B3 H3 e3 p3 => q v B3 H3 (e.trans e3) p3
  | false => exact h2 p B2 e.bs H2 e.at2 Ds fun v B3 H3 e3 p3 => q v B3 H3 (e.trans e3) p3
theorem es_ifT (h : EvT D tt σ B (is true)) (h1 : ∀ B2, Same B B2 → EvS D t σ B2 P) : EvS D (tSeq (tIfS tt t tNext) u) σ B P := es_ifs h (fun _ => h1) fun z => nomatch z
theorem es_ifF (h : EvT D tt σ B (is false)) (h1 : ∀ B2, Same B B2 → EvS D u σ B2 P) : EvS D (tSeq (tIfS tt t tNext) u) σ B P := es_ifs h (fun z => nomatch z) fun _ => h1
/-- x = e; the rest -/
theorem es_set (h : EvR D te σ B P1) (hr : ∀ v B2, Same B B2 → P1 v B2 → EvS D u (σ.set i (some v)) B2 P) : EvS D (tSeq (tAsg te (gName i)) u) σ B P := fun H a Ds q => h H a _ fun v B2 H2 e p => hr v B2 e.bs p H2 e.at2 Ds fun w B3 H3 e3 p3 => q w B3 H3 (e.trans e3) p3
theorem es_seq {Pn : L2.St → Hp → Prop} (h : EvN D t σ B Pn) (hr : ∀ σ2 B2, Same B B2 → Pn σ2 B2 → EvS D u σ2 B2 P) : EvS D (tSeq t u) σ B P := fun H a Ds q => h H a _ fun σ2 B2 H2 e p => hr σ2 B2 e.bs p H2 e.at2 Ds fun w B3 H3 e3 p3 => q w B3 H3 (e.trans e3) p3
theorem en_set (h : EvR D te σ B P1) : EvN D (tAsg te (gName i)) σ B (fun σ2 B2 => ∃ v, σ2 = σ.set i (some v) ∧ P1 v B2) := fun H a Ds q => h H a _ fun v B2 H2 e p => q _ B2 H2 e ⟨v, rfl, p⟩
theorem en_drop (h : EvR D te σ B P1) : EvN D (tDrop te) σ B (fun σ2 _ => σ2 = σ) := fun H a Ds q => h H a _ fun v B2 H2 e p => q _ B2 H2 e rfl
theorem en_next : EvN D tNext σ B (fun σ2 _ => σ2 = σ) := fun H a Ds q => q σ B H (Stp.refl a) rfl
end
/-! ### the common promise: nothing of old changes but the demesne, nothing is raised -/
def PSp {α : Type} (Pre : Dm → α → List V → Hp → Prop) (Post : α → PV) : Sp := fun vs H Q _ => ∃ (D : Dm) (B : Hp) (a : α), At D B H ∧ Pre D a vs B ∧ ∀ v B2 H2, Stp D B H B2 H2 → Post a v B2 → Q v H2
theorem EvV.sp {α : Type} {Pre : Dm → α → List V → Hp → Prop} {Post : α → PV} {D : Dm} {B : Hp} {a : α} {vs : List V} {E : XK} (h : Pre D a vs B) : EvV D (fun H Q => PSp Pre Post vs H Q E) B (Post a) := fun H at_ Q q => ⟨D, B, a, at_, h, q⟩
/-- a body that returns keeps it -/
theorem PSp.body {α : Type} {Pre : Dm → α → List V → Hp → Prop} {Post : α → PV} {N : List Str} {t : TS} {vs : List V} {H : Hp} {Q : VK} {E : XK} (h : PSp Pre Post vs H Q E) (k : ∀ D a B, Pre D a vs B → EvS D t (start N vs) B (Post a)) :
    t { nx := fun _ H' => Q .non H', rt := Q } (start N vs) H := by
  obtain ⟨D, B, a, at_, p, q⟩ := h
  exact k D a B p H at_ _ q
end CW
set_option Elab.async false
set_option linter.all false
set_option maxRecDepth 100000
set_option maxHeartbeats 1000000
/-! Fact: a def of the text as the head tells it, and the rule for it. -/
namespace CW
open PySem PySem.Spec PyProof.Rows L2
/-- the def d stands as the top made it -/
def Has (K : PySem.W.Frag) (d : He.DefD) : Prop := ∃ fd, FunD K d.name d.qual d.params d.body d.scope (d.dvs K) (d.kws K) (He.fAd K d.at_) fd
section
variable {P : Program} {w : World} {K : PySem.W.Frag} {mg : Str → Option Value} {base : Heap} {d : He.DefD} {N ps : List Str} {k : Nat} {sp : Sp} {x : Str}
abbrev BodyOk (P : Program) (w : World) (K : PySem.W.Frag) (mg : Str → Option Value) (base : Heap) (N : List Str) (d : He.DefD) (k : Nat) (sp : Sp) : Prop :=
  ∀ (cdv : Value) (A : Around) (outer : List Env) (s : Shared) (H : Hp) (vs : List V) (Q : VK) (E : XK), Room k (A.deeper (envOfC d.qual d.scope s.heap.objs.size (He.fAd K d.at_) cdv)) → sp vs H Q E →
    ∃ t, PSs (cxOf (L2.CX P w) P w K mg base N d.qual d.scope (He.fAd K d.at_) cdv A outer s H E) d.body t ∧ t { nx := fun _ H' => Q .non H', rt := Q } (start N vs) H
/-- nothing is raised -/
abbrev BodyOk0 (P : Program) (w : World) (K : PySem.W.Frag) (mg : Str → Option Value) (base : Heap) (N : List Str) (d : He.DefD) (k : Nat) (sp : Sp) : Prop :=
  ∀ (cdv : Value) (A : Around) (outer : List Env) (s : Shared) (H : Hp) (vs : List V) (Q : VK) (E : XK), Room k (A.deeper (envOfC d.qual d.scope s.heap.objs.size (He.fAd K d.at_) cdv)) → sp vs H Q E →
    ∃ t, PSs (cxOf (L2.CX P w) P w K mg base N d.qual d.scope (He.fAd K d.at_) cdv A outer s H E).nox d.body t ∧ t { nx := fun _ H' => Q .non H', rt := Q } (start N vs) H
theorem BodyOk0.ok (h : BodyOk0 P w K mg base N d k sp) : BodyOk P w K mg base N d k sp := fun cdv A outer s H vs Q E hr hs => by
  obtain ⟨t, a, b⟩ := h cdv A outer s H vs Q E hr hs
  exact ⟨t, a.nox, b⟩
abbrev BindOk (d : He.DefD) (ps : List Str) : Prop := ∀ (kV doc pm : Value) (an : Option Addr) (cdv ct : Value) (us : List Value), us.length = ps.length → bindArgs (PySem.W.fnOf d.name d.qual d.params d.body d.scope .none kV doc pm an cdv ct) ⟨us, []⟩ = pure (ps.zip us)
/-- a def without defaults, at its address -/
theorem fnr_of (T : Has K d) (h0 : d.dfl = []) (S : FnScope N ps d.scope) (hb : BindOk d ps) (len : ∀ vs H Q E, sp vs H Q E → vs.length = ps.length) (body : BodyOk P w K mg base N d k sp) : FnR P w K mg base (L2.CX P w) (k + 1) (He.fAd K d.at_) sp := by
  obtain ⟨fd, F⟩ := T
  have F' : FunD K d.name d.qual d.params d.body d.scope [] (d.kws K) (He.fAd K d.at_) fd := by
    have e : d.dvs K = [] := by unfold He.DefD.dvs; rw [h0]; rfl
    rw [← e]; exact F
  have G : FnOk P w K mg base (L2.CX P w) (k + 1) (He.fAd K d.at_) fd ps sp := F.ok S len body
  have R := G.raw (F'.bindsN hb) .nil
  refine R.imp fun vs H Q E h => ?_
  rw [List.append_nil]; exact h
theorem fn_of (T : Has K d) (hg : mg x = some (.ref (He.fAd K d.at_))) (h0 : d.dfl = []) (S : FnScope N ps d.scope) (hb : BindOk d ps) (len : ∀ vs H Q E, sp vs H Q E → vs.length = ps.length) (body : BodyOk P w K mg base N d k sp) : Fn P w K mg base (k + 1) x sp := by
  obtain ⟨fd, F⟩ := id T
  exact ⟨_, hg, F.kp, fnr_of T h0 S hb len body⟩
end
end CW
set_option Elab.async false
set_option linter.all false
set_option maxRecDepth 100000
set_option maxHeartbeats 1000000
namespace CW
open PySem PySem.Spec PyProof.Rows L2
abbrev PR : Program := PySem.Challenge.pw_cancelwalks_k56_texts_written_and_read
abbrev LW : PySem.W.OpenLaw := PySem.Challenge.rw_cancelwalks_k56_texts_written_and_read
def top (i : Nat) : Stmt := PySem.Challenge.pw_cancelwalks_k56_texts_written_and_read.main.body.getD i (.Pass ⟨0, 0, 0, 0⟩)
abbrev s__wall : Stmt := top 0
def d__wall : He.DefD := ⟨("_wall", none), "_wall", "_wall", defArgs s__wall, defBody s__wall, defScope s__wall, [], []⟩
abbrev s_ParseError_init : Stmt := inClass (top 7) 0
abbrev s_InvalidNumber_init : Stmt := inClass (top 8) 0
abbrev s_is_integer : Stmt := top 13
def d_is_integer : He.DefD := ⟨("is_integer", none), "is_integer", "is_integer", defArgs s_is_integer, defBody s_is_integer, defScope s_is_integer, [], []⟩
abbrev s_is_ascending : Stmt := top 14
def d_is_ascending : He.DefD := ⟨("is_ascending", none), "is_ascending", "is_ascending", defArgs s_is_ascending, defBody s_is_ascending, defScope s_is_ascending, [], []⟩
abbrev s_is_word : Stmt := top 15
def d_is_word : He.DefD := ⟨("is_word", none), "is_word", "is_word", defArgs s_is_word, defBody s_is_word, defScope s_is_word, [], []⟩
abbrev s_is_letters : Stmt := top 16
def d_is_letters : He.DefD := ⟨("is_letters", none), "is_letters", "is_letters", defArgs s_is_letters, defBody s_is_letters, defScope s_is_letters, [], []⟩
abbrev s_is_row : Stmt := top 17
def d_is_row : He.DefD := ⟨("is_row", none), "is_row", "is_row", defArgs s_is_row, defBody s_is_row, defScope s_is_row, [], []⟩
abbrev s_require_row : Stmt := top 18
def d_require_row : He.DefD := ⟨("require_row", none), "require_row", "require_row", defArgs s_require_row, defBody s_require_row, defScope s_require_row, [], []⟩
abbrev s_require_letters : Stmt := top 19
def d_require_letters : He.DefD := ⟨("require_letters", none), "require_letters", "require_letters", defArgs s_require_letters, defBody s_require_letters, defScope s_require_letters, [], []⟩
abbrev s_is_over : Stmt := top 20
def d_is_over : He.DefD := ⟨("is_over", none), "is_over", "is_over", defArgs s_is_over, defBody s_is_over, defScope s_is_over, [], []⟩
abbrev s_require_known : Stmt := top 21
def d_require_known : He.DefD := ⟨("require_known", none), "require_known", "require_known", defArgs s_require_known, defBody s_require_known, defScope s_require_known, [], []⟩
abbrev s_Parts_init : Stmt := inClass (top 27) 1
def d_Parts_init : He.DefD := ⟨("Parts", some "__init__"), "__init__", "Parts.__init__", defArgs s_Parts_init, defBody s_Parts_init, defScope s_Parts_init, [], []⟩
abbrev s_is_step : Stmt := top 28
def d_is_step : He.DefD := ⟨("is_step", none), "is_step", "is_step", defArgs s_is_step, defBody s_is_step, defScope s_is_step, [], []⟩
abbrev s_checked : Stmt := top 54
def d_checked : He.DefD := ⟨("checked", none), "checked", "checked", defArgs s_checked, defBody s_checked, defScope s_checked, [], []⟩
abbrev s_checked_machines : Stmt := top 29
def d_checked_machines : He.DefD := ⟨("checked_machines", none), "checked", "checked", defArgs s_checked_machines, defBody s_checked_machines, defScope s_checked_machines, [], []⟩
abbrev s_Machine_init : Stmt := inClass (top 31) 0
def d_Machine_init : He.DefD := ⟨("Machine", some "__init__"), "__init__", "Machine.__init__", defArgs s_Machine_init, defBody s_Machine_init, defScope s_Machine_init, [.int 1, .adr (He.dflAt ("Machine", some "__init__") 1), .adr (He.dflAt ("Machine", some "__init__") 2)], []⟩
abbrev s_Machine_of_words : Stmt := inClass (top 31) 1
abbrev s_Machine_letters : Stmt := inClass (top 31) 2
abbrev s_Machine_size : Stmt := inClass (top 31) 3
abbrev s_Machine_steps : Stmt := inClass (top 31) 4
abbrev s_Machine_ends : Stmt := inClass (top 31) 5
abbrev s_Machine_words : Stmt := inClass (top 31) 8
def d_Machine_words : He.DefD := ⟨("Machine", some "words"), "words", "Machine.words", defArgs s_Machine_words, defBody s_Machine_words, defScope s_Machine_words, [], []⟩
abbrev s_Machine_or : Stmt := inClass (top 31) 11
def d_Machine_or : He.DefD := ⟨("Machine", some "__or__"), "__or__", "Machine.__or__", defArgs s_Machine_or, defBody s_Machine_or, defScope s_Machine_or, [], []⟩
abbrev s_Machine_add : Stmt := inClass (top 31) 12
def d_Machine_add : He.DefD := ⟨("Machine", some "__add__"), "__add__", "Machine.__add__", defArgs s_Machine_add, defBody s_Machine_add, defScope s_Machine_add, [], []⟩
abbrev s_Machine_contains : Stmt := inClass (top 31) 13
def d_Machine_contains : He.DefD := ⟨("Machine", some "__contains__"), "__contains__", "Machine.__contains__", defArgs s_Machine_contains, defBody s_Machine_contains, defScope s_Machine_contains, [], []⟩
abbrev s_Machine_iter : Stmt := inClass (top 31) 14
def d_Machine_iter : He.DefD := ⟨("Machine", some "__iter__"), "__iter__", "Machine.__iter__", defArgs s_Machine_iter, defBody s_Machine_iter, defScope s_Machine_iter, [], []⟩
abbrev s_Machine_len : Stmt := inClass (top 31) 15
def d_Machine_len : He.DefD := ⟨("Machine", some "__len__"), "__len__", "Machine.__len__", defArgs s_Machine_len, defBody s_Machine_len, defScope s_Machine_len, [], []⟩
abbrev s_Machine_eq : Stmt := inClass (top 31) 16
def d_Machine_eq : He.DefD := ⟨("Machine", some "__eq__"), "__eq__", "Machine.__eq__", defArgs s_Machine_eq, defBody s_Machine_eq, defScope s_Machine_eq, [], []⟩
abbrev s_Machine_str : Stmt := inClass (top 31) 17
def d_Machine_str : He.DefD := ⟨("Machine", some "__str__"), "__str__", "Machine.__str__", defArgs s_Machine_str, defBody s_Machine_str, defScope s_Machine_str, [], []⟩
abbrev s_machine_in : Stmt := top 32
def d_machine_in : He.DefD := ⟨("machine_in", none), "machine_in", "machine_in", defArgs s_machine_in, defBody s_machine_in, defScope s_machine_in, [], []⟩
abbrev s_require_machine : Stmt := top 33
def d_require_machine : He.DefD := ⟨("require_machine", none), "require_machine", "require_machine", defArgs s_require_machine, defBody s_require_machine, defScope s_require_machine, [], []⟩
abbrev s_require_like_letters : Stmt := top 34
def d_require_like_letters : He.DefD := ⟨("require_like_letters", none), "require_like_letters", "require_like_letters", defArgs s_require_like_letters, defBody s_require_like_letters, defScope s_require_like_letters, [], []⟩
abbrev s_is_listed_word : Stmt := top 35
def d_is_listed_word : He.DefD := ⟨("is_listed_word", none), "is_listed_word", "is_listed_word", defArgs s_is_listed_word, defBody s_is_listed_word, defScope s_is_listed_word, [], []⟩
abbrev s_require_words : Stmt := top 36
def d_require_words : He.DefD := ⟨("require_words", none), "require_words", "require_words", defArgs s_require_words, defBody s_require_words, defScope s_require_words, [], []⟩
abbrev s_tree_of : Stmt := top 37
def d_tree_of : He.DefD := ⟨("tree_of", none), "tree_of", "tree_of", defArgs s_tree_of, defBody s_tree_of, defScope s_tree_of, [], []⟩
abbrev s_nexts : Stmt := top 38
def d_nexts : He.DefD := ⟨("nexts", none), "nexts", "nexts", defArgs s_nexts, defBody s_nexts, defScope s_nexts, [], []⟩
abbrev s_states_after : Stmt := top 39
def d_states_after : He.DefD := ⟨("states_after", none), "states_after", "states_after", defArgs s_states_after, defBody s_states_after, defScope s_states_after, [], []⟩
abbrev s_has_end : Stmt := top 40
def d_has_end : He.DefD := ⟨("has_end", none), "has_end", "has_end", defArgs s_has_end, defBody s_has_end, defScope s_has_end, [], []⟩
abbrev s_words_up_to : Stmt := top 41
def d_words_up_to : He.DefD := ⟨("words_up_to", none), "words_up_to", "words_up_to", defArgs s_words_up_to, defBody s_words_up_to, defScope s_words_up_to, [], []⟩
abbrev s_reached : Stmt := top 42
def d_reached : He.DefD := ⟨("reached", none), "reached", "reached", defArgs s_reached, defBody s_reached, defScope s_reached, [], []⟩
abbrev s_useful_states : Stmt := top 43
def d_useful_states : He.DefD := ⟨("useful_states", none), "useful_states", "useful_states", defArgs s_useful_states, defBody s_useful_states, defScope s_useful_states, [], []⟩
abbrev s_lean_in : Stmt := top 44
def d_lean_in : He.DefD := ⟨("lean_in", none), "lean_in", "lean_in", defArgs s_lean_in, defBody s_lean_in, defScope s_lean_in, [], []⟩
abbrev s_moved_steps : Stmt := top 45
def d_moved_steps : He.DefD := ⟨("moved_steps", none), "moved_steps", "moved_steps", defArgs s_moved_steps, defBody s_moved_steps, defScope s_moved_steps, [], []⟩
abbrev s_first_steps : Stmt := top 46
def d_first_steps : He.DefD := ⟨("first_steps", none), "first_steps", "first_steps", defArgs s_first_steps, defBody s_first_steps, defScope s_first_steps, [], []⟩
abbrev s_either_of : Stmt := top 47
def d_either_of : He.DefD := ⟨("either_of", none), "either_of", "either_of", defArgs s_either_of, defBody s_either_of, defScope s_either_of, [], []⟩
abbrev s_chain_of : Stmt := top 48
def d_chain_of : He.DefD := ⟨("chain_of", none), "chain_of", "chain_of", defArgs s_chain_of, defBody s_chain_of, defScope s_chain_of, [], []⟩
abbrev s_Turns_init : Stmt := inClass (top 51) 1
def d_Turns_init : He.DefD := ⟨("Turns", some "__init__"), "__init__", "Turns.__init__", defArgs s_Turns_init, defBody s_Turns_init, defScope s_Turns_init, [], []⟩
abbrev s_is_turn : Stmt := top 52
def d_is_turn : He.DefD := ⟨("is_turn", none), "is_turn", "is_turn", defArgs s_is_turn, defBody s_is_turn, defScope s_is_turn, [], []⟩
abbrev s_are_turns : Stmt := top 53
def d_are_turns : He.DefD := ⟨("are_turns", none), "are_turns", "are_turns", defArgs s_are_turns, defBody s_are_turns, defScope s_are_turns, [], []⟩
abbrev s_checked_boxes : Stmt := top 54
def d_checked_boxes : He.DefD := ⟨("checked_boxes", none), "checked", "checked", defArgs s_checked_boxes, defBody s_checked_boxes, defScope s_checked_boxes, [], []⟩
abbrev s_back_turn : Stmt := top 56
def d_back_turn : He.DefD := ⟨("back_turn", none), "back_turn", "back_turn", defArgs s_back_turn, defBody s_back_turn, defScope s_back_turn, [], []⟩
abbrev s_Box_init : Stmt := inClass (top 57) 0
def d_Box_init : He.DefD := ⟨("Box", some "__init__"), "__init__", "Box.__init__", defArgs s_Box_init, defBody s_Box_init, defScope s_Box_init, [.non], []⟩
abbrev s_Box_letters : Stmt := inClass (top 57) 2
abbrev s_Box_turns : Stmt := inClass (top 57) 3
abbrev s_Box_call : Stmt := inClass (top 57) 6
def d_Box_call : He.DefD := ⟨("Box", some "__call__"), "__call__", "Box.__call__", defArgs s_Box_call, defBody s_Box_call, defScope s_Box_call, [], []⟩
abbrev s_Box_place : Stmt := inClass (top 57) 7
def d_Box_place : He.DefD := ⟨("Box", some "place"), "place", "Box.place", defArgs s_Box_place, defBody s_Box_place, defScope s_Box_place, [], []⟩
abbrev s_Box_turn : Stmt := inClass (top 57) 8
def d_Box_turn : He.DefD := ⟨("Box", some "turn"), "turn", "Box.turn", defArgs s_Box_turn, defBody s_Box_turn, defScope s_Box_turn, [], []⟩
abbrev s_Box_and : Stmt := inClass (top 57) 12
def d_Box_and : He.DefD := ⟨("Box", some "__and__"), "__and__", "Box.__and__", defArgs s_Box_and, defBody s_Box_and, defScope s_Box_and, [], []⟩
abbrev s_Box_len : Stmt := inClass (top 57) 13
def d_Box_len : He.DefD := ⟨("Box", some "__len__"), "__len__", "Box.__len__", defArgs s_Box_len, defBody s_Box_len, defScope s_Box_len, [], []⟩
abbrev s_Box_eq : Stmt := inClass (top 57) 14
def d_Box_eq : He.DefD := ⟨("Box", some "__eq__"), "__eq__", "Box.__eq__", defArgs s_Box_eq, defBody s_Box_eq, defScope s_Box_eq, [], []⟩
abbrev s_Box_str : Stmt := inClass (top 57) 15
def d_Box_str : He.DefD := ⟨("Box", some "__str__"), "__str__", "Box.__str__", defArgs s_Box_str, defBody s_Box_str, defScope s_Box_str, [], []⟩
abbrev s_box_in : Stmt := top 58
def d_box_in : He.DefD := ⟨("box_in", none), "box_in", "box_in", defArgs s_box_in, defBody s_box_in, defScope s_box_in, [], []⟩
abbrev s_require_box : Stmt := top 59
def d_require_box : He.DefD := ⟨("require_box", none), "require_box", "require_box", defArgs s_require_box, defBody s_require_box, defScope s_require_box, [], []⟩
abbrev s_require_place : Stmt := top 60
def d_require_place : He.DefD := ⟨("require_place", none), "require_place", "require_place", defArgs s_require_place, defBody s_require_place, defScope s_require_place, [], []⟩
abbrev s_turn_of : Stmt := top 61
def d_turn_of : He.DefD := ⟨("turn_of", none), "turn_of", "turn_of", defArgs s_turn_of, defBody s_turn_of, defScope s_turn_of, [], []⟩
abbrev s_place_in : Stmt := top 62
def d_place_in : He.DefD := ⟨("place_in", none), "place_in", "place_in", defArgs s_place_in, defBody s_place_in, defScope s_place_in, [], []⟩
abbrev s_turn_by : Stmt := top 63
def d_turn_by : He.DefD := ⟨("turn_by", none), "turn_by", "turn_by", defArgs s_turn_by, defBody s_turn_by, defScope s_turn_by, [], []⟩
abbrev s_both_turned : Stmt := top 64
def d_both_turned : He.DefD := ⟨("both_turned", none), "both_turned", "both_turned", defArgs s_both_turned, defBody s_both_turned, defScope s_both_turned, [], []⟩
abbrev s_pairs_met : Stmt := top 65
def d_pairs_met : He.DefD := ⟨("pairs_met", none), "pairs_met", "pairs_met", defArgs s_pairs_met, defBody s_pairs_met, defScope s_pairs_met, [], []⟩
abbrev s_joined_in : Stmt := top 66
def d_joined_in : He.DefD := ⟨("joined_in", none), "joined_in", "joined_in", defArgs s_joined_in, defBody s_joined_in, defScope s_joined_in, [], []⟩
abbrev s_joined_words : Stmt := top 70
def d_joined_words : He.DefD := ⟨("joined_words", none), "joined_words", "joined_words", defArgs s_joined_words, defBody s_joined_words, defScope s_joined_words, [], []⟩
abbrev s_write_machine : Stmt := top 71
def d_write_machine : He.DefD := ⟨("write_machine", none), "write_machine", "write_machine", defArgs s_write_machine, defBody s_write_machine, defScope s_write_machine, [], []⟩
abbrev s_write_box : Stmt := top 72
def d_write_box : He.DefD := ⟨("write_box", none), "write_box", "write_box", defArgs s_write_box, defBody s_write_box, defScope s_write_box, [], []⟩
abbrev s_is_told_step : Stmt := top 73
def d_is_told_step : He.DefD := ⟨("is_told_step", none), "is_told_step", "is_told_step", defArgs s_is_told_step, defBody s_is_told_step, defScope s_is_told_step, [], []⟩
abbrev s_is_told_walk : Stmt := top 74
def d_is_told_walk : He.DefD := ⟨("is_told_walk", none), "is_told_walk", "is_told_walk", defArgs s_is_told_walk, defBody s_is_told_walk, defScope s_is_told_walk, [], []⟩
abbrev s_walk_line : Stmt := top 75
def d_walk_line : He.DefD := ⟨("walk_line", none), "walk_line", "walk_line", defArgs s_walk_line, defBody s_walk_line, defScope s_walk_line, [], []⟩
abbrev s_write_walk : Stmt := top 76
def d_write_walk : He.DefD := ⟨("write_walk", none), "write_walk", "write_walk", defArgs s_write_walk, defBody s_write_walk, defScope s_write_walk, [], []⟩
abbrev s_write_blur : Stmt := top 77
def d_write_blur : He.DefD := ⟨("write_blur", none), "write_blur", "write_blur", defArgs s_write_blur, defBody s_write_blur, defScope s_write_blur, [], []⟩
abbrev s_Lines_init : Stmt := inClass (top 78) 0
def d_Lines_init : He.DefD := ⟨("Lines", some "__init__"), "__init__", "Lines.__init__", defArgs s_Lines_init, defBody s_Lines_init, defScope s_Lines_init, [], []⟩
abbrev s_Lines_parts : Stmt := inClass (top 78) 1
def d_Lines_parts : He.DefD := ⟨("Lines", some "parts"), "parts", "Lines.parts", defArgs s_Lines_parts, defBody s_Lines_parts, defScope s_Lines_parts, [], []⟩
abbrev s_Lines_is_next : Stmt := inClass (top 78) 2
def d_Lines_is_next : He.DefD := ⟨("Lines", some "is_next"), "is_next", "Lines.is_next", defArgs s_Lines_is_next, defBody s_Lines_is_next, defScope s_Lines_is_next, [], []⟩
abbrev s_Lines_bar : Stmt := inClass (top 78) 3
def d_Lines_bar : He.DefD := ⟨("Lines", some "bar"), "bar", "Lines.bar", defArgs s_Lines_bar, defBody s_Lines_bar, defScope s_Lines_bar, [], []⟩
abbrev s_Lines_go_on : Stmt := inClass (top 78) 4
def d_Lines_go_on : He.DefD := ⟨("Lines", some "go_on"), "go_on", "Lines.go_on", defArgs s_Lines_go_on, defBody s_Lines_go_on, defScope s_Lines_go_on, [], []⟩
abbrev s_Lines_finish : Stmt := inClass (top 78) 5
def d_Lines_finish : He.DefD := ⟨("Lines", some "finish"), "finish", "Lines.finish", defArgs s_Lines_finish, defBody s_Lines_finish, defScope s_Lines_finish, [], []⟩
abbrev s_is_number : Stmt := top 79
def d_is_number : He.DefD := ⟨("is_number", none), "is_number", "is_number", defArgs s_is_number, defBody s_is_number, defScope s_is_number, [], []⟩
abbrev s_are_numbers : Stmt := top 80
def d_are_numbers : He.DefD := ⟨("are_numbers", none), "are_numbers", "are_numbers", defArgs s_are_numbers, defBody s_are_numbers, defScope s_are_numbers, [], []⟩
abbrev s_head_of : Stmt := top 81
def d_head_of : He.DefD := ⟨("head_of", none), "head_of", "head_of", defArgs s_head_of, defBody s_head_of, defScope s_head_of, [], []⟩
abbrev s_is_step_line : Stmt := top 82
def d_is_step_line : He.DefD := ⟨("is_step_line", none), "is_step_line", "is_step_line", defArgs s_is_step_line, defBody s_is_step_line, defScope s_is_step_line, [], []⟩
abbrev s_steps_of : Stmt := top 83
def d_steps_of : He.DefD := ⟨("steps_of", none), "steps_of", "steps_of", defArgs s_steps_of, defBody s_steps_of, defScope s_steps_of, [], []⟩
abbrev s_ends_of : Stmt := top 84
def d_ends_of : He.DefD := ⟨("ends_of", none), "ends_of", "ends_of", defArgs s_ends_of, defBody s_ends_of, defScope s_ends_of, [], []⟩
abbrev s_read_machine : Stmt := top 85
def d_read_machine : He.DefD := ⟨("read_machine", none), "read_machine", "read_machine", defArgs s_read_machine, defBody s_read_machine, defScope s_read_machine, [], []⟩
abbrev s_read_box : Stmt := top 86
def d_read_box : He.DefD := ⟨("read_box", none), "read_box", "read_box", defArgs s_read_box, defBody s_read_box, defScope s_read_box, [], []⟩
abbrev s_sized : Stmt := top 87
def d_sized : He.DefD := ⟨("sized", none), "sized", "sized", defArgs s_sized, defBody s_sized, defScope s_sized, [], []⟩
abbrev s_walk_of : Stmt := top 88
def d_walk_of : He.DefD := ⟨("walk_of", none), "walk_of", "walk_of", defArgs s_walk_of, defBody s_walk_of, defScope s_walk_of, [], []⟩
abbrev s_read_walk : Stmt := top 89
def d_read_walk : He.DefD := ⟨("read_walk", none), "read_walk", "read_walk", defArgs s_read_walk, defBody s_read_walk, defScope s_read_walk, [], []⟩
abbrev s_read_blur : Stmt := top 90
def d_read_blur : He.DefD := ⟨("read_blur", none), "read_blur", "read_blur", defArgs s_read_blur, defBody s_read_blur, defScope s_read_blur, [], []⟩
abbrev s__law_dice : Stmt := top 92
def d__law_dice : He.DefD := ⟨("_law_dice", none), "_law_dice", "_law_dice", defArgs s__law_dice, defBody s__law_dice, defScope s__law_dice, [], []⟩
abbrev s__law_roll : Stmt := top 93
def d__law_roll : He.DefD := ⟨("_law_roll", none), "_law_roll", "_law_roll", defArgs s__law_roll, defBody s__law_roll, defScope s__law_roll, [], []⟩
abbrev s__law_one_of : Stmt := top 94
def d__law_one_of : He.DefD := ⟨("_law_one_of", none), "_law_one_of", "_law_one_of", defArgs s__law_one_of, defBody s__law_one_of, defScope s__law_one_of, [], []⟩
abbrev s__law_mixed : Stmt := top 95
def d__law_mixed : He.DefD := ⟨("_law_mixed", none), "_law_mixed", "_law_mixed", defArgs s__law_mixed, defBody s__law_mixed, defScope s__law_mixed, [], []⟩
abbrev s__law_letters : Stmt := top 96
def d__law_letters : He.DefD := ⟨("_law_letters", none), "_law_letters", "_law_letters", defArgs s__law_letters, defBody s__law_letters, defScope s__law_letters, [], []⟩
abbrev s__law_machine : Stmt := top 97
def d__law_machine : He.DefD := ⟨("_law_machine", none), "_law_machine", "_law_machine", defArgs s__law_machine, defBody s__law_machine, defScope s__law_machine, [], []⟩
abbrev s__law_made_machine : Stmt := top 98
def d__law_made_machine : He.DefD := ⟨("_law_made_machine", none), "_law_made_machine", "_law_made_machine", defArgs s__law_made_machine, defBody s__law_made_machine, defScope s__law_made_machine, [], []⟩
abbrev s__law_box : Stmt := top 99
def d__law_box : He.DefD := ⟨("_law_box", none), "_law_box", "_law_box", defArgs s__law_box, defBody s__law_box, defScope s__law_box, [], []⟩
abbrev s__law_machine_text : Stmt := top 100
def d__law_machine_text : He.DefD := ⟨("_law_machine_text", none), "_law_machine_text", "_law_machine_text", defArgs s__law_machine_text, defBody s__law_machine_text, defScope s__law_machine_text, [], []⟩
abbrev s__law_box_text : Stmt := top 101
def d__law_box_text : He.DefD := ⟨("_law_box_text", none), "_law_box_text", "_law_box_text", defArgs s__law_box_text, defBody s__law_box_text, defScope s__law_box_text, [], []⟩
abbrev s__law_walk_text : Stmt := top 102
def d__law_walk_text : He.DefD := ⟨("_law_walk_text", none), "_law_walk_text", "_law_walk_text", defArgs s__law_walk_text, defBody s__law_walk_text, defScope s__law_walk_text, [], []⟩
abbrev s__law_chain : Stmt := top 103
def d__law_chain : He.DefD := ⟨("_law_chain", none), "_law_chain", "_law_chain", defArgs s__law_chain, defBody s__law_chain, defScope s__law_chain, [], []⟩
abbrev s__law_right : Stmt := top 104
def d__law_right : He.DefD := ⟨("_law_right", none), "_law_right", "_law_right", defArgs s__law_right, defBody s__law_right, defScope s__law_right, [], []⟩
abbrev s_law : Stmt := top 105
def d_law : He.DefD := ⟨("law", none), "law", "law", defArgs s_law, defBody s_law, defScope s_law, [], []⟩
def fas : List He.Fa := [
  .glo "StepError",
  .keep "StepError",
  .glo "InvalidRow",
  .keep "InvalidRow",
  .glo "InvalidMachine",
  .keep "InvalidMachine",
  .glo "InvalidBox",
  .keep "InvalidBox",
  .glo "InvalidOperation",
  .keep "InvalidOperation",
  .glo "ParseError",
  .keep "ParseError",
  .glo "InvalidNumber",
  .keep "InvalidNumber",
  .int "MAX_LETTERS" 3,
  .str "LETTERS" "abcdefghijklmnopqrstuvwxyz",
  .str "CAPITALS" "ABCDEFGHIJKLMNOPQRSTUVWXYZ",
  .glo "is_integer",
  .glo "is_ascending",
  .glo "is_word",
  .glo "is_letters",
  .glo "is_row",
  .glo "require_row",
  .glo "require_letters",
  .glo "is_over",
  .glo "require_known",
  .int "MAX_STATES" 5,
  .int "MAX_STEPS" 10,
  .int "MAX_LISTED" 8,
  .int "MAX_WORDS" 6,
  .glo "Parts",
  .keep "Parts",
  .mkr "Parts",
  .glo "is_step",
  .glo "checked",
  .glo "checked_machines",
  .glo "Machine",
  .keep "Machine",
  .mkr "Machine",
  .cls "Machine",
  .noat "Machine" "own_ends",
  .noat "Machine" "own_letters",
  .noat "Machine" "own_size",
  .noat "Machine" "own_steps",
  .meth "Machine" "words",
  .glo "machine_in",
  .glo "require_machine",
  .glo "require_like_letters",
  .glo "is_listed_word",
  .glo "require_words",
  .glo "tree_of",
  .glo "nexts",
  .glo "states_after",
  .glo "has_end",
  .glo "words_up_to",
  .glo "reached",
  .glo "useful_states",
  .glo "lean_in",
  .glo "moved_steps",
  .glo "first_steps",
  .glo "either_of",
  .glo "chain_of",
  .int "MAX_PLACES" 6,
  .glo "Turns",
  .keep "Turns",
  .mkr "Turns",
  .glo "is_turn",
  .glo "are_turns",
  .glo "checked_boxes",
  .glo "back_turn",
  .glo "Box",
  .keep "Box",
  .mkr "Box",
  .cls "Box",
  .noat "Box" "own_backs",
  .noat "Box" "own_letters",
  .noat "Box" "own_places",
  .noat "Box" "own_turns",
  .meth "Box" "place",
  .meth "Box" "turn",
  .glo "box_in",
  .glo "require_box",
  .glo "require_place",
  .glo "turn_of",
  .glo "place_in",
  .glo "turn_by",
  .glo "both_turned",
  .glo "pairs_met",
  .glo "joined_in",
  .str "NOTHING" "-",
  .str "DIGITS" "0123456789",
  .glo "joined_words",
  .glo "write_machine",
  .glo "write_box",
  .glo "is_told_step",
  .glo "is_told_walk",
  .glo "walk_line",
  .glo "write_walk",
  .glo "write_blur",
  .glo "Lines",
  .keep "Lines",
  .mkr "Lines",
  .cls "Lines",
  .noat "Lines" "own_at",
  .noat "Lines" "own_rows",
  .meth "Lines" "parts",
  .meth "Lines" "is_next",
  .meth "Lines" "bar",
  .meth "Lines" "go_on",
  .meth "Lines" "finish",
  .glo "is_number",
  .glo "are_numbers",
  .glo "head_of",
  .glo "is_step_line",
  .glo "steps_of",
  .glo "ends_of",
  .glo "read_machine",
  .glo "read_box",
  .glo "sized",
  .glo "walk_of",
  .glo "read_walk",
  .glo "read_blur",
  .glo "_law_dice",
  .glo "_law_roll",
  .glo "_law_one_of",
  .glo "_law_mixed",
  .glo "_law_letters",
  .glo "_law_machine",
  .glo "_law_made_machine",
  .glo "_law_box",
  .glo "_law_machine_text",
  .glo "_law_box_text",
  .glo "_law_walk_text",
  .glo "_law_chain",
  .glo "_law_right",
  .glo "law",
  .free "abs",
  .free "all",
  .free "any",
  .free "bool",
  .free "dict",
  .free "enumerate",
  .free "int",
  .free "isinstance",
  .free "len",
  .free "list",
  .free "max",
  .free "min",
  .free "range",
  .free "set",
  .free "sorted",
  .free "str",
  .free "super",
  .free "tuple",
  .free "zip"]
def dfs : List He.DefD := [d__wall, d_is_integer, d_is_ascending, d_is_word, d_is_letters, d_is_row, d_require_row, d_require_letters, d_is_over, d_require_known, d_Parts_init, d_is_step, d_checked, d_checked_machines, d_Machine_init, d_Machine_words, d_Machine_or, d_Machine_add, d_Machine_contains, d_Machine_iter, d_Machine_len, d_Machine_eq, d_Machine_str, d_machine_in, d_require_machine, d_require_like_letters, d_is_listed_word, d_require_words, d_tree_of, d_nexts, d_states_after, d_has_end, d_words_up_to, d_reached, d_useful_states, d_lean_in, d_moved_steps, d_first_steps, d_either_of, d_chain_of, d_Turns_init, d_is_turn, d_are_turns, d_checked_boxes, d_back_turn, d_Box_init, d_Box_call, d_Box_place, d_Box_turn, d_Box_and, d_Box_len, d_Box_eq, d_Box_str, d_box_in, d_require_box, d_require_place, d_turn_of, d_place_in, d_turn_by, d_both_turned, d_pairs_met, d_joined_in, d_joined_words, d_write_machine, d_write_box, d_is_told_step, d_is_told_walk, d_walk_line, d_write_walk, d_write_blur, d_Lines_init, d_Lines_parts, d_Lines_is_next, d_Lines_bar, d_Lines_go_on, d_Lines_finish, d_is_number, d_are_numbers, d_head_of, d_is_step_line, d_steps_of, d_ends_of, d_read_machine, d_read_box, d_sized, d_walk_of, d_read_walk, d_read_blur, d__law_dice, d__law_roll, d__law_one_of, d__law_mixed, d__law_letters, d__law_machine, d__law_made_machine, d__law_box, d__law_machine_text, d__law_box_text, d__law_walk_text, d__law_chain, d__law_right, d_law]
/-- what the walks lean on -/
structure Tx (K : PySem.W.Frag) (mg : Str → Option Value) : Prop where
  g_StepError : mg "StepError" = some (.ref (He.ga K "StepError"))
  k_StepError : PySem.W.keepIn K (.ref (He.ga K "StepError")) = true
  g_InvalidRow : mg "InvalidRow" = some (.ref (He.ga K "InvalidRow"))
  k_InvalidRow : PySem.W.keepIn K (.ref (He.ga K "InvalidRow")) = true
  g_InvalidMachine : mg "InvalidMachine" = some (.ref (He.ga K "InvalidMachine"))
  k_InvalidMachine : PySem.W.keepIn K (.ref (He.ga K "InvalidMachine")) = true
  g_InvalidBox : mg "InvalidBox" = some (.ref (He.ga K "InvalidBox"))
  k_InvalidBox : PySem.W.keepIn K (.ref (He.ga K "InvalidBox")) = true
  g_InvalidOperation : mg "InvalidOperation" = some (.ref (He.ga K "InvalidOperation"))
  k_InvalidOperation : PySem.W.keepIn K (.ref (He.ga K "InvalidOperation")) = true
  g_ParseError : mg "ParseError" = some (.ref (He.ga K "ParseError"))
  k_ParseError : PySem.W.keepIn K (.ref (He.ga K "ParseError")) = true
  g_InvalidNumber : mg "InvalidNumber" = some (.ref (He.ga K "InvalidNumber"))
  k_InvalidNumber : PySem.W.keepIn K (.ref (He.ga K "InvalidNumber")) = true
  i_MAX_LETTERS : ∃ t, mg "MAX_LETTERS" = some (.int 3 t)
  t_LETTERS : ∃ t, mg "LETTERS" = some (.str "abcdefghijklmnopqrstuvwxyz" t)
  t_CAPITALS : ∃ t, mg "CAPITALS" = some (.str "ABCDEFGHIJKLMNOPQRSTUVWXYZ" t)
  g_is_integer : mg "is_integer" = some (.ref (He.ga K "is_integer"))
  g_is_ascending : mg "is_ascending" = some (.ref (He.ga K "is_ascending"))
  g_is_word : mg "is_word" = some (.ref (He.ga K "is_word"))
  g_is_letters : mg "is_letters" = some (.ref (He.ga K "is_letters"))
  g_is_row : mg "is_row" = some (.ref (He.ga K "is_row"))
  g_require_row : mg "require_row" = some (.ref (He.ga K "require_row"))
  g_require_letters : mg "require_letters" = some (.ref (He.ga K "require_letters"))
  g_is_over : mg "is_over" = some (.ref (He.ga K "is_over"))
  g_require_known : mg "require_known" = some (.ref (He.ga K "require_known"))
  i_MAX_STATES : ∃ t, mg "MAX_STATES" = some (.int 5 t)
  i_MAX_STEPS : ∃ t, mg "MAX_STEPS" = some (.int 10 t)
  i_MAX_LISTED : ∃ t, mg "MAX_LISTED" = some (.int 8 t)
  i_MAX_WORDS : ∃ t, mg "MAX_WORDS" = some (.int 6 t)
  g_Parts : mg "Parts" = some (.ref (He.ga K "Parts"))
  k_Parts : PySem.W.keepIn K (.ref (He.ga K "Parts")) = true
  mk_Parts : Mk K (He.ga K "Parts") (He.ma K (He.ga K "Parts") "__init__")
  g_is_step : mg "is_step" = some (.ref (He.ga K "is_step"))
  g_checked : mg "checked" = some (.ref (He.ga K "checked"))
  g_checked_machines : mg "checked_machines" = some (.ref (He.ga K "checked_machines"))
  g_Machine : mg "Machine" = some (.ref (He.ga K "Machine"))
  k_Machine : PySem.W.keepIn K (.ref (He.ga K "Machine")) = true
  mk_Machine : Mk K (He.ga K "Machine") (He.ma K (He.ga K "Machine") "__init__")
  cl_Machine : Cls K (He.ga K "Machine")
  na_Machine_own_ends : NoAttr K (He.ga K "Machine") "own_ends"
  na_Machine_own_letters : NoAttr K (He.ga K "Machine") "own_letters"
  na_Machine_own_size : NoAttr K (He.ga K "Machine") "own_size"
  na_Machine_own_steps : NoAttr K (He.ga K "Machine") "own_steps"
  me_Machine_words : Meth K (He.ga K "Machine") "words" (He.ma K (He.ga K "Machine") "words")
  g_machine_in : mg "machine_in" = some (.ref (He.ga K "machine_in"))
  g_require_machine : mg "require_machine" = some (.ref (He.ga K "require_machine"))
  g_require_like_letters : mg "require_like_letters" = some (.ref (He.ga K "require_like_letters"))
  g_is_listed_word : mg "is_listed_word" = some (.ref (He.ga K "is_listed_word"))
  g_require_words : mg "require_words" = some (.ref (He.ga K "require_words"))
  g_tree_of : mg "tree_of" = some (.ref (He.ga K "tree_of"))
  g_nexts : mg "nexts" = some (.ref (He.ga K "nexts"))
  g_states_after : mg "states_after" = some (.ref (He.ga K "states_after"))
  g_has_end : mg "has_end" = some (.ref (He.ga K "has_end"))
  g_words_up_to : mg "words_up_to" = some (.ref (He.ga K "words_up_to"))
  g_reached : mg "reached" = some (.ref (He.ga K "reached"))
  g_useful_states : mg "useful_states" = some (.ref (He.ga K "useful_states"))
  g_lean_in : mg "lean_in" = some (.ref (He.ga K "lean_in"))
  g_moved_steps : mg "moved_steps" = some (.ref (He.ga K "moved_steps"))
  g_first_steps : mg "first_steps" = some (.ref (He.ga K "first_steps"))
  g_either_of : mg "either_of" = some (.ref (He.ga K "either_of"))
  g_chain_of : mg "chain_of" = some (.ref (He.ga K "chain_of"))
  i_MAX_PLACES : ∃ t, mg "MAX_PLACES" = some (.int 6 t)
  g_Turns : mg "Turns" = some (.ref (He.ga K "Turns"))
  k_Turns : PySem.W.keepIn K (.ref (He.ga K "Turns")) = true
  mk_Turns : Mk K (He.ga K "Turns") (He.ma K (He.ga K "Turns") "__init__")
  g_is_turn : mg "is_turn" = some (.ref (He.ga K "is_turn"))
  g_are_turns : mg "are_turns" = some (.ref (He.ga K "are_turns"))
  g_checked_boxes : mg "checked_boxes" = some (.ref (He.ga K "checked_boxes"))
  g_back_turn : mg "back_turn" = some (.ref (He.ga K "back_turn"))
  g_Box : mg "Box" = some (.ref (He.ga K "Box"))
  k_Box : PySem.W.keepIn K (.ref (He.ga K "Box")) = true
  mk_Box : Mk K (He.ga K "Box") (He.ma K (He.ga K "Box") "__init__")
  cl_Box : Cls K (He.ga K "Box")
  na_Box_own_backs : NoAttr K (He.ga K "Box") "own_backs"
  na_Box_own_letters : NoAttr K (He.ga K "Box") "own_letters"
  na_Box_own_places : NoAttr K (He.ga K "Box") "own_places"
  na_Box_own_turns : NoAttr K (He.ga K "Box") "own_turns"
  me_Box_place : Meth K (He.ga K "Box") "place" (He.ma K (He.ga K "Box") "place")
  me_Box_turn : Meth K (He.ga K "Box") "turn" (He.ma K (He.ga K "Box") "turn")
  g_box_in : mg "box_in" = some (.ref (He.ga K "box_in"))
  g_require_box : mg "require_box" = some (.ref (He.ga K "require_box"))
  g_require_place : mg "require_place" = some (.ref (He.ga K "require_place"))
  g_turn_of : mg "turn_of" = some (.ref (He.ga K "turn_of"))
  g_place_in : mg "place_in" = some (.ref (He.ga K "place_in"))
  g_turn_by : mg "turn_by" = some (.ref (He.ga K "turn_by"))
  g_both_turned : mg "both_turned" = some (.ref (He.ga K "both_turned"))
  g_pairs_met : mg "pairs_met" = some (.ref (He.ga K "pairs_met"))
  g_joined_in : mg "joined_in" = some (.ref (He.ga K "joined_in"))
  t_NOTHING : ∃ t, mg "NOTHING" = some (.str "-" t)
  t_DIGITS : ∃ t, mg "DIGITS" = some (.str "0123456789" t)
  g_joined_words : mg "joined_words" = some (.ref (He.ga K "joined_words"))
  g_write_machine : mg "write_machine" = some (.ref (He.ga K "write_machine"))
  g_write_box : mg "write_box" = some (.ref (He.ga K "write_box"))
  g_is_told_step : mg "is_told_step" = some (.ref (He.ga K "is_told_step"))
  g_is_told_walk : mg "is_told_walk" = some (.ref (He.ga K "is_told_walk"))
  g_walk_line : mg "walk_line" = some (.ref (He.ga K "walk_line"))
  g_write_walk : mg "write_walk" = some (.ref (He.ga K "write_walk"))
  g_write_blur : mg "write_blur" = some (.ref (He.ga K "write_blur"))
  g_Lines : mg "Lines" = some (.ref (He.ga K "Lines"))
  k_Lines : PySem.W.keepIn K (.ref (He.ga K "Lines")) = true
  mk_Lines : Mk K (He.ga K "Lines") (He.ma K (He.ga K "Lines") "__init__")
  cl_Lines : Cls K (He.ga K "Lines")
  na_Lines_own_at : NoAttr K (He.ga K "Lines") "own_at"
  na_Lines_own_rows : NoAttr K (He.ga K "Lines") "own_rows"
  me_Lines_parts : Meth K (He.ga K "Lines") "parts" (He.ma K (He.ga K "Lines") "parts")
  me_Lines_is_next : Meth K (He.ga K "Lines") "is_next" (He.ma K (He.ga K "Lines") "is_next")
  me_Lines_bar : Meth K (He.ga K "Lines") "bar" (He.ma K (He.ga K "Lines") "bar")
  me_Lines_go_on : Meth K (He.ga K "Lines") "go_on" (He.ma K (He.ga K "Lines") "go_on")
  me_Lines_finish : Meth K (He.ga K "Lines") "finish" (He.ma K (He.ga K "Lines") "finish")
  g_is_number : mg "is_number" = some (.ref (He.ga K "is_number"))
  g_are_numbers : mg "are_numbers" = some (.ref (He.ga K "are_numbers"))
  g_head_of : mg "head_of" = some (.ref (He.ga K "head_of"))
  g_is_step_line : mg "is_step_line" = some (.ref (He.ga K "is_step_line"))
  g_steps_of : mg "steps_of" = some (.ref (He.ga K "steps_of"))
  g_ends_of : mg "ends_of" = some (.ref (He.ga K "ends_of"))
  g_read_machine : mg "read_machine" = some (.ref (He.ga K "read_machine"))
  g_read_box : mg "read_box" = some (.ref (He.ga K "read_box"))
  g_sized : mg "sized" = some (.ref (He.ga K "sized"))
  g_walk_of : mg "walk_of" = some (.ref (He.ga K "walk_of"))
  g_read_walk : mg "read_walk" = some (.ref (He.ga K "read_walk"))
  g_read_blur : mg "read_blur" = some (.ref (He.ga K "read_blur"))
  g__law_dice : mg "_law_dice" = some (.ref (He.ga K "_law_dice"))
  g__law_roll : mg "_law_roll" = some (.ref (He.ga K "_law_roll"))
  g__law_one_of : mg "_law_one_of" = some (.ref (He.ga K "_law_one_of"))
  g__law_mixed : mg "_law_mixed" = some (.ref (He.ga K "_law_mixed"))
  g__law_letters : mg "_law_letters" = some (.ref (He.ga K "_law_letters"))
  g__law_machine : mg "_law_machine" = some (.ref (He.ga K "_law_machine"))
  g__law_made_machine : mg "_law_made_machine" = some (.ref (He.ga K "_law_made_machine"))
  g__law_box : mg "_law_box" = some (.ref (He.ga K "_law_box"))
  g__law_machine_text : mg "_law_machine_text" = some (.ref (He.ga K "_law_machine_text"))
  g__law_box_text : mg "_law_box_text" = some (.ref (He.ga K "_law_box_text"))
  g__law_walk_text : mg "_law_walk_text" = some (.ref (He.ga K "_law_walk_text"))
  g__law_chain : mg "_law_chain" = some (.ref (He.ga K "_law_chain"))
  g__law_right : mg "_law_right" = some (.ref (He.ga K "_law_right"))
  g_law : mg "law" = some (.ref (He.ga K "law"))
  b_abs : mg "abs" = none
  b_all : mg "all" = none
  b_any : mg "any" = none
  b_bool : mg "bool" = none
  b_dict : mg "dict" = none
  b_enumerate : mg "enumerate" = none
  b_int : mg "int" = none
  b_isinstance : mg "isinstance" = none
  b_len : mg "len" = none
  b_list : mg "list" = none
  b_max : mg "max" = none
  b_min : mg "min" = none
  b_range : mg "range" = none
  b_set : mg "set" = none
  b_sorted : mg "sorted" = none
  b_str : mg "str" = none
  b_super : mg "super" = none
  b_tuple : mg "tuple" = none
  b_zip : mg "zip" = none
  h__wall : Has K d__wall
  h_is_integer : Has K d_is_integer
  h_is_ascending : Has K d_is_ascending
  h_is_word : Has K d_is_word
  h_is_letters : Has K d_is_letters
  h_is_row : Has K d_is_row
  h_require_row : Has K d_require_row
  h_require_letters : Has K d_require_letters
  h_is_over : Has K d_is_over
  h_require_known : Has K d_require_known
  h_Parts_init : Has K d_Parts_init
  h_is_step : Has K d_is_step
  h_checked : Has K d_checked
  h_checked_machines : Has K d_checked_machines
  h_Machine_init : Has K d_Machine_init
  h_Machine_words : Has K d_Machine_words
  h_Machine_or : Has K d_Machine_or
  h_Machine_add : Has K d_Machine_add
  h_Machine_contains : Has K d_Machine_contains
  h_Machine_iter : Has K d_Machine_iter
  h_Machine_len : Has K d_Machine_len
  h_Machine_eq : Has K d_Machine_eq
  h_Machine_str : Has K d_Machine_str
  h_machine_in : Has K d_machine_in
  h_require_machine : Has K d_require_machine
  h_require_like_letters : Has K d_require_like_letters
  h_is_listed_word : Has K d_is_listed_word
  h_require_words : Has K d_require_words
  h_tree_of : Has K d_tree_of
  h_nexts : Has K d_nexts
  h_states_after : Has K d_states_after
  h_has_end : Has K d_has_end
  h_words_up_to : Has K d_words_up_to
  h_reached : Has K d_reached
  h_useful_states : Has K d_useful_states
  h_lean_in : Has K d_lean_in
  h_moved_steps : Has K d_moved_steps
  h_first_steps : Has K d_first_steps
  h_either_of : Has K d_either_of
  h_chain_of : Has K d_chain_of
  h_Turns_init : Has K d_Turns_init
  h_is_turn : Has K d_is_turn
  h_are_turns : Has K d_are_turns
  h_checked_boxes : Has K d_checked_boxes
  h_back_turn : Has K d_back_turn
  h_Box_init : Has K d_Box_init
  h_Box_call : Has K d_Box_call
  h_Box_place : Has K d_Box_place
  h_Box_turn : Has K d_Box_turn
  h_Box_and : Has K d_Box_and
  h_Box_len : Has K d_Box_len
  h_Box_eq : Has K d_Box_eq
  h_Box_str : Has K d_Box_str
  h_box_in : Has K d_box_in
  h_require_box : Has K d_require_box
  h_require_place : Has K d_require_place
  h_turn_of : Has K d_turn_of
  h_place_in : Has K d_place_in
  h_turn_by : Has K d_turn_by
  h_both_turned : Has K d_both_turned
  h_pairs_met : Has K d_pairs_met
  h_joined_in : Has K d_joined_in
  h_joined_words : Has K d_joined_words
  h_write_machine : Has K d_write_machine
  h_write_box : Has K d_write_box
  h_is_told_step : Has K d_is_told_step
  h_is_told_walk : Has K d_is_told_walk
  h_walk_line : Has K d_walk_line
  h_write_walk : Has K d_write_walk
  h_write_blur : Has K d_write_blur
  h_Lines_init : Has K d_Lines_init
  h_Lines_parts : Has K d_Lines_parts
  h_Lines_is_next : Has K d_Lines_is_next
  h_Lines_bar : Has K d_Lines_bar
  h_Lines_go_on : Has K d_Lines_go_on
  h_Lines_finish : Has K d_Lines_finish
  h_is_number : Has K d_is_number
  h_are_numbers : Has K d_are_numbers
  h_head_of : Has K d_head_of
  h_is_step_line : Has K d_is_step_line
  h_steps_of : Has K d_steps_of
  h_ends_of : Has K d_ends_of
  h_read_machine : Has K d_read_machine
  h_read_box : Has K d_read_box
  h_sized : Has K d_sized
  h_walk_of : Has K d_walk_of
  h_read_walk : Has K d_read_walk
  h_read_blur : Has K d_read_blur
  h__law_dice : Has K d__law_dice
  h__law_roll : Has K d__law_roll
  h__law_one_of : Has K d__law_one_of
  h__law_mixed : Has K d__law_mixed
  h__law_letters : Has K d__law_letters
  h__law_machine : Has K d__law_machine
  h__law_made_machine : Has K d__law_made_machine
  h__law_box : Has K d__law_box
  h__law_machine_text : Has K d__law_machine_text
  h__law_box_text : Has K d__law_box_text
  h__law_walk_text : Has K d__law_walk_text
  h__law_chain : Has K d__law_chain
  h__law_right : Has K d__law_right
  h_law : Has K d_law
theorem tx_of {K : PySem.W.Frag} {h : Heap} {mg : Str → Option Value} (X : K.In h) (G : h.Ns mainGlobals mg) (c : He.SaysD fas dfs K) : Tx K mg where
  g_StepError := He.glo_ok X G (c.fact 0 (f := .glo "StepError") rfl)
  k_StepError := He.keep_ok (c.fact 1 (f := .keep "StepError") rfl)
  g_InvalidRow := He.glo_ok X G (c.fact 2 (f := .glo "InvalidRow") rfl)
  k_InvalidRow := He.keep_ok (c.fact 3 (f := .keep "InvalidRow") rfl)
  g_InvalidMachine := He.glo_ok X G (c.fact 4 (f := .glo "InvalidMachine") rfl)
  k_InvalidMachine := He.keep_ok (c.fact 5 (f := .keep "InvalidMachine") rfl)
  g_InvalidBox := He.glo_ok X G (c.fact 6 (f := .glo "InvalidBox") rfl)
  k_InvalidBox := He.keep_ok (c.fact 7 (f := .keep "InvalidBox") rfl)
  g_InvalidOperation := He.glo_ok X G (c.fact 8 (f := .glo "InvalidOperation") rfl)
  k_InvalidOperation := He.keep_ok (c.fact 9 (f := .keep "InvalidOperation") rfl)
  g_ParseError := He.glo_ok X G (c.fact 10 (f := .glo "ParseError") rfl)
  k_ParseError := He.keep_ok (c.fact 11 (f := .keep "ParseError") rfl)
  g_InvalidNumber := He.glo_ok X G (c.fact 12 (f := .glo "InvalidNumber") rfl)
  k_InvalidNumber := He.keep_ok (c.fact 13 (f := .keep "InvalidNumber") rfl)
  i_MAX_LETTERS := He.int_ok X G (c.fact 14 (f := .int "MAX_LETTERS" 3) rfl)
  t_LETTERS := He.str_ok X G (c.fact 15 (f := .str "LETTERS" "abcdefghijklmnopqrstuvwxyz") rfl)
  t_CAPITALS := He.str_ok X G (c.fact 16 (f := .str "CAPITALS" "ABCDEFGHIJKLMNOPQRSTUVWXYZ") rfl)
  g_is_integer := He.glo_ok X G (c.fact 17 (f := .glo "is_integer") rfl)
  g_is_ascending := He.glo_ok X G (c.fact 18 (f := .glo "is_ascending") rfl)
  g_is_word := He.glo_ok X G (c.fact 19 (f := .glo "is_word") rfl)
  g_is_letters := He.glo_ok X G (c.fact 20 (f := .glo "is_letters") rfl)
  g_is_row := He.glo_ok X G (c.fact 21 (f := .glo "is_row") rfl)
  g_require_row := He.glo_ok X G (c.fact 22 (f := .glo "require_row") rfl)
  g_require_letters := He.glo_ok X G (c.fact 23 (f := .glo "require_letters") rfl)
  g_is_over := He.glo_ok X G (c.fact 24 (f := .glo "is_over") rfl)
  g_require_known := He.glo_ok X G (c.fact 25 (f := .glo "require_known") rfl)
  i_MAX_STATES := He.int_ok X G (c.fact 26 (f := .int "MAX_STATES" 5) rfl)
  i_MAX_STEPS := He.int_ok X G (c.fact 27 (f := .int "MAX_STEPS" 10) rfl)
  i_MAX_LISTED := He.int_ok X G (c.fact 28 (f := .int "MAX_LISTED" 8) rfl)
  i_MAX_WORDS := He.int_ok X G (c.fact 29 (f := .int "MAX_WORDS" 6) rfl)
  g_Parts := He.glo_ok X G (c.fact 30 (f := .glo "Parts") rfl)
  k_Parts := He.keep_ok (c.fact 31 (f := .keep "Parts") rfl)
  mk_Parts := He.mkr_ok (c.fact 32 (f := .mkr "Parts") rfl)
  g_is_step := He.glo_ok X G (c.fact 33 (f := .glo "is_step") rfl)
  g_checked := He.glo_ok X G (c.fact 34 (f := .glo "checked") rfl)
  g_checked_machines := He.glo_ok X G (c.fact 35 (f := .glo "checked_machines") rfl)
  g_Machine := He.glo_ok X G (c.fact 36 (f := .glo "Machine") rfl)
  k_Machine := He.keep_ok (c.fact 37 (f := .keep "Machine") rfl)
  mk_Machine := He.mkr_ok (c.fact 38 (f := .mkr "Machine") rfl)
  cl_Machine := He.cls_ok (c.fact 39 (f := .cls "Machine") rfl)
  na_Machine_own_ends := He.noat_ok (c.fact 40 (f := .noat "Machine" "own_ends") rfl)
  na_Machine_own_letters := He.noat_ok (c.fact 41 (f := .noat "Machine" "own_letters") rfl)
  na_Machine_own_size := He.noat_ok (c.fact 42 (f := .noat "Machine" "own_size") rfl)
  na_Machine_own_steps := He.noat_ok (c.fact 43 (f := .noat "Machine" "own_steps") rfl)
  me_Machine_words := He.meth_ok (c.fact 44 (f := .meth "Machine" "words") rfl)
  g_machine_in := He.glo_ok X G (c.fact 45 (f := .glo "machine_in") rfl)
  g_require_machine := He.glo_ok X G (c.fact 46 (f := .glo "require_machine") rfl)
  g_require_like_letters := He.glo_ok X G (c.fact 47 (f := .glo "require_like_letters") rfl)
  g_is_listed_word := He.glo_ok X G (c.fact 48 (f := .glo "is_listed_word") rfl)
  g_require_words := He.glo_ok X G (c.fact 49 (f := .glo "require_words") rfl)
  g_tree_of := He.glo_ok X G (c.fact 50 (f := .glo "tree_of") rfl)
  g_nexts := He.glo_ok X G (c.fact 51 (f := .glo "nexts") rfl)
  g_states_after := He.glo_ok X G (c.fact 52 (f := .glo "states_after") rfl)
  g_has_end := He.glo_ok X G (c.fact 53 (f := .glo "has_end") rfl)
  g_words_up_to := He.glo_ok X G (c.fact 54 (f := .glo "words_up_to") rfl)
  g_reached := He.glo_ok X G (c.fact 55 (f := .glo "reached") rfl)
  g_useful_states := He.glo_ok X G (c.fact 56 (f := .glo "useful_states") rfl)
  g_lean_in := He.glo_ok X G (c.fact 57 (f := .glo "lean_in") rfl)
  g_moved_steps := He.glo_ok X G (c.fact 58 (f := .glo "moved_steps") rfl)
  g_first_steps := He.glo_ok X G (c.fact 59 (f := .glo "first_steps") rfl)
  g_either_of := He.glo_ok X G (c.fact 60 (f := .glo "either_of") rfl)
  g_chain_of := He.glo_ok X G (c.fact 61 (f := .glo "chain_of") rfl)
  i_MAX_PLACES := He.int_ok X G (c.fact 62 (f := .int "MAX_PLACES" 6) rfl)
  g_Turns := He.glo_ok X G (c.fact 63 (f := .glo "Turns") rfl)
  k_Turns := He.keep_ok (c.fact 64 (f := .keep "Turns") rfl)
  mk_Turns := He.mkr_ok (c.fact 65 (f := .mkr "Turns") rfl)
  g_is_turn := He.glo_ok X G (c.fact 66 (f := .glo "is_turn") rfl)
  g_are_turns := He.glo_ok X G (c.fact 67 (f := .glo "are_turns") rfl)
  g_checked_boxes := He.glo_ok X G (c.fact 68 (f := .glo "checked_boxes") rfl)
  g_back_turn := He.glo_ok X G (c.fact 69 (f := .glo "back_turn") rfl)
  g_Box := He.glo_ok X G (c.fact 70 (f := .glo "Box") rfl)
  k_Box := He.keep_ok (c.fact 71 (f := .keep "Box") rfl)
  mk_Box := He.mkr_ok (c.fact 72 (f := .mkr "Box") rfl)
  cl_Box := He.cls_ok (c.fact 73 (f := .cls "Box") rfl)
  na_Box_own_backs := He.noat_ok (c.fact 74 (f := .noat "Box" "own_backs") rfl)
  na_Box_own_letters := He.noat_ok (c.fact 75 (f := .noat "Box" "own_letters") rfl)
  na_Box_own_places := He.noat_ok (c.fact 76 (f := .noat "Box" "own_places") rfl)
  na_Box_own_turns := He.noat_ok (c.fact 77 (f := .noat "Box" "own_turns") rfl)
  me_Box_place := He.meth_ok (c.fact 78 (f := .meth "Box" "place") rfl)
  me_Box_turn := He.meth_ok (c.fact 79 (f := .meth "Box" "turn") rfl)
  g_box_in := He.glo_ok X G (c.fact 80 (f := .glo "box_in") rfl)
  g_require_box := He.glo_ok X G (c.fact 81 (f := .glo "require_box") rfl)
  g_require_place := He.glo_ok X G (c.fact 82 (f := .glo "require_place") rfl)
  g_turn_of := He.glo_ok X G (c.fact 83 (f := .glo "turn_of") rfl)
  g_place_in := He.glo_ok X G (c.fact 84 (f := .glo "place_in") rfl)
  g_turn_by := He.glo_ok X G (c.fact 85 (f := .glo "turn_by") rfl)
  g_both_turned := He.glo_ok X G (c.fact 86 (f := .glo "both_turned") rfl)
  g_pairs_met := He.glo_ok X G (c.fact 87 (f := .glo "pairs_met") rfl)
  g_joined_in := He.glo_ok X G (c.fact 88 (f := .glo "joined_in") rfl)
  t_NOTHING := He.str_ok X G (c.fact 89 (f := .str "NOTHING" "-") rfl)
  t_DIGITS := He.str_ok X G (c.fact 90 (f := .str "DIGITS" "0123456789") rfl)
  g_joined_words := He.glo_ok X G (c.fact 91 (f := .glo "joined_words") rfl)
  g_write_machine := He.glo_ok X G (c.fact 92 (f := .glo "write_machine") rfl)
  g_write_box := He.glo_ok X G (c.fact 93 (f := .glo "write_box") rfl)
  g_is_told_step := He.glo_ok X G (c.fact 94 (f := .glo "is_told_step") rfl)
  g_is_told_walk := He.glo_ok X G (c.fact 95 (f := .glo "is_told_walk") rfl)
  g_walk_line := He.glo_ok X G (c.fact 96 (f := .glo "walk_line") rfl)
  g_write_walk := He.glo_ok X G (c.fact 97 (f := .glo "write_walk") rfl)
  g_write_blur := He.glo_ok X G (c.fact 98 (f := .glo "write_blur") rfl)
  g_Lines := He.glo_ok X G (c.fact 99 (f := .glo "Lines") rfl)
  k_Lines := He.keep_ok (c.fact 100 (f := .keep "Lines") rfl)
  mk_Lines := He.mkr_ok (c.fact 101 (f := .mkr "Lines") rfl)
  cl_Lines := He.cls_ok (c.fact 102 (f := .cls "Lines") rfl)
  na_Lines_own_at := He.noat_ok (c.fact 103 (f := .noat "Lines" "own_at") rfl)
  na_Lines_own_rows := He.noat_ok (c.fact 104 (f := .noat "Lines" "own_rows") rfl)
  me_Lines_parts := He.meth_ok (c.fact 105 (f := .meth "Lines" "parts") rfl)
  me_Lines_is_next := He.meth_ok (c.fact 106 (f := .meth "Lines" "is_next") rfl)
  me_Lines_bar := He.meth_ok (c.fact 107 (f := .meth "Lines" "bar") rfl)
  me_Lines_go_on := He.meth_ok (c.fact 108 (f := .meth "Lines" "go_on") rfl)
  me_Lines_finish := He.meth_ok (c.fact 109 (f := .meth "Lines" "finish") rfl)
  g_is_number := He.glo_ok X G (c.fact 110 (f := .glo "is_number") rfl)
  g_are_numbers := He.glo_ok X G (c.fact 111 (f := .glo "are_numbers") rfl)
  g_head_of := He.glo_ok X G (c.fact 112 (f := .glo "head_of") rfl)
  g_is_step_line := He.glo_ok X G (c.fact 113 (f := .glo "is_step_line") rfl)
  g_steps_of := He.glo_ok X G (c.fact 114 (f := .glo "steps_of") rfl)
  g_ends_of := He.glo_ok X G (c.fact 115 (f := .glo "ends_of") rfl)
  g_read_machine := He.glo_ok X G (c.fact 116 (f := .glo "read_machine") rfl)
  g_read_box := He.glo_ok X G (c.fact 117 (f := .glo "read_box") rfl)
  g_sized := He.glo_ok X G (c.fact 118 (f := .glo "sized") rfl)
  g_walk_of := He.glo_ok X G (c.fact 119 (f := .glo "walk_of") rfl)
  g_read_walk := He.glo_ok X G (c.fact 120 (f := .glo "read_walk") rfl)
  g_read_blur := He.glo_ok X G (c.fact 121 (f := .glo "read_blur") rfl)
  g__law_dice := He.glo_ok X G (c.fact 122 (f := .glo "_law_dice") rfl)
  g__law_roll := He.glo_ok X G (c.fact 123 (f := .glo "_law_roll") rfl)
  g__law_one_of := He.glo_ok X G (c.fact 124 (f := .glo "_law_one_of") rfl)
  g__law_mixed := He.glo_ok X G (c.fact 125 (f := .glo "_law_mixed") rfl)
  g__law_letters := He.glo_ok X G (c.fact 126 (f := .glo "_law_letters") rfl)
  g__law_machine := He.glo_ok X G (c.fact 127 (f := .glo "_law_machine") rfl)
  g__law_made_machine := He.glo_ok X G (c.fact 128 (f := .glo "_law_made_machine") rfl)
  g__law_box := He.glo_ok X G (c.fact 129 (f := .glo "_law_box") rfl)
  g__law_machine_text := He.glo_ok X G (c.fact 130 (f := .glo "_law_machine_text") rfl)
  g__law_box_text := He.glo_ok X G (c.fact 131 (f := .glo "_law_box_text") rfl)
  g__law_walk_text := He.glo_ok X G (c.fact 132 (f := .glo "_law_walk_text") rfl)
  g__law_chain := He.glo_ok X G (c.fact 133 (f := .glo "_law_chain") rfl)
  g__law_right := He.glo_ok X G (c.fact 134 (f := .glo "_law_right") rfl)
  g_law := He.glo_ok X G (c.fact 135 (f := .glo "law") rfl)
  b_abs := He.free_ok X G (c.fact 136 (f := .free "abs") rfl)
  b_all := He.free_ok X G (c.fact 137 (f := .free "all") rfl)
  b_any := He.free_ok X G (c.fact 138 (f := .free "any") rfl)
  b_bool := He.free_ok X G (c.fact 139 (f := .free "bool") rfl)
  b_dict := He.free_ok X G (c.fact 140 (f := .free "dict") rfl)
  b_enumerate := He.free_ok X G (c.fact 141 (f := .free "enumerate") rfl)
  b_int := He.free_ok X G (c.fact 142 (f := .free "int") rfl)
  b_isinstance := He.free_ok X G (c.fact 143 (f := .free "isinstance") rfl)
  b_len := He.free_ok X G (c.fact 144 (f := .free "len") rfl)
  b_list := He.free_ok X G (c.fact 145 (f := .free "list") rfl)
  b_max := He.free_ok X G (c.fact 146 (f := .free "max") rfl)
  b_min := He.free_ok X G (c.fact 147 (f := .free "min") rfl)
  b_range := He.free_ok X G (c.fact 148 (f := .free "range") rfl)
  b_set := He.free_ok X G (c.fact 149 (f := .free "set") rfl)
  b_sorted := He.free_ok X G (c.fact 150 (f := .free "sorted") rfl)
  b_str := He.free_ok X G (c.fact 151 (f := .free "str") rfl)
  b_super := He.free_ok X G (c.fact 152 (f := .free "super") rfl)
  b_tuple := He.free_ok X G (c.fact 153 (f := .free "tuple") rfl)
  b_zip := He.free_ok X G (c.fact 154 (f := .free "zip") rfl)
  h__wall := c.def_ 0 (d := d__wall) rfl
  h_is_integer := c.def_ 1 (d := d_is_integer) rfl
  h_is_ascending := c.def_ 2 (d := d_is_ascending) rfl
  h_is_word := c.def_ 3 (d := d_is_word) rfl
  h_is_letters := c.def_ 4 (d := d_is_letters) rfl
  h_is_row := c.def_ 5 (d := d_is_row) rfl
  h_require_row := c.def_ 6 (d := d_require_row) rfl
  h_require_letters := c.def_ 7 (d := d_require_letters) rfl
  h_is_over := c.def_ 8 (d := d_is_over) rfl
  h_require_known := c.def_ 9 (d := d_require_known) rfl
  h_Parts_init := c.def_ 10 (d := d_Parts_init) rfl
  h_is_step := c.def_ 11 (d := d_is_step) rfl
  h_checked := c.def_ 12 (d := d_checked) rfl
  h_checked_machines := c.def_ 13 (d := d_checked_machines) rfl
  h_Machine_init := c.def_ 14 (d := d_Machine_init) rfl
  h_Machine_words := c.def_ 15 (d := d_Machine_words) rfl
  h_Machine_or := c.def_ 16 (d := d_Machine_or) rfl
  h_Machine_add := c.def_ 17 (d := d_Machine_add) rfl
  h_Machine_contains := c.def_ 18 (d := d_Machine_contains) rfl
  h_Machine_iter := c.def_ 19 (d := d_Machine_iter) rfl
  h_Machine_len := c.def_ 20 (d := d_Machine_len) rfl
  h_Machine_eq := c.def_ 21 (d := d_Machine_eq) rfl
  h_Machine_str := c.def_ 22 (d := d_Machine_str) rfl
  h_machine_in := c.def_ 23 (d := d_machine_in) rfl
  h_require_machine := c.def_ 24 (d := d_require_machine) rfl
  h_require_like_letters := c.def_ 25 (d := d_require_like_letters) rfl
  h_is_listed_word := c.def_ 26 (d := d_is_listed_word) rfl
  h_require_words := c.def_ 27 (d := d_require_words) rfl
  h_tree_of := c.def_ 28 (d := d_tree_of) rfl
  h_nexts := c.def_ 29 (d := d_nexts) rfl
  h_states_after := c.def_ 30 (d := d_states_after) rfl
  h_has_end := c.def_ 31 (d := d_has_end) rfl
  h_words_up_to := c.def_ 32 (d := d_words_up_to) rfl
  h_reached := c.def_ 33 (d := d_reached) rfl
  h_useful_states := c.def_ 34 (d := d_useful_states) rfl
  h_lean_in := c.def_ 35 (d := d_lean_in) rfl
  h_moved_steps := c.def_ 36 (d := d_moved_steps) rfl
  h_first_steps := c.def_ 37 (d := d_first_steps) rfl
  h_either_of := c.def_ 38 (d := d_either_of) rfl
  h_chain_of := c.def_ 39 (d := d_chain_of) rfl
  h_Turns_init := c.def_ 40 (d := d_Turns_init) rfl
  h_is_turn := c.def_ 41 (d := d_is_turn) rfl
  h_are_turns := c.def_ 42 (d := d_are_turns) rfl
  h_checked_boxes := c.def_ 43 (d := d_checked_boxes) rfl
  h_back_turn := c.def_ 44 (d := d_back_turn) rfl
  h_Box_init := c.def_ 45 (d := d_Box_init) rfl
  h_Box_call := c.def_ 46 (d := d_Box_call) rfl
  h_Box_place := c.def_ 47 (d := d_Box_place) rfl
  h_Box_turn := c.def_ 48 (d := d_Box_turn) rfl
  h_Box_and := c.def_ 49 (d := d_Box_and) rfl
  h_Box_len := c.def_ 50 (d := d_Box_len) rfl
  h_Box_eq := c.def_ 51 (d := d_Box_eq) rfl
  h_Box_str := c.def_ 52 (d := d_Box_str) rfl
  h_box_in := c.def_ 53 (d := d_box_in) rfl
  h_require_box := c.def_ 54 (d := d_require_box) rfl
  h_require_place := c.def_ 55 (d := d_require_place) rfl
  h_turn_of := c.def_ 56 (d := d_turn_of) rfl
  h_place_in := c.def_ 57 (d := d_place_in) rfl
  h_turn_by := c.def_ 58 (d := d_turn_by) rfl
  h_both_turned := c.def_ 59 (d := d_both_turned) rfl
  h_pairs_met := c.def_ 60 (d := d_pairs_met) rfl
  h_joined_in := c.def_ 61 (d := d_joined_in) rfl
  h_joined_words := c.def_ 62 (d := d_joined_words) rfl
  h_write_machine := c.def_ 63 (d := d_write_machine) rfl
  h_write_box := c.def_ 64 (d := d_write_box) rfl
  h_is_told_step := c.def_ 65 (d := d_is_told_step) rfl
  h_is_told_walk := c.def_ 66 (d := d_is_told_walk) rfl
  h_walk_line := c.def_ 67 (d := d_walk_line) rfl
  h_write_walk := c.def_ 68 (d := d_write_walk) rfl
  h_write_blur := c.def_ 69 (d := d_write_blur) rfl
  h_Lines_init := c.def_ 70 (d := d_Lines_init) rfl
  h_Lines_parts := c.def_ 71 (d := d_Lines_parts) rfl
  h_Lines_is_next := c.def_ 72 (d := d_Lines_is_next) rfl
  h_Lines_bar := c.def_ 73 (d := d_Lines_bar) rfl
  h_Lines_go_on := c.def_ 74 (d := d_Lines_go_on) rfl
  h_Lines_finish := c.def_ 75 (d := d_Lines_finish) rfl
  h_is_number := c.def_ 76 (d := d_is_number) rfl
  h_are_numbers := c.def_ 77 (d := d_are_numbers) rfl
  h_head_of := c.def_ 78 (d := d_head_of) rfl
  h_is_step_line := c.def_ 79 (d := d_is_step_line) rfl
  h_steps_of := c.def_ 80 (d := d_steps_of) rfl
  h_ends_of := c.def_ 81 (d := d_ends_of) rfl
  h_read_machine := c.def_ 82 (d := d_read_machine) rfl
  h_read_box := c.def_ 83 (d := d_read_box) rfl
  h_sized := c.def_ 84 (d := d_sized) rfl
  h_walk_of := c.def_ 85 (d := d_walk_of) rfl
  h_read_walk := c.def_ 86 (d := d_read_walk) rfl
  h_read_blur := c.def_ 87 (d := d_read_blur) rfl
  h__law_dice := c.def_ 88 (d := d__law_dice) rfl
  h__law_roll := c.def_ 89 (d := d__law_roll) rfl
  h__law_one_of := c.def_ 90 (d := d__law_one_of) rfl
  h__law_mixed := c.def_ 91 (d := d__law_mixed) rfl
  h__law_letters := c.def_ 92 (d := d__law_letters) rfl
  h__law_machine := c.def_ 93 (d := d__law_machine) rfl
  h__law_made_machine := c.def_ 94 (d := d__law_made_machine) rfl
  h__law_box := c.def_ 95 (d := d__law_box) rfl
  h__law_machine_text := c.def_ 96 (d := d__law_machine_text) rfl
  h__law_box_text := c.def_ 97 (d := d__law_box_text) rfl
  h__law_walk_text := c.def_ 98 (d := d__law_walk_text) rfl
  h__law_chain := c.def_ 99 (d := d__law_chain) rfl
  h__law_right := c.def_ 100 (d := d__law_right) rfl
  h_law := c.def_ 101 (d := d_law) rfl
def nm0 : List PySem.Str := ["_wall", "StepError", "InvalidRow", "InvalidMachine", "InvalidBox", "InvalidOperation", "ParseError", "InvalidNumber", "MAX_LETTERS", "LETTERS", "CAPITALS", "is_integer", "is_ascending", "is_word", "is_letters", "is_row", "require_row", "require_letters", "is_over", "require_known", "MAX_STATES", "MAX_STEPS", "MAX_LISTED", "MAX_WORDS", "Parts", "is_step", "checked", "checked_machines", "Machine", "machine_in"]
def nm1 : List PySem.Str := ["require_machine", "require_like_letters", "is_listed_word", "require_words", "tree_of", "nexts", "states_after", "has_end", "words_up_to", "reached", "useful_states", "lean_in", "moved_steps", "first_steps", "either_of", "chain_of", "MAX_PLACES", "Turns", "is_turn", "are_turns", "checked_boxes", "back_turn", "Box", "box_in", "require_box", "require_place", "turn_of", "place_in", "turn_by", "both_turned"]
def nm2 : List PySem.Str := ["pairs_met", "joined_in", "NOTHING", "DIGITS", "joined_words", "write_machine", "write_box", "is_told_step", "is_told_walk", "walk_line", "write_walk", "write_blur", "Lines", "is_number", "are_numbers", "head_of", "is_step_line", "steps_of", "ends_of", "read_machine", "read_box", "sized", "walk_of", "read_walk", "read_blur", "_law_dice", "_law_roll", "_law_one_of", "_law_mixed", "_law_letters"]
def nm3 : List PySem.Str := ["_law_machine", "_law_made_machine", "_law_box", "_law_machine_text", "_law_box_text", "_law_walk_text", "_law_chain", "_law_right"]
def nms : List PySem.Str := nm0 ++ nm1 ++ nm2 ++ nm3
abbrev RO : PySem.W.OpenRow := PySem.W.OpenLaw.row LW
abbrev qv : Program := PySem.W.view RO.prog [105]
abbrev lawAt : Nat := 105
end CW
set_option Elab.async false
set_option linter.all false
set_option maxRecDepth 100000
set_option maxHeartbeats 1000000
/-! Fx: what the head tells besides: slots, properties, classmethods, own ==, empty defaults. -/
namespace CW
open PySem PySem.Spec PyProof.Rows L2
abbrev Fr := PySem.W.Frag
/-! ### yes or no, at a part of the heap -/
def oB (a b : Option (Option Value)) : Bool := decide (a = b)
def scB (x : Str) (K : Fr) : Bool := PySem.W.plainGet K (He.ga K x) Str.empty && (PySem.W.isClsIn K (He.ga K x) && (PySem.W.plainOver K (He.ga K x) && oB (PySem.W.findIn K (.ref (He.ga K x)) "__setattr__") (some (some (.builtin "object.__setattr__")))))
def siB (x : Str) (K : Fr) : Bool := oB (PySem.W.findIn K (.ref (He.ga K x)) "__class__") (some (some (.builtin "object.__class__"))) && (oB (PySem.W.specialIn K (.builtin "object.__class__") "__get__") (some (some (.builtin "getset_descriptor.__get__"))) &&
  (decide (PySem.W.takesIn K (.builtin "object.__class__") = some true) && decide (PySem.W.mroIn K (He.ga K x) (.type "object") = some true)))
/-- what lies under the name in the class -/
abbrev ca (x f : Str) (K : Fr) : Addr := He.ma K (He.ga K x) f
def slB (x f : Str) (i : Nat) (K : Fr) : Bool := oB (PySem.W.findIn K (.ref (He.ga K x)) f) (some (some (.ref (ca x f K)))) && (oB (PySem.W.specialIn K (.ref (ca x f K)) "__get__") (some (some (.builtin "member_descriptor.__get__"))) &&
  (decide (PySem.W.takesIn K (.ref (ca x f K)) = some true) && (decide (PySem.W.typeIn K (.ref (ca x f K)) = some (.type "member_descriptor")) && (decide (PySem.W.slotIn K (ca x f K) (He.ga K x) = some i) && decide (i < 1000)))))
def recG (T : String) (x f : Str) (K : Fr) : Addr := match PySem.W.recIn K (ca x f K) T with
  | some (.ref g :: _) => g
  | _ => 0
def isRec (T : String) (x f : Str) (K : Fr) : Bool := match PySem.W.recIn K (ca x f K) T with
  | some (.ref g :: _) => true
  | _ => false
def prB (x f : Str) (K : Fr) : Bool := oB (PySem.W.findIn K (.ref (He.ga K x)) f) (some (some (.ref (ca x f K)))) && (oB (PySem.W.specialIn K (.ref (ca x f K)) "__get__") (some (some (.builtin "property.__get__"))) &&
  (decide (PySem.W.takesIn K (.ref (ca x f K)) = some true) && isRec "property" x f K))
def cmB (x m : Str) (K : Fr) : Bool := PySem.W.readsIn K (He.ga K x) (.type "type") && (oB (PySem.W.specialIn K (.ref (He.ga K x)) "__getattribute__") (some (some (.builtin "type.__getattribute__"))) &&
  ((match PySem.W.findCls K (.ref (He.ga K x)) (.type "type") m with
    | some (.get (.builtin "classmethod.__get__") (.ref p) .none (.ref C)) => decide (p = ca x m K) && decide (C = He.ga K x)
    | _ => false) && (isRec "classmethod" x m K && PySem.W.fnIn K (recG "classmethod" x m K))))
def eqB (x : Str) (K : Fr) : Bool := oB (PySem.W.findIn K (.ref (He.ga K x)) "__eq__") (some (some (.ref (ca x "__eq__" K)))) && (PySem.W.isFn K (.ref (ca x "__eq__" K)) &&
  (oB (PySem.W.findIn K (.ref (He.ga K x)) "__ne__") (some (some (.builtin "object.__ne__"))) && decide (PySem.W.mroIn K (He.ga K x) (.type "object") = some true)))
def ntB (f : Str × Option Str) (i : Nat) (K : Fr) : Bool := match K.lookup (He.dflAt f i K) with
  | some ⟨.type c, _, .seq its _, _⟩ => decide (c = "tuple") && decide (its.toList.length = 0)
  | _ => false
def ktB (t : Value) (x : Str) (b : Bool) (K : Fr) : Bool := decide (PySem.W.kitOne K t (.ref (He.ga K x)) = some b)
def kzB (x : Str) (K : Fr) : Bool := decide (PySem.W.kitOne K (.ref (He.ga K x)) (.ref (He.ga K x)) = some true)
/-! ### read back -/
theorem oB_ok {a b : Option (Option Value)} (h : oB a b = true) : a = b := of_decide_eq_true h
section
variable {K : Fr} {x f m : Str} {i : Nat}
theorem sc_ok (h : scB x K = true) : SlX.SCls K (He.ga K x) :=
  have ⟨h1, h⟩ := He.ba h
  have ⟨h2, h⟩ := He.ba h
  have ⟨h3, h4⟩ := He.ba h
  ⟨h1, h2, h3, oB_ok h4⟩
theorem si_ok (h : siB x K = true) : SlX.SIsi K (He.ga K x) :=
  have ⟨h1, h⟩ := He.ba h
  have ⟨h2, h⟩ := He.ba h
  have ⟨h3, h4⟩ := He.ba h
  ⟨oB_ok h1, oB_ok h2, of_decide_eq_true h3, of_decide_eq_true h4⟩
theorem sl_ok (h : slB x f i K = true) : SlX.Slot1 K (He.ga K x) f (ca x f K) i :=
  have ⟨h1, h⟩ := He.ba h
  have ⟨h2, h⟩ := He.ba h
  have ⟨h3, h⟩ := He.ba h
  have ⟨h4, h⟩ := He.ba h
  have ⟨h5, h6⟩ := He.ba h
  ⟨oB_ok h1, oB_ok h2, of_decide_eq_true h3, of_decide_eq_true h4, of_decide_eq_true h5, of_decide_eq_true h6⟩
theorem rec_ok {T : String} (h : isRec T x f K = true) : ∃ rest, PySem.W.recIn K (ca x f K) T = some (.ref (recG T x f K) :: rest) := by
  unfold isRec at h
  unfold recG
  cases q : PySem.W.recIn K (ca x f K) T with
  | none => rw [q] at h; cases h
  | some l =>
    rw [q] at h
    cases l with
    | nil => cases h
    | cons v r =>
      cases v with
      | ref g => exact ⟨r, rfl⟩
      | _ => cases h
theorem pr_ok (h : prB x f K = true) : PropOf K (He.ga K x) f (ca x f K) (recG "property" x f K) :=
  have ⟨h1, h⟩ := He.ba h
  have ⟨h2, h⟩ := He.ba h
  have ⟨h3, h4⟩ := He.ba h
  ⟨oB_ok h1, oB_ok h2, of_decide_eq_true h3, rec_ok h4⟩
theorem cm_ok (h : cmB x m K = true) : ClX.CRead K (He.ga K x) (.type "type") ∧ ClX.CMet K (He.ga K x) (.type "type") m (ca x m K) (recG "classmethod" x m K) := by
  obtain ⟨h1, h⟩ := He.ba h
  obtain ⟨h2, h⟩ := He.ba h
  obtain ⟨h3, h⟩ := He.ba h
  obtain ⟨h4, h5⟩ := He.ba h
  refine ⟨⟨h1, oB_ok h2⟩, ?_, rec_ok h4, h5⟩
  split at h3
  · rename_i p C e
    obtain ⟨a, b⟩ := He.ba h3
    rw [e, of_decide_eq_true a, of_decide_eq_true b]
  · cases h3
theorem eq_ok (h : eqB x K = true) : PySem.W.findIn K (.ref (He.ga K x)) "__eq__" = some (some (.ref (ca x "__eq__" K))) ∧ PySem.W.isFn K (.ref (ca x "__eq__" K)) = true ∧ PySem.W.findIn K (.ref (He.ga K x)) "__ne__" = some (some (.builtin "object.__ne__")) ∧ PySem.W.mroIn K (He.ga K x) (.type "object") = some true :=
  have ⟨h1, h⟩ := He.ba h
  have ⟨h2, h⟩ := He.ba h
  have ⟨h3, h4⟩ := He.ba h
  ⟨oB_ok h1, h2, oB_ok h3, of_decide_eq_true h4⟩
theorem nt_ok {f : Str × Option Str} (h : ntB f i K = true) (H : Hp) : SqT K H (He.dflAt f i K) [] := by
  unfold ntB at h
  split at h
  · rename_i c od its n sl e
    obtain ⟨a, b⟩ := He.ba h
    have e0 : its.toList = [] := List.eq_nil_of_length_eq_zero (of_decide_eq_true b)
    refine .inr ⟨_, its, n, e, congrArg Value.type (of_decide_eq_true a), rfl, ?_, by rw [e0]; exact .nil⟩
    rw [← Array.length_toList, e0]
    exact Nat.zero_le _
  · cases h
end
/-! ### a def at any address -/
structure DefA where
  ad : Fr → Addr
  name : Str
  qual : Str
  params : Arguments
  body : List Stmt
  scope : Scope
def fnA (K : Fr) (a : Addr) : He.FnW := match K.lookup a with
  | some ⟨_, _, .func fd, _⟩ => some (fd.name, fd.qualname, fd.params, fd.body, fd.scope, fd.globals, fd.closure, fd.builtins)
  | _ => none
def DefA.val (d : DefA) : He.FnW := some (d.name, d.qual, d.params, .stmts d.body, d.scope, mainGlobals, [], builtinsNs)
def DefA.ok (K : Fr) (d : DefA) : Bool := PySem.W.keepIn K (.ref (d.ad K)) && (match K.lookup (d.ad K) with
  | some ⟨_, _, .func fd, _⟩ => PySem.W.codeIn K fd.code d.qual && He.dflB K fd.defaults []
  | _ => false)
theorem DefA.funD {K : Fr} {d : DefA} (e : fnA K (d.ad K) = d.val) (c : d.ok K = true) : ∃ fd, FunD K d.name d.qual d.params d.body d.scope [] [] (d.ad K) fd := by
  obtain ⟨kp, c⟩ := He.ba c
  unfold fnA at e
  split at e
  · rename_i oc od fd sl q
    rw [q] at c
    obtain ⟨c1, c2⟩ := He.ba c
    obtain ⟨n1, n2, n3, n4, n5, n6, n7, n8, n9, n10, n11, n12, n13, n14, n15⟩ := fd
    unfold DefA.val at e
    simp only [Option.some.injEq, Prod.mk.injEq] at e
    obtain ⟨rfl, rfl, rfl, rfl, rfl, rfl, rfl, rfl⟩ := e
    exact ⟨_, ⟨oc, od, n8, n9, n10, n11, n12, n13, n14, sl, rfl, q, c1, He.dflB_ok c2, .inl rfl⟩, kp⟩
  · cases e
end CW
set_option Elab.async false
set_option linter.all false
set_option maxRecDepth 100000
set_option maxHeartbeats 0
/-! Hk: the head's Hook of this law. -/
namespace CW
open PySem PySem.Spec PyProof.Rows L2
def a_Machine_of_words : DefA := ⟨recG "classmethod" "Machine" "of_words", "of_words", "Machine.of_words", defArgs s_Machine_of_words, defBody s_Machine_of_words, defScope s_Machine_of_words⟩
def a_Machine_size : DefA := ⟨recG "property" "Machine" "size", "size", "Machine.size", defArgs s_Machine_size, defBody s_Machine_size, defScope s_Machine_size⟩
def a_Box_turns : DefA := ⟨recG "property" "Box" "turns", "turns", "Box.turns", defArgs s_Box_turns, defBody s_Box_turns, defScope s_Box_turns⟩
def ads : List DefA := [a_Machine_of_words, a_Machine_size, a_Box_turns]
def fxs : List (Fr → Bool) := [scB "Parts", siB "Parts", slB "Parts" "own_letters" 1, slB "Parts" "own_size" 2, slB "Parts" "own_steps" 3, slB "Parts" "own_ends" 0, scB "Turns", siB "Turns", slB "Turns" "own_letters" 0, slB "Turns" "own_turns" 1,
  prB "Machine" "size", prB "Box" "turns", cmB "Machine" "of_words", eqB "Machine", eqB "Box", ntB ("Machine", some "__init__") 1, ntB ("Machine", some "__init__") 2, siB "Machine", siB "Box", ktB (.type "str") "Parts" false, ktB (.type "str") "Turns" false, kzB "Parts", kzB "Turns", kzB "Machine", kzB "Box"]
abbrev AlX : Type := (Bool × List He.FnW) × He.AlD
def obsX (K : Fr) : AlX := (((fxs.all fun f => f K) && ads.all fun d => d.ok K, ads.map fun d => fnA K (d.ad K)), He.obsD fas dfs K)
def valX : AlX := ((true, ads.map DefA.val), He.valD dfs)
/-- what the facts hang on: the globals' dict and what it reaches, five steps deep (a probe's print) -/
def adrs : List Addr := [2, 3, 6, 4, 21, 31, 44, 56, 68, 80, 101, 122, 132, 137, 142, 149, 154, 161, 168, 173, 180, 199, 212, 499, 217,
  362, 373, 380, 387, 392, 397, 402, 407, 414, 419, 424, 429, 434, 439, 444, 449, 454, 459, 478, 487, 492, 504, 632, 643, 650,
  657, 664, 671, 676, 683, 690, 695, 700, 705, 710, 717, 722, 727, 734, 739, 791, 800, 805, 812, 819, 826, 831, 838, 843, 848,
  853, 860, 867, 874, 881, 888, 895, 902, 907, 914, 919, 924, 929, 934, 941, 946, 953, 0, 20, 30, 43, 55, 67, 79, 100,
  121, 131, 136, 141, 148, 153, 160, 167, 172, 179, 198, 211, 498, 216, 361, 372, 379, 386, 391, 396, 401, 406, 413, 418, 423,
  428, 433, 438, 443, 448, 453, 458, 477, 486, 491, 503, 631, 642, 649, 656, 663, 670, 675, 682, 689, 694, 699, 704, 709, 716,
  721, 726, 733, 738, 790, 799, 804, 811, 818, 825, 830, 837, 842, 847, 852, 859, 866, 873, 880, 887, 894, 901, 906, 913, 918,
  923, 928, 933, 940, 945, 952, 15, 16, 17, 18, 19, 29, 32, 42, 54, 66, 78, 98, 99, 119, 120, 123, 126, 127, 128,
  129, 130, 133, 134, 135, 138, 139, 140, 143, 144, 145, 146, 147, 150, 151, 152, 155, 156, 157, 158, 159, 162, 163, 164, 165,
  166, 169, 170, 171, 174, 175, 176, 177, 178, 188, 195, 196, 200, 201, 202, 203, 206, 207, 208, 209, 210, 493, 494, 495, 496,
  497, 213, 214, 215, 234, 243, 252, 260, 268, 276, 284, 291, 298, 305, 312, 319, 326, 331, 338, 345, 352, 359, 360, 363, 364,
  367, 368, 369, 370, 371, 374, 375, 376, 377, 378, 381, 382, 383, 384, 385, 388, 389, 390, 393, 394, 395, 398, 399, 400, 403,
  404, 405, 408, 409, 410, 411, 412, 415, 416, 417, 420, 421, 422, 425, 426, 427, 430, 431, 432, 435, 436, 437, 440, 441, 442,
  445, 446, 447, 450, 451, 452, 455, 456, 457, 467, 474, 475, 479, 480, 483, 484, 485, 488, 489, 490, 500, 501, 502, 517, 526,
  535, 543, 551, 559, 566, 573, 580, 587, 594, 601, 608, 615, 622, 629, 630, 633, 634, 637, 638, 639, 640, 641, 644, 645, 646,
  647, 648, 651, 652, 653, 654, 655, 658, 659, 660, 661, 662, 665, 666, 667, 668, 669, 672, 673, 674, 677, 678, 679, 680, 681,
  684, 685, 686, 687, 688, 691, 692, 693, 696, 697, 698, 701, 702, 703, 706, 707, 708, 711, 712, 713, 714, 715, 718, 719, 720,
  723, 724, 725, 728, 729, 730, 731, 732, 735, 736, 737, 753, 760, 767, 774, 781, 788, 789, 792, 793, 796, 797, 798, 801, 802,
  803, 806, 807, 808, 809, 810, 813, 814, 815, 816, 817, 820, 821, 822, 823, 824, 827, 828, 829, 832, 833, 834, 835, 836, 839,
  840, 841, 844, 845, 846, 849, 850, 851, 854, 855, 856, 857, 858, 861, 862, 863, 864, 865, 868, 869, 870, 871, 872, 875, 876,
  877, 878, 879, 882, 883, 884, 885, 886, 889, 890, 891, 892, 893, 896, 897, 898, 899, 900, 903, 904, 905, 908, 909, 910, 911,
  912, 915, 916, 917, 920, 921, 922, 925, 926, 927, 930, 931, 932, 935, 936, 937, 938, 939, 942, 943, 944, 947, 948, 949, 950,
  951, 97, 86, 118, 107, 194, 233, 227, 241, 242, 251, 259, 267, 275, 283, 290, 297, 304, 311, 318, 325, 330, 337, 344, 351,
  358, 473, 516, 512, 524, 525, 534, 542, 550, 558, 565, 572, 579, 586, 593, 600, 607, 614, 621, 628, 752, 759, 766, 773, 780,
  787, 92, 93, 94, 95, 96, 113, 114, 115, 116, 117, 189, 190, 191, 192, 193, 228, 229, 230, 231, 232, 225, 226, 240, 244,
  250, 258, 266, 274, 282, 285, 286, 287, 288, 289, 292, 293, 294, 295, 296, 299, 300, 301, 302, 303, 306, 307, 308, 309, 310,
  313, 314, 315, 316, 317, 320, 321, 322, 323, 324, 327, 328, 329, 332, 333, 334, 335, 336, 339, 340, 341, 342, 343, 346, 347,
  348, 349, 350, 353, 354, 355, 356, 357, 468, 469, 470, 471, 472, 513, 514, 515, 523, 527, 533, 541, 549, 557, 560, 561, 562,
  563, 564, 567, 568, 569, 570, 571, 574, 575, 576, 577, 578, 581, 582, 583, 584, 585, 588, 589, 590, 591, 592, 595, 596, 597,
  598, 599, 602, 603, 604, 605, 606, 609, 610, 611, 612, 613, 616, 617, 618, 619, 620, 623, 624, 625, 626, 627, 747, 748, 749,
  750, 751, 754, 755, 756, 757, 758, 761, 762, 763, 764, 765, 768, 769, 770, 771, 772, 775, 776, 777, 778, 779, 782, 783, 784,
  785, 786]
def obsXG (g : Addr → Option Obj) : AlX := obsX (He.frG g adrs)
def hkX : PySem.W.Hook where
  α := AlX
  obs := fun s => obsXG s.heap.get?
  val := fun _ => valX
  says := fun _ h => ∃ K : Fr, K.In h ∧ obsX K = valX
  of := fun _ _ e => ⟨_, He.frG_in, e⟩
  keeps := fun _ _ _ ⟨K, hK, c⟩ k => ⟨K, PySem.W.Frag.In.keeps hK k, c⟩
def obX (s : PySem.W.SharedT) : AlX := obsXG (HandSHeadRun.getT s)
theorem obX_eq (s : PySem.W.SharedT) : obX s = hkX.obs s.abs := by
  have e : HandSHeadRun.getT s = s.abs.heap.get? := funext (HandSHeadRun.getT_eq s)
  show obsXG _ = obsXG _
  rw [e]
/-- all of it, read back -/
structure Tz (K : Fr) (mg : Str → Option Value) : Prop extends Tx K mg where
  sc_Parts : SlX.SCls K (He.ga K "Parts")
  si_Parts : SlX.SIsi K (He.ga K "Parts")
  sl_Parts_own_letters : SlX.Slot1 K (He.ga K "Parts") "own_letters" (ca "Parts" "own_letters" K) 1
  sl_Parts_own_size : SlX.Slot1 K (He.ga K "Parts") "own_size" (ca "Parts" "own_size" K) 2
  sl_Parts_own_steps : SlX.Slot1 K (He.ga K "Parts") "own_steps" (ca "Parts" "own_steps" K) 3
  sl_Parts_own_ends : SlX.Slot1 K (He.ga K "Parts") "own_ends" (ca "Parts" "own_ends" K) 0
  sc_Turns : SlX.SCls K (He.ga K "Turns")
  si_Turns : SlX.SIsi K (He.ga K "Turns")
  sl_Turns_own_letters : SlX.Slot1 K (He.ga K "Turns") "own_letters" (ca "Turns" "own_letters" K) 0
  sl_Turns_own_turns : SlX.Slot1 K (He.ga K "Turns") "own_turns" (ca "Turns" "own_turns" K) 1
  p_Machine_size : PropOf K (He.ga K "Machine") "size" (ca "Machine" "size" K) (recG "property" "Machine" "size" K)
  p_Box_turns : PropOf K (He.ga K "Box") "turns" (ca "Box" "turns" K) (recG "property" "Box" "turns" K)
  c_of_words : ClX.CRead K (He.ga K "Machine") (.type "type") ∧ ClX.CMet K (He.ga K "Machine") (.type "type") "of_words" (ca "Machine" "of_words" K) (recG "classmethod" "Machine" "of_words" K)
  e_Machine : PySem.W.findIn K (.ref (He.ga K "Machine")) "__eq__" = some (some (.ref (ca "Machine" "__eq__" K))) ∧ PySem.W.isFn K (.ref (ca "Machine" "__eq__" K)) = true ∧ PySem.W.findIn K (.ref (He.ga K "Machine")) "__ne__" = some (some (.builtin "object.__ne__")) ∧ PySem.W.mroIn K (He.ga K "Machine") (.type "object") = some true
  e_Box : PySem.W.findIn K (.ref (He.ga K "Box")) "__eq__" = some (some (.ref (ca "Box" "__eq__" K))) ∧ PySem.W.isFn K (.ref (ca "Box" "__eq__" K)) = true ∧ PySem.W.findIn K (.ref (He.ga K "Box")) "__ne__" = some (some (.builtin "object.__ne__")) ∧ PySem.W.mroIn K (He.ga K "Box") (.type "object") = some true
  n_steps : ∀ H, SqT K H (He.dflAt ("Machine", some "__init__") 1 K) []
  n_ends : ∀ H, SqT K H (He.dflAt ("Machine", some "__init__") 2 K) []
  si_Machine : SlX.SIsi K (He.ga K "Machine")
  si_Box : SlX.SIsi K (He.ga K "Box")
  ks_Parts : PySem.W.kitOne K (.type "str") (.ref (He.ga K "Parts")) = some false
  ks_Turns : PySem.W.kitOne K (.type "str") (.ref (He.ga K "Turns")) = some false
  kz_Parts : PySem.W.kitOne K (.ref (He.ga K "Parts")) (.ref (He.ga K "Parts")) = some true
  kz_Turns : PySem.W.kitOne K (.ref (He.ga K "Turns")) (.ref (He.ga K "Turns")) = some true
  kz_Machine : PySem.W.kitOne K (.ref (He.ga K "Machine")) (.ref (He.ga K "Machine")) = some true
  kz_Box : PySem.W.kitOne K (.ref (He.ga K "Box")) (.ref (He.ga K "Box")) = some true
  a_of_words : ∃ fd, FunD K "of_words" "Machine.of_words" a_Machine_of_words.params a_Machine_of_words.body a_Machine_of_words.scope [] [] (recG "classmethod" "Machine" "of_words" K) fd
  a_size : ∃ fd, FunD K "size" "Machine.size" a_Machine_size.params a_Machine_size.body a_Machine_size.scope [] [] (recG "property" "Machine" "size" K) fd
  a_turns : ∃ fd, FunD K "turns" "Box.turns" a_Box_turns.params a_Box_turns.body a_Box_turns.scope [] [] (recG "property" "Box" "turns" K) fd
theorem fx_at {K : Fr} (c : obsX K = valX) (i : Nat) {f : Fr → Bool} (h : fxs[i]? = some f := by rfl) : f K = true := by
  have c1 : ((fxs.all fun f => f K) && ads.all fun d => d.ok K) = true := congrArg (fun z : AlX => z.1.1) c
  exact List.all_eq_true.mp (He.ba c1).1 f (List.mem_of_getElem? h)
theorem ad_at {K : Fr} (c : obsX K = valX) (i : Nat) {d : DefA} (h : ads[i]? = some d := by rfl) : ∃ fd, FunD K d.name d.qual d.params d.body d.scope [] [] (d.ad K) fd := by
  have c1 : ((fxs.all fun f => f K) && ads.all fun d => d.ok K) = true := congrArg (fun z : AlX => z.1.1) c
  have e : ads.map (fun d => fnA K (d.ad K)) = ads.map DefA.val := congrArg (fun z : AlX => z.1.2) c
  have e2 : (ads.map fun d => fnA K (d.ad K))[i]? = (ads.map DefA.val)[i]? := by rw [e]
  rw [List.getElem?_map, List.getElem?_map, h] at e2
  exact DefA.funD (Option.some.inj e2) (List.all_eq_true.mp (He.ba c1).2 d (List.mem_of_getElem? h))
theorem tz_of {K : Fr} {h : Heap} {mg : Str → Option Value} (X : K.In h) (G : h.Ns mainGlobals mg) (c : obsX K = valX) : Tz K mg where
  toTx := tx_of X G (congrArg (fun z : AlX => z.2) c)
  sc_Parts := sc_ok (x := "Parts") (fx_at c 0)
  si_Parts := si_ok (x := "Parts") (fx_at c 1)
  sl_Parts_own_letters := sl_ok (x := "Parts") (f := "own_letters") (i := 1) (fx_at c 2)
  sl_Parts_own_size := sl_ok (x := "Parts") (f := "own_size") (i := 2) (fx_at c 3)
  sl_Parts_own_steps := sl_ok (x := "Parts") (f := "own_steps") (i := 3) (fx_at c 4)
  sl_Parts_own_ends := sl_ok (x := "Parts") (f := "own_ends") (i := 0) (fx_at c 5)
  sc_Turns := sc_ok (x := "Turns") (fx_at c 6)
  si_Turns := si_ok (x := "Turns") (fx_at c 7)
  sl_Turns_own_letters := sl_ok (x := "Turns") (f := "own_letters") (i := 0) (fx_at c 8)
  sl_Turns_own_turns := sl_ok (x := "Turns") (f := "own_turns") (i := 1) (fx_at c 9)
  p_Machine_size := pr_ok (x := "Machine") (f := "size") (fx_at c 10)
  p_Box_turns := pr_ok (x := "Box") (f := "turns") (fx_at c 11)
  c_of_words := cm_ok (x := "Machine") (m := "of_words") (fx_at c 12)
  e_Machine := eq_ok (x := "Machine") (fx_at c 13)
  e_Box := eq_ok (x := "Box") (fx_at c 14)
  n_steps := nt_ok (f := ("Machine", some "__init__")) (i := 1) (fx_at c 15)
  n_ends := nt_ok (f := ("Machine", some "__init__")) (i := 2) (fx_at c 16)
  si_Machine := si_ok (x := "Machine") (fx_at c 17)
  si_Box := si_ok (x := "Box") (fx_at c 18)
  ks_Parts := of_decide_eq_true (fx_at c 19)
  ks_Turns := of_decide_eq_true (fx_at c 20)
  kz_Parts := of_decide_eq_true (fx_at c 21)
  kz_Turns := of_decide_eq_true (fx_at c 22)
  kz_Machine := of_decide_eq_true (fx_at c 23)
  kz_Box := of_decide_eq_true (fx_at c 24)
  a_of_words := ad_at c 0
  a_size := ad_at c 1
  a_turns := ad_at c 2
end CW
set_option Elab.async false
set_option linter.all false
set_option maxRecDepth 100000
set_option maxHeartbeats 0
namespace CW
open PySem PySem.Spec PyProof.Rows L2
theorem runA (w : World) : HandSHeadRun.RunEq RO qv PySem.W.Hook.none (fun _ => ()) 20000 nms w := by
  intro os
  kernel_rfl
theorem runC (w : World) (os : OsState) : (HandSHeadRun.endF (HandSHeadRun.stepQ (HandSHeadRun.denQ HandSHeadRun.tabQ) RO.prog w) 20000 RO.prog w os).map obX = some valX := by
  kernel_rfl
theorem runX (w : World) : HandSHeadRun.RunEq RO qv hkX obX 20000 nms w := by
  intro os
  have a := runA w os
  have c := runC w os
  generalize HandSHeadRun.endF (HandSHeadRun.stepQ (HandSHeadRun.denQ HandSHeadRun.tabQ) RO.prog w) 20000 RO.prog w os = r at a c ⊢
  cases r with
  | none => cases c
  | some s =>
    have c2 : obX s = valX := Option.some.inj c
    have a2 := Option.some.inj a
    have a3 := congrArg (fun z => z.1) a2
    have a4 := congrArg (fun z => z.2.1) a2
    exact congrArg some (Prod.ext a3 (Prod.ext a4 c2))
end CW
set_option Elab.async false
set_option linter.all false
set_option maxRecDepth 100000
set_option maxHeartbeats 1000000
/-! W1: rows: is_integer, is_word .. -/
namespace CW
open PySem PySem.Spec PyProof.Rows L2
/-! ### isinstance -/
/-- isinstance(x, T) is told b, whatever more is made -/
structure IsI (K : PySem.W.Frag) (H : Hp) (x : V) (u : Value) (b : Bool) : Prop where
  ex : ∃ t, TyX K H x t ∧ PySem.W.kitOne K t u = some b
theorem TyX.mono {K : PySem.W.Frag} {H H' : Hp} {x : V} {t : Value} (e : Same H H') (h : TyX K H x t) : TyX K H' x t := by
  cases h with
  | base h =>
    refine .base ?_
    cases h with
    | non => exact .non
    | bl b => exact .bl b
    | int i => exact .int i
    | str x => exact .str x
    | flt x => exact .flt x
    | lst h => exact .lst (e _ _ h)
    | frz h => exact .frz (e _ _ h)
    | tup h => exact .tup (e _ _ h)
    | dK h => exact .dK (e _ _ h)
    | dT h => exact .dT (e _ _ h)
    | ins h cl a b c d => exact .ins (e _ _ h) cl a b c d
  | byt b => exact .byt b
  | set h => exact .set (e _ _ h)
  | kList h c => exact .kList h c
  | kTuple h c => exact .kTuple h c
  | kDict h c => exact .kDict h c
  | fTuple h => exact .fTuple (e _ _ h)
  | fDict h => exact .fDict (e _ _ h)
theorem IsI.mono {K : PySem.W.Frag} {H H' : Hp} {x : V} {u : Value} {b : Bool} (e : Same H H') (h : IsI K H x u b) : IsI K H' x u b :=
  let ⟨t, a, c⟩ := h.ex
  ⟨t, TyX.mono e a, c⟩
theorem isI_int {K : PySem.W.Frag} {H : Hp} {i : Int} {T : String} {b : Bool} (h : kitB "int" T = some b) : IsI K H (.int i) (.type T) b := ⟨_, .base (.int i), h⟩
theorem isI_bl {K : PySem.W.Frag} {H : Hp} {i : Bool} {T : String} {b : Bool} (h : kitB "bool" T = some b) : IsI K H (.bl i) (.type T) b := ⟨_, .base (.bl i), h⟩
theorem isI_str {K : PySem.W.Frag} {H : Hp} {i : Str} {T : String} {b : Bool} (h : kitB "str" T = some b) : IsI K H (.str i) (.type T) b := ⟨_, .base (.str i), h⟩
theorem isI_non {K : PySem.W.Frag} {H : Hp} {T : String} {b : Bool} (h : kitB "NoneType" T = some b) : IsI K H .non (.type T) b := ⟨_, .base .non, h⟩
section
variable {D : Dm} {K : PySem.W.Frag} {σ : L2.St} {B : Hp} {te : TE} {x : V} {b : Bool} {T : String} {C : Addr}
theorem ev_isi {u : Value} {c : V} {tc : TE} (h : EvR D te σ B (pEq x)) (hc : ∀ B2, Same B B2 → EvR D tc σ B2 (pEq c)) (hu : ClsV c u) (hi : IsI K B x u b) : EvR D (tCB (rIsi K) (tCons te (tCons tc tNil))) σ B (pEq (.bl b)) :=
  ev_cbE (ea_consE h fun B2 e => ea_oneE (hc B2 e)) fun B2 e => EvV.nowE fun H Q e2 q => by
    obtain ⟨t, a, k⟩ := (IsI.mono (e.trans e2) hi).ex
    exact ⟨x, c, t, u, b, rfl, hu, a, k, q⟩
end
/-- isinstance(the i-th slot, T), as a value -/
abbrev tIsI (K : PySem.W.Frag) (i : Nat) (T : String) : TE := tCB (rIsi K) (tCons (tVar i) (tCons (tC (.ty T)) tNil))
/-! ### is_integer -/
def optI : Option Int → V
  | none => .non
  | some j => .int j
/-- an int, no bool, from l on, to m -/
def isInt (x : V) (l : Int) (m : Option Int) : Bool := match x with
  | .int i => decide (l ≤ i) && (match m with
    | none => true
    | some j => decide (i ≤ j))
  | _ => false
/-- no object but a plain value -/
def plain : V → Bool
  | .non | .bl _ | .int _ | .str _ => true
  | _ => false
def spInt : Sp := PSp (fun _ (a : V × Int × Option Int) vs _ => vs = [a.1, .int a.2.1, optI a.2.2] ∧ plain a.1 = true) (fun a => pEq (.bl (isInt a.1 a.2.1 a.2.2)))
theorem isI_plain {K : PySem.W.Frag} {H : Hp} {x : V} (h : plain x = true) (T : String) (hT : ∀ n ∈ ["int", "bool", "str", "NoneType"], (kitB n T).isSome = true) : ∃ b, IsI K H x (.type T) b := by
  have g : ∀ n, n ∈ ["int", "bool", "str", "NoneType"] → ∃ b, kitB n T = some b := fun n hn => Option.isSome_iff_exists.mp (hT n hn)
  cases x with
  | non => obtain ⟨b, e⟩ := g "NoneType" (by simp); exact ⟨b, isI_non e⟩
  | bl c => obtain ⟨b, e⟩ := g "bool" (by simp); exact ⟨b, isI_bl e⟩
  | int i => obtain ⟨b, e⟩ := g "int" (by simp); exact ⟨b, isI_int e⟩
  | str z => obtain ⟨b, e⟩ := g "str" (by simp); exact ⟨b, isI_str e⟩
  | _ => cases h
def isTy (T : String) : V → Bool
  | .non => (kitB "NoneType" T).getD false
  | .bl _ => (kitB "bool" T).getD false
  | .int _ => (kitB "int" T).getD false
  | .str _ => (kitB "str" T).getD false
  | _ => false
theorem isI_of {K : PySem.W.Frag} {H : Hp} {x : V} (h : plain x = true) {T : String} (hT : ∀ n ∈ ["int", "bool", "str", "NoneType"], (kitB n T).isSome = true) : IsI K H x (.type T) (isTy T x) := by
  have g : ∀ n, n ∈ ["int", "bool", "str", "NoneType"] → kitB n T = some ((kitB n T).getD false) := fun n hn => by
    obtain ⟨b, e⟩ := Option.isSome_iff_exists.mp (hT n hn)
    rw [e]; rfl
  cases x with
  | non => exact isI_non (g _ (by simp))
  | bl c => exact isI_bl (g _ (by simp))
  | int i => exact isI_int (g _ (by simp))
  | str z => exact isI_str (g _ (by simp))
  | _ => cases h
theorem kit4_int : ∀ n ∈ ["int", "bool", "str", "NoneType"], (kitB n "int").isSome = true := by decide +kernel
theorem kit4_bool : ∀ n ∈ ["int", "bool", "str", "NoneType"], (kitB n "bool").isSome = true := by decide +kernel
theorem kit4_str : ∀ n ∈ ["int", "bool", "str", "NoneType"], (kitB n "str").isSome = true := by decide +kernel
theorem isTy_int (x : V) : isTy "int" x = (match x with | .int _ => true | .bl _ => true | _ => false) := by
  cases x <;> first | rfl | decide +kernel
theorem isTy_bool (x : V) : isTy "bool" x = (match x with | .bl _ => true | _ => false) := by
  cases x <;> first | rfl | decide +kernel
theorem isTy_str (x : V) : isTy "str" x = (match x with | .str _ => true | _ => false) := by
  cases x <;> first | rfl | decide +kernel
section
variable {P : Program} {w : World} {K : PySem.W.Frag} {mg : Str → Option Value} {base : Heap}
theorem sc_is_integer : FnScope ["value", "least", "most"] ["value", "least", "most"] d_is_integer.scope := ⟨rfl, rfl, rfl, by decide +kernel, rfl, by decide +kernel, by decide +kernel⟩
theorem fn_is_integer (T : Tz K mg) : Fn P w K mg base 1 "is_integer" spInt := by
  refine fn_of T.h_is_integer T.g_is_integer rfl sc_is_integer (fun _ _ _ _ _ _ us hl => match us, hl with | [_, _, _], _ => rfl) (fun vs H Q E h => ?_) (BodyOk0.ok fun cdv A outer s H vs Q E hr h => ?_)
  · obtain ⟨_, _, a, _, ⟨rfl, _⟩, _⟩ := h
    rfl
  · refine ⟨_, pss_cons (ps_if (PW.pt (pw_or (pt_not (pt_val (pe_callB call_isi (by rfl) T.b_isinstance boot_isinstance (pa_cons (pv 0) (pa_cons (pe_bltn (v := .ty "int") (by rfl) T.b_int boot_int rfl) pa_nil)))))
        (pw_or (pt_val (pe_callB call_isi (by rfl) T.b_isinstance boot_isinstance (pa_cons (pv 0) (pa_cons (pe_bltn (v := .ty "bool") (by rfl) T.b_bool boot_bool rfl) pa_nil))))
        (pw_or1 (pt_cmpR op_lt (pv 0) (pv 1) (nomark _)))))) (pss_one (ps_ret pe_bl)) pss_nil)
      (pss_one (ps_ret (pe_or (pe_cmpR op_isN (pv 2) pe_non (nomark _)) (pe_one (pe_cmpR op_le (pv 0) (pv 2) (nomark _)))))), h.body (N := ["value", "least", "most"]) fun D a B p => ?_⟩
    obtain ⟨x, l, m⟩ := a
    obtain ⟨rfl, hx⟩ := p
    have ni : EvT D (tNot (tB (tIsI K 0 "int"))) (start ["value", "least", "most"] [x, .int l, optI m]) B (is (!isTy "int" x)) := et_not (et_B (ev_isi (ev_varE rfl) (fun _ _ => ev_c) (.ty _) (isI_of hx kit4_int)))
    have nb : ∀ B2, Same B B2 → EvT D (tB (tIsI K 0 "bool")) (start ["value", "least", "most"] [x, .int l, optI m]) B2 (is (isTy "bool" x)) := fun B2 _ => et_B (ev_isi (ev_varE rfl) (fun _ _ => ev_c) (.ty _) (isI_of hx kit4_bool))
    have rF : ∀ B2, Same B B2 → EvS D (tRet (tC (.bl false))) (start ["value", "least", "most"] [x, .int l, optI m]) B2 (pEq (.bl false)) := fun B2 _ => es_ret ev_c
    cases x with
    | int i =>
      have e1 : (!isTy "int" (.int i)) = false := by rw [isTy_int]; rfl
      have e2 : isTy "bool" (.int i) = false := by rw [isTy_bool]
      rw [e1] at ni
      rw [e2] at nb
      by_cases hl : i < l
      · have ev : isInt (.int i) l m = false := by unfold isInt; simp; omega
        rw [show pEq _ = pEq (.bl false) from by rw [← ev]]
        exact es_ifT (et_orF ni fun B2 s2 => et_orF (nb B2 s2) fun B3 s3 => (et_test (ev_I0 (ev_varE rfl) fun _ _ => ev_varE rfl)).to (by simp [hl])) rF
      · refine es_ifF (et_orF ni fun B2 s2 => et_orF (nb B2 s2) fun B3 s3 => (et_test (ev_I0 (ev_varE rfl) fun _ _ => ev_varE rfl)).to (by simp [hl])) fun B2 s2 => ?_
        cases m with
        | none =>
          have ev : isInt (.int i) l none = true := by unfold isInt; simp; omega
          rw [show pEq _ = pEq (.bl true) from by rw [← ev]]
          exact es_ret (ev_orT ((ev_isN (ev_varE rfl)).to (by rfl)))
        | some j =>
          have ev : isInt (.int i) l (some j) = decide (i ≤ j) := by unfold isInt; simp; omega
          rw [show pEq _ = pEq (.bl (decide (i ≤ j))) from by rw [← ev]]
          exact es_ret (ev_orF ((ev_isN (ev_varE rfl)).to (by rfl)) fun B3 s3 => ev_I0 (ev_varE rfl) fun _ _ => ev_varE rfl)
    | bl c =>
      have e1 : (!isTy "int" (.bl c)) = false := by rw [isTy_int]; rfl
      have e2 : isTy "bool" (.bl c) = true := by rw [isTy_bool]
      rw [e1] at ni
      rw [e2] at nb
      exact es_ifT (et_orF ni fun B2 s2 => et_orT (nb B2 s2)) rF
    | str z =>
      have e1 : (!isTy "int" (.str z)) = true := by rw [isTy_int]; rfl
      rw [e1] at ni
      exact es_ifT (et_orT ni) rF
    | non =>
      have e1 : (!isTy "int" .non) = true := by rw [isTy_int]; rfl
      rw [e1] at ni
      exact es_ifT (et_orT ni) rF
    | _ => cases hx
end
end CW
set_option Elab.async false
set_option linter.all false
set_option maxRecDepth 100000
set_option maxHeartbeats 1000000
/-! Ev2: walks and comprehensions by lists of known things. -/
namespace CW
open PySem PySem.Spec PyProof.Rows L2
section
variable {D : Dm} {K : PySem.W.Frag} {σ : L2.St} {B : Hp} {wi : TI} {g : TG} {tt : TT} {te tb : TE} {ta : TA} {vs : List Nat} {n : Nat} {v : V} {α β : Type} {as : List α} {R : α → PV} {R' : α → PV} {P : PV}
/-- what is walked: one item for each of as, of which R tells -/
def EvL (D : Dm) (wi : TI) (σ : L2.St) (B : Hp) (as : List α) (R : α → PV) : Prop := EvI D wi σ B as.length (fun i x B => ∃ a, as[i]? = some a ∧ R a x B)
theorem EvL.imp (h : EvL D wi σ B as R) (k : ∀ a x B2, a ∈ as → Same B B2 → R a x B2 → R' a x B2) : EvL D wi σ B as R' := EvI.imp h fun i x B2 _ e ⟨a, h1, h2⟩ => ⟨a, h1, k a x B2 (List.mem_of_getElem? h1) e h2⟩
theorem el_list [∀ a, Mo (R a)] (h : EvR D te σ B (pMap K R as)) : EvL D (iList K te) σ B as R := ei_listM h
theorem el_tup [∀ a, Mo (R a)] (h : EvR D te σ B (pMapT K R as)) : EvL D (iTup K te) σ B as R := ei_tupM h
/-- a sign of a text -/
def sgn (c : Nat) : PV := pEq (.str ⟨#[c]⟩)
instance {c : Nat} : Mo (sgn c) := ⟨fun _ h => h⟩
theorem el_str {z : Str} (h : EvR D te σ B (pEq (.str z))) : EvL D (iStr te) σ B z.cps.toList sgn := by
  have e := ei_str h
  rw [show z.cps.size = z.cps.toList.length from (Array.length_toList).symm] at e
  exact e.imp fun i x B2 _ _ ⟨c, h1, h2⟩ => ⟨c, by rw [Array.getElem?_toList]; exact h1, h2⟩
/-- a whole number -/
def num (i : Int) : PV := pEq (.int i)
instance {i : Int} : Mo (num i) := ⟨fun _ h => h⟩
def numN (i : Nat) : PV := pEq (.int (i : Nat))
instance {i : Nat} : Mo (numN i) := ⟨fun _ h => h⟩
theorem el_range1 {j : Int} (h : EvA D ta σ B (fun vs _ => vs = [.int j])) (h1 : -(2 ^ 62) ≤ j) (h2 : j < 2 ^ 62) : EvL D (iRng1 ta) σ B (List.range j.toNat) numN := by
  have e := ei_range1 h ⟨h1, h2⟩
  unfold EvL
  rw [List.length_range]
  exact e.imp fun i x B2 hi _ p => ⟨i, by rw [List.getElem?_range hi], p⟩
/-- each item gives one -/
def pLst (K : PySem.W.Frag) (R : α → PV) (as : List α) : PV := fun x H => ∃ p xs, x = .ref p ∧ H p = some (.lst xs) ∧ Paired (fun a v => R a v H) as xs
instance [∀ a, Mo (R a)] : Mo (pLst K R as) := ⟨fun e ⟨p, xs, h1, h2, h3⟩ => ⟨p, xs, h1, e _ _ h2, Paired.mono (fun a v h => Mo.mo e h) h3⟩⟩
theorem pLst.map {x : V} {H : Hp} (h : pLst K R as x H) : pMap K R as x H := let ⟨p, xs, h1, h2, h3⟩ := h; ⟨p, xs, h1, SqL.of h2, h3⟩
theorem paired_range {xs : List V} {H : Hp} (h : Paired (fun i v => ∃ a, as[i]? = some a ∧ R a v H) (List.range as.length) xs) : Paired (fun a v => R a v H) as xs := by
  have gen : ∀ (n k : Nat) (l : List α) (xs : List V), l.length = n → (∀ i, l[i]? = as[k + i]?) → Paired (fun i v => ∃ a, as[i]? = some a ∧ R a v H) (List.range' k n) xs → Paired (fun a v => R a v H) l xs := by
    intro n
    induction n with
    | zero =>
      intro k l xs hl he h
      have : l = [] := List.eq_nil_of_length_eq_zero hl
      subst this
      cases h
      exact .nil
    | succ n ih =>
      intro k l xs hl he h
      cases l with
      | nil => simp at hl
      | cons b l =>
        rw [List.range'_succ] at h
        cases h with
        | cons h1 h2 =>
          obtain ⟨a, e1, r⟩ := h1
          have e2 : some b = as[k]? := by simpa using he 0
          rw [e1] at e2
          cases e2
          refine .cons r (ih (k + 1) l _ (by simpa using hl) (fun i => ?_) h2)
          have := he (i + 1)
          rw [show k + (i + 1) = k + 1 + i from by omega] at this
          simpa using this
  exact gen as.length 0 as xs rfl (fun i => by rw [Nat.zero_add]) (by rw [← List.range_eq_range']; exact h)
theorem ev_lcL [∀ a, Mo (R' a)] (hi : EvL D wi σ B as R) (hn : as.length < 100000)
    (hs : ∀ a x B2, a ∈ as → Same B B2 → R a x B2 → ∃ σ2, wipe σ2 vs = wipe σ vs ∧ Sets D g x (wipe σ vs) B2 σ2 ∧ ∀ B3, Same B2 B3 → EvR D te σ2 B3 (R' a)) : EvR D (tLc wi g tYes te vs) σ B (pLst K R' as) :=
  haveI : ∀ i : Nat, Mo (fun v H => ∃ a : α, as[i]? = some a ∧ R' a v H) := fun i => ⟨fun {v H H'} e h => by obtain ⟨a, h1, h2⟩ := h; exact ⟨a, h1, Mo.mo e h2⟩⟩
  (ev_lc (R := fun i v H => ∃ a, as[i]? = some a ∧ R' a v H) hi hn fun i x B2 _ e ⟨a, h1, h2⟩ => by
    obtain ⟨σ2, q1, q2, q3⟩ := hs a x B2 (List.mem_of_getElem? h1) e h2
    exact ⟨σ2, q1, q2, fun B3 e3 => (q3 B3 e3).imp fun v B4 _ h => ⟨a, h1, h⟩⟩).imp fun v B2 _ ⟨p, xs, h1, h2, h3⟩ => ⟨p, xs, h1, h2, paired_range h3⟩
theorem wipe_set {j : Nat} {x : V} : wipe ((wipe σ [j]).set j (some x)) [j] = wipe σ [j] := by
  show List.set ((List.set σ j none).set j (some x)) j none = List.set σ j none
  rw [List.set_set, List.set_set]
/-- .. for x in ..: one name -/
theorem ev_lc1 {j : Nat} [∀ a, Mo (R' a)] (hi : EvL D wi σ B as R) (hn : as.length < 100000) (hs : ∀ a x B2, a ∈ as → Same B B2 → R a x B2 → EvR D te ((σ.set j none).set j (some x)) B2 (R' a)) (hR : ∀ a x B1 B2, Same B1 B2 → R a x B1 → R a x B2) :
    EvR D (tLc wi (gName j) tYes te [j]) σ B (pLst K R' as) := ev_lcL hi hn fun a x B2 ha e h => ⟨_, wipe_set, sets_name, fun B3 e3 => hs a x B3 ha (e.trans e3) (hR a x _ _ e3 h)⟩
theorem eq_of_paired {f : α → Bool} {H : Hp} : ∀ {as : List α} {xs : List V}, Paired (fun a v => pEq (.bl (f a)) v H) as xs → xs = (as.map f).map V.bl
  | _, _, .nil => rfl
  | _, _, .cons h t => by rw [List.map_cons, List.map_cons, ← eq_of_paired t, show _ = V.bl _ from h]
/-- all([..]), any([..]) -/
theorem ev_all {f : α → Bool} (h : EvR D te σ B (pLst K (fun a => pEq (.bl (f a))) as)) : EvR D (tCB (rAll K) (tCons te tNil)) σ B (pEq (.bl (as.all f))) :=
  haveI : Mo (pLst K (fun a => pEq (.bl (f a))) as) := inferInstance
  ev_cb (ea_one h) fun vs B2 e ⟨v, e1, p, xs, e2, hl, pr⟩ => EvV.nowE fun H Q s q => by
    have ex : xs = (as.map f).map V.bl := by
      exact eq_of_paired pr
    refine ⟨p, as.map f, by rw [e1, e2], SqL.of (by rw [← ex]; exact s _ _ hl), ?_⟩
    rw [List.all_map]; exact q
theorem ev_any {f : α → Bool} (h : EvR D te σ B (pLst K (fun a => pEq (.bl (f a))) as)) : EvR D (tCB (rAny K) (tCons te tNil)) σ B (pEq (.bl (as.any f))) :=
  haveI : Mo (pLst K (fun a => pEq (.bl (f a))) as) := inferInstance
  ev_cb (ea_one h) fun vs B2 e ⟨v, e1, p, xs, e2, hl, pr⟩ => EvV.nowE fun H Q s q => by
    have ex : xs = (as.map f).map V.bl := by
      exact eq_of_paired pr
    refine ⟨p, as.map f, by rw [e1, e2], SqL.of (by rw [← ex]; exact s _ _ hl), ?_⟩
    rw [List.any_map]; exact q
/-! built-ins by values -/
theorem ev_inSign {c : Nat} {z : Str} (ha : EvR D te σ B (pEq (.str ⟨#[c]⟩))) (hb : ∀ B2, Same B B2 → EvR D tb σ B2 (pEq (.str z))) :
    EvR D (tOp (fun x y H Q => ∃ (c : Nat) (z : Str), x = .str ⟨#[c]⟩ ∧ y = .str z ∧ Q (.bl (decide (c ∈ z.cps.toList))) H) te tb) σ B (pEq (.bl (decide (c ∈ z.cps.toList)))) := ev_opE ha hb fun _ _ => EvV.nowE fun _ _ _ q => ⟨c, z, rfl, rfl, q⟩
/-- len -/
theorem ev_lenS {z : Str} (h : EvR D te σ B (pEq (.str z))) (hz : z.length ≤ 100000) : EvR D (tCB (fun xs H Q => ∃ x n, xs = [x] ∧ LenV K x H n ∧ Q (.int n) H) (tCons te tNil)) σ B (pEq (.int z.length)) :=
  ev_cbE (ea_oneE h) fun _ _ => EvV.nowE fun H Q s q => ⟨_, z.length, rfl, ⟨Nat.le_trans hz (by decide), rfl⟩, q⟩
theorem ev_lenT {xs : List V} (h : EvR D te σ B (pSqT K xs)) : EvR D (tCB (fun xs H Q => ∃ x n, xs = [x] ∧ LenV K x H n ∧ Q (.int n) H) (tCons te tNil)) σ B (pEq (.int xs.length)) :=
  ev_cb (ea_one h) fun vs B2 e ⟨v, e1, p, e2, hl⟩ => EvV.nowE fun H Q s q => ⟨v, xs.length, e1, by rw [e2]; exact .inr ⟨xs, Same.tup s hl, rfl⟩, q⟩
theorem ev_lenL {xs : List V} (h : EvR D te σ B (pSqL K xs)) : EvR D (tCB (fun xs H Q => ∃ x n, xs = [x] ∧ LenV K x H n ∧ Q (.int n) H) (tCons te tNil)) σ B (pEq (.int xs.length)) :=
  ev_cb (ea_one h) fun vs B2 e ⟨v, e1, p, e2, hl⟩ => EvV.nowE fun H Q s q => ⟨v, xs.length, e1, by rw [e2]; exact .inl ⟨xs, Same.lst s hl, rfl⟩, q⟩
end
end CW
set_option Elab.async false
set_option linter.all false
set_option maxRecDepth 100000
set_option maxHeartbeats 1000000
/-! ZS: zip of two texts. -/
namespace CW
open PySem PySem.Spec PyProof.Rows L2
/-- two texts, sign by sign, in new pairs -/
def ItzS (x y : Str) : It where
  go := fun i _ => i < x.cps.size ∧ i < y.cps.size
  yld := fun i H v H' => ∃ (T : Addr) (c d : Nat), v = .ref T ∧ H T = none ∧ H' = upd H T (.tup [.str ⟨#[c]⟩, .str ⟨#[d]⟩]) ∧ x.cps[i]? = some c ∧ y.cps[i]? = some d
  stop := fun i _ => (i = x.cps.size ∧ i ≤ y.cps.size) ∨ (i = y.cps.size ∧ i ≤ x.cps.size)
def ZsAt (x y : Str) (t1 t2 : Tok) (z TI TO i1 i2 : Addr) (i : Nat) (h : Heap) : Prop :=
  IsZip h z TI TO .none ∧ IsTupOf2 h TI (.ref i1) (.ref i2) ∧ (∃ u v, IsTupOf2 h TO u v) ∧ h.IsStrIter i1 (strIterType x) x t1 i ∧ h.IsStrIter i2 (strIterType y) y t2 i
theorem five {c z TI TO i1 i2 : Addr} (h : c ∈ [z, TI, TO, i1, i2]) : c = z ∨ c = TI ∨ c = TO ∨ c = i1 ∨ c = i2 := by simpa using h
theorem strIt_at {h h' : Heap} {a : Addr} {ty : String} {x : Str} {t : Tok} {i : Nat} (y : h.IsStrIter a ty x t i) (k : ∀ o, h.get? a = some o → h'.get? a = some o) : h'.IsStrIter a ty x t i :=
  let ⟨o, ho, r⟩ := y
  ⟨o, k o ho, r⟩
theorem zsAt_obj {x y : Str} {t1 t2 : Tok} {z TI TO i1 i2 : Addr} {i : Nat} {h : Heap} (st : ZsAt x y t1 t2 z TI TO i1 i2 i h) : ∀ b ∈ [z, TI, TO, i1, i2], ∃ o, h.get? b = some o ∧ ∀ v, o.data ≠ .cell v := fun b hb => by
  obtain ⟨hz, hT, ⟨u, v, hO⟩, ⟨o1, e1, _, d1⟩, ⟨o2, e2, _, d2⟩⟩ := st
  rcases five hb with q | q | q | q | q
  · subst q; exact ⟨_, hz, fun v z => nomatch z⟩
  · subst q; exact ⟨_, hT, fun v z => nomatch z⟩
  · subst q; exact ⟨_, hO, fun v z => nomatch z⟩
  · subst q; exact ⟨o1, e1, fun v z => by rw [d1] at z; cases z⟩
  · subst q; exact ⟨o2, e2, fun v z => by rw [d2] at z; cases z⟩
theorem turn_zs {P : Program} {w : World} {K : PySem.W.Frag} {elts : List Expr} {kk : Nat} {tpos : Pos} {x y : Str} {t1 t2 : Tok} {z TI TO i1 i2 : Addr} (S : ZipSep2 z TI TO i1 i2 [i1] [i2]) :
    Turn P w K (.Tuple elts kk tpos) (ItzS x y) [z, TI, TO, i1, i2] z (ZsAt x y t1 t2 z TI TO i1 i2) where
  mem := by simp
  obj := fun i h st => zsAt_obj st
  keep := fun i h h' st k => by
    obtain ⟨hz, hT, ⟨u, v, hO⟩, h1, h2⟩ := st
    exact ⟨k z (by simp) _ hz, k TI (by simp) _ hT, ⟨u, v, k TO (by simp) _ hO⟩, strIt_at h1 (k i1 (by simp)), strIt_at h2 (k i2 (by simp))⟩
  item := by
    intro X hP hw hK hc i pins s σ H E I hf st hg
    subst hP hw hK
    have hh : X.A.in1.handled = none := by simp [I.ok.hd hc]
    have all := zsAt_obj st
    obtain ⟨hz, hT, ⟨u0, v0, hO⟩, h1, h2⟩ := st
    refine wpAny_pyNext_zipD2_item S (Draws.text hh i1 x t1) (Draws.text hh i2 y t2) hz hT hO h1 h2 hg.1 hg.2 fun u v h' tk pu pv z' O' s1 s2 hN hsz hk => ?_
    obtain ⟨c, tc, hcx, rfl⟩ := pu
    obtain ⟨d, td, hdx, rfl⟩ := pv
    have hlt : ∀ b ∈ [z, TI, TO, i1, i2], b < s.heap.objs.size := fun b hb => let ⟨_, e, _⟩ := all b hb; Heap.lt_size e
    refine ⟨_, rfl, wpAny_letOwnedTupleGo_zip (s := { s with heap := h', toks := tk }) z' fun h2' z2 sb => ?_⟩
    have hzn : s.heap.objs.size ≠ z := Nat.ne_of_gt (hlt z (by simp))
    have hT2 : IsTupOf2 h2' s.heap.objs.size (.str ⟨#[c]⟩ tc) (.str ⟨#[d]⟩ td) := (sb.2 _ hzn).trans hN
    have okT : ObjOk X.prog X.w (upd H s.heap.objs.size (.tup [.str ⟨#[c]⟩, .str ⟨#[d]⟩])) h2' s.heap.objs.size (.tup [.str ⟨#[c]⟩, .str ⟨#[d]⟩]) :=
      ⟨by show 2 ≤ sizeLine; decide, [.str ⟨#[c]⟩ tc, .str ⟨#[d]⟩ td], .cons ⟨tc, rfl⟩ (.cons ⟨td, rfl⟩ .nil), ⟨_, hT2, rfl, _, rfl⟩⟩
    have kept : ∀ b o, b ∉ [z, TI, TO, i1, i2] → s.heap.get? b = some o → h2'.get? b = some o := fun b o hb e => by
      simp only [List.mem_cons, List.not_mem_nil, or_false, not_or] at hb
      exact (sb.2 b hb.1).trans (hk b o hb.1 hb.2.2.1 hb.2.2.2.1 hb.2.2.2.2 e)
    have I1 : Inv X pins σ (upd H s.heap.objs.size (.tup [.str ⟨#[c]⟩, .str ⟨#[d]⟩])) { s with heap := h2', toks := tk } := I.turnedNew (t' := tk) (ch := [z, TI, TO, i1, i2]) kept hf (Nat.le_refl _) okT
    refine ⟨.ref s.heap.objs.size, _, I1, rfl, ⟨_, c, d, rfl, I.hok.fresh (Nat.le_refl _), rfl, hcx, hdx⟩, ⟨z2, ?_, ⟨_, _, (sb.2 _ S.TOz).trans O'⟩, strIt_at s1 fun o q => (sb.2 _ (Ne.symm S.zi1)).trans q, strIt_at s2 fun o q => (sb.2 _ (Ne.symm S.zi2)).trans q⟩, fun b hb => ?_⟩
    · exact (sb.2 _ S.TIz).trans (hk _ _ S.TIz S.TITO S.TIi1 S.TIi2 hT)
    · rw [upd_ne (Nat.ne_of_lt (hlt b hb))]
      exact (hf b hb).1
  done := by
    intro X hP hw hK hc i pins s σ H E I hf st hg
    subst hP hw hK
    have hh : X.A.in1.handled = none := by simp [I.ok.hd hc]
    obtain ⟨hz, hT, ⟨u0, v0, hO⟩, h1, h2⟩ := st
    have hle : i ≤ x.cps.size ∧ i ≤ y.cps.size ∧ (i = x.cps.size ∨ i = y.cps.size) := by
      rcases hg with ⟨a, b⟩ | ⟨a, b⟩
      · exact ⟨Nat.le_of_eq a, b, .inl a⟩
      · exact ⟨b, Nat.le_of_eq a, .inr a⟩
    exact wpAny_pyNext_zipD2_end S (Draws.text hh i1 x t1) (Draws.text hh i2 y t2) hz hT hO h1 h2 hle.1 hle.2.1 hle.2.2 fun h' tk hk => ⟨rfl, I.turnedL (t' := tk) (ch := [z, TI, TO, i1, i2]) (fun b o hb e => by
      simp only [List.mem_cons, List.not_mem_nil, or_false, not_or] at hb
      exact hk b o hb.1 hb.2.2.1 hb.2.2.2.1 hb.2.2.2.2 e) hf⟩
  self := fun A i s Q E st h => wpAny_pyIter_zip st.1 h
/-- zip(s, t) -/
def iZipS (ta : TA) : TI := fun σ H R => ta σ H fun vs H1 => ∃ x y : Str, vs = [.str x, .str y] ∧ R (ItzS x y) H1
theorem pi_zipS {X : Cx} {e e2 : Expr} {ta : TA} {p pos tpos : Pos} {elts : List Expr} {kk : Nat} (hg : Gl X "zip") (hm : X.mg "zip" = none) (ha : PA X [e, e2] ta)
    (hs : starEach [e, e2] X.env = (false, eval e X.env) :: starEach [e2] X.env := by rfl) (hp : (backTo pos (starEach [e2] X.env)).any (·.1) = false := by rfl) :
    PI X (.Tuple elts kk tpos) (.Call (.Name "zip" p) [e, e2] [] pos) (iZipS ta) := by
  refine ⟨fun pins s σ H R I h => Call_ (ld_blt I hg hm boot_zip (callWith_type1 (thn (ha.run pos pins s σ H _ I h) fun us s1 hh => ?_) hs hp))⟩
  obtain ⟨vs, H1, I1, r1, x, y, ex, q⟩ := hh
  subst ex
  obtain ⟨u1, u2, rfl, ⟨t1, rfl⟩, ⟨t2, rfl⟩⟩ := vals2 r1
  refine zip_begins2 (begins_text x t1) (begins_text y t2) trivial trivial fun h' hz hT hO e1 e2 hsz hk => wpAny_pyIter_zip hz ?_
  have I2 : Inv X pins σ H1 { s1 with heap := h' } := I1.kept (t' := s1.toks) hk
  refine ⟨s1.heap.objs.size + 4, [s1.heap.objs.size + 4, s1.heap.objs.size + 2, s1.heap.objs.size + 3, s1.heap.objs.size, s1.heap.objs.size + 1], _, ItzS x y, H1, rfl, I2,
    turn_zs (t1 := t1) (t2 := t2) (zip_sep2 (N := s1.heap.objs.size) (fp1 := []) (fp2 := []) (fun b hb => nomatch hb) fun b hb => nomatch hb), ⟨hz, hT, ⟨_, _, hO⟩, ⟨_, e1, rfl, rfl⟩, ⟨_, e2, rfl, rfl⟩⟩, fun b hb => ?_, q⟩
  have hle : s1.heap.objs.size ≤ b := by
    rcases five hb with z | z | z | z | z <;> rw [z] <;> first | exact Nat.le_refl _ | exact Nat.le_add_right _ _
  exact I1.fpOk hle (I1.hok.fresh hle)
end CW
set_option Elab.async false
set_option linter.all false
set_option maxRecDepth 100000
set_option maxHeartbeats 1000000
/-! ET: enumerate of a tuple. -/
namespace CW
open PySem PySem.Spec PyProof.Rows L2
/-- what enumerate(v) lays behind the iterator o -/
abbrev enumO (h : Heap) (o : Obj) : Heap := (h.push o).push { cls := .type "enumerate", data := .fields #[.none, .bool false, .ref h.objs.size, rawInt 0, .none, .none] }
theorem meets_enum1 {v : Value} {o : Obj} {F : Heap → Prop} (B : Begins v o F) : Meets (Builtin.«enumerate.__new__» ⟨[.type "enumerate", v], []⟩)
    (fun _ R s => F s.heap ∧ R (.ok (.ret (.ref (s.heap.push o).objs.size))) { s with heap := enumO s.heap o }) := .of_wp fun prog w A R s hyp => by
  obtain ⟨hp, g, d, tk, os⟩ := s
  obtain ⟨h1, hq⟩ := hyp
  have it : ∀ {A' : Around} {E Q : Value → Shared → Prop}, Q (.ref hp.objs.size) ⟨hp.push o, g, d, tk, os⟩ → wpAny (model prog w) A' (pyIter v) Q E ⟨hp, g, d, tk, os⟩ :=
    fun q => B.iter prog w _ _ ⟨hp, g, d, tk, os⟩ _ h1 q
  have hs := sub_enumerate
  wp_walk using it
  all_goals try exact ⟨_, rfl, hq⟩
  refine wpAny_stack_any fun stk => wpAny_pure ?_
  split
  · rename_i c _ _ _ _ _
    cases (c == Value.type "enumerate")
    all_goals wp_walk using it
    all_goals exact ⟨_, rfl, hq⟩
  · wp_walk using it
    exact ⟨_, rfl, hq⟩
section
variable {prog : Program} {w : World} {A : Around} {E : Value → Shared → Prop} {s : Shared}
theorem enum1_begins {v : Value} {o : Obj} {G : Heap → Prop} {Q : Value → Shared → Prop} (B : Begins v o G) (h1 : G s.heap)
    (h : ∀ h', IsEnum h' (s.heap.objs.size + 1) s.heap.objs.size 0 .none → h'.get? s.heap.objs.size = some o → (∀ b u, s.heap.get? b = some u → h'.get? b = some u) → Q (.ref (s.heap.objs.size + 1)) { s with heap := h' }) :
    wpAny (model prog w) A (call (.type "enumerate") [v]) Q E s := by
  refine callType_new F.called_enumerate (by decide) (F.typeCall_enumerate_1 _) (F.newCall_enumerate_1 _) (fun x => F.args_object_init_2 x _) F.entry_enumerate_new (meets_enum1 B) ⟨h1, ?_⟩
  have hz : (s.heap.push o).objs.size = s.heap.objs.size + 1 := Heap.size_push ..
  have he : IsEnum (enumO s.heap o) (s.heap.objs.size + 1) s.heap.objs.size 0 .none := by
    have q := Heap.get?_push_size (s.heap.push o) (o := { cls := .type "enumerate", data := .fields #[.none, .bool false, .ref s.heap.objs.size, rawInt 0, .none, .none] }) rfl
    rw [hz] at q
    exact q
  show _ ∧ _
  rw [hz]
  exact ⟨⟨_, he, rfl⟩, h _ he (Heap.get?_push_of_some _ (Heap.get?_push_size _ B.free)) fun b u x => Heap.get?_push_of_some _ (Heap.get?_push_of_some _ x)⟩
end
/-- the tuple at a, each item in a new pair with its number -/
def IteT (K : PySem.W.Frag) (a : Addr) : It where
  go := fun i H => ∃ (xs : List V) (x : V), SqT K H a xs ∧ xs[i]? = some x
  yld := fun i H v H' => ∃ (T : Addr) (x : V), v = .ref T ∧ H T = none ∧ H' = upd H T (.tup [.int (i : Nat), x]) ∧ ∀ xs, SqT K H a xs → xs[i]? = some x
  stop := fun i H => ∃ xs : List V, SqT K H a xs ∧ xs.length = i
def EtAt (a e it : Addr) (i : Nat) (h : Heap) : Prop := (∃ old, IsEnum h e it (i : Nat) old) ∧ h.IsTupleIter it a i ∧ e ≠ it ∧ e ≠ a ∧ a ≠ it
theorem etAt_obj {a e it : Addr} {i : Nat} {h : Heap} (st : EtAt a e it i h) : ∀ b ∈ [e, it], ∃ o, h.get? b = some o ∧ ∀ v, o.data ≠ .cell v := fun b hb => by
  obtain ⟨⟨old, he⟩, ⟨o, ho, _, hd⟩, _⟩ := st
  rcases (show b = e ∨ b = it by simpa using hb) with z | z
  · subst z; exact ⟨_, he, fun v q => nomatch q⟩
  · subst z; exact ⟨o, ho, fun v q => by rw [hd] at q; cases q⟩
theorem turn_et {P : Program} {w : World} {K : PySem.W.Frag} {elts : List Expr} {kk : Nat} {tpos : Pos} {a e it : Addr} : Turn P w K (.Tuple elts kk tpos) (IteT K a) [e, it] e (EtAt a e it) where
  mem := by simp
  obj := fun i h st => etAt_obj st
  keep := fun i h h' st k => let ⟨⟨old, he⟩, hi, n⟩ := st; ⟨⟨old, k e (by simp) _ he⟩, hi.at fun o q => k it (by simp) o q, n⟩
  item := by
    intro X hP hw hK hc i pins s σ H E I hf st hg
    subst hP hw hK
    have hh : X.A.in1.handled = none := by simp [I.ok.hd hc]
    have all := etAt_obj st
    obtain ⟨⟨old, he⟩, hi, n1, n2, n3⟩ := st
    obtain ⟨xs, x, hq, hx⟩ := hg
    obtain ⟨its, rv, p, hz⟩ := I.tuple hq
    obtain ⟨u, hu, ru⟩ := rv.get hx
    have hlt : ∀ b ∈ [e, it], b < s.heap.objs.size := fun b hb => let ⟨_, q, _⟩ := all b hb; Heap.lt_size q
    have hil : i < its.toArray.size := by
      have := (List.getElem?_eq_some_iff.mp hu).1
      simpa using this
    refine wpAny_pyNext_enum_itemC (Draws.tuple hh it a n3 its.toArray) he ⟨hi, p⟩ hil n1 (by simp [n1, n2]) fun y h' tk hy ho hst hT hsz hk => ?_
    have eu : y = u := by
      have q : its[i]? = some y := by simpa using hy
      rw [hu] at q
      exact (Option.some.inj q).symm
    subst eu
    refine ⟨_, rfl, wpAny_letOwnedTupleGo_enum (s := { s with heap := h', toks := tk + 1 }) ho fun h2 he2 sb => ?_⟩
    have hT2 := (sb.2 _ (Nat.ne_of_gt (hlt e (by simp)))).trans hT
    have okT : ObjOk X.prog X.w (upd H s.heap.objs.size (.tup [.int (i : Nat), x])) h2 s.heap.objs.size (.tup [.int (i : Nat), x]) :=
      ⟨by show 2 ≤ sizeLine; decide, [.int i tk, y], .cons ⟨_, rfl⟩ (.cons ru .nil), ⟨_, hT2, rfl, _, rfl⟩⟩
    have kept : ∀ b o, b ∉ [e, it] → s.heap.get? b = some o → h2.get? b = some o := fun b o hb q => by
      simp only [List.mem_cons, List.not_mem_nil, or_false, not_or] at hb
      exact (sb.2 b hb.1).trans (hk b o hb.1 hb.2 q)
    have I1 : Inv X pins σ (upd H s.heap.objs.size (.tup [.int (i : Nat), x])) { s with heap := h2, toks := tk + 1 } := I.turnedNew (ch := [e, it]) kept hf (Nat.le_refl _) okT
    refine ⟨.ref s.heap.objs.size, _, I1, rfl, ⟨_, x, rfl, I.hok.fresh (Nat.le_refl _), rfl, fun ys hy => by rw [I.tuple_inj hy hq]; exact hx⟩, ⟨⟨y, ?_⟩, hst.1.at fun o q => (sb.2 it (Ne.symm n1)).trans q, n1, n2, n3⟩, fun b hb => ?_⟩
    · rw [show ((i + 1 : Nat) : Int) = (i : Int) + 1 from by omega]
      exact he2
    · rw [upd_ne (Nat.ne_of_lt (hlt b hb))]
      exact (hf b hb).1
  done := by
    intro X hP hw hK hc i pins s σ H E I hf st hg
    subst hP hw hK
    have hh : X.A.in1.handled = none := by simp [I.ok.hd hc]
    obtain ⟨⟨old, he⟩, hi, n1, n2, n3⟩ := st
    obtain ⟨xs, hq, hx⟩ := hg
    obtain ⟨its, rv, p, hz⟩ := I.tuple hq
    obtain ⟨f0, f1, f2, f3, f4, f5⟩ := hf it (by simp)
    have hl := rv.length
    have ei : i = its.toArray.size := by rw [List.size_toArray]; omega
    subst ei
    exact wpAny_pyNext_enum_endD (Draws.tuple hh it a n3 its.toArray) he ⟨hi, p⟩ fun h' eb => ⟨rfl, I.turned (t' := s.toks) (fun b o hb q => eb b o hb q) f0 f1 f3 f4 f5⟩
  self := fun A i s Q E st h => let ⟨⟨_, he⟩, _⟩ := st; wpAny_pyIter_enum he h
/-- enumerate(t), t a tuple -/
def iEnumT (K : PySem.W.Frag) (ta : TA) : TI := fun σ H R => ta σ H fun vs H1 => ∃ (a : Addr) (xs : List V), vs = [.ref a] ∧ SqT K H1 a xs ∧ R (IteT K a) H1
theorem pi_enumT {X : Cx} {e : Expr} {ta : TA} {p pos tpos : Pos} {elts : List Expr} {kk : Nat} (hg : Gl X "enumerate") (hm : X.mg "enumerate" = none) (ha : PA X [e] ta) (hs : starEach [e] X.env = [(false, eval e X.env)] := by rfl) :
    PI X (.Tuple elts kk tpos) (.Call (.Name "enumerate" p) [e] [] pos) (iEnumT X.K ta) := by
  refine ⟨fun pins s σ H R I h => Call_ (ld_blt I hg hm boot_enumerate (callWith_type1 (thn (ha.run pos pins s σ H _ I h) fun us s1 hh => ?_) hs rfl))⟩
  obtain ⟨vs, H1, I1, r1, a, xs, ex, hq, q⟩ := hh
  subst ex
  obtain ⟨u, rfl, ru⟩ := vals1 r1
  obtain rfl : u = Value.ref a := ru
  obtain ⟨its, rv, p1, _⟩ := I1.tuple hq
  obtain ⟨oa, hoa, _⟩ := id p1
  have hla : a < s1.heap.objs.size := Heap.lt_size hoa
  refine enum1_begins (begins_tuple a its.toArray) p1 fun h' he eo hk => wpAny_pyIter_enum he ?_
  have I2 : Inv X pins σ H1 { s1 with heap := h' } := I1.kept (t' := s1.toks) hk
  have n1 : s1.heap.objs.size + 1 ≠ s1.heap.objs.size := Nat.succ_ne_self _
  refine ⟨_, [s1.heap.objs.size + 1, s1.heap.objs.size], _, IteT X.K a, H1, rfl, I2, turn_et (it := s1.heap.objs.size), ⟨⟨_, he⟩, ⟨_, eo, rfl, rfl⟩, n1, Nat.ne_of_gt (Nat.lt_succ_of_lt hla), Nat.ne_of_lt hla⟩, fun b hb => ?_, q⟩
  have hle : s1.heap.objs.size ≤ b := by
    rcases (show b = s1.heap.objs.size + 1 ∨ b = s1.heap.objs.size by simpa using hb) with z | z <;> rw [z]
    · exact Nat.le_add_right _ _
    · exact Nat.le_refl _
  exact I1.fpOk hle (I1.hok.fresh hle)
/-! ### pairs, as what is walked -/
/-- a new pair -/
def pPr (P R : PV) : PV := fun v H => ∃ T x y, v = .ref T ∧ H T = some (.tup [x, y]) ∧ P x H ∧ R y H
instance {P R : PV} [Mo P] [Mo R] : Mo (pPr P R) := ⟨fun e ⟨T, x, y, h1, h2, h3, h4⟩ => ⟨T, x, y, h1, e _ _ h2, Mo.mo e h3, Mo.mo e h4⟩⟩
section
variable {D : Dm} {K : PySem.W.Frag} {σ : L2.St} {B : Hp} {g : TG} {te : TE} {ta : TA} {α β : Type} {as : List α} {bs : List β} {R : α → PV} {R' : β → PV}
/-- a turn that makes one thing -/
theorem gives_new {B3 H3 H4 : Hp} {o : HO} {T : Addr} (a : At D B3 H3) (h : H3 T = none) (e : H4 = upd H3 T o) : Stp D B3 H3 (upd B3 T o) H4 := by rw [e]; exact Stp.made a h
theorem walk_zs {x y : Str} : Walk (ItzS x y) (min x.cps.size y.cps.size) (fun _ => True) (ItzS x y).yld := ⟨fun i H hi _ => ⟨by omega, by omega⟩, fun H _ => by
  show (_ = _ ∧ _ ≤ _) ∨ (_ = _ ∧ _ ≤ _)
  omega, fun i H v H' _ _ h => h⟩
theorem el_zipS {x y : Str} (h : EvA D ta σ B (fun vs _ => vs = [.str x, .str y])) : EvL D (iZipS ta) σ B (x.cps.toList.zip y.cps.toList) (fun p => pPr (sgn p.1) (sgn p.2)) := fun H a R r =>
  h H a _ fun vs B2 H2 e p => ⟨x, y, p, by
    have hn : (x.cps.toList.zip y.cps.toList).length = min x.cps.size y.cps.size := by rw [List.length_zip, Array.length_toList, Array.length_toList]
    refine r (ItzS x y) B2 H2 (fun _ => True) _ e (fun _ _ _ h => h) (by rw [hn]; exact walk_zs) trivial fun i B3 hi _ H3 v H4 a3 y3 => ?_
    obtain ⟨T, c, d, rfl, hT, e4, hc, hd⟩ := y3
    refine ⟨_, gives_new a3 hT e4, (c, d), ?_, T, _, _, rfl, upd_same, rfl, rfl⟩
    rw [List.getElem?_zip_eq_some]
    exact ⟨by rw [Array.getElem?_toList]; exact hc, by rw [Array.getElem?_toList]; exact hd⟩⟩
theorem walk_et {a : Addr} {xs : List V} : Walk (IteT K a) xs.length (fun H => SqT K H a xs) (YPair (fun i => some (.int (i : Nat))) (fun i => xs[i]?)) :=
  ⟨fun i H hi q => ⟨xs, xs[i], q, by simp [hi]⟩, fun H q => ⟨xs, q, rfl⟩, fun i H v H' _ q y => by
    obtain ⟨T, x, h1, h2, h3, h4⟩ := y
    exact ⟨T, .int (i : Nat), x, h1, h2, h3, rfl, h4 xs q⟩⟩
theorem paired_get2 {α β : Type} {F : α → β → Prop} : ∀ {l₁ : List α} {l₂ : List β}, Paired F l₁ l₂ → ∀ {i : Nat} {b : β}, l₂[i]? = some b → ∃ a, l₁[i]? = some a ∧ F a b := fun h _ _ e => Paired.get h e
theorem el_enumT [∀ a, Mo (R a)] (h : EvR D te σ B (pMapT K R as)) : EvL D (iEnumT K (tCons te tNil)) σ B ((List.range as.length).zip as) (fun p => pPr (numN p.1) (R p.2)) := fun H a R' r =>
  ea_one (P := pMapT K R as) h H a _ fun vs B2 H2 e ⟨v, e1, p, xs, e2, hl, pr⟩ => ⟨p, xs, by rw [e1, e2], Same.tup e.at2.sm hl, by
    have hn : ((List.range as.length).zip as).length = xs.length := by rw [List.length_zip, List.length_range, ← pr.length, Nat.min_self]
    refine r (IteT K p) B2 H2 (fun H => SqT K H p xs) _ e (fun _ _ s q => Same.tup s q) (by rw [hn]; exact walk_et) hl fun i B3 hi s3 H3 v H4 a3 y3 => ?_
    obtain ⟨T, n, x, rfl, hT, e4, hn', hx⟩ := y3
    obtain ⟨b, hb, rb⟩ := Paired.get pr hx
    obtain rfl : V.int (i : Nat) = n := Option.some.inj hn'
    have s4 : Same B2 (upd B3 T (.tup [.int (i : Nat), x])) := s3.trans (Same.new (a3.sm.free hT))
    refine ⟨_, gives_new a3 hT e4, (i, b), ?_, T, _, _, rfl, upd_same, rfl, Mo.mo s4 rb⟩
    rw [List.getElem?_zip_eq_some]
    have := (List.getElem?_eq_some_iff.mp hb).1
    exact ⟨by rw [List.getElem?_range this], hb⟩⟩
/-- a, b = a pair -/
theorem sets_pair {i j : Nat} {v : V} {P R : PV} (h : pPr P R v B) : ∃ x y, P x B ∧ R y B ∧ Sets D (gTup K 2 (gCons (gName i) (gCons (gName j) gNil))) v σ B ((σ.set i (some x)).set j (some y)) := by
  obtain ⟨T, x, y, rfl, hT, hx, hy⟩ := h
  exact ⟨x, y, hx, hy, sets_tup (SqT.of hT) rfl fun H k q => ⟨x, [y], rfl, y, [], rfl, rfl, q⟩⟩
end
end CW
set_option Elab.async false
set_option linter.all false
set_option maxRecDepth 100000
set_option maxHeartbeats 1000000
/-! Ev3: slices, places, zips, joins, texts. -/
namespace CW
open PySem PySem.Spec PyProof.Rows L2
/-- a slice's end -/
def EvO (D : Dm) (tl : TO) (σ : L2.St) (B : Hp) (o : Option Int) : Prop := ∀ H, At D B H → ∀ Q : Option Int → Hp → Prop, (∀ B2 H2, Stp D B H B2 H2 → Q o H2) → tl σ H Q
section
variable {D : Dm} {K : PySem.W.Frag} {σ : L2.St} {B : Hp} {wi : TI} {te ta tb : TE} {tA : TA} {tl th : TO} {P P1 : PV} {v : V} {i j : Int} {lo hi : Option Int} {α β : Type} {as : List α} {bs : List β} {R : α → PV} {R' : β → PV} {z : Str}
theorem eo_none : EvO D tNoPart σ B none := fun H a Q q => q B H (Stp.refl a)
theorem eo_some (h : EvR D te σ B (pEq (.int i))) : EvO D (tPart te) σ B (some i) := fun H a Q q => h H a _ fun v B2 H2 e p => ⟨i, p, q B2 H2 e⟩
theorem ev_sl {r : V → Option Int → Option Int → Hp → VK → Prop} [Mo P1] (h : EvR D te σ B P1) (hl : ∀ B2, Same B B2 → EvO D tl σ B2 lo) (hh : ∀ B2, Same B B2 → EvO D th σ B2 hi) (hr : ∀ x B2, Same B B2 → P1 x B2 → EvV D (r x lo hi) B2 P) : EvR D (tSl r te tl th) σ B P := fun H a Q q =>
  h H a _ fun x B2 H2 e2 p => hl B2 e2.bs H2 e2.at2 _ fun B3 H3 e3 => hh B3 (e2.bs.trans e3.bs) H3 e3.at2 _ fun B4 H4 e4 => hr x B4 ((e2.bs.trans e3.bs).trans e4.bs) (Mo.mo (e3.bs.trans e4.bs) p) H4 e4.at2 Q fun v B5 H5 e5 p5 => q v B5 H5 (((e2.trans e3).trans e4).trans e5) p5
theorem ev_slS (h : EvR D te σ B (pEq (.str z))) (hl : ∀ B2, Same B B2 → EvO D tl σ B2 lo) (hh : ∀ B2, Same B B2 → EvO D th σ B2 hi) (hz : z.length ≤ sizeLine) : EvR D (tSl rSlS te tl th) σ B (pEq (.str (cutS z lo hi))) :=
  haveI : Mo (pEq (.str z)) := inferInstance
  ev_sl h hl hh fun x B2 _ p => EvV.nowE fun _ _ _ q => ⟨z, p, hz, q⟩
/-- the part of a list -/
def cutA (as : List α) (lo hi : Option Int) : List α := (as.drop (HT.sIx as.length 0 lo)).take (HT.sIx as.length as.length hi - HT.sIx as.length 0 lo)
theorem Paired.drop {F : α → V → Prop} : ∀ {l : List α} {xs : List V} (n : Nat), Paired F l xs → Paired F (l.drop n) (xs.drop n)
  | _, _, 0, h => h
  | _, _, n + 1, .nil => .nil
  | _, _, n + 1, .cons _ t => Paired.drop n t
theorem Paired.take {F : α → V → Prop} : ∀ {l : List α} {xs : List V} (n : Nat), Paired F l xs → Paired F (l.take n) (xs.take n)
  | _, _, 0, h => .nil
  | _, _, n + 1, .nil => .nil
  | _, _, n + 1, .cons r t => .cons r (Paired.take n t)
theorem paired_cut {F : α → V → Prop} {xs : List V} (h : Paired F as xs) : Paired F (cutA as lo hi) (cutV xs lo hi) := by
  unfold cutA cutV
  rw [h.length]
  exact Paired.take _ (Paired.drop _ h)
theorem cutA_all (h : HT.sIx as.length 0 lo = 0 ∧ HT.sIx as.length as.length hi = as.length) : cutA as lo hi = as := by
  unfold cutA
  rw [h.1, h.2, List.drop_zero, Nat.sub_zero, List.take_length]
theorem ev_slL [∀ a, Mo (R a)] (h : EvR D te σ B (pMap K R as)) (hl : ∀ B2, Same B B2 → EvO D tl σ B2 lo) (hh : ∀ B2, Same B B2 → EvO D th σ B2 hi) : EvR D (tSl (rSlL K) te tl th) σ B (pLst K R (cutA as lo hi)) :=
  ev_sl h hl hh fun x B2 _ ⟨p, xs, e1, hx, pr⟩ => EvV.new (o := .lst (cutV xs lo hi)) (fun H Q s q => ⟨p, xs, e1, Same.lst s hx, q⟩) fun q hq => ⟨q, _, rfl, upd_same, paired_cut (Paired.mono (fun a v h => Mo.mo (Same.new hq) h) pr)⟩
theorem ev_slT [∀ a, Mo (R a)] (h : EvR D te σ B (pMapT K R as)) (hl : ∀ B2, Same B B2 → EvO D tl σ B2 lo) (hh : ∀ B2, Same B B2 → EvO D th σ B2 hi) : EvR D (tSl (rSlA K) te tl th) σ B (pMapT K R (cutA as lo hi)) :=
  ev_sl h hl hh fun x B2 _ ⟨p, xs, e1, hx, pr⟩ => by
    by_cases hw : HT.sIx xs.length 0 lo = 0 ∧ HT.sIx xs.length xs.length hi = xs.length
    · refine EvV.now (v := .ref p) (fun H Q s q => ⟨p, xs, e1, Same.tup s hx, fun _ => q, fun n => absurd hw n⟩) ⟨p, xs, rfl, hx, ?_⟩
      rw [cutA_all (by rw [pr.length]; exact hw)]
      exact pr
    · exact EvV.new (o := .tup (cutV xs lo hi)) (fun H Q s q => ⟨p, xs, e1, Same.tup s hx, fun n => absurd n hw, fun _ => q⟩) fun q hq => ⟨q, _, rfl, SqT.of upd_same, paired_cut (Paired.mono (fun a v h => Mo.mo (Same.new hq) h) pr)⟩
theorem cut1 : cutA as (some 1) none = as.tail := by
  unfold cutA
  rw [show HT.sIx as.length 0 (some 1) = min 1 as.length from HT.sIx_nat _ _ 1, HT.sIx_none]
  cases as with
  | nil => rfl
  | cons a l => simp
theorem cutS1 : cutS z (some 1) none = ⟨z.cps.toList.tail.toArray⟩ := by
  have := cut1 (as := z.cps.toList)
  unfold cutA at this
  unfold cutS
  rw [show z.length = z.cps.toList.length from by simp [Str.length], this]
/-! places -/
theorem atI_of (h : as[i.toNat]? = some a) (h0 : 0 ≤ i) : atI as i = some a := by
  have hl := (List.getElem?_eq_some_iff.mp h).1
  unfold atI ixN
  rw [if_pos h0, if_pos (by omega)]
  exact h
theorem paired_at {F : α → V → Prop} : ∀ {l : List α} {xs : List V} {n : Nat} {a : α}, Paired F l xs → l[n]? = some a → ∃ x, xs[n]? = some x ∧ F a x
  | _, _, _, _, .nil, h => by simp at h
  | _, _, 0, _, .cons r t, h => by
    obtain rfl : _ = _ := by simpa using h
    exact ⟨_, rfl, r⟩
  | _, _, n + 1, _, .cons r t, h => by simpa using paired_at t (by simpa using h)
theorem ev_ixL {a : α} [∀ a, Mo (R a)] (h : EvR D te σ B (pMap K R as)) (hi : ∀ B2, Same B B2 → EvR D ta σ B2 (pEq (.int i))) (h0 : 0 ≤ i) (ha : as[i.toNat]? = some a) : EvR D (tOp (rIxL K) te ta) σ B (R a) :=
  ev_op h hi fun x y B2 _ ⟨p, xs, e1, hx, pr⟩ ey => by
    obtain ⟨v, hv, rv⟩ := paired_at pr ha
    exact EvV.now (v := v) (fun H Q s q => ⟨p, xs, i, v, e1, ey, Same.lst s hx, atI_of hv h0, q⟩) rv
theorem ev_ixT {a : α} [∀ a, Mo (R a)] (h : EvR D te σ B (pMapT K R as)) (hi : ∀ B2, Same B B2 → EvR D ta σ B2 (pEq (.int i))) (h0 : 0 ≤ i) (ha : as[i.toNat]? = some a) : EvR D (tOp (rIxT K) te ta) σ B (R a) :=
  ev_op h hi fun x y B2 _ ⟨p, xs, e1, hx, pr⟩ ey => by
    obtain ⟨v, hv, rv⟩ := paired_at pr ha
    exact EvV.now (v := v) (fun H Q s q => ⟨p, xs, i, v, e1, ey, Same.tup s hx, atI_of hv h0, q⟩) rv
theorem ev_ixS {c : Nat} (h : EvR D te σ B (pEq (.str z))) (hi : ∀ B2, Same B B2 → EvR D ta σ B2 (pEq (.int i))) (hz : z.length ≤ sizeLine) (h0 : 0 ≤ i) (hc : z.cps.toList[i.toNat]? = some c) : EvR D (tOp rIxS te ta) σ B (pEq (.str ⟨#[c]⟩)) :=
  ev_opE h hi fun _ _ => EvV.nowE fun H Q s q => ⟨z, i, c, rfl, rfl, hz, atI_of hc h0, q⟩
/-! zips -/
theorem walk_zt {a b : Addr} {xs ys : List V} : Walk (RZ.ItzT K a b) (min xs.length ys.length) (fun H => SqT K H a xs ∧ SqT K H b ys) (YPair (fun i => xs[i]?) (fun i => ys[i]?)) := by
  refine ⟨fun i H hi q => ?_, fun H q => ⟨xs, ys, q.1, q.2, by omega⟩, fun i H v H' _ q y => ?_⟩
  · have h1 : i < xs.length := by omega
    have h2 : i < ys.length := by omega
    exact ⟨xs, ys, xs[i], ys[i], q.1, q.2, by simp [h1], by simp [h2]⟩
  · obtain ⟨T, x, y, a1, a2, a3, a4, a5⟩ := y
    exact ⟨T, x, y, a1, a2, a3, a4 xs q.1, a5 ys q.2⟩
theorem el_zipT [∀ a, Mo (R a)] [∀ b, Mo (R' b)] (h : EvA D tA σ B (fun vs H => ∃ x y, vs = [x, y] ∧ pMapT K R as x H ∧ pMapT K R' bs y H)) : EvL D (RZ.iZipA K tA) σ B (as.zip bs) (fun p => pPr (R p.1) (R' p.2)) := fun H a Q r =>
  h H a _ fun vs B2 H2 e ⟨x, y, e0, ⟨p, xs, e1, hx, px⟩, q, ys, e2, hy, py⟩ => ⟨p, q, xs, ys, by rw [e0, e1, e2], .inr ⟨Same.tup e.at2.sm hx, Same.tup e.at2.sm hy, by
    have hn : (as.zip bs).length = min xs.length ys.length := by rw [List.length_zip, px.length, py.length]
    refine r (RZ.ItzT K p q) B2 H2 (fun H => SqT K H p xs ∧ SqT K H q ys) _ e (fun _ _ s g => ⟨Same.tup s g.1, Same.tup s g.2⟩) (by rw [hn]; exact walk_zt) ⟨hx, hy⟩ fun i B3 hi s3 H3 v H4 a3 y3 => ?_
    obtain ⟨T, x, y, rfl, hT, e4, hx', hy'⟩ := y3
    obtain ⟨a', ha', ra⟩ := Paired.get px hx'
    obtain ⟨b', hb', rb⟩ := Paired.get py hy'
    have s4 : Same B2 (upd B3 T (.tup [x, y])) := s3.trans (Same.new (a3.sm.free hT))
    refine ⟨_, gives_new a3 hT e4, (a', b'), ?_, T, _, _, rfl, upd_same, Mo.mo s4 ra, Mo.mo s4 rb⟩
    rw [List.getElem?_zip_eq_some]
    exact ⟨ha', hb'⟩⟩⟩
theorem walk_zl {a b : Addr} {xs ys : List V} : Walk (Itz K a b) (min xs.length ys.length) (fun H => SqL K H a xs ∧ SqL K H b ys) (YPair (fun i => xs[i]?) (fun i => ys[i]?)) := walk_zip rfl
/-! lists -/
theorem Paired.append {F : α → V → Prop} : ∀ {l m : List α} {xs ys : List V}, Paired F l xs → Paired F m ys → Paired F (l ++ m) (xs ++ ys)
  | _, _, _, _, .nil, h => h
  | _, _, _, _, .cons r t, h => .cons r (Paired.append t h)
theorem ev_cat [∀ a, Mo (R a)] {as2 : List α} (h : EvR D te σ B (pLst K R as)) (h2 : ∀ B2, Same B B2 → EvR D ta σ B2 (pLst K R as2)) (hl : as.length + as2.length ≤ sizeLine) : EvR D (tOp rCat te ta) σ B (pLst K R (as ++ as2)) :=
  ev_op h h2 fun x y B2 _ ⟨p, xs, e1, hx, px⟩ ⟨q, ys, e2, hy, py⟩ => EvV.new (o := .lst (xs ++ ys)) (fun H Q s k => ⟨p, q, xs, ys, e1, e2, s _ _ hx, s _ _ hy, by rw [← px.length, ← py.length]; exact hl, k⟩) fun r hr => ⟨r, _, rfl, upd_same, by
    exact Paired.append (Paired.mono (fun a v h => Mo.mo (Same.new (o := .lst (xs ++ ys)) hr) h) px) (Paired.mono (fun a v h => Mo.mo (Same.new (o := .lst (xs ++ ys)) hr) h) py)⟩
theorem ev_tupleOf [∀ a, Mo (R a)] (h : EvR D te σ B (pMap K R as)) : EvR D (tCB (fun xs H Q => ∃ p ys, xs = [.ref p] ∧ ((SqL K H p ys ∧ ∀ l, H l = none → Q (.ref l) (upd H l (.tup ys))) ∨ (SqT K H p ys ∧ Q (.ref p) H))) (tCons te tNil)) σ B (pMapT K R as) :=
  haveI : Mo (pMap K R as) := inferInstance
  ev_cb (ea_one h) fun vs B2 e ⟨v, e1, p, xs, e2, hl, pr⟩ => EvV.new (o := .tup xs) (fun H Q s q => ⟨p, xs, by rw [e1, e2], .inl ⟨Same.lst s hl, q⟩⟩) fun q hq => ⟨q, xs, rfl, SqT.of upd_same, Paired.mono (fun a v h => Mo.mo (Same.new hq) h) pr⟩
theorem ev_listOfT [∀ a, Mo (R a)] (h : EvR D te σ B (pMapT K R as)) : EvR D (tCB (fun xs H Q => ∃ p ys, xs = [.ref p] ∧ (SqL K H p ys ∨ SqT K H p ys) ∧ ∀ l, H l = none → Q (.ref l) (upd H l (.lst ys))) (tCons te tNil)) σ B (pLst K R as) :=
  haveI : Mo (pMapT K R as) := inferInstance
  ev_cb (ea_one h) fun vs B2 e ⟨v, e1, p, xs, e2, hl, pr⟩ => EvV.new (o := .lst xs) (fun H Q s q => ⟨p, xs, by rw [e1, e2], .inr (Same.tup s hl), q⟩) fun q hq => ⟨q, xs, rfl, upd_same, Paired.mono (fun a v h => Mo.mo (Same.new hq) h) pr⟩
theorem ev_listOfL [∀ a, Mo (R a)] (h : EvR D te σ B (pMap K R as)) : EvR D (tCB (fun xs H Q => ∃ p ys, xs = [.ref p] ∧ (SqL K H p ys ∨ SqT K H p ys) ∧ ∀ l, H l = none → Q (.ref l) (upd H l (.lst ys))) (tCons te tNil)) σ B (pLst K R as) :=
  haveI : Mo (pMap K R as) := inferInstance
  ev_cb (ea_one h) fun vs B2 e ⟨v, e1, p, xs, e2, hl, pr⟩ => EvV.new (o := .lst xs) (fun H Q s q => ⟨p, xs, by rw [e1, e2], .inl (Same.lst s hl), q⟩) fun q hq => ⟨q, xs, rfl, upd_same, Paired.mono (fun a v h => Mo.mo (Same.new hq) h) pr⟩
/-! texts -/
def txt (x : Str) : PV := pEq (.str x)
instance {x : Str} : Mo (txt x) := ⟨fun _ h => h⟩
theorem ev_addS {x y : Str} (h : EvR D ta σ B (pEq (.str x))) (h2 : ∀ B2, Same B B2 → EvR D tb σ B2 (pEq (.str y))) (hl : x.length + y.length ≤ sizeLine) :
    EvR D (tOp (fun x y H Q => ∃ i j, x = .str i ∧ y = .str j ∧ i.length + j.length ≤ sizeLine ∧ Q (.str (i ++ j)) H) ta tb) σ B (pEq (.str (x ++ y))) := ev_opE h h2 fun _ _ => EvV.nowE fun _ _ _ q => ⟨x, y, rfl, rfl, hl, q⟩
theorem paired_str {H : Hp} : ∀ {ys : List Str} {xs : List V}, Paired (fun a v => txt a v H) ys xs → xs = ys.map V.str
  | _, _, .nil => rfl
  | _, _, .cons r t => by rw [List.map_cons, ← paired_str t, show _ = V.str _ from r]
theorem paired_num {H : Hp} : ∀ {ys : List Int} {xs : List V}, Paired (fun a v => num a v H) ys xs → xs = ys.map V.int
  | _, _, .nil => rfl
  | _, _, .cons r t => by rw [List.map_cons, ← paired_num t, show _ = V.int _ from r]
theorem ev_join {a : Str} {ys : List Str} (h : EvR D te σ B (pEq (.str a))) (h2 : ∀ B2, Same B B2 → EvR D ta σ B2 (pMap K txt ys)) (hl : (ys.map (·.length)).sum + ys.length * a.length ≤ 16777216) :
    EvR D (tM1 (fun x xs H Q => ∃ a p, ∃ ys : List Str, x = .str a ∧ xs = [.ref p] ∧ (SqL K H p (ys.map V.str) ∨ SqT K H p (ys.map V.str)) ∧ (ys.map (·.length)).sum + ys.length * a.length ≤ 16777216 ∧ Q (.str (Txt.join a ys)) H) te ta) σ B (pEq (.str (Txt.join a ys))) := fun H at_ Q q =>
  h H at_ _ fun v B2 H2 e2 p2 => ⟨⟨a, p2⟩, h2 B2 e2.bs H2 e2.at2 _ fun w B3 H3 e3 ⟨p, xs, e1, hx, pr⟩ => ⟨a, p, ys, p2, by rw [e1], .inl (by rw [← paired_str pr]; exact Same.lst e3.at2.sm hx), hl, q _ B3 H3 (e2.trans e3) rfl⟩⟩
theorem ev_split {a b : Str} (h : EvR D te σ B (pEq (.str a))) (h2 : ∀ B2, Same B B2 → EvR D ta σ B2 (pEq (.str b))) (hb : (b.length == 0) = false) (hl : a.length + 2 ≤ sizeLine) :
    EvR D (tM1 (fun x xs H Q => ∃ a b, x = .str a ∧ xs = [.str b] ∧ (b.length == 0) = false ∧ a.length + 2 ≤ sizeLine ∧ rNewStrs (Txt.split a b) H Q) te ta) σ B (pLst K txt (Txt.split a b)) := fun H at_ Q q =>
  h H at_ _ fun v B2 H2 e2 p2 => ⟨⟨a, p2⟩, h2 B2 e2.bs H2 e2.at2 _ fun w B3 H3 e3 p3 => ⟨a, b, p2, by rw [show w = _ from p3], hb, hl, fun p hn => q _ _ _ ((e2.trans e3).trans (Stp.made e3.at2 hn)) ⟨p, _, rfl, upd_same, by
    have : ∀ l : List Str, Paired (fun a v => txt a v (upd B3 p (.lst ((Txt.split a b).map V.str)))) l (l.map V.str) := by
      intro l
      induction l with
      | nil => exact .nil
      | cons x l ih => exact .cons rfl ih
    exact this _⟩⟩⟩
theorem ev_strI (h : EvR D te σ B (pEq (.int i))) (hi : i.natAbs.log2 < 1920) : EvR D (tCB (fun xs H Q => ∃ i, xs = [.int i] ∧ i.natAbs.log2 < 1920 ∧ Q (.str (toString i)) H) (tCons te tNil)) σ B (pEq (.str (toString i))) :=
  ev_cbE (ea_oneE h) fun _ _ => EvV.nowE fun H Q s q => ⟨i, rfl, hi, q⟩
theorem ev_intS {a : Str} {n : Int} (h : EvR D te σ B (pEq (.str a))) (hn : PySem.intText? a = some n) (hl : a.length ≤ 640) : EvR D (tCB (fun xs H Q => ∃ a n, xs = [.str a] ∧ PySem.intText? a = some n ∧ a.length ≤ 640 ∧ Q (.int n) H) (tCons te tNil)) σ B (pEq (.int n)) :=
  ev_cbE (ea_oneE h) fun _ _ => EvV.nowE fun H Q s q => ⟨a, n, rfl, hn, hl, q⟩
/-- f'..': the parts, one behind the other -/
inductive EvJ (D : Dm) (σ : L2.St) : List TE → Hp → List Str → Prop where
  | nil {B : Hp} : EvJ D σ [] B []
  | cons {t : TE} {ts : List TE} {B : Hp} {x : Str} {xs : List Str} (h : EvR D t σ B (pEq (.str x))) (r : ∀ B2, Same B B2 → EvJ D σ ts B2 xs) : EvJ D σ (t :: ts) B (x :: xs)
def catS : Str → List Str → Str
  | a, [] => a
  | a, x :: xs => catS (a ++ x) xs
theorem ev_js {ts : List TE} : ∀ {xs : List Str} {B : Hp} (acc : Str), EvJ D σ ts B xs → (acc.length + (xs.map (·.length)).sum ≤ sizeLine) → ∀ H, At D B H → ∀ Q : Str → Hp → Prop, (∀ B2 H2, Stp D B H B2 H2 → Q (catS acc xs) H2) → tJs ts acc σ H Q := by
  induction ts with
  | nil => intro xs B acc h hl H a Q q; cases h; exact q B H (Stp.refl a)
  | cons t ts ih =>
    intro xs B acc h hl H a Q q
    cases h with
    | cons h r =>
      refine h H a _ fun v B2 H2 e2 p => ⟨_, p, ?_, ih (acc ++ _) (r B2 e2.bs) ?_ H2 e2.at2 Q fun B3 H3 e3 => q B3 H3 (e2.trans e3)⟩
      · rw [List.map_cons, List.sum_cons] at hl
        rw [Str.length_append]; omega
      · rw [List.map_cons, List.sum_cons] at hl
        rw [Str.length_append]; omega
theorem ev_joined {ts : List TE} {xs : List Str} (h : EvJ D σ ts B xs) (hl : (xs.map (·.length)).sum ≤ sizeLine) : EvR D (fun σ H Q => tJs ts Str.empty σ H fun out H1 => Q (.str out) H1) σ B (pEq (.str (catS Str.empty xs))) := fun H a Q q =>
  ev_js Str.empty h (by show 0 + _ ≤ _; omega) H a _ fun B2 H2 e => q _ B2 H2 e rfl
theorem ev_fmtS {x : Str} (h : EvR D te σ B (pEq (.str x))) (hl : x.length ≤ sizeLine) : EvR D (tFmt te) σ B (pEq (.str x)) := fun H a Q q => h H a _ fun v B2 H2 e p => .inl ⟨x, p, hl, q _ B2 H2 e rfl⟩
theorem ev_fmtI (h : EvR D te σ B (pEq (.int i))) (hi : i.natAbs.log2 < 1920) : EvR D (tFmt te) σ B (pEq (.str (toString i))) := fun H a Q q => h H a _ fun v B2 H2 e p => .inr ⟨i, p, hi, q _ B2 H2 e rfl⟩
end
end CW
set_option Elab.async false
set_option linter.all false
set_option maxRecDepth 100000
set_option maxHeartbeats 1000000
/-! MT: the order of tuples of ints and texts. -/
namespace CW
open PySem PySem.Spec PyProof.Rows L2
/-- of one kind, place by place -/
def kin : List Key → List Key → Bool
  | [], [] => true
  | .inl _ :: ks, .inl _ :: ls => kin ks ls
  | .inr _ :: ks, .inr _ :: ls => kin ks ls
  | _, _ => false
theorem kin_len : ∀ {ks ls : List Key}, kin ks ls = true → ks.length = ls.length
  | [], [], _ => rfl
  | .inl _ :: ks, .inl _ :: ls, h => congrArg Nat.succ (kin_len (ks := ks) (ls := ls) h)
  | .inr _ :: ks, .inr _ :: ls, h => congrArg Nat.succ (kin_len (ks := ks) (ls := ls) h)
  | [], _ :: _, h => by cases h
  | .inl _ :: _, [], h => by cases h
  | .inr _ :: _, [], h => by cases h
  | .inl _ :: _, .inr _ :: _, h => by cases h
  | .inr _ :: _, .inl _ :: _, h => by cases h
def ltK : Key → Key → Bool
  | .inl i, .inl j => decide (i < j)
  | .inr x, .inr y => decide (x.cps.toList < y.cps.toList)
  | _, _ => false
/-- the first place that differs decides -/
def ltKs : List Key → List Key → Bool
  | k :: ks, l :: ls => if k = l then ltKs ks ls else ltK k l
  | _, _ => false
def k0 : Key := .inl 0
theorem lexAt_ltKs (r : Nat → Bool) (z : Bool) (zz : ∀ a b : Bool, True) : ∀ (n i : Nat) (ks ls : List Key), ks.length = i + n → ls.length = i + n →
    (∀ j, j < ks.length → r j = ltK (ks.getD j k0) (ls.getD j k0)) → Ob.lexAt (fun j => decide (ks.getD j k0 = ls.getD j k0)) r false i n = ltKs (ks.drop i) (ls.drop i)
  | 0, i, ks, ls, h1, h2, _ => by
    rw [List.drop_eq_nil_of_le (by omega), List.drop_eq_nil_of_le (by omega)]
    rfl
  | n + 1, i, ks, ls, h1, h2, hr => by
    have e1 : ks.drop i = ks.getD i k0 :: ks.drop (i + 1) := by
      rw [List.drop_eq_getElem_cons (by omega : i < ks.length)]
      congr 1
      simp [show i < ks.length by omega]
    have e2 : ls.drop i = ls.getD i k0 :: ls.drop (i + 1) := by
      rw [List.drop_eq_getElem_cons (by omega : i < ls.length)]
      congr 1
      simp [show i < ls.length by omega]
    rw [Ob.lexAt_succ, e1, e2]
    show _ = (if ks.getD i k0 = ls.getD i k0 then _ else _)
    by_cases h : ks.getD i k0 = ls.getD i k0
    · rw [if_pos (decide_eq_true h), if_pos h]
      exact lexAt_ltKs r z zz n (i + 1) ks ls (by omega) (by omega) hr
    · rw [if_neg (by simpa using h), if_neg h]
      exact hr i (by omega)
theorem kin_at : ∀ {ks ls : List Key}, kin ks ls = true → ∀ j, j < ks.length → (∃ a b, ks.getD j k0 = .inl a ∧ ls.getD j k0 = .inl b) ∨ ∃ a b, ks.getD j k0 = .inr a ∧ ls.getD j k0 = .inr b
  | .inl a :: ks, .inl b :: ls, h, 0, _ => .inl ⟨a, b, rfl, rfl⟩
  | .inr a :: ks, .inr b :: ls, h, 0, _ => .inr ⟨a, b, rfl, rfl⟩
  | .inl a :: ks, .inl b :: ls, h, j + 1, hj => kin_at (ks := ks) (ls := ls) h j (Nat.lt_of_succ_lt_succ hj)
  | .inr a :: ks, .inr b :: ls, h, j + 1, hj => kin_at (ks := ks) (ls := ls) h j (Nat.lt_of_succ_lt_succ hj)
  | .inl _ :: _, .inr _ :: _, h, _, _ => by cases h
  | .inr _ :: _, .inl _ :: _, h, _, _ => by cases h
  | .inl _ :: _, [], h, _, _ => by cases h
  | .inr _ :: _, [], h, _, _ => by cases h
theorem vals_at {ks : List Key} {its : List Value} (r : Vals (ks.map kV) its) (j : Nat) (h : j < its.toArray.size) : L2.RelV (kV (ks.getD j k0)) its.toArray[j] := by
  have hl := r.length
  rw [List.length_map] at hl
  have hj : j < ks.length := by rw [hl]; simpa using h
  obtain ⟨u, hu, ru⟩ := r.get (i := j) (x := kV (ks.getD j k0)) (by rw [List.getElem?_map]; simp [hj])
  have : its.toArray[j] = u := by
    have q : its.toArray[j]? = some u := by simpa using hu
    rw [Array.getElem?_eq_getElem h] at q
    exact Option.some.inj q
  rw [this]; exact ru
section
variable {X : Cx}
def rLtK (K : PySem.W.Frag) : R2 := fun x y H Q => ∃ (a b : Addr) (ks ls : List Key), x = .ref a ∧ y = .ref b ∧ SqT K H a (ks.map kV) ∧ SqT K H b (ls.map kV) ∧ kin ks ls = true ∧ Q (.bl (ltKs ks ls)) H
/-- key by key, at a heap -/
theorem rc_ltK {A : Around} {s : Shared} {ks ls : List Key} {its its2 : List Value} {a b : Addr} (r1 : Vals (ks.map kV) its) (r2 : Vals (ls.map kV) its2) (p1 : s.heap.IsTuple a its.toArray) (p2 : s.heap.IsTuple b its2.toArray) (hk : kin ks ls = true) (hu : A.units < cLine) :
    Ob.RcOp .Lt A s (.ref a) (.ref b) (ltKs ks ls) := by
  have hl := kin_len hk
  have e1 : its.toArray.size = ks.length := by rw [List.size_toArray, ← r1.length, List.length_map]
  have e2 : its2.toArray.size = ls.length := by rw [List.size_toArray, ← r2.length, List.length_map]
  have R := Ob.RcOp.tuples_lt (A := A) (s := s) (e := fun j => decide (ks.getD j k0 = ls.getD j k0)) (r := fun j => ltK (ks.getD j k0) (ls.getD j k0)) p1 p2 hu (fun j h1 h2 => by
    have q1 := vals_at r1 j h1
    have q2 := vals_at r2 j h2
    rcases kin_at hk j (by omega) with ⟨x, y, ex, ey⟩ | ⟨x, y, ex, ey⟩
    · rw [ex] at q1; rw [ey] at q2
      obtain ⟨t, q1⟩ := q1; obtain ⟨t', q2⟩ := q2
      rw [q1, q2, ex, ey, key_ll]
      exact SeqAt.EqAt.int_int _ _ _ _
    · rw [ex] at q1; rw [ey] at q2
      obtain ⟨t, q1⟩ := q1; obtain ⟨t', q2⟩ := q2
      rw [q1, q2, ex, ey, key_rr]
      have := SeqAt.EqAt.str_str (A := A.in1) (s := s) x t y t'
      rw [show decide (x = y) = (x == y) from by rw [Bool.beq_eq_decide_eq]]
      exact this) (fun j h1 h2 _ => by
    have q1 := vals_at r1 j h1
    have q2 := vals_at r2 j h2
    rcases kin_at hk j (by omega) with ⟨x, y, ex, ey⟩ | ⟨x, y, ex, ey⟩
    · rw [ex] at q1; rw [ey] at q2
      obtain ⟨t, q1⟩ := q1; obtain ⟨t', q2⟩ := q2
      rw [q1, q2, ex, ey]
      exact fun prog w E Q h => lt_int h
    · rw [ex] at q1; rw [ey] at q2
      obtain ⟨t, q1⟩ := q1; obtain ⟨t', q2⟩ := q2
      rw [q1, q2, ex, ey]
      exact fun prog w E Q h => lt_str h)
  rw [e1, e2, ← hl, Nat.min_self, decide_eq_false (Nat.lt_irrefl _)] at R
  rw [lexAt_ltKs _ false (fun _ _ => trivial) ks.length 0 ks ls (by omega) (by omega) fun _ _ => rfl] at R
  exact R
theorem op_ltK (hu : X.A.units < cLine) : OpR X (compareOp .Lt) (rLtK X.K) := by
  intro pins s σ H x y v u Q I rx ry h
  obtain ⟨a, b, ks, ls, rfl, rfl, ha, hb, hk, q⟩ := h
  cases rx
  cases ry
  obtain ⟨its, r1, p1, _⟩ := I.tuple ha
  obtain ⟨its2, r2, p2, _⟩ := I.tuple hb
  exact rc_ltK r1 r2 p1 p2 hk hu X.prog X.w X.xe _ ⟨.bl _, H, I, rfl, q⟩
end
end CW
set_option Elab.async false
set_option linter.all false
set_option maxRecDepth 100000
set_option maxHeartbeats 2000000
/-! SetM: sets of tuples of ints and texts: set(a list of them), and sorted of it. (The table's own laws: HandS.TupSets.) -/
namespace CW
open PySem PySem.Spec PyProof.Rows L2
abbrev mh (P : Program) (w : World) (k : List Key) : Int := tupleKeyHash (mixKind P w) k
/-- the tuple at a has the keys k -/
abbrev IsM (P : Program) (w : World) (h : Heap) (k : List Key) (a : Addr) : Prop := IsTupleKey (mixKind P w) h k a
section
variable {P : Program} {w : World} {A : Around} {E : Value → Shared → Prop} {s : Shared}
theorem items_key {k : List Key} {vs : List Value} (h : ItemsAre (mixKind P w) k vs) : ∀ v ∈ vs, (∃ i t, v = Value.int i t) ∨ ∃ x t, v = Value.str x t := by
  induction h with
  | nil => exact fun v hv => by cases hv
  | cons h1 _ ih =>
    intro v hv
    rcases List.mem_cons.mp hv with e | hv
    · rcases keyIs_shape h1 with ⟨i, t, _, e2⟩ | ⟨x, t, _, e2⟩
      · exact .inl ⟨i, t, e.trans e2⟩
      · exact .inr ⟨x, t, e.trans e2⟩
    · exact ih v hv
theorem plainAct_int (n : Nat) (i : Int) (t : Tok) : ofAClassStatement n (.int i t) = pure false := by cases n <;> rfl
theorem plainAct_str (n : Nat) (i : Str) (t : Tok) : ofAClassStatement n (.str i t) = pure false := by cases n <;> rfl
theorem noClass {k : List Key} {b : Addr} {Q : Bool → Shared → Prop} (hk : IsM P w s.heap k b) (h : Q false s) : wpAny (model P w) A (ofAClassStatement 8 (.ref b)) Q E s := by
  have hT := hk.typeIs
  obtain ⟨o, items, n, ho, _, hd, hi⟩ := hk
  unfold ofAClassStatement
  refine wpAny_bind (wpAny_typeOf hT ?_)
  dsimp only
  have e : (("tuple" : String) == "tuple") = true := by decide
  simp only [e, if_true, Bool.not_true, Bool.false_eq_true, if_false]
  try refine wpAny_bind (wpAny_pure ?_)
  try simp only [Bool.not_true, Bool.false_eq_true, if_false]
  show wpAny _ _ (seqItems? (.ref b) >>= _) _ _ s
  refine wpAny_bind (wpAny_seqItems ho hd ?_)
  dsimp only
  refine wpAny_bind ?_
  show wpAny _ _ (forIn items _ _) _ _ s
  rw [← Array.forIn_toList]
  refine wpAny_forIn_list _ (fun rest r z => r.1 = none ∧ z = s ∧ ∀ v ∈ rest, (∃ i t, v = Value.int i t) ∨ ∃ x t, v = Value.str x t) _ ?_ ?_ _ _ ⟨rfl, rfl, items_key hi⟩
  · rintro v rest r z ⟨hr, rfl, all⟩
    have g : ofAClassStatement 7 v = pure false := by
      rcases all v List.mem_cons_self with ⟨i, t, rfl⟩ | ⟨x, t, rfl⟩
      · exact plainAct_int _ _ _
      · exact plainAct_str _ _ _
    rw [g]
    refine wpAny_bind (wpAny_pure ?_)
    simp only [Bool.false_eq_true, if_false]
    exact wpAny_pure ⟨rfl, rfl, fun u m => all u (List.mem_cons_of_mem _ m)⟩
  · rintro ⟨r1, r2⟩ z ⟨hr, rfl, _⟩
    simp only at hr
    subst hr
    exact wpAny_pure h
/-- it is told whether its hash hangs on values alone: one or the other -/
theorem hashBy {k : List Key} {b : Addr} {Q : Bool → Shared → Prop} (hk : IsM P w s.heap k b) (h : ∀ c, Q c s) : wpAny (model P w) A (hashByValue 8 (.ref b)) Q E s := by
  have hT := hk.typeIs
  obtain ⟨o, items, n, ho, _, hd, hi⟩ := hk
  unfold hashByValue
  refine wpAny_bind (wpAny_specialOf hT F.slot_tuple_hash.lookup ?_)
  show wpAny _ _ (seqItems? (.ref b) >>= _) _ _ s
  refine wpAny_bind (wpAny_seqItems ho hd ?_)
  refine wpAny_bind ?_
  show wpAny _ _ (forIn items _ _) _ _ s
  rw [← Array.forIn_toList]
  refine wpAny_forIn_list _ (fun rest r z => r.1 = none ∧ z = s ∧ ∀ v ∈ rest, (∃ i t, v = Value.int i t) ∨ ∃ x t, v = Value.str x t) _ ?_ ?_ _ _ ⟨rfl, rfl, items_key hi⟩
  · rintro v rest r z ⟨hr, rfl, all⟩
    rcases all v List.mem_cons_self with ⟨i, t, rfl⟩ | ⟨x, t, rfl⟩
    · rw [show hashByValue 7 (.int i t) = pure true from rfl]
      refine wpAny_bind (wpAny_pure ?_)
      simp only [Bool.not_true, Bool.false_eq_true, if_false]
      exact wpAny_pure ⟨rfl, rfl, fun u m => all u (List.mem_cons_of_mem _ m)⟩
    · rw [show hashByValue 7 (.str x t) = pure false from rfl]
      refine wpAny_bind (wpAny_pure ?_)
      simp only [Bool.not_false, if_true]
      refine wpAny_pure ?_
      exact wpAny_pure (h _)
  · rintro ⟨r1, r2⟩ z ⟨hr, rfl, _⟩
    simp only at hr
    subst hr
    exact wpAny_pure (h _)
/-- a search among such tuples shows nothing -/
theorem noSight {k : List Key} {b : Addr} {Q : Bool → Shared → Prop} (hk : IsM P w s.heap k b) {ys : List Value} (hy : ∀ y ∈ ys, ∃ k' c, y = Value.ref c ∧ IsM P w s.heap k' c) (h : Q false s) :
    wpAny (model P w) A (searchCouldBeSeen (.ref b) ys) Q E s := by
  unfold searchCouldBeSeen
  refine wpAny_bind ?_
  refine wpAny_forIn_list _ (fun rest r z => r.1 = none ∧ z = s ∧ ∀ y ∈ rest, ∃ k' c, y = Value.ref c ∧ IsM P w s.heap k' c) _ ?_ ?_ _ _ ⟨rfl, rfl, hy⟩
  · rintro v rest r z ⟨hr, rfl, all⟩
    obtain ⟨k', c, rfl, hc⟩ := all v List.mem_cons_self
    have more : ∀ y ∈ rest, ∃ k' c, y = Value.ref c ∧ IsM P w z.heap k' c := fun u m => all u (List.mem_cons_of_mem _ m)
    dsimp only
    by_cases hv : (b == c || (carriedByValue (.ref b) && carriedByValue (.ref c))) = true
    · exact wp_if_pos hv (wpAny_pure ⟨rfl, rfl, more⟩)
    · refine wp_if_neg hv ?_
      refine wpAny_bind (wpAny_eqIsQuiet_tuple hk ?_)
      simp only [Bool.not_true, Bool.false_eq_true, if_false]
      refine wpAny_bind (wpAny_eqIsQuiet_tuple hc ?_)
      simp only [Bool.not_true, Bool.false_eq_true, if_false]
      refine wpAny_bind (noClass hk ?_)
      simp only [Bool.false_eq_true, if_false]
      refine wpAny_bind (noClass hc ?_)
      simp only [Bool.false_eq_true, if_false]
      exact wpAny_pure ⟨rfl, rfl, more⟩
  · rintro ⟨r1, r2⟩ z ⟨hr, rfl, _⟩
    simp only at hr
    subst hr
    exact wpAny_pure h

/-! ### the set, as it stands -/
def rowsM (P : Program) (w : World) (L : List (Addr × List Key)) : List (Int × Value) := L.map fun p => (mh P w p.2, Value.ref p.1)
structure SetM (P : Program) (w : World) (h : Heap) (a : Addr) (L : List (Addr × List Key)) (es : Array (Int × Value)) (ep : Nat) (t : SetTable) : Prop where
  ob : ∃ o, h.get? a = some o ∧ o.ExactSet ∧ o.data = .set es ep t
  rows : es.toList = rowsM P w L
  tab : TabOk t (L.map fun p => mh P w p.2)
  nd : (L.map (·.2)).Nodup
  tup : ∀ p ∈ L, IsM P w h p.2 p.1
  led : w.params.followText "set-order" = true ∨ t.led = true
  room : L.length * 5 < t.mask * 3
  few : L.length < 64
theorem rowsM_len (L : List (Addr × List Key)) {es : Array (Int × Value)} (h : es.toList = rowsM P w L) : es.size = L.length := by
  rw [← Array.length_toList, h]
  exact List.length_map ..
theorem rowsM_at {L : List (Addr × List Key)} {es : Array (Int × Value)} (h : es.toList = rowsM P w L) {i : Nat} {p : Addr × List Key} (hp : L[i]? = some p) : es[i]? = some (mh P w p.2, Value.ref p.1) := by
  rw [← Array.getElem?_toList, h]
  unfold rowsM
  rw [List.getElem?_map, hp] <;> rfl
theorem fits_of {t : SetTable} {n : Nat} (h1 : t.place.size = n) (h2 : t.dummies = #[]) (h3 : n ≤ t.mask) : t.fits n = true := by
  unfold SetTable.fits SetTable.fill
  rw [h2, Bool.and_eq_true, beq_iff_eq, decide_eq_true_eq]
  show t.place.size = n ∧ t.place.size + 0 ≤ t.mask
  omega
variable {a : Addr} {L : List (Addr × List Key)} {es : Array (Int × Value)} {ep : Nat} {t : SetTable}
theorem SetM.fits (R : SetM P w s.heap a L es ep t) : t.fits es.size = true := by
  have h1 := R.tab.sz
  have h3 := R.room
  rw [List.length_map] at h1
  exact fits_of (h1.trans (rowsM_len L R.rows).symm) R.tab.dm (by rw [rowsM_len L R.rows]; omega)
theorem SetM.gw (R : SetM P w s.heap a L es ep t) : ¬ t.gaveWay = true := by
  unfold SetTable.gaveWay
  rw [mask_odd R.tab.mok]
  decide
/-- no dummy is met on a way without one -/
theorem nth_dummy (m : Nat) : ∀ (n : Nat) (p : SetTable.Probe), p.dummy = none → (nth m p n).dummy = none
  | 0, _, h => h
  | n + 1, p, h => nth_dummy m n (adv m p) (by unfold adv; split <;> exact h)
abbrev startP (t : SetTable) (h : Int) : SetTable.Probe := runAt t.mask (SetTable.bits h % (t.mask + 1)) (SetTable.bits h)
/-- the search from the c-th step of the way on -/
theorem seek_from (R : SetM P w s.heap a L es ep t) {x : Addr} {k : List Key} (hx : IsM P w s.heap k x) (hu : A.units < cLine) {K : Nat} (hKf : K < 10 * SetTable.turns t.mask)
    (hK : way t.mask (mh P w k) K ∉ t.place.toList) (hKb : ∀ c, c < K → way t.mask (mh P w k) c ∈ t.place.toList) {Q : SetFound → Shared → Prop}
    (hin : k ∈ L.map (·.2) → Q (.there none) s) (hout : k ∉ L.map (·.2) → Q (.free (way t.mask (mh P w k) K) false) s) :
    ∀ (f c : Nat) (stand : Option SetTable.Probe), stand.getD (t.probeStart (mh P w k)) = nth t.mask (startP t (mh P w k)) c → c ≤ K → K - c < f →
      (∀ (i : Nat) p, L[i]? = some p → p.2 = k → ∃ d, c ≤ d ∧ d < K ∧ t.place.toList[i]? = some (way t.mask (mh P w k) d)) →
      wpAny (model P w) A (setSearchFrom a (.ref x) (mh P w k) true f stand) Q E s := by
  intro f
  induction f with
  | zero => exact fun c stand _ _ hf _ => absurd hf (Nat.not_lt_zero _)
  | succ f ih =>
    intro c stand hst hc hf hre
    obtain ⟨o, ho, hex, hd⟩ := R.ob
    rw [setSearchFrom_succ]
    refine wpAny_bind (wpAny_setState_of ho hd R.fits ?_)
    dsimp only
    refine wp_if_neg R.gw ?_
    try refine wpAny_bind (wpAny_pure ?_)
    have e1 : ∀ q, (nth t.mask (nth t.mask (startP t (mh P w k)) c) q).j = way t.mask (mh P w k) (c + q) := fun q => congrArg SetTable.Probe.j (nth_add t.mask c _ q).symm
    have spec := go_spec t R.tab.ris R.tab.dm (fun i => (es[i]?.map (·.1)).getD 0) (mh P w k) (10 * SetTable.turns t.mask) (K - c) _ (nth_dummy t.mask c (startP t (mh P w k)) rfl) (by omega)
      (fun q hq => by rw [e1]; exact hKb (c + q) (by omega)) (by rw [e1, show c + (K - c) = K by omega]; exact hK)
    have hashAt : ∀ (i : Nat) p, L[i]? = some p → (fun i => (es[i]?.map (·.1)).getD 0) i = mh P w p.2 := fun i p hp => by
      show (es[i]?.map (·.1)).getD 0 = _
      rw [rowsM_at R.rows hp] <;> rfl
    rcases spec with ⟨q, i, hq, hi, hh, hno, hpr⟩ | ⟨hno, hpr⟩
    · have hpr' : t.probe (fun i => (es[i]?.map (·.1)).getD 0) (mh P w k) (stand.getD (t.probeStart (mh P w k))) = some (.candidate (way t.mask (mh P w k) (c + q)) i (nth t.mask (startP t (mh P w k)) (c + (q + 1)))) := by
        rw [hst, ← e1, nth_add t.mask c _ (q + 1)]
        exact hpr
      rw [hpr']
      dsimp only
      rw [e1] at hi
      have hil : i < L.length := by
        have h1 : i < t.place.toList.length := (List.getElem?_eq_some_iff.mp hi).1
        have h2 := R.tab.sz
        rw [List.length_map] at h2
        rw [Array.length_toList] at h1
        omega
      obtain ⟨p, hp⟩ : ∃ p, L[i]? = some p := ⟨L[i], List.getElem?_eq_getElem hil⟩
      have hmem : p ∈ L := List.mem_of_getElem? hp
      have go : wpAny (model P w) A (searchRest a (.ref x) (mh P w k) true f es t (way t.mask (mh P w k) (c + q)) i (nth t.mask (startP t (mh P w k)) (c + (q + 1)))) Q E s := by
        unfold searchRest
        rw [rowsM_at R.rows hp]
        dsimp only
        refine wpAny_bind (wpAny_holding (wpAny_eqBool_tuple hu (R.tup p hmem) hx ?_))
        refine wpAny_bind (wpAny_setState_of ho hd R.fits ?_)
        dsimp only
        by_cases hkk : p.2 = k
        · exact wp_if_pos (by simp [hkk]) (wpAny_pure (hin (List.mem_map.mpr ⟨p, hmem, hkk⟩)))
        · refine wp_if_neg (by simp [hkk]) ?_
          try refine wpAny_bind (wpAny_pure ?_)
          rw [sameMem]
          dsimp only
          have hsl : t.slot (way t.mask (mh P w k) (c + q)) = .live i := slot_live R.tab.ris hi
          simp only [if_true, hsl, rowsM_at R.rows hp]
          refine wpAny_bind (wpAny_isSame_ref_self (wpAny_bind (wpAny_pure ?_)))
          simp only [if_true]
          refine wp_if_neg (by simp [hkk]) ?_
          refine ih (c + (q + 1)) _ rfl (by omega) (by omega) fun i0 p0 h0 hk0 => ?_
          obtain ⟨d, a1, a2, a3⟩ := hre i0 p0 h0 hk0
          refine ⟨d, ?_, a2, a3⟩
          have n1 : ¬ d < c + q := fun z => hno (d - c) i0 (by omega) (by rw [e1, show c + (d - c) = d by omega]; exact a3) ((hashAt i0 p0 h0).trans (congrArg (mh P w) hk0))
          have n2 : d ≠ c + q := fun z => by
            rw [z] at a3
            have s0 := slot_live R.tab.ris a3
            rw [hsl] at s0
            injection s0 with s0
            rw [← s0, hp] at h0
            exact hkk ((congrArg Prod.snd (Option.some.inj h0)).trans hk0)
          omega
      by_cases hl : t.led = true
      · refine wp_if_neg (by simp [hl]) ?_
        try refine wpAny_bind (wpAny_pure ?_)
        exact go
      · refine wp_if_pos (by simp [hl]) ?_
        refine wpAny_bind (noSight hx (fun y hy => ?_) ?_)
        · obtain ⟨e, he, ee⟩ := List.mem_map.mp hy
          have he1 : e ∈ es ∧ e.1 = mh P w k := by simpa using he
          have he2 : e ∈ es.toList := by simpa using he1.1
          rw [R.rows] at he2
          obtain ⟨p2, hp2, e2⟩ := List.mem_map.mp he2
          exact ⟨p2.2, p2.1, by rw [← ee, ← e2], R.tup p2 hp2⟩
        · refine wp_if_neg (by decide) ?_
          try refine wpAny_bind (wpAny_pure ?_)
          exact go
    · have hpr' : t.probe (fun i => (es[i]?.map (·.1)).getD 0) (mh P w k) (stand.getD (t.probeStart (mh P w k))) = some (.empty (way t.mask (mh P w k) K) none) := by
        have e2 : way t.mask (mh P w k) K = (nth t.mask (nth t.mask (startP t (mh P w k)) c) (K - c)).j := by
          rw [e1, show c + (K - c) = K by omega]
        rw [hst, e2]
        exact hpr
      rw [hpr']
      dsimp only
      refine wpAny_pure (hout fun hm => ?_)
      obtain ⟨p0, h0, hk0⟩ := List.mem_map.mp hm
      obtain ⟨i0, hi0, e0⟩ := List.getElem_of_mem h0
      have h00 : L[i0]? = some p0 := by rw [List.getElem?_eq_getElem hi0, e0]
      obtain ⟨d, a1, a2, a3⟩ := hre i0 p0 h00 hk0
      exact hno (d - c) i0 (by omega) (by rw [e1, show c + (d - c) = d by omega]; exact a3) ((hashAt i0 p0 h00).trans (congrArg (mh P w) hk0))
theorem seek_at (R : SetM P w s.heap a L es ep t) {x : Addr} {k : List Key} (hx : IsM P w s.heap k x) (hu : A.units < cLine) {Q : SetFound → Shared → Prop}
    (hin : k ∈ L.map (·.2) → Q (.there none) s)
    (hout : ∀ K, k ∉ L.map (·.2) → way t.mask (mh P w k) K ∉ t.place.toList → (∀ c, c < K → way t.mask (mh P w k) c ∈ t.place.toList) → Q (.free (way t.mask (mh P w k) K) false) s) :
    wpAny (model P w) A (setSearch a (.ref x) (mh P w k) true) Q E s := by
  have hroom := R.room
  obtain ⟨K, hKf, hK, hKb⟩ := R.tab.first (by rw [List.length_map]; omega) (mh P w k)
  have hbig : K < 100000 := by
    have : 10 * SetTable.turns t.mask ≤ 1420 := by
      unfold SetTable.turns
      rcases R.tab.mok with e | e | e <;> omega
    omega
  unfold setSearch
  refine seek_from R hx hu hKf hK hKb hin (fun hn => hout K hn hK hKb) 100000 0 none rfl (Nat.zero_le _) (by omega) fun i p hp hk => ?_
  have hi : (L.map fun p => mh P w p.2)[i]? = some (mh P w k) := by rw [List.getElem?_map, hp, ← hk] <;> rfl
  have hil : i < t.place.toList.length := by
    have h1 : i < L.length := (List.getElem?_eq_some_iff.mp hp).1
    have h2 := R.tab.sz
    rw [List.length_map] at h2
    rw [Array.length_toList]
    omega
  have hj := List.getElem?_eq_getElem hil
  obtain ⟨c, hc, e⟩ := R.tab.before hK hi hj
  exact ⟨c, Nat.zero_le _, hc, by rw [hj, e]⟩
end
end CW
set_option Elab.async false
set_option linter.all false
set_option maxRecDepth 100000
set_option maxHeartbeats 3200000
/-! SetM2: a set of mixed tuples takes in what is given to it. -/
namespace CW
open PySem PySem.Spec PyProof.Rows L2
section
variable {α β : Type}
theorem pick_all (l : List α) : ∀ n, n ≤ l.length → (List.range n).filterMap (fun i => l[i]?) = l.take n := by
  intro n
  induction n with
  | zero => exact fun _ => rfl
  | succ n ih =>
    intro h
    have e : l[n]? = some l[n] := List.getElem?_eq_getElem (show n < l.length from h)
    rw [List.range_succ, List.filterMap_append, ih (by omega), List.take_succ, e]
    simp [List.filterMap_cons, e]
theorem pick_perm (l : List α) {o : List Nat} (h : o.Perm (List.range l.length)) : (o.filterMap fun i => l[i]?).Perm l := by
  have q := h.filterMap fun i => l[i]?
  rw [pick_all l l.length (Nat.le_refl _), List.take_length] at q
  exact q
theorem pick_map (f : α → β) (l : List α) (o : List Nat) : (o.filterMap fun i => (l.map f)[i]?) = (o.filterMap fun i => l[i]?).map f := by
  rw [List.map_filterMap]
  exact congrArg (fun g => o.filterMap g) (funext fun i => List.getElem?_map ..)
theorem pick_get (l : List α) (d : α) : ∀ o : List Nat, (∀ i ∈ o, i < l.length) → (o.filterMap fun i => l[i]?) = o.map fun i => l.getD i d
  | [], _ => rfl
  | i :: o, h => by
    have hi := h i List.mem_cons_self
    rw [List.filterMap_cons_some (List.getElem?_eq_getElem hi), pick_get l d o fun j hj => h j (List.mem_cons_of_mem _ hj), List.map_cons]
    simp [List.getD, List.getElem?_eq_getElem hi]
theorem put_in (l : List α) (p : Nat) (x : α) : (l.take p ++ x :: l.drop p).Perm (x :: l) := by
  have h : (l.take p ++ x :: l.drop p).Perm (x :: (l.take p ++ l.drop p)) := List.perm_middle
  rwa [List.take_append_drop] at h
end
section
variable {P : Program} {w : World} {A : Around} {E : Value → Shared → Prop} {s : Shared}
theorem keptM {h h' : Heap} {k : List Key} {b : Addr} (x : IsM P w h k b) (hk : ∀ c o, h.get? c = some o → h'.get? c = some o) : IsM P w h' k b :=
  let ⟨o, its, n, e, r⟩ := x
  ⟨o, its, n, hk b o e, r⟩
theorem sameM {h h' : Heap} {k : List Key} {a b : Addr} {o : Obj} {es : Array (Int × Value)} {ep : Nat} {t : SetTable} (x : IsM P w h k b) (ho : h.get? a = some o) (hd : o.data = .set es ep t) (hs : Heap.SameBut a h h') : IsM P w h' k b := by
  obtain ⟨o2, its, n, e, c, d, r⟩ := x
  refine ⟨o2, its, n, (hs.2 b fun z => ?_).trans e, c, d, r⟩
  rw [z, ho] at e
  have e3 : o = o2 := Option.some.inj e
  rw [← e3, hd] at d
  exact nomatch d
theorem order_M (L : List (Addr × List Key)) (es : Array (Int × Value)) (order : Array Nat) (hr : es.toList = rowsM P w L) (hp : order.toList.Perm (List.range L.length)) :
    ∃ L2, (order.filterMap (es[·]?)).toList = rowsM P w L2 ∧ L2.Perm L ∧ (L2.map fun p => mh P w p.2) = order.toList.map fun i => (es.map (·.1)).getD i 0 := by
  have fe : (fun i => es[i]?) = fun i => (rowsM P w L)[i]? := funext fun i => by rw [← hr, Array.getElem?_toList]
  have hes : es.map (·.1) = (L.map fun p => mh P w p.2).toArray := by
    apply Array.toList_inj.mp
    rw [Array.toList_map, hr]
    unfold rowsM
    rw [List.map_map] <;> rfl
  refine ⟨order.toList.filterMap fun i => L[i]?, ?_, pick_perm L hp, ?_⟩
  · rw [Array.toList_filterMap, fe]
    exact pick_map _ L order.toList
  · rw [← pick_map, hes, pick_get _ 0 _ fun i hi => by rw [List.length_map]; exact List.mem_range.mp (hp.mem_iff.mp hi)]
    refine List.map_congr_left fun i _ => ?_
    simp [Array.getD_eq_getD_getElem?, List.getD]
variable {a : Addr} {L : List (Addr × List Key)} {es : Array (Int × Value)} {ep : Nat} {t : SetTable}
/-- a state of the set in which the table may be too full -/
structure LooseM (P : Program) (w : World) (h : Heap) (a : Addr) (L : List (Addr × List Key)) (es : Array (Int × Value)) (ep : Nat) (t : SetTable) : Prop where
  ob : ∃ o, h.get? a = some o ∧ o.ExactSet ∧ o.data = .set es ep t
  rows : es.toList = rowsM P w L
  tab : TabOk t (L.map fun p => mh P w p.2)
  nd : (L.map (·.2)).Nodup
  tup : ∀ p ∈ L, IsM P w h p.2 p.1
  led : w.params.followText "set-order" = true ∨ t.led = true
  full : L.length ≤ t.mask
  few : L.length < 64
theorem LooseM.tight (R : LooseM P w s.heap a L es ep t) (h : L.length * 5 < t.mask * 3) : SetM P w s.heap a L es ep t := ⟨R.ob, R.rows, R.tab, R.nd, R.tup, R.led, h, R.few⟩
/-- the table laid anew and larger -/
theorem relayM (R : LooseM P w s.heap a L es ep t) {wanted M : Nat} (hw : SetTable.sizeAbove wanted = M + 1) (hM : MaskOk M) (hn : L.length * 5 < M * 3) {Q : Unit → Shared → Prop}
    (hQ : ∀ h' L' es' ep' t', Heap.SameBut a s.heap h' → SetM P w h' a L' es' ep' t' → L'.Perm L → Q () { s with heap := h' }) : wpAny (model P w) A (setRelay a wanted) Q E s := by
  obtain ⟨o, ho, hex, hd⟩ := R.ob
  have few := R.few
  have n1 := rowsM_len L R.rows
  have n2 : t.place.size = es.size := by rw [R.tab.sz, List.length_map, n1]
  have M128 : M ≤ 127 := by rcases hM with e | e | e <;> omega
  obtain ⟨t', order, e, hp, T, em, el, ep', ed⟩ := relaid_ok t (hs := es.map (·.1)) (wanted := wanted) (M := M) (by rw [hw]; rfl) hM (by rw [Array.size_map, n1]; omega)
  rw [Array.size_map, n1] at hp
  obtain ⟨L2, r1, r2, r3⟩ := order_M L es order R.rows hp
  rw [← r3] at T
  have n3 : (order.filterMap (es[·]?)).size = es.size := (rowsM_len L2 r1).trans (r2.length_eq.trans n1.symm)
  rw [setRelay_eq]
  refine wpAny_bind (wpAny_setState_of ho hd (fits_of n2 R.tab.dm (by rw [n1]; exact R.full)) ?_)
  dsimp only
  refine wp_if_neg (by rw [sizeLine_eq, hw]; omega) ?_
  try refine wpAny_bind (wpAny_pure ?_)
  rw [e]
  dsimp only
  refine wpAny_bind ?_
  refine wp_if_neg (by rw [n3]; simp) ?_
  try refine wpAny_bind (wpAny_pure ?_)
  refine wpAny_pure ?_
  dsimp only
  refine wpAny_storeSet_of ho hd ?_ (by rw [n3, n1, sizeLine_eq]; omega)
  have sb : Heap.SameBut a s.heap (s.heap.update a (Obj.putSet (order.filterMap (es[·]?)) t')) := Heap.SameBut.update ..
  exact hQ _ L2 _ (ep + 1) t' sb ⟨⟨_, store_at ho hd, ⟨hex.1, hex.2.1, hex.2.2⟩, rfl⟩, r1, T, (r2.map (·.2)).nodup_iff.mpr R.nd, fun p hpm => sameM (R.tup p (r2.mem_iff.mp hpm)) ho hd sb, by rw [el]; exact R.led, by rw [r2.length_eq, em]; exact hn, by rw [r2.length_eq]; exact few⟩ r2
/-- one more -/
theorem addM (R : SetM P w s.heap a L es ep t) {x : Addr} {k : List Key} (hx : IsM P w s.heap k x) (hu : A.units < cLine) (hfew : L.length + 1 < 64) {Q : Bool → Shared → Prop}
    (hQ : ∀ b h' L' es' ep' t', Heap.SameBut a s.heap h' → SetM P w h' a L' es' ep' t' → (k ∈ L.map (·.2) → L' = L) → (k ∉ L.map (·.2) → L'.Perm ((x, k) :: L)) → Q b { s with heap := h' }) :
    wpAny (model P w) A (setAddHashed a (.ref x) (mh P w k)) Q E s := by
  obtain ⟨o, ho, hex, hd⟩ := R.ob
  have n1 := rowsM_len L R.rows
  have room := R.room
  unfold setAddHashed
  refine wpAny_holding ?_
  rw [show (100000 : Nat) = 99999 + 1 from rfl, setAddHashedIn_succ]
  refine wpAny_bind (wpAny_setState_of ho hd R.fits ?_)
  dsimp only
  refine wp_if_neg (by simp [byScan, Value.scannable]) ?_
  try refine wpAny_bind (wpAny_pure ?_)
  refine wpAny_bind (seek_at R hx hu (fun hm => ?_) fun K hm hK hb => ?_)
  · dsimp only
    exact wpAny_pure (hQ false s.heap L es ep t (Heap.SameBut.refl a s.heap) R (fun _ => rfl) fun z => absurd hm z)
  · dsimp only
    refine wpAny_bind (wpAny_setState_of ho hd R.fits ?_)
    dsimp only
    obtain ⟨q1, q2, q3, q4, q5, q6, q7, q8, q9⟩ := R.tab.put hK hb
    generalize hpt : t.put (way t.mask (mh P w k) K) = pt at q1 q3 q4 q5 q6 q7 q8 q9 ⊢
    obtain ⟨t1, p⟩ := pt
    dsimp only at q1 q3 q4 q5 q6 q7 q8 q9 ⊢
    subst q1
    have hin : (SetTable.insertAt es (SetTable.below t.place (way t.mask (mh P w k) K)) (mh P w k, Value.ref x)).toList = rowsM P w (L.take (SetTable.below t.place (way t.mask (mh P w k) K)) ++ (x, k) :: L.drop (SetTable.below t.place (way t.mask (mh P w k) K))) := by
      rw [SetTable.toList_insertAt, R.rows]
      unfold rowsM
      rw [List.map_append, List.map_cons, List.map_take, List.map_drop]
    generalize hpp : SetTable.below t.place (way t.mask (mh P w k) K) = p at q2 q3 hin ⊢
    have pm := put_in L p (x, k)
    have hlen : (L.take p ++ (x, k) :: L.drop p).length = L.length + 1 := pm.length_eq
    have hhs : (L.take p ++ (x, k) :: L.drop p).map (fun p => mh P w p.2) = (L.map fun p => mh P w p.2).take p ++ mh P w k :: (L.map fun p => mh P w p.2).drop p := by
      rw [List.map_append, List.map_cons, List.map_take, List.map_drop]
    rw [← hhs] at q3
    have nd1 : ((L.take p ++ (x, k) :: L.drop p).map (·.2)).Nodup := (pm.map (·.2)).nodup_iff.mpr (List.nodup_cons.mpr ⟨hm, R.nd⟩)
    have hes := rowsM_len _ hin
    rw [hlen] at hes
    generalize SetTable.insertAt es p (mh P w k, Value.ref x) = es1 at hin hes ⊢
    generalize L.take p ++ (x, k) :: L.drop p = L1 at pm hlen q3 nd1 hin
    -- whatever is said of the hash, the rest is one
    have rest : ∀ t2 : SetTable, t2.place = t1.place → t2.dummies = t1.dummies → t2.mask = t1.mask → t2.led = t1.led → t2.tooFull = t1.tooFull →
        wpAny (model P w) A (do
          storeSet a es1 t2
          if !false && t2.tooFull then setRelay a (SetTable.grown (es.size + 1))
          return true) Q E s := by
      intro t2 z1 z2 z3 z4 z5
      refine wpAny_bind (wpAny_storeSet_of ho hd ?_ (by rw [hes, sizeLine_eq]; omega))
      have sb : Heap.SameBut a s.heap (s.heap.update a (Obj.putSet es1 t2)) := Heap.SameBut.update ..
      have ho1 := store_at (es' := es1) (t' := t2) ho hd
      generalize s.heap.update a (Obj.putSet es1 t2) = h1 at sb ho1 ⊢
      have T2 : TabOk t2 (L1.map fun p => mh P w p.2) := ⟨by rw [z1]; exact q3.ris, by rw [z2]; exact q3.dm, by rw [z1]; exact q3.sz, by rw [z3]; exact q3.mok, by rw [z1, z3]; exact q3.bd, by rw [z1, z3]; exact q3.reach⟩
      have mk : t2.mask = t.mask := z3.trans q4
      have LR : LooseM P w h1 a L1 es1 (ep + 1) t2 := ⟨⟨_, ho1, ⟨hex.1, hex.2.1, hex.2.2⟩, rfl⟩, hin, T2, nd1, fun p hp => by
        rcases List.mem_cons.mp (pm.mem_iff.mp hp) with e | hp
        · rw [e]; exact sameM hx ho hd sb
        · exact sameM (R.tup p hp) ho hd sb, by rw [z4, q5]; exact R.led, by rw [hlen, mk]; omega, by rw [hlen]; exact hfew⟩
      have fu : t2.tooFull = decide ((L.length + 1) * 5 ≥ t.mask * 3) := by
        unfold SetTable.tooFull
        have z6 : t2.fill = L.length + 1 := by
          unfold SetTable.fill
          rw [z1, z2, q3.dm, q3.sz, List.length_map, hlen] <;> rfl
        rw [z6, mk]
      by_cases hf : (L.length + 1) * 5 ≥ t.mask * 3
      · have hf2 : t2.tooFull = true := by rw [fu]; exact decide_eq_true hf
        first
          | (refine wpAny_bind ?_; refine wp_if_pos (by simp [hf2]) ?_)
          | (refine wp_if_pos (by simp [hf2]) ?_; refine wpAny_bind ?_)
        rw [n1]
        have go : ∀ M, SetTable.sizeAbove (SetTable.grown (L.length + 1)) = M + 1 → MaskOk M → (L.length + 1) * 5 < M * 3 →
            wpAny (model P w) A (setRelay a (SetTable.grown (L.length + 1))) (fun _ s' => wpAny (model P w) A (pure true) Q E s') E { s with heap := h1 } := fun M y1 y2 y4 =>
          relayM (s := { s with heap := h1 }) LR y1 y2 (by rw [hlen]; exact y4) fun h2 L2 es2 ep2 t2 sb2 R2 pm2 => wpAny_pure (hQ true h2 L2 es2 ep2 t2 (sb.trans sb2) R2 (fun z => absurd z hm) fun _ => pm2.trans pm)
        have m3 := R.tab.mok
        rcases m3 with e | e | e
        · have e4 : L.length = 4 := by omega
          exact go 31 (by rw [e4, size_20]) (.inr (.inl rfl)) (by omega)
        · have e4 : L.length = 18 := by omega
          exact go 127 (by rw [e4, size_76]) (.inr (.inr rfl)) (by omega)
        · omega
      · have hf2 : t2.tooFull = false := by rw [fu]; exact decide_eq_false hf
        first
          | refine wp_if_neg (by simp [hf2]) ?_
          | (refine wpAny_bind ?_; refine wp_if_neg (by simp [hf2]) ?_; refine wpAny_pure ?_)
        exact wpAny_pure (hQ true h1 L1 es1 (ep + 1) t2 sb ⟨LR.ob, LR.rows, LR.tab, LR.nd, LR.tup, LR.led, by rw [hlen, mk]; omega, LR.few⟩ (fun z => absurd z hm) fun _ => pm)
    by_cases pl : t1.plain = true
    · first
        | (refine wpAny_bind ?_; refine wp_if_pos pl ?_; refine hashBy hx fun c => ?_)
        | refine wp_if_pos pl (wpAny_bind (hashBy hx fun c => ?_))
      cases c
      · exact rest _ rfl rfl rfl rfl rfl
      · exact rest _ rfl rfl rfl rfl rfl
    · first
        | (refine wpAny_bind ?_; refine wp_if_neg pl ?_; refine wpAny_pure ?_)
        | refine wp_if_neg pl (wpAny_bind (wpAny_pure ?_))
      exact rest _ rfl rfl rfl rfl rfl
end
end CW
set_option Elab.async false
set_option linter.all false
set_option maxRecDepth 100000
set_option maxHeartbeats 3200000
/-! SetM3: set(xs) and sorted of it, for mixed tuples. -/
namespace CW
open PySem PySem.Spec PyProof.Rows L2
/-- what was taken in from the first i -/
structure Took (ks : List (Addr × List Key)) (i : Nat) (L : List (Addr × List Key)) : Prop where
  sub : ∀ p ∈ L, p ∈ ks.take i
  all : ∀ p ∈ ks.take i, p.2 ∈ L.map (·.2)
  len : L.length ≤ i
theorem Took.next {ks L L' : List (Addr × List Key)} {i : Nat} {x : Addr × List Key} (g : Took ks i L) (h : ks[i]? = some x) (c1 : x.2 ∈ L.map (·.2) → L' = L) (c2 : x.2 ∉ L.map (·.2) → L'.Perm (x :: L)) : Took ks (i + 1) L' := by
  have e : ks.take (i + 1) = ks.take i ++ [x] := by rw [List.take_succ, h] <;> rfl
  by_cases c : x.2 ∈ L.map (·.2)
  · rw [c1 c]
    exact ⟨fun p hp => e ▸ List.mem_append_left _ (g.sub p hp), fun p hp => by
      rw [e] at hp
      rcases List.mem_append.mp hp with z | z
      · exact g.all p z
      · rw [List.mem_singleton.mp z]; exact c, Nat.le_succ_of_le g.len⟩
  · have pm := c2 c
    refine ⟨fun p hp => ?_, fun p hp => ?_, ?_⟩
    · rw [e]
      rcases List.mem_cons.mp (pm.mem_iff.mp hp) with z | z
      · exact List.mem_append_right _ (z ▸ List.mem_singleton.mpr rfl)
      · exact List.mem_append_left _ (g.sub p z)
    · refine (pm.map (·.2)).mem_iff.mpr ?_
      rw [e] at hp
      rcases List.mem_append.mp hp with z | z
      · exact List.mem_cons_of_mem _ (g.all p z)
      · rw [List.mem_singleton.mp z]; exact List.mem_cons_self
    · have := pm.length_eq
      have := g.len
      rw [List.length_cons] at *
      omega
section
variable {P : Program} {w : World} {A : Around} {E : Value → Shared → Prop} {s : Shared}
theorem SetM.moved {h h' : Heap} {a : Addr} {L : List (Addr × List Key)} {es : Array (Int × Value)} {ep : Nat} {t : SetTable} (R : SetM P w h a L es ep t) (ha : ∀ o, h.get? a = some o → h'.get? a = some o) (ht : ∀ p ∈ L, IsM P w h' p.2 p.1) : SetM P w h' a L es ep t :=
  let ⟨o, e, r⟩ := R.ob
  ⟨⟨o, ha o e, r⟩, R.rows, R.tab, R.nd, ht, R.led, R.room, R.few⟩
abbrev tab0 (w : World) : SetTable := .fresh 0 0 (!w.params.followText "set-order")
abbrev obS (w : World) : Obj := { cls := .type "set", dict := none, data := .set #[] 0 (tab0 w) }
theorem newM {h : Heap} {a : Addr} (ho : h.get? a = some (obS w)) : SetM P w h a [] #[] 0 (tab0 w) where
  ob := ⟨_, ho, ⟨rfl, rfl, rfl⟩, rfl⟩
  rows := rfl
  tab := ⟨List.Pairwise.nil, rfl, rfl, .inl rfl, fun x hx => (by cases hx), fun i h j hi => (by simp at hi)⟩
  nd := List.nodup_nil
  tup := fun p hp => (by cases hp)
  led := by
    cases c : w.params.followText "set-order"
    · right; show (!w.params.followText "set-order") = true; rw [c]; rfl
    · exact .inl rfl
  room := show 0 * 5 < 7 * 3 by decide
  few := show 0 < 64 by decide
theorem updM {I : Addr} {fp wr : List Addr} {G : Array GenState → Array GenState → Prop} {n : Nat} {Pv : Nat → Value → Prop} {St : Nat → Shared → Prop} {R : Result → Shared → Prop}
    (W : WalksS P w A.in1 I fp wr G n Pv St) (S : Addr) (hSf : S ∉ fp) (ks : List (Addr × List Key)) (hn : n = ks.length) (hfew : ks.length < 64) (hval : ∀ i v, Pv i v → ∃ p, ks[i]? = some p ∧ v = .ref p.1)
    (h0 : Heap) (hk : ∀ p ∈ ks, IsM P w h0 p.2 p.1) (hS0 : h0.get? S = none) (hw0 : ∀ b ∈ wr, h0.get? b = none) (hu : A.in1.units < cLine) :
    ∀ (k i : Nat) (s : Shared), n - i = k → i ≤ n → St i s → (∀ b o, h0.get? b = some o → s.heap.get? b = some o) → (∃ L es ep t, SetM P w s.heap S L es ep t ∧ Took ks i L) →
      (∀ s' L es ep t, Moved (S :: wr) G s s' → SetM P w s'.heap S L es ep t → Took ks n L → (∀ b o, h0.get? b = some o → s'.heap.get? b = some o) → R (.ok (.ret .none)) s') →
      codeAny (model P w) A (.builtin "set.update.loop" ⟨[.ref S, .ref I], []⟩) R s := by
  have Sw : S ∉ wr := fun h => hSf (W.sub _ h)
  have wide : ∀ b ∈ wr, b ∈ S :: wr := fun b hb => List.mem_cons_of_mem _ hb
  have on : ∀ {s s' : Shared}, Moved wr G s s' → (∀ b o, h0.get? b = some o → s.heap.get? b = some o) → ∀ b o, h0.get? b = some o → s'.heap.get? b = some o := fun hm hkp b o e =>
    hm.heap b o (fun hb => nomatch (hw0 b hb).symm.trans e) (hkp b o e)
  intro k
  induction k with
  | zero =>
    intro i s hk' hi hst hkp ⟨L, es, ep, t, hS, g⟩ hR
    obtain rfl : i = n := by omega
    refine codeAny_builtin F.entry_set_update_loop ?_
    rw [Around.under_plainId F.plain_set_update_loop _]
    show wpAny _ A.in1 (pyNext (.ref I) >>= _) _ _ s
    refine wpAny_bind (W.done s _ _ hst fun s' hm => ?_)
    show wpAny _ A.in1 (ret Value.none) _ _ s'
    exact wpAny_pure (hR s' L es ep t (hm.mono wide) (hS.moved (fun o e => hm.heap S o Sw e) fun p hp => keptM (hk p (List.mem_of_mem_take (g.sub p hp))) (on hm hkp)) g (on hm hkp))
  | succ k ih =>
    intro i s hk' hi hst hkp ⟨L, es, ep, t, hS, g⟩ hR
    have hlt : i < n := by omega
    refine codeAny_builtin F.entry_set_update_loop ?_
    rw [Around.under_plainId F.plain_set_update_loop _]
    show wpAny _ A.in1 (pyNext (.ref I) >>= _) _ _ s
    refine wpAny_bind (W.item i s _ _ hlt hst fun v s' hP hst' hm => ?_)
    obtain ⟨p, hp, rfl⟩ := hval i v hP
    have on1 := on hm hkp
    have hS1 : SetM P w s'.heap S L es ep t := hS.moved (fun o e => hm.heap S o Sw e) fun q hq => keptM (hk q (List.mem_of_mem_take (g.sub q hq))) on1
    have hx : IsM P w s'.heap p.2 p.1 := keptM (hk p (List.mem_of_getElem? hp)) on1
    show wpAny _ A.in1 (holding [Value.ref p.1] (setAdd S (.ref p.1)) >>= _) _ _ s'
    refine wpAny_bind (wpAny_holding ?_)
    unfold setAdd
    refine wpAny_holding ?_
    refine wpAny_bind (wpAny_pyHash_tuple hu hx ?_)
    refine addM (s := { s' with toks := s'.toks + (p.2.length + 1) }) hS1 hx hu (by have := g.len; omega) fun b h' L' es' ep' t' hsb hS2 c1 c2 => ?_
    have on2 : ∀ b o, h0.get? b = some o → h'.get? b = some o := fun b o e => (hsb.2 b (fun z => by rw [z, hS0] at e; cases e)).trans (on1 b o e)
    refine wpAny_pure ⟨plainId_quiet F.plain_set_update_loop _, ih (i + 1) _ (by omega) hlt (W.frame _ s' _ _ hst' (Nat.le_add_right _ _) fun b hb o e => ?_) on2 ⟨L', es', ep', t', hS2, g.next hp c1 c2⟩ fun s'' L2 es2 ep2 t2 hm'' hS'' g'' on3 => ?_⟩
    · exact (hsb.2 b (fun h : b = S => hSf (h ▸ hb))).trans e
    · refine hR s'' L2 es2 ep2 t2 (Moved.trans W.gtrans ((hm.mono wide).then_heap (Nat.le_add_right _ _) fun b o hb e => ?_) hm'') hS'' g'' on3
      exact (hsb.2 b (fun h : b = S => hb (h ▸ List.mem_cons_self))).trans e
/-- set(xs) of a list of such tuples -/
theorem callM {l : Addr} {items : Array Value} (ks : List (Addr × List Key)) {Q : Value → Shared → Prop} (hh : A.handled = none) (hl : s.heap.IsList l items) (hit : items.toList = ks.map fun p => Value.ref p.1)
    (hk : ∀ p ∈ ks, IsM P w s.heap p.2 p.1) (hfew : ks.length < 64) (hu : A.units + 3 < cLine)
    (h : ∀ (h' : Heap) (tk : Nat) L es ep t, SetM P w h' s.heap.objs.size L es ep t → Took ks ks.length L → (∀ b o, s.heap.get? b = some o → h'.get? b = some o) → Q (.ref s.heap.objs.size) { s with heap := h', toks := tk }) :
    wpAny (model P w) A (call (.type "set") [.ref l]) Q E s := by
  have hisz : items.size = ks.length := by
    have q := congrArg List.length hit
    rwa [Array.length_toList, List.length_map] at q
  obtain ⟨c, tl, hmro⟩ := F.called_set.mro
  have hmade := F.called_set.made
  have hsub := F.called_set.sub
  refine wpAny_call (codeAny_of_tree ?_)
  show wpAny _ _ (callAny (.type "set") _) _ _ _
  refine wpAny_pure ⟨Code.quiet_builtin _ (by decide +kernel), codeAny_builtin F.entry_type_call ?_⟩
  rw [Around.under_plain (weight_type_call_type "set" [.ref l] []) rfl]
  have h1 := F.called_set.notType
  have h2 := F.called_set.canCreate
  have hct := F.typeCall_set_1 (.ref l)
  repeat (any_goals (first | assumption | wp_step))
  refine codeAny_mono (code_set_led1 (.ref l) (E := E) (Q₁ := fun obj s₁ => obj = .ref s.heap.objs.size ∧ s₁ = { s with heap := s.heap.push (obS w) }) ⟨rfl, rfl⟩) fun r s₁ hr => ?_
  cases r with
  | error e => exact hr
  | ok fl =>
    cases fl with
    | ret obj =>
      obtain ⟨rfl, rfl⟩ := hr
      have hS : (s.heap.push (obS w)).get? s.heap.objs.size = some (obS w) := Heap.get?_push_size _ rfl
      have hT : Shared.TypeIs { s with heap := s.heap.push (obS w) } (.ref s.heap.objs.size) "set" := ⟨_, hS, rfl⟩
      have hli := F.called_set.init.lookup
      have hbi := F.called_set.init.bind (.ref s.heap.objs.size)
      repeat (any_goals (first | assumption | wp_step))
      refine codeAny_mono (codeAny_call_builtin (R := wants (fun r s₂ => r = .none ∧ ∃ h' tk L es ep t, s₂ = { s with heap := h', toks := tk } ∧ SetM P w h' s.heap.objs.size L es ep t ∧ Took ks ks.length L ∧
          (∀ b o, s.heap.get? b = some o → h'.get? b = some o)) E) F.called_set.init.plain F.entry_set_init (check_set_init_1 hT ?_)) fun r₂ s₂ hr₂ => ?_
      · obtain ⟨ol, hol, hcl, nl, hdl⟩ := hl
        obtain ⟨ocls, odict, odata, oslots⟩ := ol
        simp only at hcl hdl
        subst hcl; subst hdl
        have hol' : (s.heap.push (obS w)).get? l = some { cls := .type "list", dict := odict, data := .seq items nl, slots := oslots } := Heap.get?_push_of_some _ hol
        have hsls := F.sub_list_set
        have hslf := F.sub_list_frozenset
        have hne : (Value.type "list" == Value.type "dict") = false := by decide
        have hl1 : (s.heap.push (obS w)).IsList l items := ⟨_, hol', rfl, nl, rfl⟩
        unfold Builtin.«set.__init__» noKeywords Builtin.Frozenset.updateFrom
        generalize hPI : pyIter = PI
        wp_walk
        subst hPI
        refine wpAny_pyIter_list hl1 ?_
        refine wpAny_bind (wpAny_runValue ?_)
        have hlS : l < s.heap.objs.size := Heap.lt_size hol
        have hh3 : A.in1.in1.in1.handled = none := by simp [hh]
        have hneI : l ≠ (s.heap.push (obS w)).objs.size := by
          rw [Heap.size_push]; exact Nat.ne_of_lt (Nat.lt_succ_of_lt hlS)
        have hSf : s.heap.objs.size ∉ [(s.heap.push (obS w)).objs.size, l] := by
          rw [Heap.size_push]
          intro z
          rcases List.mem_cons.mp z with z | z
          · exact Nat.ne_of_lt (Nat.lt_succ_self _) z
          · exact Nat.ne_of_gt hlS (List.mem_singleton.mp z)
        have hval : ∀ (i : Nat) (v : Value), items[i]? = some v → ∃ p, ks[i]? = some p ∧ v = .ref p.1 := fun i v hv => by
          have q : items.toList[i]? = some v := by rw [Array.getElem?_toList]; exact hv
          rw [hit, List.getElem?_map] at q
          obtain ⟨p, e1, e2⟩ := Option.map_eq_some_iff.mp q
          exact ⟨p, e1, e2.symm⟩
        have none_of : ∀ b, s.heap.objs.size ≤ b → s.heap.get? b = none := fun b hb => by
          cases q : s.heap.get? b with
          | none => rfl
          | some o => exact absurd (Heap.lt_size q) (Nat.not_lt.mpr hb)
        refine updM ((Walks.list hh3 _ l hneI items).toS) s.heap.objs.size
          hSf ks hisz hfew hval s.heap hk (none_of _ (Nat.le_refl _)) (fun b hb => none_of b (by
            rw [List.mem_singleton.mp hb, Heap.size_push]
            exact Nat.le_succ _)) hu (items.size - 0) 0 _ (by omega) (Nat.zero_le _)
          ⟨⟨_, Heap.get?_push_size _ rfl, rfl, rfl⟩, (hl1.push _)⟩ (fun b o e => Heap.get?_push_of_some _ (Heap.get?_push_of_some _ e)) ?hS0 ?hR
        case hS0 =>
          have hget : ((s.heap.push (obS w)).push { cls := .type "list_iterator", data := .fields #[.ref l, .int 0 0] }).get? s.heap.objs.size = some (obS w) := Heap.get?_push_of_some _ hS
          exact ⟨[], #[], 0, _, newM hget, ⟨fun p h => (by cases h), fun p h => (by simp at h), Nat.le_refl _⟩⟩
        case hR =>
          intro s' L es ep t hm hS' g' hkp
          obtain ⟨h', g2, d', tk', os'⟩ := s'
          obtain rfl : g2 = s.gens := hm.gens
          obtain rfl : d' = s.drawn := hm.drawn
          obtain rfl : os' = s.os := hm.os
          show wpAny _ _ _ _ _ _
          refine wpAny_pure ?_
          show wpAny _ _ (ret Value.none) _ _ _
          rw [hisz] at g'
          exact wpAny_pure ⟨rfl, h', tk', L, es, ep, t, rfl, hS', g', hkp⟩
      · cases r₂ with
        | error e => exact hr₂
        | ok fl₂ =>
          cases fl₂ with
          | ret r =>
            obtain ⟨rfl, h', tk, L, es, ep, t, rfl, hS', g', hk'⟩ := hr₂
            repeat (any_goals (first | assumption | wp_step))
            exact h _ _ _ _ _ _ hS' g' hk'
          | _ => exact hr₂.elim
    | _ => exact hr.elim
end
end CW
set_option Elab.async false
set_option linter.all false
set_option maxRecDepth 100000
set_option maxHeartbeats 3200000
/-! SetM4: sorted(set of triples (int, text, int)), and the rules of the layer. -/
namespace CW
open PySem PySem.Spec PyProof.Rows L2
/-- a triple -/
abbrev Tri := Int × Str × Int
def tK (t : Tri) : List Key := [.inl t.1, .inr t.2.1, .inl t.2.2]
theorem tri_ext {t u : Tri} (h1 : t.1 = u.1) (h2 : t.2.1 = u.2.1) (h3 : t.2.2 = u.2.2) : t = u := Prod.ext h1 (Prod.ext h2 h3)
theorem tK_inj {t u : Tri} (h : tK t = tK u) : t = u := by
  have e := h
  unfold tK at e
  simp only [List.cons.injEq, Sum.inl.injEq, Sum.inr.injEq, and_true] at e
  exact tri_ext e.1 e.2.1 e.2.2
theorem cps_inj {x y : Str} (h : x.cps.toList = y.cps.toList) : x = y := by
  cases x; cases y
  have e := Array.toList_inj.mp h
  simp only at e
  rw [e]
def ltT (t u : Tri) : Bool := decide (t.1 < u.1) || (decide (t.1 = u.1) && (decide (t.2.1.cps.toList < u.2.1.cps.toList) || (decide (t.2.1 = u.2.1) && decide (t.2.2 < u.2.2))))
theorem ltKs_tK (t u : Tri) : ltKs (tK t) (tK u) = ltT t u := by
  obtain ⟨a, b, c⟩ := t
  obtain ⟨a', b', c'⟩ := u
  show (if (Sum.inl a : Key) = Sum.inl a' then (if (Sum.inr b : Key) = Sum.inr b' then (if (Sum.inl c : Key) = Sum.inl c' then false else decide (c < c')) else decide (b.cps.toList < b'.cps.toList)) else decide (a < a')) = _
  unfold ltT
  dsimp only
  by_cases e1 : a = a'
  · subst e1
    by_cases e2 : b = b'
    · subst e2
      by_cases e3 : c = c'
      · subst e3
        simp [Int.lt_irrefl]
      · simp [e3, Int.lt_irrefl, List.lt_irrefl, show ¬ b.cps.toList < b.cps.toList from List.lt_irrefl _]
        try exact fun z => absurd z (List.lt_irrefl b.cps.toList)
    · simp [e2, Int.lt_irrefl]
  · simp [e1]
def tI (t : Tri) : List (Int ⊕ List Nat) := [.inl t.1, .inr t.2.1.cps.toList, .inl t.2.2]
open PyProof.Rows (itemOrd) in
theorem lex_ltT {t u : Tri} (h : PyProof.Rows.lexLt PyProof.Rows.itemOrd (tI t) (tI u) = true) : ltT t u = true := by
  obtain ⟨a, b, c⟩ := t
  obtain ⟨a', b', c'⟩ := u
  unfold ltT
  simp only [Bool.or_eq_true, Bool.and_eq_true, decide_eq_true_eq]
  rcases PyProof.Rows.lex_true.mp h with h | ⟨h0, h⟩
  · exact .inl (of_decide_eq_true (show decide (a < a') = true from h))
  · have h1 := of_decide_eq_false (show decide (a' < a) = false from h0)
    by_cases l : a < a'
    · exact .inl l
    refine .inr ⟨by omega, ?_⟩
    rcases PyProof.Rows.lex_true.mp h with h | ⟨h0, h⟩
    · exact .inl (of_decide_eq_true (show decide (b.cps.toList < b'.cps.toList) = true from h))
    · have h2 := of_decide_eq_false (show decide (b'.cps.toList < b.cps.toList) = false from h0)
      by_cases l2 : b.cps.toList < b'.cps.toList
      · exact .inl l2
      refine .inr ⟨cps_inj (List.le_antisymm (List.not_lt.mp h2) (List.not_lt.mp l2)), ?_⟩
      rcases PyProof.Rows.lex_true.mp h with h | ⟨h0, h⟩
      · exact of_decide_eq_true (show decide (c < c') = true from h)
      · exact absurd h (by decide)
theorem tI_inj {t u : Tri} (h : tI t = tI u) : t = u := by
  have e := h
  unfold tI at e
  simp only [List.cons.injEq, Sum.inl.injEq, Sum.inr.injEq, and_true] at e
  exact tri_ext e.1 (cps_inj e.2.1) e.2.2
section
variable {P : Program} {w : World} {A : Around} {E : Value → Shared → Prop} {s : Shared}
theorem tri_obj {h : Heap} {t : Tri} {b : Addr} (x : IsM P w h (tK t) b) : ∃ o its n, h.get? b = some o ∧ o.cls = .type "tuple" ∧ o.data = .seq its n ∧ ∃ t1 t2 t3, its.toList = [.int t.1 t1, .str t.2.1 t2, .int t.2.2 t3] := by
  obtain ⟨o, items, n, ho, hc, hd, hi⟩ := x
  refine ⟨o, items, n, ho, hc, hd, ?_⟩
  generalize items.toList = l at hi
  unfold tK at hi
  cases hi with
  | cons k1 r1 =>
    cases r1 with
    | cons k2 r2 =>
      cases r2 with
      | cons k3 r3 =>
        cases r3
        rcases keyIs_shape (show keyIs (.inl t.1 : Key) _ = true from k1) with ⟨i, t1, e1, v1⟩ | ⟨_, _, e1, _⟩
        · rcases keyIs_shape (show keyIs (.inr t.2.1 : Key) _ = true from k2) with ⟨_, _, e2, _⟩ | ⟨y, t2, e2, v2⟩
          · cases e2
          · rcases keyIs_shape (show keyIs (.inl t.2.2 : Key) _ = true from k3) with ⟨j, t3, e3, v3⟩ | ⟨_, _, e3, _⟩
            · injection e1 with e1
              injection e2 with e2
              injection e3 with e3
              exact ⟨t1, t2, t3, by rw [v1, v2, v3, e1, e2, e3]⟩
            · cases e3
        · cases e1
theorem tri_key {h : Heap} {t : Tri} {b : Addr} (x : IsM P w h (tK t) b) : G.tupKeyC h G.sh1 (.ref b) = some (tI t) ∧ ∃ f, TupOf h G.sh1 (.ref b) f := by
  obtain ⟨o, its, n, ho, hc, hd, t1, t2, t3, e⟩ := tri_obj x
  refine ⟨G.tupKeyC_of ho hc hd (by rw [e] <;> rfl), .int t.1 t1, b, o, its, n, rfl, ho, hc, hd, by rw [← Array.getElem?_toList, e] <;> rfl, fun _ => ⟨_, _, rfl⟩, fun z => absurd z (by decide)⟩
/-- sorted of a list of them, at the value list -/
theorem sort_tris {a : Addr} {vs : List Value} {n : Nat} {Q : Value → Shared → Prop} (ts : List (Addr × Tri)) (hv : vs = ts.map fun p => Value.ref p.1) (hk : ∀ p ∈ ts, IsM P w s.heap (tK p.2) p.1) (hnd : (ts.map (·.2)).Nodup) (ho : s.heap.get? a = some (seqObj "list" vs.toArray n)) (hL : vs.length ≤ sizeLine)
    (h : ∀ (out : Array Value) (ts' : List (Addr × Tri)), ts'.Perm ts → out.toList = ts'.map (fun p => Value.ref p.1) → ts'.Pairwise (fun p q => ltT p.2 q.2 = true) → Q .none { s with heap := sortedHeap s.heap a vs out }) :
    wpAny (model P w) A (call (.builtin "list.sort") [.ref a]) Q E s := by
  have kk : ∀ v ∈ vs, ∃ p ∈ ts, v = Value.ref p.1 := fun v m => by
    rw [hv] at m
    obtain ⟨p, m, e⟩ := List.mem_map.mp m
    exact ⟨p, m, e.symm⟩
  have tp : ∀ us : List Value, (∀ v ∈ us, ∃ p ∈ ts, v = Value.ref p.1) → ∃ fs, TupsOf s.heap G.sh1 us fs := by
    intro us
    induction us with
    | nil => exact fun _ => ⟨[], .nil⟩
    | cons u us ih =>
      intro g
      obtain ⟨p, m, e⟩ := g u List.mem_cons_self
      obtain ⟨f, hf⟩ := (tri_key (hk p m)).2
      obtain ⟨fs, hfs⟩ := ih fun v m => g v (List.mem_cons_of_mem _ m)
      exact ⟨f :: fs, .cons (e ▸ hf) hfs⟩
  obtain ⟨fs, hfs⟩ := tp vs kk
  refine wpAny_call_entry slot_list_sort ⟨_, ho, rfl⟩ entry_list_sort (G.list_sort_tups (shape := G.sh1) ho hfs (fun v m => ?_) hL fun st pm so _ => ⟨_, rfl, ?_⟩) (args_list_sort _)
  · obtain ⟨p, m, e⟩ := kk v m
    exact ⟨_, e ▸ (tri_key (hk p m)).1⟩
  -- what came out
  have n1 := Array.perm_iff_toList_perm.mp pm
  rw [pairsOf_toList] at n1
  have z1 : (arrOf st).size = (pairsOf vs).size := pm.size_eq
  have pw := sm_pw_of_sorted (show SortedToK _ (arrOf st) (arrOf st).size by rw [z1]; exact so)
  have each : ∀ (l : List Keyed), (∀ p ∈ l, p.1 = p.2 ∧ p.1 ∈ vs) → ∃ ts' : List (Addr × Tri), l.map (·.2) = ts'.map (fun p => Value.ref p.1) ∧ (∀ p ∈ ts', p ∈ ts) ∧ (l.Pairwise (sm_ple (G.tupKindC s.heap G.sh1)) → ts'.Pairwise fun p q => PyProof.Rows.lexLt PyProof.Rows.itemOrd (tI q.2) (tI p.2) = false) := by
    intro l
    induction l with
    | nil => exact fun _ => ⟨[], rfl, fun p m => (by cases m), fun _ => .nil⟩
    | cons x l ih =>
      intro g
      obtain ⟨e1, m1⟩ := g x List.mem_cons_self
      obtain ⟨p, mp, ep⟩ := kk x.1 m1
      obtain ⟨ts', e2, m2, q2⟩ := ih fun y m => g y (List.mem_cons_of_mem _ m)
      refine ⟨p :: ts', by rw [List.map_cons, List.map_cons, e2, ← e1, ep], fun r m => ?_, fun w2 => ?_⟩
      · rcases List.mem_cons.mp m with e | m
        · exact e ▸ mp
        · exact m2 r m
      · obtain ⟨w3, w4⟩ := List.pairwise_cons.mp w2
        refine List.pairwise_cons.mpr ⟨fun r m => ?_, q2 w4⟩
        have mr : Value.ref r.1 ∈ l.map (·.2) := by rw [e2]; exact List.mem_map.mpr ⟨r, m, rfl⟩
        obtain ⟨y, my, ey⟩ := List.mem_map.mp mr
        have e3 : y.1 = Value.ref r.1 := ((g y (List.mem_cons_of_mem _ my)).1).trans ey
        have lt := w3 y my
        have k1 : sm_kq (G.tupKindC s.heap G.sh1) x = tI p.2 := by
          show ((G.tupKindC s.heap G.sh1).keyOf x.1).getD _ = _
          rw [ep]
          show (G.tupKeyC s.heap G.sh1 (.ref p.1)).getD _ = _
          rw [(tri_key (hk p mp)).1] <;> rfl
        have k2 : sm_kq (G.tupKindC s.heap G.sh1) y = tI r.2 := by
          show ((G.tupKindC s.heap G.sh1).keyOf y.1).getD _ = _
          rw [e3]
          show (G.tupKeyC s.heap G.sh1 (.ref r.1)).getD _ = _
          rw [(tri_key (hk r (m2 r m))).1] <;> rfl
        unfold sm_ple at lt
        rw [k1, k2] at lt
        exact lt
  obtain ⟨ts', e2, m2, q2⟩ := each (arrOf st).toList fun p m => by
    obtain ⟨x, y⟩ := mem_zip_self (n1.mem_iff.mp m)
    exact ⟨x, y⟩
  have pr : (ts'.map fun p => Value.ref p.1).Perm (ts.map fun p => Value.ref p.1) := by
    rw [← e2, ← hv]
    have q := n1.map Prod.snd
    rwa [List.map_snd_zip (Nat.le_refl _)] at q
  -- an address has one key
  have one : ∀ q ∈ ts, ∀ r ∈ ts, q.1 = r.1 → q = r := fun q hq r hr e => by
    have a1 := hk q hq
    rw [e] at a1
    exact Prod.ext e (tK_inj (a1.inj (hk r hr)))
  have nT : ts.Nodup := nodup_of_map hnd
  have nref : (ts.map fun p => Value.ref p.1).Nodup := List.pairwise_map.mpr (List.Pairwise.imp_of_mem (fun {q r} hq hr hne e => hne (one q hq r hr (Value.ref.inj e))) nT)
  have n1 : ts'.Nodup := nodup_of_map (pr.nodup_iff.mpr nref)
  have pT : ts'.Perm ts := (List.perm_ext_iff_of_nodup n1 nT).mpr fun q => ⟨m2 q, fun hq => by
    obtain ⟨r, hr, e⟩ := List.mem_map.mp (pr.mem_iff.mpr (List.mem_map.mpr ⟨q, hq, rfl⟩))
    rw [← one r (m2 r hr) q hq (Value.ref.inj e)]
    exact hr⟩
  have n2 : (ts'.map (·.2)).Nodup := (pT.map (·.2)).nodup_iff.mpr hnd
  refine h ((arrOf st).map (·.2)) ts' pT (by rw [Array.toList_map]; exact e2) ?_
  refine List.Pairwise.imp₂ (fun p q h1 h2 => ?_) (q2 pw) (List.pairwise_map.mp n2)
  rcases Bool.eq_false_or_eq_true (PyProof.Rows.lexLt PyProof.Rows.itemOrd (tI p.2) (tI q.2)) with e | e
  · exact lex_ltT e
  · exact absurd (tI_inj (PyProof.Rows.lex_total (O := PyProof.Rows.itemOrd) _ _ e h1)) h2
end
end CW
set_option Elab.async false
set_option linter.all false
set_option maxRecDepth 100000
set_option maxHeartbeats 2000000
/-! W2: rows: is_ascending, is_word, is_letters, is_row. -/
namespace CW
open PySem PySem.Spec PyProof.Rows L2
/-! ### what they answer -/
def asc (l : List Nat) : Bool := (l.zip l.tail).all fun p => decide (p.1 < p.2)
def ascI (l : List Int) : Bool := (l.zip l.tail).all fun p => decide (p.1 < p.2)
def ascT (l : List Tri) : Bool := (l.zip l.tail).all fun p => ltT p.1 p.2
def lowers : Str := "abcdefghijklmnopqrstuvwxyz"
def uppers : Str := "ABCDEFGHIJKLMNOPQRSTUVWXYZ"
abbrev cs (z : Str) : List Nat := z.cps.toList
def isWord (z : Str) : Bool := (cs z).all fun c => decide (c ∈ cs lowers)
def isRow (z : Str) : Bool := (cs z).all fun c => decide (c ∈ cs lowers) || decide (c ∈ cs uppers)
def isLetters (z : Str) : Bool := isWord z && ((decide (1 ≤ z.length) && decide (z.length ≤ 3)) && asc (cs z))
theorem lt_sgn {c d : Nat} : decide ((⟨#[c]⟩ : Str).cps.toList < (⟨#[d]⟩ : Str).cps.toList) = decide (c < d) := decide_eq_decide.mpr (by show [c] < [d] ↔ c < d; simp [List.cons_lt_cons_iff])
theorem len_cs (z : Str) : (cs z).length = z.length := by simp [Str.length]
/-- a plain text -/
def spS (f : Str → Bool) : Sp := PSp (fun _ (z : Str) vs _ => vs = [.str z] ∧ z.length ≤ 90000) (fun z => pEq (.bl (f z)))
/-- a tuple of ints -/
def spTI (K : PySem.W.Frag) (f : List Int → Bool) : Sp := PSp (fun _ (z : List Int) vs B => (∃ x, vs = [x] ∧ pMapT K num z x B) ∧ z.length ≤ 90000) (fun z => pEq (.bl (f z)))
section
variable {P : Program} {w : World} {K : PySem.W.Frag} {mg : Str → Option Value} {base : Heap}
theorem sc_is_word : FnScope ["value", "sign"] ["value"] d_is_word.scope := ⟨rfl, rfl, rfl, by decide +kernel, rfl, by decide +kernel, by decide +kernel⟩
theorem fn_is_word (T : Tz K mg) : Fn P w K mg base 1 "is_word" (spS isWord) := by
  obtain ⟨_, g_LETTERS⟩ := T.t_LETTERS
  refine fn_of T.h_is_word T.g_is_word rfl sc_is_word (fun _ _ _ _ _ _ us hl => match us, hl with | [_], _ => rfl) (fun vs H Q E h => ?_) (BodyOk0.ok fun cdv A outer s H vs Q E hr h => ?_)
  · obtain ⟨_, _, _, _, p, _⟩ := h
    obtain ⟨rfl, _⟩ := p
    rfl
  refine ⟨_, pss_one (ps_ret (pe_and (pe_callB call_isi (by rfl) T.b_isinstance boot_isinstance (pa_cons (pv 0) (pa_cons (pe_bltn (v := .ty "str") (by rfl) T.b_str boot_str rfl) pa_nil))) (pe_one (pe_callB (cr_all rfl) (by rfl) T.b_all boot_all (pa_cons (pe_lc (own := [("sign", 1)]) (g := gName 1) (tt := tYes) (by rfl) sc_is_word.nd (pi_str (pv 0)) (blkOk_by (N := ["value", "sign"]) (sc := d_is_word.scope) (own := [("sign", 1)]) (by decide +kernel)) (fun _ _ _ _ _ => (pg_name (i := 1) sc_is_word.nd rfl (Or.inl rfl))) (fun _ _ _ _ _ => pts_nil) (fun _ _ _ _ _ => (pe_cmpR op_in_sign (pv 1) (pe_glob (v := .str "abcdefghijklmnopqrstuvwxyz") (by rfl) g_LETTERS ⟨_, rfl⟩) (by rfl)))) pa_nil))))), h.body (N := ["value", "sign"]) fun D a B p => ?_⟩
  · obtain ⟨rfl, hz⟩ := p
    have e1 : isTy "str" (.str a) = true := isTy_str _
    refine es_ret ((ev_andT (c := isWord a) ((ev_isi (ev_varE rfl) (fun _ _ => ev_c) (.ty _) (isI_of rfl kit4_str)).to (by rw [e1])) fun B2 s2 => ?_).to (by rfl))
    refine ev_all (as := cs a) (f := fun c => decide (c ∈ cs lowers)) (ev_lc1 (el_str (ev_varE rfl)) (by rw [len_cs]; omega) (fun c x B3 _ _ hx => ?_) (fun _ _ _ _ _ h => h))
    obtain rfl : x = _ := hx
    exact ev_inSign (ev_varE rfl) fun _ _ => ev_c
theorem sc_is_row : FnScope ["value", "sign"] ["value"] d_is_row.scope := ⟨rfl, rfl, rfl, by decide +kernel, rfl, by decide +kernel, by decide +kernel⟩
theorem fn_is_row (T : Tz K mg) : Fn P w K mg base 1 "is_row" (spS isRow) := by
  obtain ⟨_, g_LETTERS⟩ := T.t_LETTERS
  obtain ⟨_, g_CAPITALS⟩ := T.t_CAPITALS
  refine fn_of T.h_is_row T.g_is_row rfl sc_is_row (fun _ _ _ _ _ _ us hl => match us, hl with | [_], _ => rfl) (fun vs H Q E h => ?_) (BodyOk0.ok fun cdv A outer s H vs Q E hr h => ?_)
  · obtain ⟨_, _, _, _, p, _⟩ := h
    obtain ⟨rfl, _⟩ := p
    rfl
  refine ⟨_, pss_one (ps_ret (pe_and (pe_callB call_isi (by rfl) T.b_isinstance boot_isinstance (pa_cons (pv 0) (pa_cons (pe_bltn (v := .ty "str") (by rfl) T.b_str boot_str rfl) pa_nil))) (pe_one (pe_callB (cr_all rfl) (by rfl) T.b_all boot_all (pa_cons (pe_lc (own := [("sign", 1)]) (g := gName 1) (tt := tYes) (by rfl) sc_is_row.nd (pi_str (pv 0)) (blkOk_by (N := ["value", "sign"]) (sc := d_is_row.scope) (own := [("sign", 1)]) (by decide +kernel)) (fun _ _ _ _ _ => (pg_name (i := 1) sc_is_row.nd rfl (Or.inl rfl))) (fun _ _ _ _ _ => pts_nil) (fun _ _ _ _ _ => (pe_or (pe_cmpR op_in_sign (pv 1) (pe_glob (v := .str "abcdefghijklmnopqrstuvwxyz") (by rfl) g_LETTERS ⟨_, rfl⟩) (by rfl)) (pe_one (pe_cmpR op_in_sign (pv 1) (pe_glob (v := .str "ABCDEFGHIJKLMNOPQRSTUVWXYZ") (by rfl) g_CAPITALS ⟨_, rfl⟩) (by rfl)))))) pa_nil))))), h.body (N := ["value", "sign"]) fun D a B p => ?_⟩
  · obtain ⟨rfl, hz⟩ := p
    have e1 : isTy "str" (.str a) = true := isTy_str _
    refine es_ret ((ev_andT (c := isRow a) ((ev_isi (ev_varE rfl) (fun _ _ => ev_c) (.ty _) (isI_of rfl kit4_str)).to (by rw [e1])) fun B2 s2 => ?_).to (by rfl))
    refine ev_all (as := cs a) (f := fun c => decide (c ∈ cs lowers) || decide (c ∈ cs uppers)) (ev_lc1 (el_str (ev_varE rfl)) (by rw [len_cs]; omega) (fun c x B3 _ _ hx => ?_) (fun _ _ _ _ _ h => h))
    obtain rfl : x = _ := hx
    exact ev_orV (ev_inSign (ev_varE rfl) fun _ _ => ev_c) fun _ _ _ => ev_inSign (ev_varE rfl) fun _ _ => ev_c
theorem sc_is_ascending : FnScope ["items", "one", "other"] ["items"] d_is_ascending.scope := ⟨rfl, rfl, rfl, by decide +kernel, rfl, by decide +kernel, by decide +kernel⟩
theorem fn_is_ascendingS (T : Tz K mg) : Fn P w K mg base 1 "is_ascending" (spS fun z => asc (cs z)) := by
  refine fn_of T.h_is_ascending T.g_is_ascending rfl sc_is_ascending (fun _ _ _ _ _ _ us hl => match us, hl with | [_], _ => rfl) (fun vs H Q E h => ?_) (BodyOk0.ok fun cdv A outer s H vs Q E hr h => ?_)
  · obtain ⟨_, _, _, _, p, _⟩ := h
    obtain ⟨rfl, _⟩ := p
    rfl
  refine ⟨_, pss_one (ps_ret (pe_callB (cr_all rfl) (by rfl) T.b_all boot_all (pa_cons (pe_lc (own := [("one", 1), ("other", 2)]) (g := gTup _ 2 (gCons (gName 1) (gCons (gName 2) gNil))) (tt := tYes) (by rfl) sc_is_ascending.nd (pi_zipS (by rfl) T.b_zip (pa_cons (pv 0) (pa_cons (pe_slice sl_str (pv 0) (po_some pe_int) po_none) pa_nil))) (blkOk_by (N := ["items", "one", "other"]) (sc := d_is_ascending.scope) (own := [("one", 1), ("other", 2)]) (by decide +kernel)) (fun _ _ _ _ _ => (pg_tup (by rfl) (pgs_cons (pg_name (i := 1) sc_is_ascending.nd rfl (Or.inl rfl)) (pgs_cons (pg_name (i := 2) sc_is_ascending.nd rfl (Or.inl rfl)) pgs_nil)))) (fun _ _ _ _ _ => pts_nil) (fun _ _ _ _ _ => (pe_cmpR op_lt_str (pv 1) (pv 2) (nomark _)))) pa_nil))), h.body (N := ["items", "one", "other"]) fun D a B p => ?_⟩
  · obtain ⟨rfl, hz⟩ := p
    refine es_ret (ev_all (as := (cs a).zip (cs a).tail) (f := fun p => decide (p.1 < p.2)) (ev_lcL (R := fun p => pPr (sgn p.1) (sgn p.2)) ?_ ?_ fun c x B3 _ _ hx => ?_))
    · have := el_zipS (x := a) (y := ⟨(cs a).tail.toArray⟩) (ea_consE (D := D) (B := B) (te := tVar 0) (σ := start ["items", "one", "other"] [.str a]) (ev_varE rfl) fun B2 s2 => ea_oneE (te := tSl rSlS (tVar 0) (tPart (tC (.int 1))) tNoPart) ((ev_slS (ev_varE rfl) (fun _ _ => eo_some ev_c) (fun _ _ => eo_none) (Nat.le_trans hz (by decide))).to (by rw [cutS1])))
      exact this
    · rw [List.length_zip]; have := len_cs a; omega
    · obtain ⟨x1, x2, h1, h2, hs⟩ := sets_pair hx (D := D) (K := K) (i := 1) (j := 2) (σ := wipe (start ["items", "one", "other"] [.str a]) [1, 2])
      refine ⟨_, by rfl, hs, fun B4 s4 => ?_⟩
      obtain rfl : x1 = _ := h1
      obtain rfl : x2 = _ := h2
      refine (ev_opE (x := .str ⟨#[c.1]⟩) (y := .str ⟨#[c.2]⟩) (ev_varE rfl) (fun _ _ => ev_varE rfl) fun _ _ => EvV.nowE fun _ _ _ q => ⟨_, _, rfl, rfl, q⟩).to ?_
      rw [lt_sgn]
theorem fn_is_ascendingI (T : Tz K mg) : Fn P w K mg base 1 "is_ascending" (spTI K ascI) := by
  refine fn_of T.h_is_ascending T.g_is_ascending rfl sc_is_ascending (fun _ _ _ _ _ _ us hl => match us, hl with | [_], _ => rfl) (fun vs H Q E h => ?_) (BodyOk0.ok fun cdv A outer s H vs Q E hr h => ?_)
  · obtain ⟨_, _, _, _, p, _⟩ := h
    obtain ⟨⟨_, rfl, _⟩, _⟩ := p
    rfl
  refine ⟨_, pss_one (ps_ret (pe_callB (cr_all rfl) (by rfl) T.b_all boot_all (pa_cons (pe_lc (own := [("one", 1), ("other", 2)]) (g := gTup _ 2 (gCons (gName 1) (gCons (gName 2) gNil))) (tt := tYes) (by rfl) sc_is_ascending.nd (RZ.pi_zipA (by rfl) T.b_zip (pa_cons (pv 0) (pa_cons (pe_slice sl_tupA (pv 0) (po_some pe_int) po_none) pa_nil))) (blkOk_by (N := ["items", "one", "other"]) (sc := d_is_ascending.scope) (own := [("one", 1), ("other", 2)]) (by decide +kernel)) (fun _ _ _ _ _ => (pg_tup (by rfl) (pgs_cons (pg_name (i := 1) sc_is_ascending.nd rfl (Or.inl rfl)) (pgs_cons (pg_name (i := 2) sc_is_ascending.nd rfl (Or.inl rfl)) pgs_nil)))) (fun _ _ _ _ _ => pts_nil) (fun _ _ _ _ _ => (pe_cmpR op_lt (pv 1) (pv 2) (nomark _)))) pa_nil))), h.body (N := ["items", "one", "other"]) fun D a B p => ?_⟩
  · obtain ⟨⟨x, rfl, hx⟩, hz⟩ := p
    refine es_ret (ev_all (as := a.zip a.tail) (f := fun p => decide (p.1 < p.2)) (ev_lcL (R := fun p => pPr (num p.1) (num p.2)) ?_ ?_ fun c y B3 _ _ hy => ?_))
    · refine el_zipT (R := num) (R' := num) ((ea_cons (P := pMapT K num a) (ev_var rfl hx) fun B2 s2 => ea_one (P := pMapT K num a.tail) ((ev_slT (as := a) (ev_var rfl (Mo.mo s2 hx)) (fun _ _ => eo_some ev_c) (fun _ _ => eo_none)).imp fun v B3 _ h => by rw [← cut1]; exact h)).imp fun vs B4 _ h => ?_)
      obtain ⟨v, r, rfl, hv, ⟨u, rfl, hu⟩⟩ := h
      exact ⟨v, u, rfl, hv, hu⟩
    · rw [List.length_zip]; omega
    · obtain ⟨x1, x2, h1, h2, hs⟩ := sets_pair hy (D := D) (K := K) (i := 1) (j := 2) (σ := wipe (start ["items", "one", "other"] [x]) [1, 2])
      refine ⟨_, by rfl, hs, fun B4 s4 => ?_⟩
      obtain rfl : x1 = _ := h1
      obtain rfl : x2 = _ := h2
      exact ev_I0 (ev_varE rfl) fun _ _ => ev_varE rfl
theorem sc_is_letters : FnScope ["value"] ["value"] d_is_letters.scope := ⟨rfl, rfl, rfl, by decide +kernel, rfl, by decide +kernel, by decide +kernel⟩
theorem fn_is_letters (T : Tz K mg) : Fn P w K mg base 2 "is_letters" (spS isLetters) := by
  obtain ⟨_, g_MAX_LETTERS⟩ := T.i_MAX_LETTERS
  refine fn_of T.h_is_letters T.g_is_letters rfl sc_is_letters (fun _ _ _ _ _ _ us hl => match us, hl with | [_], _ => rfl) (fun vs H Q E h => ?_) (BodyOk0.ok fun cdv A outer s H vs Q E hr h => ?_)
  · obtain ⟨_, _, _, _, p, _⟩ := h
    obtain ⟨rfl, _⟩ := p
    rfl
  refine ⟨_, pss_one (ps_ret (pe_and (pe_fn (fn_is_word T) (hr.mono (by decide)) passL (pa_cons (pv 0) pa_nil)) (pe_and (pe_chain op_le op_le pe_int (pe_callB call_len (by rfl) T.b_len boot_len (pa_cons (pv 0) pa_nil)) (pe_glob (v := .int 3) (by rfl) g_MAX_LETTERS ⟨_, rfl⟩)) (pe_one (pe_fn (fn_is_ascendingS T) (hr.mono (by decide)) passL (pa_cons (pv 0) pa_nil)))))), h.body (N := ["value"]) fun D a B p => ?_⟩
  · obtain ⟨rfl, hz⟩ := p
    refine es_ret (ev_andV (b := isWord a) (c := (decide (1 ≤ a.length) && decide (a.length ≤ 3)) && asc (cs a)) (ev_fnE (ea_oneE (ev_varE rfl)) fun B2 s2 => EvV.sp (Pre := fun _ (z : Str) vs _ => vs = [.str z] ∧ z.length ≤ 90000) (Post := fun z => pEq (.bl (isWord z))) (a := a) ⟨rfl, hz⟩) fun _ B2 s2 => ?_)
    refine ev_andV (b := decide (1 ≤ a.length) && decide (a.length ≤ 3)) (c := asc (cs a)) ?_ fun _ B3 s3 => ev_fnE (ea_oneE (ev_varE rfl)) fun B2 s2 => EvV.sp (Pre := fun _ (z : Str) vs _ => vs = [.str z] ∧ z.length ≤ 90000) (Post := fun z => pEq (.bl (asc (cs z)))) (a := a) ⟨rfl, hz⟩
    refine (ev_chain (b := decide (1 ≤ a.length)) (c := decide (a.length ≤ 3)) ev_c (fun B3 s3 => ev_lenS (ev_varE rfl) (by omega)) (fun B3 s3 => (EvV.nowE fun _ _ _ q => ⟨1, (a.length : Int), rfl, rfl, q⟩).imp fun v B h hv => ?_) (fun _ _ _ => ev_c) fun _ B3 s3 => (EvV.nowE fun _ _ _ q => ⟨(a.length : Int), 3, rfl, rfl, q⟩).imp fun v B h hv => ?_)
    · rw [show v = _ from hv]
      exact congrArg V.bl (decide_eq_decide.mpr (by omega))
    · rw [show v = _ from hv]
      exact congrArg V.bl (decide_eq_decide.mpr (by omega))
end
end CW
set_option Elab.async false
set_option linter.all false
set_option maxRecDepth 100000
set_option maxHeartbeats 1000000
/-! Own: == and != of two instances whose class has an __eq__ of its own (and no __ne__). -/
namespace CW
open PySem PySem.Spec PyProof.Rows L2
section
variable {P : Program} {w : World} {A : Around} {E : Value → Shared → Prop} {s : Shared} {K : PySem.W.Frag} {x y C C' : Addr} {ox oy : Obj} {od od' : Option Obj} {f : Addr}
/-- object.__ne__ asks the own __eq__ -/
theorem ne_body (hu : A.units < cLine) (X : K.In s.heap) (I : PySem.W.InstAt s.heap x ox C od) (hs : PySem.W.findIn K (.ref C) "__eq__" = some (some (.ref f))) (hf : PySem.W.isFn K (.ref f) = true) {Q : PySem.Fin → Shared → Prop}
    (h : wpAny (model P w) A (call (.ref f) [.ref x, .ref y]) (fun v s' => ∃ b, v = .bool b ∧ Q (.done (.ret (.bool (!b)))) s') E s) : wpAny (model P w) A (Builtin.«object.__ne__» ⟨[.ref x, .ref y], []⟩) Q E s := by
  unfold Builtin.«object.__ne__»
  repeat (first
    | with_reducible refine wpAny_cRoomFor hu ?_
    | (refine wpAny_bind (m := callSpecialIfBound? (.ref x) (Str.ofString "__eq__") [.ref y]) (PySem.W.ifBound_K X I hs hf (wpAny_mono h (fun v s' hv => ?_) fun _ _ z => z)))
    | wp_step)
  obtain ⟨b, rfl, hq⟩ := hv
  repeat (first | exact hq | exact wpAny_pure hq | exact wpAny_truthy_bool hq | (refine wpAny_bind (m := truthy (.bool _)) (wpAny_truthy_bool ?_)) | wp_step)
theorem ne_bound (X : K.In s.heap) (I : PySem.W.InstAt s.heap x ox C od) (hn : PySem.W.findIn K (.ref C) "__ne__" = some (some (.builtin "object.__ne__"))) {args : List Value} {Q : Option Value → Shared → Prop}
    (h : wpAny (model P w) A (call (.builtin "object.__ne__") (.ref x :: args)) (fun v => Q (some v)) E s) : wpAny (model P w) A (callSpecialIfBound? (.ref x) "__ne__" args) Q E s := by
  simp only [callSpecialIfBound?, bindSpecialIfBound?]
  refine wpAny_holding (wpAny_bind (wpAny_bind (wpAny_bind (I.type.here ((PySem.W.looks_findIn X hn).here (wpAny_bind (wpAny_askSetting (wpAny_ite ?_))))))))
  have go : wpAny (model P w) A (call (.builtin "object.__ne__") ([.ref x] ++ args) >>= fun v => pure (some v)) Q E s := wpAny_bind (wpAny_mono h (fun v s' z => wpAny_pure z) fun _ _ z => z)
  split
  · exact wpAny_bind (wpAny_of_eq (F.cmp_object.ne.bind _) (wpAny_pure (by exact go)))
  · exact wpAny_tryCatch (wpAny_bind (wpAny_of_eq (F.cmp_object.ne.bind _) (wpAny_pure (by exact go))))
theorem ne_K (hu : A.units + 1 < cLine) (X : K.In s.heap) (I : PySem.W.InstAt s.heap x ox C od) (hy : PySem.W.Looks (model P w) s.heap (typeOf (.ref y)) (.ref C)) (hs : PySem.W.findIn K (.ref C) "__eq__" = some (some (.ref f))) (hf : PySem.W.isFn K (.ref f) = true)
    (hn : PySem.W.findIn K (.ref C) "__ne__" = some (some (.builtin "object.__ne__"))) (hm : PySem.W.mroIn K C (.type "object") = some true) {Q : Value → Shared → Prop}
    (h : wpAny (model P w) A.in1 (call (.ref f) [.ref x, .ref y]) (fun v s' => ∃ b, v = .bool b ∧ Q (.bool (!b)) s') E s) : wpAny (model P w) A (compareOp .NotEq (.ref x) (.ref y)) Q E s := by
  have one : wpAny (model P w) A (tryCompare (.ref x) "__ne__" (.ref y)) (fun r s' => ∃ b, r = some (.bool b) ∧ Q (.bool b) s') E s := by
    unfold tryCompare
    refine wpAny_bind (ne_bound X I hn (wpAny_call (codeAny_call_builtin F.cmp_object.ne.plain F.cmpEntry_ne (PySem.W.check_slot F.cmpKind_ne F.cmpSplit_ne (I.type.andThen (PySem.W.looks_mroIn X hm)) (F.cmpArgs_ne _ _)
      (ne_body (A := A.in1) hu X I hs hf (wpAny_mono h (fun v s' hv => ?_) fun _ _ z => z))))))
    obtain ⟨b, rfl, hq⟩ := hv
    exact ⟨b, rfl, by first | exact wpAny_pure ⟨!b, rfl, hq⟩ | exact wpAny_pure (wpAny_pure ⟨!b, rfl, hq⟩) | exact ⟨!b, rfl, hq⟩⟩
  show wpAny (model P w) A (richCompare .NotEq (.ref x) (.ref y)) Q E s
  unfold richCompare
  simp only [oneThing_ref]
  refine wpAny_holding (wpAny_bind (wpAny_cRoomFor (by omega) ?_))
  rw [cmpInfo_NotEq]
  dsimp only
  refine wpAny_bind (I.type.here (wpAny_bind (hy.here ?_)))
  try rw [show (Value.ref C != Value.ref C) = false from by simp]
  try simp only [Bool.false_eq_true, if_false]
  try refine wpAny_bind (wpAny_pure ?_)
  try simp only [Bool.false_eq_true, if_false]
  refine wpAny_bind (wpAny_mono one (fun r s' z => ?_) fun _ _ z => z)
  obtain ⟨b, rfl, hq⟩ := z
  first | exact wpAny_pure hq | exact wpAny_pure (wpAny_pure hq)
end
/-- x == y (x != y), by the own __eq__, which answers a bool -/
def rOwnI (C : Addr) (neg : Bool) (sp : Sp) (E : XK) : R2 := fun x y H Q => ∃ a b dx dy fs gs, x = .ref a ∧ y = .ref b ∧ H a = some (.ins C dx fs) ∧ H b = some (.ins C dy gs) ∧ sp [x, y] H (fun z H' => ∃ k, z = .bl k ∧ Q (.bl (if neg then !k else k)) H') E
section
variable {X : Cx} {CX : CXT} {n : Nat} {C g : Addr} {sp : Sp} {E : XK}
theorem op_ownEq (hs : PySem.W.findIn X.K (.ref C) "__eq__" = some (some (.ref g))) (hf : PySem.W.isFn X.K (.ref g) = true) (F : FnR X.prog X.w X.K X.mg X.base CX n g sp) (hr : Room n X.A) (hx : Passes CX X E) : OpR X (compareOp .Eq) (rOwnI C false sp E) := by
  intro pins s σ H x y v u Q I rx ry h
  obtain ⟨a, b, dx, dy, fs, gs, rfl, rfl, ha, hb, q⟩ := h
  cases rx
  cases ry
  obtain ⟨mA, J, _⟩ := ins_get I.hok ha
  obtain ⟨mB, J', _⟩ := ins_get I.hok hb
  obtain ⟨od, J, _⟩ := J.look
  obtain ⟨od', J', _⟩ := J'.look
  obtain ⟨m, hF⟩ := I.fr
  show wpAny _ _ (richCompare .Eq (.ref a) (.ref b)) _ _ _
  refine PySem.W.cmp_K (op := .Eq) (tb := .ref C) hr.units0 hF I.ok.mod.kin J J'.type (by simp [PySem.W.notFirst]) hs hf ?_
  refine wpAny_mono (wpAny_call (run_fnR (us := [.ref a, .ref b]) (vs := [.ref a, .ref b]) F hr hx I (.cons rfl (.cons rfl .nil)) q)) (fun w s' z => ?_) fun _ _ e => e
  obtain ⟨z', H', I', rz, k, ek, qz⟩ := z
  subst ek
  cases rz
  exact ⟨.bl k, H', I', rfl, qz⟩
theorem op_ownNe (hs : PySem.W.findIn X.K (.ref C) "__eq__" = some (some (.ref g))) (hf : PySem.W.isFn X.K (.ref g) = true) (hn : PySem.W.findIn X.K (.ref C) "__ne__" = some (some (.builtin "object.__ne__"))) (hm : PySem.W.mroIn X.K C (.type "object") = some true)
    (F : FnR X.prog X.w X.K X.mg X.base CX n g sp) (hr : Room (n + 1) X.A) (hx : Passes CX X E) : OpR X (compareOp .NotEq) (rOwnI C true sp E) := by
  intro pins s σ H x y v u Q I rx ry h
  obtain ⟨a, b, dx, dy, fs, gs, rfl, rfl, ha, hb, q⟩ := h
  cases rx
  cases ry
  obtain ⟨mA, J, _⟩ := ins_get I.hok ha
  obtain ⟨mB, J', _⟩ := ins_get I.hok hb
  obtain ⟨od, J, _⟩ := J.look
  obtain ⟨od', J', _⟩ := J'.look
  have hu := hr.units
  refine ne_K (by omega) I.kIn J J'.type hs hf hn hm ?_
  refine wpAny_mono (wpAny_call (SlX.run_at (A := X.A.in1) (us := [.ref a, .ref b]) (ws := [.ref a, .ref b]) F hr.in1 I.env0.in1 hx I (.cons rfl (.cons rfl .nil)) q)) (fun w s' z => ?_) fun _ _ e => e
  obtain ⟨z', H', I', rz, k, ek, qz⟩ := z
  subst ek
  cases rz
  exact ⟨k, rfl, .bl (!k), H', I', rfl, qz⟩
end
section
variable {D : Dm} {σ : L2.St} {B : Hp} {ta tb : TE} {P1 P2 : PV} {C : Addr} {neg : Bool} {sp : Sp} {E : XK} {k : Bool}
theorem ev_own [Mo P1] (ha : EvR D ta σ B P1) (hb : ∀ B2, Same B B2 → EvR D tb σ B2 P2) (h1 : ∀ x H, P1 x H → ∃ a dx fs, x = .ref a ∧ H a = some (.ins C dx fs)) (h2 : ∀ x H, P2 x H → ∃ a dx fs, x = .ref a ∧ H a = some (.ins C dx fs))
    (hs : ∀ x y B2, Same B B2 → P1 x B2 → P2 y B2 → EvV D (fun H Q => sp [x, y] H Q E) B2 (pEq (.bl k))) : EvR D (tOp (rOwnI C neg sp E) ta tb) σ B (pEq (.bl (if neg then !k else k))) :=
  ev_op ha hb fun x y B2 e p1 p2 => fun H a Q q => by
    obtain ⟨p, dx, fs, e1, o1⟩ := h1 x B2 p1
    obtain ⟨r, dy, gs, e2, o2⟩ := h2 y B2 p2
    exact ⟨p, r, dx, dy, fs, gs, e1, e2, a.sm _ _ o1, a.sm _ _ o2, hs x y B2 e p1 p2 H a _ fun v B3 H3 e3 hv => ⟨k, hv, q _ B3 H3 e3 rfl⟩⟩
end
end CW
set_option Elab.async false
set_option linter.all false
set_option maxRecDepth 100000
set_option maxHeartbeats 1000000
/-! Mks: instances in the making: by fields, by slots. -/
namespace CW
open PySem PySem.Spec PyProof.Rows L2
/-- the new thing at x (its dict at dx) is hidden from the base -/
structure Mkg (D : Dm) (B H : Hp) (x dx : Addr) (o d : HO) : Prop where
  at_ : At D B H
  ob : H x = some o
  dc : H dx = some d
  ne : dx ≠ x
  bx : B x = none
  bd : B dx = none
  nx : ¬ D.ds x
  nd : ¬ D.ds dx
/-- from (B0, H0) to (B, H), but for x and dx -/
structure Mkd (D : Dm) (x dx : Addr) (B0 H0 B H : Hp) : Prop where
  bs : Same B0 B
  kx : ∀ b o, H0 b = some o → ¬ D.ds b → b ≠ x → b ≠ dx → H b = some o
  fr : ∀ b, H0 b ≠ none → B0 b = none → b ≠ x → b ≠ dx → B b = none
section
variable {D : Dm} {K : PySem.W.Frag} {σ : L2.St} {B B0 B2 H H0 H2 : Hp} {x dx C : Addr} {o o' d d' : HO} {te ta : TE} {P : PV} {f : Str} {fs : List (Str × V)} {u : TS} {Ds : Ends}
theorem Mkd.refl : Mkd D x dx B H B H := ⟨Same.refl B, fun _ _ h _ _ _ => h, fun _ _ h _ _ => h⟩
theorem Mkd.stp (m : Mkd D x dx B0 H0 B H) (i : D.inv H) (e : Stp D B H B2 H2) : Mkd D x dx B0 H0 B2 H2 := ⟨m.bs.trans e.bs, fun b o h1 h2 h3 h4 => e.x b o (m.kx b o h1 h2 h3 h4) h2, fun b h1 h2 h3 h4 => by
  refine e.fr b (fun z => ?_) (m.fr b h1 h2 h3 h4)
  by_cases q : D.ds b
  · exact D.there i q z
  · cases w : H0 b with
    | none => exact h1 w
    | some o => rw [m.kx b o w q h3 h4] at z; cases z⟩
theorem Mkg.stp (m : Mkg D B H x dx o d) (e : Stp D B H B2 H2) : Mkg D B2 H2 x dx o d :=
  ⟨e.at2, e.x x o m.ob m.nx, e.x dx d m.dc m.nd, m.ne, e.fr x (by rw [m.ob]; exact Option.some_ne_none _) m.bx, e.fr dx (by rw [m.dc]; exact Option.some_ne_none _) m.bd, m.nx, m.nd⟩
/-- the thing itself changes -/
theorem Mkg.put (m : Mkg D B H x dx o d) : Mkg D B (upd H x o') x dx o' d :=
  ⟨m.at_.chg m.bx m.nx, upd_same, by rw [upd_ne m.ne]; exact m.dc, m.ne, m.bx, m.bd, m.nx, m.nd⟩
theorem Mkg.put2 (m : Mkg D B H x dx o d) : Mkg D B (upd (upd H dx d') x o') x dx o' d' :=
  ⟨(m.at_.chg m.bd m.nd).chg m.bx m.nx, upd_same, by rw [upd_ne m.ne, upd_same], m.ne, m.bx, m.bd, m.nx, m.nd⟩
theorem Mkd.put (m : Mkd D x dx B0 H0 B H) : Mkd D x dx B0 H0 B (upd H x o') := ⟨m.bs, fun b o h1 h2 h3 h4 => by rw [upd_ne h3]; exact m.kx b o h1 h2 h3 h4, m.fr⟩
theorem Mkd.put2 (m : Mkd D x dx B0 H0 B H) : Mkd D x dx B0 H0 B (upd (upd H dx d') x o') := ⟨m.bs, fun b o h1 h2 h3 h4 => by rw [upd_ne h3, upd_ne h4]; exact m.kx b o h1 h2 h3 h4, m.fr⟩
/-- the new thing, laid bare -/
theorem Mkg.new (a : At D B H) (hx : H x = none) (hd : H dx = none) (hn : dx ≠ x) : Mkg D B (upd (upd H dx d) x o) x dx o d := by
  have e1 : Stp D B H B (upd H dx d) := Stp.hid a hd
  have hx' : upd H dx d x = none := by rw [upd_ne (Ne.symm hn)]; exact hx
  have e2 : Stp D B (upd H dx d) B (upd (upd H dx d) x o) := Stp.hid e1.at2 hx'
  exact ⟨e2.at2, upd_same, by rw [upd_ne hn, upd_same], hn, a.sm.free hx, a.sm.free hd, fun z => D.there a.inv z hx, fun z => D.there a.inv z hd⟩
/-- and at the end the base comes to know it -/
theorem Mkg.done (a : At D B0 H0) (hx : H0 x = none) (hd : H0 dx = none) (md : Mkd D x dx B0 (upd (upd H0 dx d') x o') B H) (m : Mkg D B H x dx o d) : Stp D B0 H0 (upd (upd B dx d) x o) H := by
  have s1 : Same B (upd B dx d) := Same.new m.bd
  have n1 : upd B dx d x = none := by rw [upd_ne (Ne.symm m.ne)]; exact m.bx
  refine ⟨(md.bs.trans s1).trans (Same.new n1), (m.at_.know m.dc m.bd m.nd).know m.ob n1 m.nx, fun b u e h => ?_, fun b h1 h2 => ?_⟩
  · have b1 : b ≠ x := ne_of_none e hx
    have b2 : b ≠ dx := ne_of_none e hd
    exact md.kx b u (by rw [upd_ne b1, upd_ne b2]; exact e) h b1 b2
  · have b1 : b ≠ x := fun z => h1 (by rw [z]; exact hx)
    have b2 : b ≠ dx := fun z => h1 (by rw [z]; exact hd)
    rw [upd_ne b1, upd_ne b2]
    exact md.fr b (by rw [upd_ne b1, upd_ne b2]; exact h1) h2 b1 b2
/-! ### the promise of an __init__ -/
/-- o: what stands at x at the start; J: what at the end -/
def ISp {α : Type} (o d : Addr → Addr → HO) (Pre : α → List V → Hp → Prop) (Post : α → Addr → Addr → HO → HO → Hp → Prop) : Sp := fun vs H Q _ => ∃ (D : Dm) (B : Hp) (x dx : Addr) (a : α) (ws : List V), vs = .ref x :: ws ∧ Mkg D B H x dx (o x dx) (d x dx) ∧ Pre a ws B ∧
  ∀ B2 H2 o2 d2, Mkg D B2 H2 x dx o2 d2 → Mkd D x dx B H B2 H2 → Post a x dx o2 d2 B2 → Q .non H2
def insO (C : Addr) : Addr → Addr → HO := fun _ dx => .ins C dx []
def ownO : Addr → Addr → HO := fun x _ => .own x
theorem ev_make {α : Type} {C : Addr} {Pre : α → List V → Hp → Prop} {Post : α → Addr → Addr → HO → HO → Hp → Prop} {E : XK} {t : TA} {R : List V → Hp → Prop} {a : α} {P : PV} (h : EvA D t σ B R) (hp : ∀ vs B2, Same B B2 → R vs B2 → Pre a vs B2)
    (hq : ∀ x dx o d B2, B2 x = none → B2 dx = none → dx ≠ x → Post a x dx o d B2 → P (.ref x) (upd (upd B2 dx d) x o)) : EvR D (StX.tMakeR C (ISp (insO C) ownO Pre Post) E t) σ B P := fun H at_ Q q =>
  h H at_ _ fun vs B2 H2 e2 r x dx hx hd hn => ⟨D, B2, x, dx, a, vs, rfl, Mkg.new e2.at2 hx hd hn, hp vs B2 e2.bs r, fun B3 H3 o3 d3 m md po => ⟨rfl, q _ _ H3 (e2.trans (Mkg.done e2.at2 hx hd md m)) (hq x dx o3 d3 B3 m.bx m.bd m.ne po)⟩⟩
theorem ev_makeX {α : Type} {C : Addr} {c : α → Prop} {Pre : α → List V → Hp → Prop} {Post : α → Addr → Addr → HO → HO → Hp → Prop} {E : XK} {t : TA} {R : List V → Hp → Prop} {P : PV} (h : EvA D t σ B R) (hp : ∀ vs B2, Same B B2 → R vs B2 → ∃ a, c a ∧ Pre a vs B2)
    (hq : ∀ a x dx o d B2, c a → B2 x = none → B2 dx = none → dx ≠ x → Post a x dx o d B2 → P (.ref x) (upd (upd B2 dx d) x o)) : EvR D (StX.tMakeR C (ISp (insO C) ownO Pre Post) E t) σ B P := fun H at_ Q q =>
  h H at_ _ fun vs B2 H2 e2 r x dx hx hd hn => by
    obtain ⟨a, ca, pa⟩ := hp vs B2 e2.bs r
    exact ⟨D, B2, x, dx, a, vs, rfl, Mkg.new e2.at2 hx hd hn, pa, fun B3 H3 o3 d3 m md po => ⟨rfl, q _ _ H3 (e2.trans (Mkg.done e2.at2 hx hd md m)) (hq a x dx o3 d3 B3 ca m.bx m.bd m.ne po)⟩⟩
/-! ### stores in an __init__ -/
/-- self.f = e; the rest -/
theorem st_fld (c : Cls K C) (na : NoAttr K C f) (hfs : fs.length < 1000) (m : Mkg D B H x dx (.ins C dx fs) d) (h : EvR D te σ B P) (hs : ta = tVar 0) (h0 : σ[0]? = some (some (.ref x)))
    (k : ∀ v B2 H2, Same B B2 → Mkg D B2 H2 x dx (.ins C dx (putF f v fs)) d → (∀ B0 H0, Mkd D x dx B0 H0 B H → Mkd D x dx B0 H0 B2 H2) → P v B2 → u Ds σ H2) : tSeq (sFld K ta te f) u Ds σ H := by
  subst hs
  refine h H m.at_ _ fun v B2 H2 e p => ⟨.ref x, h0, x, C, dx, fs, rfl, e.x x _ m.ob m.nx, c, na, hfs, k v B2 _ e.bs (m.stp e).put (fun B0 H0 md => (md.stp m.at_.inv e).put) p⟩
/-- self.f = e, the last -/
theorem st_fldL (c : Cls K C) (na : NoAttr K C f) (hfs : fs.length < 1000) (m : Mkg D B H x dx (.ins C dx fs) d) (h : EvR D te σ B P) (hs : ta = tVar 0) (h0 : σ[0]? = some (some (.ref x)))
    (k : ∀ v B2 H2, Same B B2 → Mkg D B2 H2 x dx (.ins C dx (putF f v fs)) d → (∀ B0 H0, Mkd D x dx B0 H0 B H → Mkd D x dx B0 H0 B2 H2) → P v B2 → Ds.nx σ H2) : sFld K ta te f Ds σ H := by
  subst hs
  refine h H m.at_ _ fun v B2 H2 e p => ⟨.ref x, h0, x, C, dx, fs, rfl, e.x x _ m.ob m.nx, c, na, hfs, k v B2 _ e.bs (m.stp e).put (fun B0 H0 md => (md.stp m.at_.inv e).put) p⟩
/-- y = e; the rest -/
theorem st_set {i : Nat} (m : Mkg D B H x dx o d) (h : EvR D te σ B P) (k : ∀ v B2 H2, Same B B2 → Mkg D B2 H2 x dx o d → (∀ B0 H0, Mkd D x dx B0 H0 B H → Mkd D x dx B0 H0 B2 H2) → P v B2 → u Ds (σ.set i (some v)) H2) : tSeq (tAsg te (gName i)) u Ds σ H :=
  h H m.at_ _ fun v B2 H2 e p => k v B2 H2 e.bs (m.stp e) (fun B0 H0 md => md.stp m.at_.inv e) p
/-! slots -/
theorem st_slot {pa : Addr} {i : Nat} {vs : List (Option V)} (c : SlX.SCls K C) (t : SlX.Slot1 K C f pa i) (m : Mkg D B H x dx o d) (ho : (o = .ins C dx [] ∧ vs = []) ∨ (o = SlX.SlO x C dx vs ∧ d = .xd [])) (h : EvR D te σ B P) (hs : ta = tVar 0) (h0 : σ[0]? = some (some (.ref x)))
    (k : ∀ v B2 H2, Same B B2 → Mkg D B2 H2 x dx (SlX.SlO x C dx (SlX.putS i v vs)) (.xd []) → (∀ B0 H0, Mkd D x dx B0 H0 B H → Mkd D x dx B0 H0 B2 H2) → P v B2 → Ds.nx σ H2) : SlX.sSl K ta te f Ds σ H := by
  subst hs
  refine h H m.at_ _ fun v B2 H2 e p => ⟨.ref x, h0, x, C, dx, pa, vs, i, rfl, ?_, c, t, k v B2 _ e.bs (m.stp e).put2 (fun B0 H0 md => (md.stp m.at_.inv e).put2) p⟩
  have q := m.stp e
  rcases ho with ⟨e1, e2⟩ | ⟨e1, e2⟩
  · exact .inl ⟨e1 ▸ q.ob, e2⟩
  · exact .inr ⟨e1 ▸ q.ob, e2 ▸ q.dc⟩
/-- e.f of a slotted instance that the base knows -/
theorem ev_slot {pa : Addr} {i : Nat} (c : SlX.SCls K C) (t : SlX.Slot1 K C f pa i) (h : EvR D te σ B (fun v H => ∃ a dx vs w, v = .ref a ∧ SlX.Slt H a C dx vs ∧ vs[i]? = some (some w) ∧ P w H)) (hm : ∀ w H1 H2, Same H1 H2 → P w H1 → P w H2) : EvR D (SlX.tSl K te f) σ B P := fun H a Q q =>
  h H a _ fun v B2 H2 e ⟨p, dx, vs, w, e1, sl, hv, pw⟩ => ⟨p, C, dx, pa, vs, i, w, e1, by
    rcases sl with ⟨h1, h2⟩ | ⟨h1, h2⟩
    · exact .inl ⟨e.at2.sm _ _ h1, h2⟩
    · exact .inr ⟨e.at2.sm _ _ h1, e.at2.sm _ _ h2⟩, c, t, hv, q w B2 H2 e pw⟩
/-- e.f of an instance that the base knows -/
theorem ev_fld (c : Cls K C) (na : NoAttr K C f) (h : EvR D te σ B (fun v H => ∃ a dx fs w, v = .ref a ∧ H a = some (.ins C dx fs) ∧ fs.lookup f = some w ∧ P w H)) : EvR D (tFld K te f) σ B P := fun H a Q q =>
  h H a _ fun v B2 H2 e ⟨p, dx, fs, w, e1, ho, hv, pw⟩ => ⟨p, C, dx, fs, w, e1, e.at2.sm _ _ ho, c, na, hv, q w B2 H2 e pw⟩
end
end CW
set_option Elab.async false
set_option linter.all false
set_option maxRecDepth 100000
set_option maxHeartbeats 2000000
/-! W3: machines: is_step, checked, Parts, Machine. -/
namespace CW
open PySem PySem.Spec PyProof.Rows L2
/-- a triple, a tuple of triples, of ints -/
def tri (K : PySem.W.Frag) (t : Tri) : PV := pSqT K ((tK t).map kV)
instance {K : PySem.W.Frag} {t : Tri} : Mo (tri K t) := ⟨fun e ⟨p, h1, h2⟩ => ⟨p, h1, Same.tup e h2⟩⟩
abbrev stp (K : PySem.W.Frag) (st : List Tri) : PV := pMapT K (tri K) st
abbrev nms_ (K : PySem.W.Frag) (en : List Int) : PV := pMapT K num en
theorem isI_tup {K : PySem.W.Frag} {H : Hp} {a : Addr} {xs : List V} (h : SqT K H a xs) : IsI K H (.ref a) (.type "tuple") true := by
  have k : PySem.W.kitOne K (.type "tuple") (.type "tuple") = some true := kit_ty (by decide +kernel)
  rcases h with (h | ⟨o, h⟩) | ⟨o, its, n, h1, h2, _⟩
  · exact ⟨_, .base (.tup h), k⟩
  · exact ⟨_, .fTuple h, k⟩
  · exact ⟨_, .kTuple h1 h2, k⟩
structure MD where
  L : Str
  n : Int
  st : List Tri
  en : List Int
structure StepOk (L : Str) (n : Int) (t : Tri) : Prop where
  a0 : 0 ≤ t.1
  a1 : t.1 ≤ n - 1
  b0 : 0 ≤ t.2.2
  b1 : t.2.2 ≤ n - 1
  s : ∃ c, t.2.1 = ⟨#[c]⟩ ∧ c ∈ cs L
structure MD.Ok (M : MD) : Prop where
  l : isLetters M.L = true
  n1 : 1 ≤ M.n
  n5 : M.n ≤ 5
  k : M.st.length ≤ 10
  s : ∀ t ∈ M.st, StepOk M.L M.n t
  sa : ascT M.st = true
  e : ∀ j ∈ M.en, 0 ≤ j ∧ j ≤ M.n - 1
  ea : ascI M.en = true
  ek : M.en.length ≤ 90000
theorem MD.Ok.len {M : MD} (h : M.Ok) : M.L.length ≤ 3 := by
  have := h.l
  unfold isLetters at this
  simp only [Bool.and_eq_true, decide_eq_true_eq] at this
  exact this.2.1.2
/-- a tuple of triples -/
def spTT (K : PySem.W.Frag) (f : List Tri → Bool) : Sp := PSp (fun _ (z : List Tri) vs B => (∃ x, vs = [x] ∧ stp K z x B) ∧ z.length ≤ 90000) (fun z => pEq (.bl (f z)))
def spStep (K : PySem.W.Frag) : Sp := PSp (fun _ (a : Tri × Str × Int) vs B => (∃ x, vs = [x, .str a.2.1, .int a.2.2] ∧ tri K a.1 x B) ∧ StepOk a.2.1 a.2.2 a.1) (fun _ => pEq (.bl true))
theorem kin_tK (t u : Tri) : kin (tK t) (tK u) = true := rfl
section
variable {P : Program} {w : World} {K : PySem.W.Frag} {mg : Str → Option Value} {base : Heap} {D : Dm} {σ : L2.St} {B : Hp} {te ta : TE}
theorem ev_intR {x : V} {l : Int} {m : Option Int} {t : TA} {E : XK} (h : EvA D t σ B (fun vs _ => vs = [x, .int l, optI m])) (hp : plain x = true) : EvR D (tFn spInt E t) σ B (pEq (.bl (isInt x l m))) :=
  ev_fnE h fun B2 s2 => EvV.sp (Pre := fun _ (a : V × Int × Option Int) vs _ => vs = [a.1, .int a.2.1, optI a.2.2] ∧ plain a.1 = true) (Post := fun a => pEq (.bl (isInt a.1 a.2.1 a.2.2))) (a := (x, l, m)) ⟨rfl, hp⟩
theorem isInt_ok {i n : Int} (h0 : 0 ≤ i) (h1 : i ≤ n) : isInt (.int i) 0 (some n) = true := by simp [isInt, h0, h1]
/-- the i-th of a triple -/
theorem ev_triA {t : Tri} (h : EvR D te σ B (tri K t)) (hi : ∀ B2, Same B B2 → EvR D ta σ B2 (pEq (.int 0))) : EvR D (tOp (rIxT K) te ta) σ B (pEq (.int t.1)) :=
  ev_op h hi fun x y B2 _ ⟨p, e1, hx⟩ ey => EvV.nowE fun H Q s q => ⟨p, _, 0, _, e1, ey, Same.tup s hx, rfl, q⟩
theorem ev_triB {t : Tri} (h : EvR D te σ B (tri K t)) (hi : ∀ B2, Same B B2 → EvR D ta σ B2 (pEq (.int 1))) : EvR D (tOp (rIxT K) te ta) σ B (pEq (.str t.2.1)) :=
  ev_op h hi fun x y B2 _ ⟨p, e1, hx⟩ ey => EvV.nowE fun H Q s q => ⟨p, _, 1, _, e1, ey, Same.tup s hx, rfl, q⟩
theorem ev_triC {t : Tri} (h : EvR D te σ B (tri K t)) (hi : ∀ B2, Same B B2 → EvR D ta σ B2 (pEq (.int 2))) : EvR D (tOp (rIxT K) te ta) σ B (pEq (.int t.2.2)) :=
  ev_op h hi fun x y B2 _ ⟨p, e1, hx⟩ ey => EvV.nowE fun H Q s q => ⟨p, _, 2, _, e1, ey, Same.tup s hx, rfl, q⟩
theorem fn_is_ascendingT (T : Tz K mg) : Fn P w K mg base 1 "is_ascending" (spTT K ascT) := by
  refine fn_of T.h_is_ascending T.g_is_ascending rfl sc_is_ascending (fun _ _ _ _ _ _ us hl => match us, hl with | [_], _ => rfl) (fun vs H Q E h => ?_) (BodyOk0.ok fun cdv A outer s H vs Q E hr h => ?_)
  · obtain ⟨_, _, _, _, p, _⟩ := h
    obtain ⟨⟨_, rfl, _⟩, _⟩ := p
    rfl
  refine ⟨_, pss_one (ps_ret (pe_callB (cr_all rfl) (by rfl) T.b_all boot_all (pa_cons (pe_lc (own := [("one", 1), ("other", 2)]) (g := gTup _ 2 (gCons (gName 1) (gCons (gName 2) gNil))) (tt := tYes) (by rfl) sc_is_ascending.nd (RZ.pi_zipA (by rfl) T.b_zip (pa_cons (pv 0) (pa_cons (pe_slice sl_tupA (pv 0) (po_some pe_int) po_none) pa_nil))) (blkOk_by (N := ["items", "one", "other"]) (sc := d_is_ascending.scope) (own := [("one", 1), ("other", 2)]) (by decide +kernel)) (fun _ _ _ _ _ => (pg_tup (by rfl) (pgs_cons (pg_name (i := 1) sc_is_ascending.nd rfl (Or.inl rfl)) (pgs_cons (pg_name (i := 2) sc_is_ascending.nd rfl (Or.inl rfl)) pgs_nil)))) (fun _ _ _ _ _ => pts_nil) (fun _ _ _ _ _ => (pe_cmpR (r := rLtK K) (op_ltK hr.units0) (pv 1) (pv 2) (nomark _)))) pa_nil))), h.body (N := ["items", "one", "other"]) fun D a B p => ?_⟩
  · obtain ⟨⟨x, rfl, hx⟩, hz⟩ := p
    refine es_ret (ev_all (as := a.zip a.tail) (f := fun p => ltT p.1 p.2) (ev_lcL (R := fun p => pPr (tri K p.1) (tri K p.2)) ?_ ?_ fun c y B3 _ _ hy => ?_))
    · refine el_zipT (R := tri K) (R' := tri K) ((ea_cons (P := stp K a) (ev_var rfl hx) fun B2 s2 => ea_one (P := stp K a.tail) ((ev_slT (as := a) (ev_var rfl (Mo.mo s2 hx)) (fun _ _ => eo_some ev_c) (fun _ _ => eo_none)).imp fun v B3 _ h => by rw [← cut1]; exact h)).imp fun vs B4 _ h => ?_)
      obtain ⟨v, r, rfl, hv, ⟨u, rfl, hu⟩⟩ := h
      exact ⟨v, u, rfl, hv, hu⟩
    · rw [List.length_zip]; omega
    · obtain ⟨x1, x2, h1, h2, hs⟩ := sets_pair hy (D := D) (K := K) (i := 1) (j := 2) (σ := wipe (start ["items", "one", "other"] [x]) [1, 2])
      refine ⟨_, by rfl, hs, fun B4 s4 => ?_⟩
      refine ev_op (P1 := tri K c.1) (P2 := tri K c.2) (ev_var rfl (Mo.mo s4 h1)) (fun B5 s5 => ev_var rfl (Mo.mo (s4.trans s5) h2)) fun x y B5 s5 ⟨p, e1, hp⟩ ⟨q, e2, hq⟩ => EvV.nowE fun H Q s k => ⟨p, q, tK c.1, tK c.2, e1, e2, Same.tup s hp, Same.tup s hq, rfl, ?_⟩
      rw [ltKs_tK]
      exact k
theorem sc_is_step : FnScope ["value", "letters", "size"] ["value", "letters", "size"] d_is_step.scope := ⟨rfl, rfl, rfl, by decide +kernel, rfl, by decide +kernel, by decide +kernel⟩
theorem fn_is_step (T : Tz K mg) : Fn P w K mg base 2 "is_step" (spStep K) := by
  refine fn_of T.h_is_step T.g_is_step rfl sc_is_step (fun _ _ _ _ _ _ us hl => match us, hl with | [_, _, _], _ => rfl) (fun vs H Q E h => ?_) (BodyOk0.ok fun cdv A outer s H vs Q E hr h => ?_)
  · obtain ⟨_, _, _, _, p, _⟩ := h
    obtain ⟨⟨_, rfl, _⟩, _⟩ := p
    rfl
  refine ⟨_, pss_cons (ps_if (PW.pt (pw_or (pt_not (pt_val (pe_callB call_isi (by rfl) T.b_isinstance boot_isinstance (pa_cons (pv 0) (pa_cons (pe_bltn (v := .ty "tuple") (by rfl) T.b_tuple boot_tuple rfl) pa_nil))))) (pw_or1 (pt_cmpR op_ne (pe_callB call_len (by rfl) T.b_len boot_len (pa_cons (pv 0) pa_nil)) pe_int (nomark _))))) (pss_one (ps_ret pe_bl)) pss_nil)
      (pss_cons (ps_if (PW.pt (pw_or (pt_not (pt_val (pe_fn (fn_is_integer T) (hr.mono (by decide)) passL (pa_cons (pe_ix ix_tup (pv 0) pe_int (fun _ _ => rfl)) (pa_cons pe_int (pa_cons (pe_op op_sub (pv 2) pe_int) pa_nil)))))) (pw_or1 (pt_not (pt_val (pe_fn (fn_is_integer T) (hr.mono (by decide)) passL (pa_cons (pe_ix ix_tup (pv 0) pe_int (fun _ _ => rfl)) (pa_cons pe_int (pa_cons (pe_op op_sub (pv 2) pe_int) pa_nil))))))))) (pss_one (ps_ret pe_bl)) pss_nil)
      (pss_one (ps_ret (pe_and (pe_callB call_isi (by rfl) T.b_isinstance boot_isinstance (pa_cons (pe_ix ix_tup (pv 0) pe_int (fun _ _ => rfl)) (pa_cons (pe_bltn (v := .ty "str") (by rfl) T.b_str boot_str rfl) pa_nil))) (pe_and (pe_cmpR op_eq (pe_callB call_len (by rfl) T.b_len boot_len (pa_cons (pe_ix ix_tup (pv 0) pe_int (fun _ _ => rfl)) pa_nil)) pe_int (nomark _)) (pe_one (pe_cmpR op_in_sign (pe_ix ix_tup (pv 0) pe_int (fun _ _ => rfl)) (pv 1) (by rfl)))))))), h.body (N := ["value", "letters", "size"]) fun D a B p => ?_⟩
  · obtain ⟨⟨x, rfl, hx⟩, ok⟩ := p
    obtain ⟨t, L, n⟩ := a
    obtain ⟨p, rfl, hx⟩ := hx
    have hv : ∀ B2, Same B B2 → EvR D (tVar 0) (start ["value", "letters", "size"] [.ref p, .str L, .int n]) B2 (tri K t) := fun B2 s => ev_var rfl ⟨p, rfl, Same.tup s hx⟩
    have hsub : ∀ B2, EvR D (tOp (rI0 fun i j => .int (i - j)) (tVar 2) (tC (.int 1))) (start ["value", "letters", "size"] [.ref p, .str L, .int n]) B2 (pEq (.int (n - 1))) := fun B2 => ev_I0 (ev_varE rfl) fun _ _ => ev_c
    obtain ⟨c, hc, hcl⟩ := ok.s
    refine es_ifF (et_orF (et_not (et_B ((ev_isi (b := true) (ev_varE rfl) (fun _ _ => ev_c) (.ty _) (isI_tup hx)).to rfl))) fun B2 s2 => (et_test (ev_ne (x := .int 3) ((ev_lenT ((hv B2 s2).imp fun v B3 _ h => h)).to (by rfl)) (fun _ _ => ev_c) rfl)).to (by rfl)) fun B2 s2 => ?_
    have i1 : ∀ B3, Same B B3 → EvR D (tFn spInt E0 (tCons (tOp (rIxT K) (tVar 0) (tC (.int 0))) (tCons (tC (.int 0)) (tCons (tOp (rI0 fun i j => .int (i - j)) (tVar 2) (tC (.int 1))) tNil)))) (start ["value", "letters", "size"] [.ref p, .str L, .int n]) B3 (pEq (.bl true)) := fun B3 s3 =>
      (ev_intR (ea_consE (ev_triA (hv B3 s3) fun _ _ => ev_c) fun _ _ => ea_consE ev_c fun B4 _ => ea_oneE (hsub B4)) rfl (m := some (n - 1))).to (by rw [isInt_ok ok.a0 ok.a1])
    have i2 : ∀ B3, Same B B3 → EvR D (tFn spInt E0 (tCons (tOp (rIxT K) (tVar 0) (tC (.int 2))) (tCons (tC (.int 0)) (tCons (tOp (rI0 fun i j => .int (i - j)) (tVar 2) (tC (.int 1))) tNil)))) (start ["value", "letters", "size"] [.ref p, .str L, .int n]) B3 (pEq (.bl true)) := fun B3 s3 =>
      (ev_intR (ea_consE (ev_triC (hv B3 s3) fun _ _ => ev_c) fun _ _ => ea_consE ev_c fun B4 _ => ea_oneE (hsub B4)) rfl (m := some (n - 1))).to (by rw [isInt_ok ok.b0 ok.b1])
    refine es_ifF (et_orF (et_not (et_B (i1 B2 s2))) fun B3 s3 => et_not (et_B (i2 B3 (s2.trans s3)))) fun B3 s3 => ?_
    have s23 := s2.trans s3
    refine es_ret ((ev_andT (c := true) ((ev_isi (x := .str t.2.1) (b := isTy "str" (.str t.2.1)) (ev_triB (hv B3 s23) fun _ _ => ev_c) (fun _ _ => ev_c) (.ty _) (isI_of rfl kit4_str)).to (by rw [isTy_str])) fun B4 s4 => ?_).to rfl)
    refine ev_andT (c := true) ((ev_eq (x := .int t.2.1.length) (ev_lenS (ev_triB (hv B4 (s23.trans s4)) fun _ _ => ev_c) (by show t.2.1.length ≤ _; rw [hc]; show 1 ≤ 100000; omega)) (fun _ _ => ev_c) rfl).to (by rw [show t.2.1.length = 1 from by rw [hc] <;> rfl] <;> rfl)) fun B5 s5 => ?_
    refine (ev_inSign (c := c) (z := L) ((ev_triB (hv B5 ((s23.trans s4).trans s5)) fun _ _ => ev_c).to (by rw [hc])) fun _ _ => ev_varE rfl).to (by rw [decide_eq_true hcl])
end
end CW
set_option Elab.async false
set_option linter.all false
set_option maxRecDepth 100000
set_option maxHeartbeats 4000000
/-! W4: machines made: checked, Parts, Machine, machine_in. -/
namespace CW
open PySem PySem.Spec PyProof.Rows L2
/-- a Parts of such a machine -/
def pPar (K : PySem.W.Frag) (M : MD) : PV := fun x H => ∃ a dx s e, x = .ref a ∧ SlX.Slt H a (He.ga K "Parts") dx [some e, some (.str M.L), some (.int M.n), some s] ∧ stp K M.st s H ∧ nms_ K M.en e H
theorem slt_mono {H H' : Hp} {a C dx : Addr} {vs : List (Option V)} (e : Same H H') (h : SlX.Slt H a C dx vs) : SlX.Slt H' a C dx vs := by
  rcases h with ⟨h1, h2⟩ | ⟨h1, h2⟩
  · exact .inl ⟨e _ _ h1, h2⟩
  · exact .inr ⟨e _ _ h1, e _ _ h2⟩
instance {K : PySem.W.Frag} {M : MD} : Mo (pPar K M) := ⟨fun e ⟨a, dx, s, n, h1, h2, h3, h4⟩ => ⟨a, dx, s, n, h1, slt_mono e h2, Mo.mo e h3, Mo.mo e h4⟩⟩
/-- the fields of a machine -/
def macF (M : MD) (s e : V) : List (Str × V) := [("own_letters", .str M.L), ("own_size", .int M.n), ("own_steps", s), ("own_ends", e)]
def pMac (K : PySem.W.Frag) (M : MD) : PV := fun x H => ∃ a dx s e, x = .ref a ∧ H a = some (.ins (He.ga K "Machine") dx (macF M s e)) ∧ stp K M.st s H ∧ nms_ K M.en e H
instance {K : PySem.W.Frag} {M : MD} : Mo (pMac K M) := ⟨fun e ⟨a, dx, s, n, h1, h2, h3, h4⟩ => ⟨a, dx, s, n, h1, e _ _ h2, Mo.mo e h3, Mo.mo e h4⟩⟩
/-- letters, size, steps, ends as arguments -/
def fourArgs (K : PySem.W.Frag) (M : MD) (ws : List V) (B : Hp) : Prop := ∃ s e, ws = [.str M.L, .int M.n, s, e] ∧ stp K M.st s B ∧ nms_ K M.en e B
def spPartsI (K : PySem.W.Frag) : Sp := ISp (insO (He.ga K "Parts")) ownO (fourArgs K) (fun M x dx o d B => ∃ s e, o = SlX.SlO x (He.ga K "Parts") dx [some e, some (.str M.L), some (.int M.n), some s] ∧ d = .xd [] ∧ stp K M.st s B ∧ nms_ K M.en e B)
def spChk (K : PySem.W.Frag) : Sp := PSp (fun _ (M : MD) vs B => fourArgs K M vs B ∧ M.Ok) (pPar K)
section
variable {P : Program} {w : World} {K : PySem.W.Frag} {mg : Str → Option Value} {base : Heap} {D : Dm} {σ : L2.St} {B : Hp} {te ta : TE}
/-- a call of a def that keeps a common promise -/
theorem ev_psp {α : Type} {Pre : Dm → α → List V → Hp → Prop} {Post : α → PV} {t : TA} {E : XK} {R : List V → Hp → Prop} (a : α) (h : EvA D t σ B R) (hp : ∀ vs B2, Same B B2 → R vs B2 → Pre D a vs B2) : EvR D (tFn (PSp Pre Post) E t) σ B (Post a) :=
  ev_fn h fun vs B2 e r => EvV.sp (hp vs B2 e r)
theorem sc_Parts_init : FnScope ["self", "letters", "size", "steps", "ends"] ["self", "letters", "size", "steps", "ends"] d_Parts_init.scope := ⟨rfl, rfl, rfl, by decide +kernel, rfl, by decide +kernel, by decide +kernel⟩
theorem in_Parts (T : Tz K mg) : FnR P w K mg base (L2.CX P w) 1 (He.fAd K d_Parts_init.at_) (spPartsI K) := by
  refine fnr_of T.h_Parts_init rfl sc_Parts_init (fun _ _ _ _ _ _ us hl => match us, hl with | [_, _, _, _, _], _ => rfl) (fun vs H Q E h => ?_) (BodyOk0.ok fun cdv A outer s H vs Q E hr h => ?_)
  · obtain ⟨_, _, _, _, _, _, rfl, _, ⟨_, _, rfl, _⟩, _⟩ := h
    rfl
  refine ⟨_, pss_cons (SlX.ps_sl (pv 0) (pv 1) rfl)
      (pss_cons (SlX.ps_sl (pv 0) (pv 2) rfl)
      (pss_cons (SlX.ps_sl (pv 0) (pv 3) rfl)
      (pss_one (SlX.ps_sl (pv 0) (pv 4) rfl)))), ?_⟩
  obtain ⟨D, B, x, dx, M, ws, rfl, m, ⟨s, e, rfl, hs, he⟩, q⟩ := h
  refine st_slot T.sc_Parts T.sl_Parts_own_letters m (.inl ⟨rfl, rfl⟩) (ev_varE (v := .str M.L) rfl) rfl rfl fun v B2 H2 s2 m2 d2 p2 => ?_
  obtain rfl : v = _ := p2
  refine st_slot T.sc_Parts T.sl_Parts_own_size m2 (.inr ⟨rfl, rfl⟩) (ev_varE (v := .int M.n) rfl) rfl rfl fun v B3 H3 s3 m3 d3 p3 => ?_
  obtain rfl : v = _ := p3
  refine st_slot T.sc_Parts T.sl_Parts_own_steps m3 (.inr ⟨rfl, rfl⟩) (ev_varE (v := s) rfl) rfl rfl fun v4 B4 H4 s4 m4 d4 p4 => ?_
  obtain rfl : v4 = _ := p4
  refine st_slot T.sc_Parts T.sl_Parts_own_ends m4 (.inr ⟨rfl, rfl⟩) (ev_varE (v := e) rfl) rfl rfl fun v5 B5 H5 s5 m5 d5 p5 => ?_
  obtain rfl : v5 = _ := p5
  have all := ((s2.trans s3).trans s4).trans s5
  exact q B5 H5 _ _ m5 (d5 _ _ (d4 _ _ (d3 _ _ (d2 _ _ Mkd.refl)))) ⟨v4, v5, by rfl, rfl, Mo.mo all hs, Mo.mo all he⟩
theorem sc_checked_machines : FnScope ["letters", "size", "steps", "ends", "step", "end"] ["letters", "size", "steps", "ends"] d_checked_machines.scope := ⟨rfl, rfl, rfl, by decide +kernel, rfl, by decide +kernel, by decide +kernel⟩
theorem fn_checked (T : Tz K mg) : Fn P w K mg base 3 "checked_machines" (spChk K) := by
  obtain ⟨_, g_MAX_STATES⟩ := T.i_MAX_STATES
  obtain ⟨_, g_MAX_STEPS⟩ := T.i_MAX_STEPS
  refine fn_of T.h_checked_machines T.g_checked_machines rfl sc_checked_machines (fun _ _ _ _ _ _ us hl => match us, hl with | [_, _, _, _], _ => rfl) (fun vs H Q E h => ?_) (BodyOk0.ok fun cdv A outer s H vs Q E hr h => ?_)
  · obtain ⟨_, _, _, _, p, _⟩ := h
    obtain ⟨⟨_, _, rfl, _⟩, _⟩ := p
    rfl
  refine ⟨_, pss_cons (ps_if (pt_not (pt_val (pe_fn (fn_is_letters T) (hr.mono (by decide)) passL (pa_cons (pv 0) pa_nil)))) (pss_one ps_never) pss_nil)
      (pss_cons (ps_if (pt_not (pt_val (pe_fn (fn_is_integer T) (hr.mono (by decide)) passL (pa_cons (pv 1) (pa_cons pe_int (pa_cons (pe_glob (v := .int 5) (by rfl) g_MAX_STATES ⟨_, rfl⟩) pa_nil)))))) (pss_one ps_never) pss_nil)
      (pss_cons (ps_if (PW.pt (pw_or (pt_not (pt_val (pe_callB call_isi (by rfl) T.b_isinstance boot_isinstance (pa_cons (pv 2) (pa_cons (pe_bltn (v := .ty "tuple") (by rfl) T.b_tuple boot_tuple rfl) pa_nil))))) (pw_or1 (pt_cmpR op_gt (pe_callB call_len (by rfl) T.b_len boot_len (pa_cons (pv 2) pa_nil)) (pe_glob (v := .int 10) (by rfl) g_MAX_STEPS ⟨_, rfl⟩) (nomark _))))) (pss_one ps_never) pss_nil)
      (pss_cons (ps_if (PW.pt (pw_or (pt_not (pt_val (pe_callB (cr_all rfl) (by rfl) T.b_all boot_all (pa_cons (pe_lc (own := [("step", 4)]) (g := gName 4) (tt := tYes) (by rfl) sc_checked_machines.nd (pi_tup (pv 2)) (blkOk_by (N := ["letters", "size", "steps", "ends", "step", "end"]) (sc := d_checked_machines.scope) (own := [("step", 4)]) (by decide +kernel)) (fun _ _ _ _ _ => (pg_name (i := 4) sc_checked_machines.nd rfl (Or.inl rfl))) (fun _ _ _ _ _ => pts_nil) (fun _ _ _ _ _ => (pe_fn (fn_is_step T) (hr.mono (by decide)) passL (pa_cons (pv 4) (pa_cons (pv 0) (pa_cons (pv 1) pa_nil)))))) pa_nil)))) (pw_or1 (pt_not (pt_val (pe_fn (fn_is_ascendingT T) (hr.mono (by decide)) passL (pa_cons (pv 2) pa_nil))))))) (pss_one ps_never) pss_nil)
      (pss_cons (ps_if (PW.pt (pw_or (pt_not (pt_val (pe_callB call_isi (by rfl) T.b_isinstance boot_isinstance (pa_cons (pv 3) (pa_cons (pe_bltn (v := .ty "tuple") (by rfl) T.b_tuple boot_tuple rfl) pa_nil))))) (pw_or1 (pt_not (pt_val (pe_callB (cr_all rfl) (by rfl) T.b_all boot_all (pa_cons (pe_lc (own := [("end", 5)]) (g := gName 5) (tt := tYes) (by rfl) sc_checked_machines.nd (pi_tup (pv 3)) (blkOk_by (N := ["letters", "size", "steps", "ends", "step", "end"]) (sc := d_checked_machines.scope) (own := [("end", 5)]) (by decide +kernel)) (fun _ _ _ _ _ => (pg_name (i := 5) sc_checked_machines.nd rfl (Or.inl rfl))) (fun _ _ _ _ _ => pts_nil) (fun _ _ _ _ _ => (pe_fn (fn_is_integer T) (hr.mono (by decide)) passL (pa_cons (pv 5) (pa_cons pe_int (pa_cons (pe_op op_sub (pv 1) pe_int) pa_nil)))))) pa_nil))))))) (pss_one ps_never) pss_nil)
      (pss_cons (ps_if (pt_not (pt_val (pe_fn (fn_is_ascendingI T) (hr.mono (by decide)) passL (pa_cons (pv 3) pa_nil)))) (pss_one ps_never) pss_nil)
      (pss_one (ps_ret (StX.pe_makeR T.mk_Parts (in_Parts T) (hr.mono (by decide)) (by rfl) T.g_Parts passL (pa_cons (pv 0) (pa_cons (pv 1) (pa_cons (pv 2) (pa_cons (pv 3) pa_nil)))))))))))), h.body (N := ["letters", "size", "steps", "ends", "step", "end"]) fun D a B p => ?_⟩
  · obtain ⟨⟨s, e, rfl, hs, he⟩, ok⟩ := p
    have N : ["letters", "size", "steps", "ends", "step", "end"] = ["letters", "size", "steps", "ends", "step", "end"] := rfl
    have lenL := ok.len
    refine es_ifF ((et_not (et_B (ev_psp (Post := fun z => pEq (.bl (isLetters z))) a.L (ea_oneE (ev_varE rfl)) fun vs B2 _ r => ⟨r, by omega⟩))).to (by rw [ok.l] <;> rfl)) fun B2 s2 => ?_
    refine es_ifF ((et_not (et_B (ev_intR (ea_consE (ev_varE rfl) fun _ _ => ea_consE ev_c fun _ _ => ea_oneE ev_c) rfl (m := some 5)))).to (by simp [isInt, ok.n1, ok.n5])) fun B3 s3 => ?_
    have s23 := s2.trans s3
    obtain ⟨ps, xs, rfl, hx, px⟩ := (show stp K a.st s B from hs)
    have hS : ∀ B2, Same B B2 → stp K a.st (.ref ps) B2 := fun B2 e => Mo.mo (P := stp K a.st) e ⟨ps, xs, rfl, hx, px⟩
    refine es_ifF (et_orF ((et_not (et_B (ev_isi (b := true) (ev_varE rfl) (fun _ _ => ev_c) (.ty _) (isI_tup (Same.tup s23 hx))))).to rfl) fun B4 s4 => (et_test ((ev_opE (ev_lenT (xs := xs) (ev_var rfl ⟨ps, rfl, Same.tup (s23.trans s4) hx⟩)) (fun _ _ => ev_c) fun _ _ => EvV.nowE fun H Q s q => ⟨(xs.length : Int), 10, rfl, rfl, q⟩))).to (by
      have := px.length
      have := ok.k
      simp; omega)) fun B4 s4 => ?_
    have s24 := s23.trans s4
    refine es_ifF (et_orF ((et_not (et_B (ev_all (as := a.st) (f := fun _ => true) (ev_lc1 (el_tup (ev_var rfl (hS _ s24))) (by have := ok.k; omega) (fun t x B5 ht s5 hxt => ?_) (fun _ _ _ _ e h => Mo.mo e h))))).to (by simp)) fun B5 s5 => (et_not (et_B (ev_psp (Post := fun z => pEq (.bl (ascT z))) a.st (ea_one (ev_var rfl (hS _ (s24.trans s5)))) fun vs B6 _ ⟨v, e1, e2⟩ => ⟨⟨v, e1, e2⟩, by have := ok.k; omega⟩))).to (by rw [ok.sa] <;> rfl)) fun B5 s5 => ?_
    · refine ev_psp (Post := fun _ => pEq (.bl true)) (t, a.L, a.n) (ea_cons (ev_var rfl hxt) fun B6 s6 => ea_consE (ev_varE rfl) fun _ _ => ea_oneE (ev_varE rfl)) fun vs B6 _ ⟨v, r, e1, e2, e3⟩ => ⟨⟨v, by rw [e1, e3], e2⟩, ok.s t ht⟩
    have s25 := s24.trans s5
    obtain ⟨pe, ys, rfl, hy, py⟩ := (show nms_ K a.en e B from he)
    have hE : ∀ B2, Same B B2 → nms_ K a.en (.ref pe) B2 := fun B2 e => Mo.mo (P := nms_ K a.en) e ⟨pe, ys, rfl, hy, py⟩
    refine es_ifF (et_orF ((et_not (et_B (ev_isi (b := true) (ev_varE rfl) (fun _ _ => ev_c) (.ty _) (isI_tup (Same.tup s25 hy))))).to rfl) fun B6 s6 => (et_not (et_B (ev_all (as := a.en) (f := fun _ => true) (ev_lc1 (el_tup (ev_var rfl (hE _ (s25.trans s6)))) (by have := ok.ek; omega) (fun j x B7 hj s7 hxj => ?_) (fun _ _ _ _ e h => Mo.mo e h))))).to (by simp)) fun B6 s6 => ?_
    · refine (ev_intR (x := .int j) (l := 0) (m := some (a.n - 1)) (ea_consE (ev_var rfl hxj) fun _ _ => ea_consE ev_c fun _ _ => ea_oneE (ev_I0 (ev_varE rfl) fun _ _ => ev_c)) rfl).to (by rw [isInt_ok (ok.e j hj).1 (ok.e j hj).2])
    have s26 := s25.trans s6
    refine es_ifF ((et_not (et_B (ev_psp (Post := fun z => pEq (.bl (ascI z))) a.en (ea_one (ev_var rfl (hE _ s26))) fun vs B6 _ ⟨v, e1, e2⟩ => ⟨⟨v, e1, e2⟩, ok.ek⟩))).to (by rw [ok.ea] <;> rfl)) fun B7 s7 => ?_
    refine es_ret (ev_make (a := a) (ea_consE (ev_varE rfl) fun _ _ => ea_consE (ev_varE rfl) fun _ _ => ea_consE (ev_varE rfl) fun _ _ => ea_oneE (ev_varE rfl)) (fun vs B8 s8 r => ⟨_, _, r, hS _ ((s26.trans s7).trans s8), hE _ ((s26.trans s7).trans s8)⟩) fun x dx o d B8 hx8 hd8 hn ⟨s', e', q1, q2, q3, q4⟩ => ?_)
    have n1 : Same B8 (upd (upd B8 dx d) x o) := (Same.new hd8).trans (Same.new (by rw [upd_ne (Ne.symm hn)]; exact hx8))
    exact ⟨x, dx, s', e', rfl, .inr ⟨by rw [upd_same, q1]; rfl, by rw [upd_ne hn, upd_same, q2]⟩, Mo.mo n1 q3, Mo.mo n1 q4⟩
end
end CW
set_option Elab.async false
set_option linter.all false
set_option maxRecDepth 100000
set_option maxHeartbeats 1000000
/-! Fact2: a def with defaults, n arguments given. -/
namespace CW
open PySem PySem.Spec PyProof.Rows L2
section
variable {P : Program} {w : World} {K : PySem.W.Frag} {mg : Str → Option Value} {base : Heap} {d : He.DefD} {N ps : List Str} {k : Nat} {sp : Sp} {x : Str}
abbrev BindDfl (d : He.DefD) (ps : List Str) (n j : Nat) : Prop := ∀ (T : Addr) (kV doc pm : Value) (an : Option Addr) (cdv ct : Value) (us its : List Value), us.length = n → its.length = d.dfl.length →
  ∃ k, bindArgs (PySem.W.fnOf d.name d.qual d.params d.body d.scope (.ref T) kV doc pm an cdv ct) ⟨us, []⟩ = seqItems? (.ref T) >>= k ∧ k (some its.toArray) = pure (ps.zip (us ++ its.drop j))
theorem vals_drop : ∀ {vs : List V} {us : List Value} (j : Nat), Vals vs us → Vals (vs.drop j) (us.drop j)
  | _, _, 0, h => h
  | _, _, _ + 1, .nil => .nil
  | _, _, j + 1, .cons _ t => vals_drop j t
theorem fnr_dfl (T : Has K d) (n j : Nat) (h0 : d.dfl ≠ []) (S : FnScope N ps d.scope) (hn : n + (d.dfl.length - j) = ps.length) (hb : BindDfl d ps n j) (len : ∀ vs H Q E, sp vs H Q E → vs.length = ps.length) (body : BodyOk P w K mg base N d k sp) :
    FnR P w K mg base (L2.CX P w) (k + 1) (He.fAd K d.at_) (fun vs H Q E => sp (vs ++ (d.dvs K).drop j) H Q E) := by
  obtain ⟨fd, F⟩ := T
  have G : FnOk P w K mg base (L2.CX P w) (k + 1) (He.fAd K d.at_) fd ps sp := F.ok S len body
  obtain ⟨oc, od, dV, kV, doc, pm, an, cdv, ct, osl, rfl, lk, hcd, hD, hK⟩ := F.ex
  rcases hD with ⟨e, _⟩ | ⟨_, A, o, its, m, rfl, lT, oT, rT⟩
  · exfalso
    apply h0
    have : (d.dvs K).length = 0 := by rw [e]; rfl
    unfold He.DefD.dvs at this
    rw [List.length_map] at this
    exact List.eq_nil_of_length_eq_zero this
  · have hl : its.length = d.dfl.length := by
      rw [← rT.length]
      unfold He.DefD.dvs
      rw [List.length_map]
    refine G.raw (ds := its.drop j) (fun s us X l1 => ?_) (vals_drop j rT)
    have l2 : us.length = n := by
      rw [List.length_append, List.length_drop, hl] at l1
      omega
    obtain ⟨k, e1, e2⟩ := hb A kV doc pm an cdv ct us its l2 hl
    refine BindsTo.of_looks fun M => ?_
    rw [e1]
    exact looks_items X lT oT (by rw [e2]; exact PySem.W.Looks.now)
end
end CW
set_option Elab.async false
set_option linter.all false
set_option maxRecDepth 100000
set_option maxHeartbeats 4000000
/-! W5: Machine.__init__, machine_in, Machine.__eq__. -/
namespace CW
open PySem PySem.Spec PyProof.Rows L2
abbrev mC (K : PySem.W.Frag) : Addr := He.ga K "Machine"
def macPost (K : PySem.W.Frag) (M : MD) (x dx : Addr) (o d : HO) (B : Hp) : Prop := ∃ s e, o = .ins (mC K) dx (macF M s e) ∧ d = .own x ∧ stp K M.st s B ∧ nms_ K M.en e B
/-- by letters, size, steps, ends -/
def spMacS (K : PySem.W.Frag) : Sp := ISp (insO (mC K)) ownO (fun (M : MD) ws B => fourArgs K M ws B ∧ M.Ok) (macPost K)
/-- by a Parts -/
def spMacP (K : PySem.W.Frag) : Sp := ISp (insO (mC K)) ownO (fun (M : MD) ws B => ∃ p a b c, ws = [p, a, b, c] ∧ pPar K M p B) (macPost K)
section
variable {P : Program} {w : World} {K : PySem.W.Frag} {mg : Str → Option Value} {base : Heap} {D : Dm} {σ : L2.St} {B H : Hp} {te ta : TE}
/-- held.own_.. -/
theorem ev_par {M : MD} {v w : V} {pa : Addr} {i : Nat} {f : Str} {Pw : PV} [Mo Pw] (T : Tz K mg) (t : SlX.Slot1 K (He.ga K "Parts") f pa i) (h : EvR D te σ B (pPar K M))
    (hw : ∀ s e H, stp K M.st s H → nms_ K M.en e H → ∃ w, [some e, some (.str M.L), some (.int M.n), some s][i]? = some (some w) ∧ Pw w H) : EvR D (SlX.tSl K te f) σ B Pw :=
  ev_slot T.sc_Parts t (h.imp fun v B2 _ ⟨a, dx, s, e, e1, hs, h3, h4⟩ => by
    obtain ⟨w, hw1, hw2⟩ := hw s e B2 h3 h4
    exact ⟨a, dx, _, w, e1, hs, hw1, hw2⟩) fun w H1 H2 e p => Mo.mo e p
theorem mac_stores (T : Tz K mg) {M : MD} {x dx : Addr} {v : V} {Ds : Ends} (m : Mkg D B H x dx (.ins (mC K) dx []) (.own x)) (h0 : σ[0]? = some (some (.ref x))) (h5 : σ[5]? = some (some v)) (hv : pPar K M v B)
    (q : ∀ B2 H2 o2 d2, Mkg D B2 H2 x dx o2 d2 → (∀ B0 H0, Mkd D x dx B0 H0 B H → Mkd D x dx B0 H0 B2 H2) → macPost K M x dx o2 d2 B2 → Ds.nx σ H2) :
    tSeq (sFld K (tVar 0) (SlX.tSl K (tVar 5) "own_letters") "own_letters") (tSeq (sFld K (tVar 0) (SlX.tSl K (tVar 5) "own_size") "own_size") (tSeq (sFld K (tVar 0) (SlX.tSl K (tVar 5) "own_steps") "own_steps") (sFld K (tVar 0) (SlX.tSl K (tVar 5) "own_ends") "own_ends"))) Ds σ H := by
  refine st_fld T.cl_Machine T.na_Machine_own_letters (by decide) m (ev_par (Pw := pEq (.str M.L)) (v := v) (w := v) T T.sl_Parts_own_letters (ev_var h5 hv) fun s e H _ _ => ⟨_, rfl, rfl⟩) rfl h0 fun v1 B1 H1 s1 m1 d1 p1 => ?_
  refine st_fld T.cl_Machine T.na_Machine_own_size (by show (2:Nat) ≤ 1000; omega) m1 (ev_par (Pw := pEq (.int M.n)) (v := v) (w := v) T T.sl_Parts_own_size (ev_var h5 (Mo.mo s1 hv)) fun s e H _ _ => ⟨_, rfl, rfl⟩) rfl h0 fun v2 B2 H2 s2 m2 d2 p2 => ?_
  refine st_fld T.cl_Machine T.na_Machine_own_steps (by show (3:Nat) ≤ 1000; omega) m2 (ev_par (Pw := stp K M.st) (v := v) (w := v) T T.sl_Parts_own_steps (ev_var h5 (Mo.mo (s1.trans s2) hv)) fun s e H h1 _ => ⟨s, rfl, h1⟩) rfl h0 fun v3 B3 H3 s3 m3 d3 p3 => ?_
  refine st_fldL T.cl_Machine T.na_Machine_own_ends (by show (4:Nat) ≤ 1000; omega) m3 (ev_par (Pw := nms_ K M.en) (v := v) (w := v) T T.sl_Parts_own_ends (ev_var h5 (Mo.mo ((s1.trans s2).trans s3) hv)) fun s e H _ h2 => ⟨e, rfl, h2⟩) rfl h0 fun v4 B4 H4 s4 m4 d4 p4 => ?_
  obtain rfl : v1 = _ := p1
  obtain rfl : v2 = _ := p2
  exact q B4 H4 _ _ m4 (fun B0 H0 md => d4 _ _ (d3 _ _ (d2 _ _ (d1 _ _ md)))) ⟨v3, v4, rfl, rfl, Mo.mo (P := stp K M.st) s4 p3, p4⟩
theorem sc_Machine_init : FnScope ["self", "letters", "size", "steps", "ends", "held"] ["self", "letters", "size", "steps", "ends"] d_Machine_init.scope := ⟨rfl, rfl, rfl, by decide +kernel, rfl, by decide +kernel, by decide +kernel⟩
theorem bd_MacS (T : Tz K mg) : BodyOk P w K mg base ["self", "letters", "size", "steps", "ends", "held"] d_Machine_init 3 (spMacS K) := by
  refine BodyOk0.ok fun cdv A outer s H vs Q E hr h => ?_
  refine ⟨_, pss_cons (ps_set (i := 5) sc_Machine_init.nd rfl (Or.inl rfl) (pe_ifExp (pt_val (pe_callB call_isi (by rfl) T.b_isinstance boot_isinstance (pa_cons (pv 1) (pa_cons (pe_glob (v := .ref (He.ga K "Parts")) (by rfl) T.g_Parts rfl) pa_nil)))) (pv 1) (pe_fn (fn_checked T) (hr.mono (by decide)) passL (pa_cons (pv 1) (pa_cons (pv 2) (pa_cons (pv 3) (pa_cons (pv 4) pa_nil)))))))
      (pss_cons (ps_fld (pv 0) (SlX.pe_sl (pv 5)) rfl)
      (pss_cons (ps_fld (pv 0) (SlX.pe_sl (pv 5)) rfl)
      (pss_cons (ps_fld (pv 0) (SlX.pe_sl (pv 5)) rfl)
      (pss_one (ps_fld (pv 0) (SlX.pe_sl (pv 5)) rfl))))), ?_⟩
  obtain ⟨D, B, x, dx, M, ws, rfl, m, ⟨⟨s, e, rfl, hs, he⟩, ok⟩, q⟩ := h
  refine st_set (P := pPar K M) m ?_ fun v B2 H2 s2 m2 d2 p2 => mac_stores T m2 rfl rfl p2 fun B3 H3 o3 dd3 m3 d3 po => q B3 H3 _ _ m3 (d3 _ _ (d2 _ _ Mkd.refl)) po
  refine ev_if (Pb := is false) (et_B (ev_isi (ev_varE rfl) (fun _ _ => ev_c) (.own _) ⟨_, .base (.str _), T.ks_Parts⟩)) (fun z => nomatch z) fun _ B2 s2 => ?_
  exact ev_psp (Post := pPar K) M (ea_consE (ev_varE rfl) fun _ _ => ea_consE (ev_varE rfl) fun _ _ => ea_consE (ev_varE rfl) fun _ _ => ea_oneE (ev_varE rfl)) fun vs B3 s3 r => ⟨⟨s, e, r, Mo.mo (s2.trans s3) hs, Mo.mo (s2.trans s3) he⟩, ok⟩
theorem bd_MacP (T : Tz K mg) : BodyOk P w K mg base ["self", "letters", "size", "steps", "ends", "held"] d_Machine_init 3 (spMacP K) := by
  refine BodyOk0.ok fun cdv A outer s H vs Q E hr h => ?_
  refine ⟨_, pss_cons (ps_set (i := 5) sc_Machine_init.nd rfl (Or.inl rfl) (pe_ifExp (pt_val (pe_callB (SlX.call_isiSl (.ref (He.ga K "Parts"))) (by rfl) T.b_isinstance boot_isinstance (pa_cons (pv 1) (pa_cons (pe_glob (v := .ref (He.ga K "Parts")) (by rfl) T.g_Parts rfl) pa_nil)))) (pv 1) (pe_fn (fn_checked T) (hr.mono (by decide)) passL (pa_cons (pv 1) (pa_cons (pv 2) (pa_cons (pv 3) (pa_cons (pv 4) pa_nil)))))))
      (pss_cons (ps_fld (pv 0) (SlX.pe_sl (pv 5)) rfl)
      (pss_cons (ps_fld (pv 0) (SlX.pe_sl (pv 5)) rfl)
      (pss_cons (ps_fld (pv 0) (SlX.pe_sl (pv 5)) rfl)
      (pss_one (ps_fld (pv 0) (SlX.pe_sl (pv 5)) rfl))))), ?_⟩
  obtain ⟨D, B, x, dx, M, ws, rfl, m, ⟨p, a, b, c, rfl, hp⟩, q⟩ := h
  refine st_set (P := pPar K M) m ?_ fun v B2 H2 s2 m2 d2 p2 => mac_stores T m2 rfl rfl p2 fun B3 H3 o3 dd3 m3 d3 po => q B3 H3 _ _ m3 (d3 _ _ (d2 _ _ Mkd.refl)) po
  refine ev_if (Pb := is true) (et_B ?_) (fun _ B2 s2 => ev_var rfl (Mo.mo s2 hp)) (fun z => nomatch z)
  obtain ⟨a, dx, s, e, rfl, hs, _⟩ := hp
  exact ev_cbE (ea_consE (ev_varE rfl) fun _ _ => ea_oneE ev_c) fun B2 s2 => EvV.nowE fun H Q s q => ⟨a, _, dx, _, _, true, rfl, rfl, fun _ z => z, slt_mono (s2.trans s) hs, T.sc_Parts, T.si_Parts, T.kz_Parts, q⟩
theorem in_Mac4 (T : Tz K mg) : FnR P w K mg base (L2.CX P w) 4 (He.fAd K d_Machine_init.at_) (spMacS K) :=
  (fnr_dfl T.h_Machine_init 5 3 (by decide) sc_Machine_init rfl (fun _ _ _ _ _ _ _ us its h1 h2 => match us, its, h1, h2 with | [_, _, _, _, _], [_, _, _], _, _ => ⟨_, rfl, rfl⟩) (fun vs H Q E ⟨_, _, _, _, _, _, h, _, ⟨⟨_, _, h1, _⟩, _⟩, _⟩ => by subst h; subst h1; rfl) (bd_MacS T)).imp fun vs H Q E h => by
    show spMacS K (vs ++ []) H Q E
    rw [List.append_nil]; exact h
/-- without ends -/
theorem in_Mac3 (T : Tz K mg) : FnR P w K mg base (L2.CX P w) 4 (He.fAd K d_Machine_init.at_) (fun vs H Q E => spMacS K (vs ++ [.ref (He.dflAt ("Machine", some "__init__") 2 K)]) H Q E) :=
  fnr_dfl T.h_Machine_init 4 2 (by decide) sc_Machine_init rfl (fun _ _ _ _ _ _ _ us its h1 h2 => match us, its, h1, h2 with | [_, _, _, _], [_, _, _], _, _ => ⟨_, rfl, rfl⟩) (fun vs H Q E ⟨_, _, _, _, _, _, h, _, ⟨⟨_, _, h1, _⟩, _⟩, _⟩ => by subst h; subst h1; rfl) (bd_MacS T)
/-- by a Parts alone -/
theorem in_Mac1 (T : Tz K mg) : FnR P w K mg base (L2.CX P w) 4 (He.fAd K d_Machine_init.at_) (ISp (insO (mC K)) ownO (fun (M : MD) ws B => ∃ p, ws = [p] ∧ pPar K M p B) (macPost K)) :=
  (fnr_dfl T.h_Machine_init 2 0 (by decide) sc_Machine_init rfl (fun _ _ _ _ _ _ _ us its h1 h2 => match us, its, h1, h2 with | [_, _], [_, _, _], _, _ => ⟨_, rfl, rfl⟩) (fun vs H Q E ⟨_, _, _, _, _, _, h, _, ⟨_, _, _, _, h1, _⟩, _⟩ => by subst h; subst h1; rfl) (bd_MacP T)).imp
    fun vs H Q E ⟨D, B, x, dx, M, ws, h, m, ⟨p, h1, hp⟩, q⟩ => ⟨D, B, x, dx, M, ws ++ _, by subst h; rfl, m, ⟨p, _, _, _, by subst h1; rfl, hp⟩, q⟩
end
end CW
set_option Elab.async false
set_option linter.all false
set_option maxRecDepth 100000
set_option maxHeartbeats 3200000
/-! SetM5: set(list of ints), and the layer's rules for sets of ints and of triples. -/
namespace CW
open PySem PySem.Spec PyProof.Rows L2
section
variable {P : Program} {w : World} {A : Around} {E : Value → Shared → Prop} {s : Shared}
/-- set(xs) of a list of ints -/
theorem callI {l : Addr} {items : Array Value} (ns : List Int) {Q : Value → Shared → Prop} (hh : A.handled = none) (hl : s.heap.IsList l items) (hit : IntsAre items.toList ns) (hb : ns.length + 1 < scanBound)
    (h : ∀ (h' : Heap) (tk c : Nat), SetR w h' s.heap.objs.size (fun j => decide (j ∈ ns)) c → c ≤ ns.length → (∀ b o, s.heap.get? b = some o → h'.get? b = some o) → Q (.ref s.heap.objs.size) { s with heap := h', toks := tk }) :
    wpAny (model P w) A (call (.type "set") [.ref l]) Q E s := by
  have hisz : items.size = ns.length := by
    have q := IntsAre.length hit
    rwa [Array.length_toList] at q
  obtain ⟨c, tl, hmro⟩ := F.called_set.mro
  have hmade := F.called_set.made
  have hsub := F.called_set.sub
  refine wpAny_call (codeAny_of_tree ?_)
  show wpAny _ _ (callAny (.type "set") _) _ _ _
  refine wpAny_pure ⟨Code.quiet_builtin _ (by decide +kernel), codeAny_builtin F.entry_type_call ?_⟩
  rw [Around.under_plain (weight_type_call_type "set" [.ref l] []) rfl]
  have h1 := F.called_set.notType
  have h2 := F.called_set.canCreate
  have hct := F.typeCall_set_1 (.ref l)
  repeat (any_goals (first | assumption | wp_step))
  refine codeAny_mono (code_set_led1 (.ref l) (E := E) (Q₁ := fun obj s₁ => obj = .ref s.heap.objs.size ∧ s₁ = { s with heap := s.heap.push (obS w) }) ⟨rfl, rfl⟩) fun r s₁ hr => ?_
  cases r with
  | error e => exact hr
  | ok fl =>
    cases fl with
    | ret obj =>
      obtain ⟨rfl, rfl⟩ := hr
      have hS : (s.heap.push (obS w)).get? s.heap.objs.size = some (obS w) := Heap.get?_push_size _ rfl
      have hT : Shared.TypeIs { s with heap := s.heap.push (obS w) } (.ref s.heap.objs.size) "set" := ⟨_, hS, rfl⟩
      have hli := F.called_set.init.lookup
      have hbi := F.called_set.init.bind (.ref s.heap.objs.size)
      repeat (any_goals (first | assumption | wp_step))
      refine codeAny_mono (codeAny_call_builtin (R := wants (fun r s₂ => r = .none ∧ ∃ h' tk c, s₂ = { s with heap := h', toks := tk } ∧ SetR w h' s.heap.objs.size (fun j => decide (j ∈ ns)) c ∧ c ≤ ns.length ∧
          (∀ b o, s.heap.get? b = some o → h'.get? b = some o)) E) F.called_set.init.plain F.entry_set_init (check_set_init_1 hT ?_)) fun r₂ s₂ hr₂ => ?_
      · obtain ⟨ol, hol, hcl, nl, hdl⟩ := hl
        obtain ⟨ocls, odict, odata, oslots⟩ := ol
        simp only at hcl hdl
        subst hcl; subst hdl
        have hol' : (s.heap.push (obS w)).get? l = some { cls := .type "list", dict := odict, data := .seq items nl, slots := oslots } := Heap.get?_push_of_some _ hol
        have hsls := F.sub_list_set
        have hslf := F.sub_list_frozenset
        have hne : (Value.type "list" == Value.type "dict") = false := by decide
        have hl1 : (s.heap.push (obS w)).IsList l items := ⟨_, hol', rfl, nl, rfl⟩
        unfold Builtin.«set.__init__» noKeywords Builtin.Frozenset.updateFrom
        generalize hPI : pyIter = PI
        wp_walk
        subst hPI
        refine wpAny_pyIter_list hl1 ?_
        refine wpAny_bind (wpAny_runValue ?_)
        have hlS : l < s.heap.objs.size := Heap.lt_size hol
        have hh3 : A.in1.in1.in1.handled = none := by simp [hh]
        have hneI : l ≠ (s.heap.push (obS w)).objs.size := by
          rw [Heap.size_push]; exact Nat.ne_of_lt (Nat.lt_succ_of_lt hlS)
        have hSf : s.heap.objs.size ∉ [(s.heap.push (obS w)).objs.size, l] := by
          rw [Heap.size_push]
          intro z
          rcases List.mem_cons.mp z with z | z
          · exact Nat.ne_of_lt (Nat.lt_succ_self _) z
          · exact Nat.ne_of_gt hlS (List.mem_singleton.mp z)
        have hval : ∀ (i : Nat) (v : Value), items[i]? = some v → ∃ k t, ns[i]? = some k ∧ v = .int k t := fun i v hv => by
          have hi : i < ns.length := by
            have := (Array.getElem?_eq_some_iff.mp hv).1
            omega
          obtain ⟨t, e⟩ := PyProof.Rows.IntsAre.int_at hit i v (by rw [Array.getElem?_toList]; exact hv)
          refine ⟨ns[i], t, List.getElem?_eq_getElem hi, ?_⟩
          rw [e, List.getD_eq_getElem?_getD, List.getElem?_eq_getElem hi] <;> rfl
        refine set_update_ints ((Walks.list hh3 _ l hneI items).toS) s.heap.objs.size hSf ns hisz hb hval (items.size - 0) 0 _ (by omega) (Nat.zero_le _)
          ⟨⟨_, Heap.get?_push_size _ rfl, rfl, rfl⟩, (hl1.push _)⟩ ?hS0 ?hR
        case hS0 =>
          have hget : ((s.heap.push (obS w)).push { cls := .type "list_iterator", data := .fields #[.ref l, .int 0 0] }).get? s.heap.objs.size = some (obS w) := Heap.get?_push_of_some _ hS
          exact ⟨0, Nat.le_refl 0, setR_new_at hget⟩
        case hR =>
          intro s' c' hm hc' hS'
          obtain ⟨h', g2, d', tk', os'⟩ := s'
          obtain rfl : g2 = s.gens := hm.gens
          obtain rfl : d' = s.drawn := hm.drawn
          obtain rfl : os' = s.os := hm.os
          show wpAny _ _ _ _ _ _
          refine wpAny_pure ?_
          show wpAny _ _ (ret Value.none) _ _ _
          rw [hisz] at hc'
          refine wpAny_pure ⟨rfl, h', tk', c', rfl, hS', hc', fun b o e => ?_⟩
          have hb0 : b < s.heap.objs.size := Heap.lt_size e
          refine hm.heap b o (fun z => ?_) (Heap.get?_push_of_some _ (Heap.get?_push_of_some _ e))
          rcases List.mem_cons.mp z with z | z
          · exact Nat.ne_of_lt hb0 z
          · rw [List.mem_singleton.mp z, Heap.size_push] at hb0
            exact absurd hb0 (Nat.not_lt.mpr (Nat.le_succ _))
      · cases r₂ with
        | error e => exact hr₂
        | ok fl₂ =>
          cases fl₂ with
          | ret r =>
            obtain ⟨rfl, h', tk, c', rfl, hS', hc', hk'⟩ := hr₂
            repeat (any_goals (first | assumption | wp_step))
            exact h _ _ _ hS' hc' hk'
          | _ => exact hr₂.elim
    | _ => exact hr.elim
end
/-- set(xs), xs a list of ints -/
def rSetI (K : PySem.W.Frag) (w : World) : List V → Hp → VK → Prop := fun xs H Q => ∃ (l : Addr) (ns : List Int), xs = [V.ref l] ∧ SqL K H l (ns.map V.int) ∧ ns.length < 60 ∧ ∀ a c, H a = none → c ≤ ns.length → Q (.ref a) (upd H a (SetO w a (fun j => decide (j ∈ ns)) c))
section
variable {X : Cx}
theorem cr_setI (hc : X.calm = true) : CallR X (.type "set") (rSetI X.K X.w) := by
  intro pins s σ H xs us Q I r h
  obtain ⟨l, ns, rfl, hl, hf, q⟩ := h
  rw [Vals.ref1 r]
  obtain ⟨its, rv, pl, hz⟩ := I.list hl
  have hn : H s.heap.objs.size = none := I.hok.fresh (Nat.le_refl _)
  refine callI (P := X.prog) (w := X.w) ns (I.ok.hd hc) pl.isList (by simpa using rv.ints) (by unfold scanBound; omega) fun h' tk c R hc k => ?_
  exact ⟨.ref s.heap.objs.size, upd H s.heap.objs.size (SetO X.w s.heap.objs.size (fun j => decide (j ∈ ns)) c), I.laid (t' := tk) k (Nat.le_refl _) (setO_new R), rfl, q _ c hn hc⟩
/-! sets of triples -/
def SetMP (P : Program) (w : World) (a : Addr) (L : List (Addr × List Key)) (h : Heap) : Prop := ∃ (es : Array (Int × Value)) (ep : Nat) (t : SetTable), (∃ o, h.get? a = some o ∧ o.ExactSet ∧ o.data = .set es ep t) ∧ es.toList = rowsM P w L ∧ TabOk t (L.map fun p => mh P w p.2) ∧ (L.map (·.2)).Nodup ∧
  (w.params.followText "set-order" = true ∨ t.led = true) ∧ L.length * 5 < t.mask * 3 ∧ L.length < 64
def SetMO (P : Program) (w : World) (a : Addr) (L : List (Addr × List Key)) : HO := .ext (SetMP P w a L)
theorem setMO_new {P : Program} {w : World} {H : Hp} {h : Heap} {a : Addr} {L : List (Addr × List Key)} {es : Array (Int × Value)} {ep : Nat} {t : SetTable} (R : SetM P w h a L es ep t) : ObjOk P w H h a (SetMO P w a L) := by
  have p : SetMP P w a L h := ⟨es, ep, t, R.ob, R.rows, R.tab, R.nd, R.led, R.room, R.few⟩
  refine ⟨p, R.ob.imp fun o h => h.1, fun h1 h2 p k => ?_⟩
  obtain ⟨es', ep', t', ⟨o', ho', r'⟩, q'⟩ := (show SetMP P w a L h1 from p)
  exact ⟨es', ep', t', ⟨o', k o' ho', r'⟩, q'⟩
theorem isInt_refl' (i : Int) (t : Tok) : Value.isInt i (.int i t) = true := by simp [Value.isInt]
theorem isStr_refl' (x : Str) (t : Tok) : Value.isStrOf x (.str x t) = true := by simp [Value.isStrOf]
theorem items_keys {P : Program} {w : World} : ∀ {k : List Key} {us : List Value}, Vals (k.map kV) us → ItemsAre (mixKind P w) k us
  | [], _, .nil => .nil
  | .inl i :: k, _, .cons r t => by
    obtain ⟨tk, rfl⟩ := (show ∃ t, _ = Value.int i t from r)
    exact .cons (show keyIs (.inl i) (.int i tk) = true from isInt_refl' i tk) (items_keys t)
  | .inr x :: k, _, .cons r t => by
    obtain ⟨tk, rfl⟩ := (show ∃ t, _ = Value.str x t from r)
    exact .cons (show keyIs (.inr x) (.str x tk) = true from isStr_refl' x tk) (items_keys t)
theorem inv_isM {pins : List (Addr × Obj)} {σ : L2.St} {H : Hp} {s : Shared} {b : Addr} {k : List Key} (I : Inv X pins σ H s) (h : SqT X.K H b (k.map kV)) : IsM X.prog X.w s.heap k b := by
  obtain ⟨its, r, ⟨o, ho, hc, n, hd⟩, _⟩ := I.tuple h
  exact ⟨o, its.toArray, n, ho, hc, hd, by simpa using items_keys r⟩
abbrev kys (ts : List (Addr × Tri)) : List (Addr × List Key) := ts.map fun p => (p.1, tK p.2)
def rSetM (K : PySem.W.Frag) (P : Program) (w : World) : List V → Hp → VK → Prop := fun xs H Q => ∃ (l : Addr) (ts : List (Addr × Tri)), xs = [V.ref l] ∧ SqL K H l (ts.map fun p => V.ref p.1) ∧ (∀ p ∈ ts, SqT K H p.1 ((tK p.2).map kV)) ∧ ts.length < 64 ∧
  ∀ a (ts' : List (Addr × Tri)), H a = none → (∀ p ∈ ts', p ∈ ts) → (∀ p ∈ ts, p.2 ∈ ts'.map (·.2)) → (ts'.map (·.2)).Nodup → ts'.length ≤ ts.length → Q (.ref a) (upd H a (SetMO P w a (kys ts')))
theorem pick_ts {ts : List (Addr × Tri)} : ∀ {L : List (Addr × List Key)}, (∀ p ∈ L, p ∈ kys ts) → ∃ ts', L = kys ts' ∧ ∀ p ∈ ts', p ∈ ts
  | [], _ => ⟨[], rfl, fun p h => by cases h⟩
  | p :: L, h => by
    obtain ⟨q, hq, e⟩ := List.mem_map.mp (h p List.mem_cons_self)
    obtain ⟨ts', e2, h2⟩ := pick_ts (ts := ts) (L := L) fun r hr => h r (List.mem_cons_of_mem _ hr)
    refine ⟨q :: ts', by rw [e2, ← e] <;> rfl, fun r hr => ?_⟩
    rcases List.mem_cons.mp hr with z | z
    · exact z ▸ hq
    · exact h2 r z
theorem ref_vals : ∀ (ks : List (Addr × Tri)) {us : List Value}, Vals (ks.map fun p => V.ref p.1) us → us = ks.map fun p => Value.ref p.1
  | [], _, .nil => rfl
  | p :: ks, _, .cons r t => by cases r; rw [ref_vals ks t] <;> rfl
theorem val_refs : ∀ (ks : List (Addr × Tri)), Vals (ks.map fun p => V.ref p.1) (ks.map fun p => Value.ref p.1)
  | [] => .nil
  | p :: ks => .cons rfl (val_refs ks)
theorem cr_setM (hc : X.calm = true) (hu : X.A.units + 64 < cLine) : CallR X (.type "set") (rSetM X.K X.prog X.w) := by
  intro pins s σ H xs us Q I r h
  obtain ⟨l, ts, rfl, hl, hk, hf, q⟩ := h
  rw [Vals.ref1 r]
  obtain ⟨its, rv, pl, hz⟩ := I.list hl
  have hn : H s.heap.objs.size = none := I.hok.fresh (Nat.le_refl _)
  refine callM (P := X.prog) (w := X.w) (kys ts) (I.ok.hd hc) pl.isList (by rw [List.map_map]; exact (by simpa using ref_vals ts rv : its.toArray.toList = ts.map fun p => Value.ref p.1)) (fun p hp => ?_) (by rw [List.length_map]; exact hf) (by omega) fun h' tk L es ep t R g k => ?_
  · obtain ⟨q, hq, rfl⟩ := List.mem_map.mp hp
    exact inv_isM I (hk q hq)
  · obtain ⟨ts', rfl, hs⟩ := pick_ts (ts := ts) fun p hp => List.mem_of_mem_take (g.sub p hp)
    have nd : (ts'.map (·.2)).Nodup := by
      have := R.nd
      rw [List.map_map] at this
      exact nodup_of_map (f := tK) (by rw [List.map_map]; exact this)
    refine ⟨.ref s.heap.objs.size, _, I.laid (t' := tk) k (Nat.le_refl _) (setMO_new R), rfl, q _ ts' hn hs (fun p hp => ?_) nd ?_⟩
    · have m := g.all (p.1, tK p.2) (by rw [List.take_length]; exact List.mem_map.mpr ⟨p, hp, rfl⟩)
      obtain ⟨z, hz, e⟩ := List.mem_map.mp m
      obtain ⟨y, hy, rfl⟩ := List.mem_map.mp hz
      exact List.mem_map.mpr ⟨y, hy, tK_inj e⟩
    · have := g.len
      rw [List.length_map, List.length_map] at this
      exact this
/-- sorted(set) -/
def rSortM (K : PySem.W.Frag) (P : Program) (w : World) : List V → Hp → VK → Prop := fun vs H Q => ∃ (a : Addr) (ts : List (Addr × Tri)), vs = [V.ref a] ∧ H a = some (SetMO P w a (kys ts)) ∧ (∀ p ∈ ts, SqT K H p.1 ((tK p.2).map kV)) ∧ (ts.map (·.2)).Nodup ∧
  ∀ (ts' : List (Addr × Tri)) (p : Addr), ts'.Perm ts → ts'.Pairwise (fun q r => ltT q.2 r.2 = true) → H p = none → Q (.ref p) (upd H p (.lst (ts'.map fun q => V.ref q.1)))
theorem cr_sortM (hc : X.calm = true) : CallR X (.builtin "sorted") (rSortM X.K X.prog X.w) := by
  intro pins s σ H vs us Q I r h
  obtain ⟨a, ts, rfl, ha, hk, hnd, q⟩ := h
  obtain ⟨es, ep, t, ⟨o, ho, hex, hd⟩, hrows, htab, hnd2, hled, hroom, hfew⟩ : SetMP X.prog X.w a (kys ts) s.heap := (I.hok a _ ha).1
  rw [List.length_map] at hfew hroom
  have n1 := rowsM_len _ hrows
  rw [List.length_map] at n1
  rw [Vals.ref1 r]
  have isM : ∀ p ∈ ts, IsM X.prog X.w s.heap (tK p.2) p.1 := fun p hp => inv_isM I (hk p hp)
  have hsz : t.place.size = es.size := by rw [htab.sz, List.length_map, List.length_map, n1]
  refine Calls.call_function_entry kind_sorted plain_sorted entry_sorted (args_sorted1 _) ?_
  unfold Builtin.«sorted»
  refine wpAny_bind (m := checkCount "sorted" 1 1 _) (wpAny_pure ?_)
  refine wpAny_bind (collect_set (A := X.A.in1) (I.ok.hd hc) ⟨o, ho, hex.1, hd⟩ (fits_of hsz htab.dm (by omega)) (by unfold scanBound; omega) htab.ris hled fun s1 vs k1 hz g1 o1 pm => ?_)
  have hes : es.toList.map (·.2) = ts.map fun q => Value.ref q.1 := by
    rw [hrows]
    unfold rowsM
    rw [List.map_map, List.map_map] <;> rfl
  rw [hes] at pm
  obtain ⟨ts1, e1, p1⟩ : ∃ ts1 : List (Addr × Tri), vs = ts1.map (fun q => Value.ref q.1) ∧ ts1.Perm ts := by
    have gen : ∀ (vs : List Value) (l : List (Addr × Tri)), vs.Perm (l.map fun q => Value.ref q.1) → ∃ l1 : List (Addr × Tri), vs = l1.map (fun q => Value.ref q.1) ∧ l1.Perm l := by
      intro vs
      induction vs with
      | nil =>
        intro l h
        have : l = [] := by
          have := h.length_eq
          rw [List.length_map] at this
          exact List.eq_nil_of_length_eq_zero this.symm
        exact ⟨[], rfl, by rw [this]⟩
      | cons v vs ih =>
        intro l h
        have hv : v ∈ l.map fun q => Value.ref q.1 := h.mem_iff.mp List.mem_cons_self
        obtain ⟨q, hq, rfl⟩ := List.mem_map.mp hv
        obtain ⟨l2, hl2⟩ : ∃ l2, l.Perm (q :: l2) := by
          obtain ⟨a, b, e⟩ := List.append_of_mem hq
          exact ⟨a ++ b, by rw [e]; exact List.perm_middle⟩
        have h2 : vs.Perm (l2.map fun q => Value.ref q.1) := (List.perm_cons _).mp (h.trans (hl2.map _))
        obtain ⟨l1, e, pe⟩ := ih l2 h2
        exact ⟨q :: l1, by rw [List.map_cons, ← e], (pe.cons q).trans hl2.symm⟩
    exact gen vs ts pm
  have hvl : vs.length < 64 := by rw [e1, List.length_map, p1.length_eq]; exact hfew
  refine wpAny_bind (wpAny_newList ?_ (by rw [sizeLine_eq]; omega))
  have hoL : (s1.heap.push (seqObj "list" vs.toArray 0)).get? s1.heap.objs.size = some (seqObj "list" vs.toArray 0) := Heap.get?_push_size _ rfl
  refine wpAny_bind (wpAny_holding (sort_tris (P := X.prog) (w := X.w) (s := { s1 with heap := s1.heap.push (seqObj "list" vs.toArray 0) }) ts1 e1 (fun p hp => keptM (isM p (p1.mem_iff.mp hp)) fun b u e => Heap.get?_push_of_some _ (k1 b u e)) ((p1.map (·.2)).nodup_iff.mpr hnd) hoL (by rw [sizeLine_eq]; omega) fun out ts' pm' e' pw => ?_))
  obtain ⟨c, hc'⟩ := sortedHeap_at (vs := vs) (out := out) hoL
  have p2 := pm'.trans p1
  have hn : H s1.heap.objs.size = none := I.hok.fresh hz
  have hkeep : ∀ b u, s.heap.get? b = some u → (sortedHeap (s1.heap.push (seqObj "list" vs.toArray 0)) s1.heap.objs.size vs out).get? b = some u := fun b u e => by
    have q := k1 b u e
    have hlt := Heap.lt_size q
    rw [sortedHeap_old (Nat.ne_of_lt hlt) (by rw [size_push']; exact Nat.lt_succ_of_lt hlt)]
    exact Heap.get?_push_of_some _ q
  have hlen : (ts'.map fun q => V.ref q.1).length ≤ sizeLine := by rw [List.length_map, p2.length_eq, sizeLine_eq]; omega
  have J : Inv X pins σ (upd H s1.heap.objs.size (.lst (ts'.map fun q => V.ref q.1))) { s with heap := sortedHeap (s1.heap.push (seqObj "list" vs.toArray 0)) s1.heap.objs.size vs out, gens := s1.gens, drawn := s1.drawn, toks := s1.toks } :=
    I.call (ch := []) (Un.laid hkeep hz hn) (I.hok.laid hkeep hz ⟨hlen, out.toList, c, by rw [e']; exact val_refs ts', hc'⟩) (by rw [g1]; exact I.bare) (fun _ z => nomatch z)
  refine wpAny_pure ⟨_, rfl, ?_⟩
  obtain ⟨a1, a2, a3, a4, a5⟩ := s1
  obtain rfl : a5 = s.os := o1
  exact ⟨.ref _, _, J, rfl, q ts' _ p2 pw hn⟩
end
end CW
set_option Elab.async false
set_option linter.all false
set_option maxRecDepth 100000
set_option maxHeartbeats 1000000
/-! Ev4: sorted(set(..)) of ints and of triples, as values. -/
namespace CW
open PySem PySem.Spec PyProof.Rows L2
structure SortOf {α : Type} (lt : α → α → Prop) (l m : List α) : Prop where
  pw : m.Pairwise lt
  mem : ∀ a, a ∈ m ↔ a ∈ l
  len : m.length ≤ l.length
section
variable {D : Dm} {K : PySem.W.Frag} {P : Program} {w : World} {σ : L2.St} {B : Hp} {te : TE} {st : List Tri} {ns : List Int}
theorem tri_refs {H : Hp} : ∀ {st : List Tri} {xs : List V}, Paired (fun a v => tri K a v H) st xs → ∃ ts : List (Addr × Tri), xs = ts.map (fun p => V.ref p.1) ∧ st = ts.map (·.2) ∧ ∀ p ∈ ts, SqT K H p.1 ((tK p.2).map kV)
  | _, _, .nil => ⟨[], rfl, rfl, fun p h => by cases h⟩
  | t :: st, _, .cons r q => by
    obtain ⟨a, rfl, ha⟩ := r
    obtain ⟨ts, e1, e2, h⟩ := tri_refs q
    refine ⟨(a, t) :: ts, by rw [e1] <;> rfl, by rw [e2] <;> rfl, fun p hp => ?_⟩
    rcases List.mem_cons.mp hp with z | z
    · rw [z]; exact ha
    · exact h p z
theorem refs_tri {H : Hp} : ∀ {ts : List (Addr × Tri)}, (∀ p ∈ ts, SqT K H p.1 ((tK p.2).map kV)) → Paired (fun a v => tri K a v H) (ts.map (·.2)) (ts.map fun p => V.ref p.1)
  | [], _ => .nil
  | p :: ts, h => .cons ⟨p.1, rfl, h p List.mem_cons_self⟩ (refs_tri fun q hq => h q (List.mem_cons_of_mem _ hq))
/-- a set of these triples -/
def pSetM (K : PySem.W.Frag) (P : Program) (w : World) (st : List Tri) : PV := fun x H => ∃ a ts, x = V.ref a ∧ H a = some (SetMO P w a (kys ts)) ∧ (∀ p ∈ ts, SqT K H p.1 ((tK p.2).map kV)) ∧ (ts.map (·.2)).Nodup ∧ (∀ t, t ∈ ts.map (·.2) ↔ t ∈ st) ∧ ts.length ≤ st.length
instance : Mo (pSetM K P w st) := ⟨fun e ⟨a, ts, h1, h2, h3, h4, h5, h6⟩ => ⟨a, ts, h1, e _ _ h2, fun p hp => Same.tup e (h3 p hp), h4, h5, h6⟩⟩
theorem ev_setM (h : EvR D te σ B (pMap K (tri K) st)) (hl : st.length < 64) : EvR D (tCB (rSetM K P w) (tCons te tNil)) σ B (pSetM K P w st) :=
  haveI : Mo (pMap K (tri K) st) := inferInstance
  ev_cb (ea_one h) fun vs B2 e ⟨v, e1, l, xs, e3, hx, px⟩ => fun H at_ Q q => by
    obtain ⟨ts, rfl, es, hts⟩ := tri_refs px
    refine ⟨l, ts, by rw [e1, e3], Same.lst at_.sm hx, fun p hp => Same.tup at_.sm (hts p hp), by rw [es, List.length_map] at hl; exact hl, fun a ts' ha hs hall nd hle => ?_⟩
    refine q _ _ _ (Stp.made at_ ha) ⟨a, ts', rfl, upd_same, fun p hp => Same.tup (Same.new (at_.sm.free ha)) (hts p (hs p hp)), nd, fun t => ⟨fun m => ?_, fun m => ?_⟩, by rw [es, List.length_map]; exact hle⟩
    · obtain ⟨p, hp, rfl⟩ := List.mem_map.mp m
      rw [es]
      exact List.mem_map.mpr ⟨p, hs p hp, rfl⟩
    · rw [es] at m
      obtain ⟨p, hp, rfl⟩ := List.mem_map.mp m
      exact hall p hp
theorem ev_sortM (h : EvR D te σ B (pMap K (tri K) st)) (hl : st.length < 64) : EvR D (tCB (rSortM K P w) (tCons (tCB (rSetM K P w) (tCons te tNil)) tNil)) σ B (pEx (SortOf (fun a b => ltT a b = true) st) (fun m => pLst K (tri K) m)) :=
  ev_cb (ea_one (ev_setM h hl)) fun vs B2 e ⟨v, e0, a, ts, e1, ha, hts, nd, hm, hle⟩ => fun H at_ Q q =>
    ⟨a, ts, by rw [e0, e1], at_.sm _ _ ha, fun p hp => Same.tup at_.sm (hts p hp), nd, fun ts' p pm pw hp => q _ _ _ (Stp.made at_ hp) ⟨ts'.map (·.2), ⟨List.pairwise_map.mpr pw, fun t => by rw [← hm]; exact (pm.map (·.2)).mem_iff, by rw [List.length_map, pm.length_eq]; exact hle⟩, p, _, rfl, upd_same, refs_tri fun r hr => Same.tup (Same.new (at_.sm.free hp)) (hts r (pm.mem_iff.mp hr))⟩⟩
theorem num_list {H : Hp} : ∀ {ns : List Int}, Paired (fun a v => num a v H) ns (ns.map V.int)
  | [] => .nil
  | n :: ns => .cons rfl num_list
def pSetI (w : World) (ns : List Int) : PV := fun x H => ∃ a c, x = V.ref a ∧ H a = some (SetO w a (fun j => decide (j ∈ ns)) c) ∧ c ≤ ns.length
instance : Mo (pSetI w ns) := ⟨fun e ⟨a, c, h1, h2, h3⟩ => ⟨a, c, h1, e _ _ h2, h3⟩⟩
theorem ev_setI (h : EvR D te σ B (pMap K num ns)) (hl : ns.length < 60) : EvR D (tCB (rSetI K w) (tCons te tNil)) σ B (pSetI w ns) :=
  haveI : Mo (pMap K num ns) := inferInstance
  ev_cb (ea_one h) fun vs B2 e ⟨v, e1, l, xs, e3, hx, px⟩ => fun H at_ Q q =>
    ⟨l, ns, by rw [e1, e3], by rw [← paired_num px]; exact Same.lst at_.sm hx, hl, fun a c ha hc => q _ _ _ (Stp.made at_ ha) ⟨a, c, rfl, upd_same, hc⟩⟩
theorem ev_sortI (h : EvR D te σ B (pMap K num ns)) (hl : ns.length < 60) : EvR D (tCB (rSortedSet w) (tCons (tCB (rSetI K w) (tCons te tNil)) tNil)) σ B (pEx (SortOf (fun a b => a < b) ns) (fun m => pLst K num m)) :=
  ev_cb (ea_one (ev_setI h hl)) fun vs B2 e ⟨v, e0, a, c, e1, ha, hc⟩ => fun H at_ Q q =>
    ⟨a, _, c, by rw [e0, e1], at_.sm _ _ ha, by omega, fun ms p pw hm hlen hp => q _ _ _ (Stp.made at_ hp) ⟨ms, ⟨pw, fun k => by rw [hm, decide_eq_true_eq], by omega⟩, p, _, rfl, upd_same, num_list⟩⟩
/-- strictly sorted: ascending -/
theorem asc_of {α : Type} {f : α → α → Bool} : ∀ {l : List α}, l.Pairwise (fun a b => f a b = true) → ((l.zip l.tail).all fun p => f p.1 p.2) = true
  | [], _ => rfl
  | [a], _ => rfl
  | a :: b :: l, h => by
    obtain ⟨h1, h2⟩ := List.pairwise_cons.mp h
    have := asc_of h2
    show (f a b && ((b :: l).zip l).all fun p => f p.1 p.2) = true
    rw [h1 b List.mem_cons_self]
    exact this
theorem ascT_of {m : List Tri} (h : SortOf (fun a b => ltT a b = true) st m) : ascT m = true := asc_of h.pw
theorem ascI_of {m : List Int} (h : SortOf (fun a b => a < b) ns m) : ascI m = true := asc_of (f := fun a b => decide (a < b)) (h.pw.imp fun h => decide_eq_true h)
end
end CW
set_option Elab.async false
set_option linter.all false
set_option maxRecDepth 100000
set_option maxHeartbeats 4000000
/-! W6: machine_in, require_machine, Machine.__eq__. -/
namespace CW
open PySem PySem.Spec PyProof.Rows L2
/-- the machine that machine_in makes of these -/
structure MSort (M M' : MD) : Prop where
  l : M'.L = M.L
  n : M'.n = M.n
  s : SortOf (fun a b => ltT a b = true) M.st M'.st
  e : SortOf (fun a b => a < b) M.en M'.en
def spMin (K : PySem.W.Frag) : Sp := PSp (fun _ (M : MD) vs B => (∃ x y, vs = [.str M.L, .int M.n, x, y] ∧ pMap K (tri K) M.st x B ∧ pMap K num M.en y B) ∧ M.st.length < 64 ∧ M.en.length < 60) (fun M => pEx (MSort M) (pMac K))
def spReqM (K : PySem.W.Frag) : Sp := PSp (fun _ (M : MD) vs B => (∃ x, vs = [x] ∧ pMac K M x B) ∧ True) (fun _ => pEq .non)
section
variable {P : Program} {w : World} {K : PySem.W.Frag} {mg : Str → Option Value} {base : Heap} {D : Dm} {σ : L2.St} {B H : Hp} {te ta : TE}
theorem EvN.imp {t : TS} {P P' : L2.St → Hp → Prop} (h : EvN D t σ B P) (g : ∀ σ2 B2, Same B B2 → P σ2 B2 → P' σ2 B2) : EvN D t σ B P' := fun H a Ds q => h H a Ds fun σ2 B2 H2 e p => q σ2 B2 H2 e (g σ2 B2 e.bs p)
/-- if not ..: raise, the last: it goes on -/
theorem en_ifF {tt : TT} {t : TS} (h : EvT D tt σ B (is false)) : EvN D (tIfS tt t tNext) σ B (fun σ2 _ => σ2 = σ) := fun H a Ds q => h H a _ fun b B2 H2 e p => by
  subst p
  exact q σ B2 H2 e rfl
theorem PSp.bodyN {α : Type} {Pre : Dm → α → List V → Hp → Prop} {Post : α → PV} {N : List Str} {t : TS} {vs : List V} {H : Hp} {Q : VK} {E : XK} (h : PSp Pre Post vs H Q E) (k : ∀ D a B, Pre D a vs B → EvN D t (start N vs) B (fun _ B2 => Post a .non B2)) :
    t { nx := fun _ H' => Q .non H', rt := Q } (start N vs) H := by
  obtain ⟨D, B, a, at_, p, q⟩ := h
  exact k D a B p H at_ _ fun σ2 B2 H2 e po => q _ B2 H2 e po
theorem isI_ins {x : Str} {a dx : Addr} {fs : List (Str × V)} (cl : Cls K (He.ga K x)) (si : SlX.SIsi K (He.ga K x)) (kz : PySem.W.kitOne K (.ref (He.ga K x)) (.ref (He.ga K x)) = some true) (ho : H a = some (.ins (He.ga K x) dx fs)) : IsI K H (.ref a) (.ref (He.ga K x)) true :=
  ⟨_, .base (.ins ho cl si.ca si.cn si.ct si.cm), kz⟩
abbrev tTupOf (K : PySem.W.Frag) (t : TA) : TE := tCB (fun xs H Q => ∃ p ys, xs = [.ref p] ∧ ((SqL K H p ys ∧ ∀ l, H l = none → Q (.ref l) (upd H l (.tup ys))) ∨ (SqT K H p ys ∧ Q (.ref p) H))) t
abbrev tLstOf (K : PySem.W.Frag) (t : TA) : TE := tCB (fun xs H Q => ∃ p ys, xs = [.ref p] ∧ (SqL K H p ys ∨ SqT K H p ys) ∧ ∀ l, H l = none → Q (.ref l) (upd H l (.lst ys))) t
theorem ev_tupleEx {α : Type} {R : α → PV} {c : List α → Prop} [∀ a, Mo (R a)] (h : EvR D te σ B (pEx c (fun m => pLst K R m))) : EvR D (tTupOf K (tCons te tNil)) σ B (pEx c (fun m => pMapT K R m)) :=
  ev_cb (ea_one h) fun vs B2 e ⟨v, e1, m, cm, p, xs, e2, hl, pr⟩ => EvV.new (o := .tup xs) (fun H Q s q => ⟨p, xs, by rw [e1, e2], .inl ⟨SqL.of (s _ _ hl), q⟩⟩) fun q hq => ⟨m, cm, q, xs, rfl, SqT.of upd_same, Paired.mono (fun a v h => Mo.mo (Same.new hq) h) pr⟩
theorem ea_consX {tr : TA} {R : List V → Hp → Prop} {P : PV} [Mo P] (h : EvR D te σ B P) (hr : ∀ B2, Same B B2 → EvA D tr σ B2 R) : EvA D (tCons te tr) σ B (fun vs H' => ∃ v r, vs = v :: r ∧ P v H' ∧ R r H') := ea_cons h hr
theorem par_made {M : MD} {x dx : Addr} {o d : HO} {B : Hp} (hx : B x = none) (hd : B dx = none) (hn : dx ≠ x) (h : ∃ s e, o = SlX.SlO x (He.ga K "Parts") dx [some e, some (.str M.L), some (.int M.n), some s] ∧ d = .xd [] ∧ stp K M.st s B ∧ nms_ K M.en e B) : pPar K M (.ref x) (upd (upd B dx d) x o) := by
  obtain ⟨s', e', q1, q2, q3, q4⟩ := h
  have n1 : Same B (upd (upd B dx d) x o) := (Same.new hd).trans (Same.new (by rw [upd_ne (Ne.symm hn)]; exact hx))
  exact ⟨x, dx, s', e', rfl, .inr ⟨by rw [upd_same, q1], by rw [upd_ne hn, upd_same, q2]⟩, Mo.mo n1 q3, Mo.mo n1 q4⟩
theorem mac_made {M : MD} {x dx : Addr} {o d : HO} {B : Hp} (hx : B x = none) (hd : B dx = none) (hn : dx ≠ x) (h : macPost K M x dx o d B) : pMac K M (.ref x) (upd (upd B dx d) x o) := by
  obtain ⟨s', e', q1, q2, q3, q4⟩ := h
  have n1 : Same B (upd (upd B dx d) x o) := (Same.new hd).trans (Same.new (by rw [upd_ne (Ne.symm hn)]; exact hx))
  exact ⟨x, dx, s', e', rfl, by rw [upd_same, q1], Mo.mo n1 q3, Mo.mo n1 q4⟩
theorem sc_machine_in : FnScope ["letters", "size", "steps", "ends"] ["letters", "size", "steps", "ends"] d_machine_in.scope := ⟨rfl, rfl, rfl, by decide +kernel, rfl, by decide +kernel, by decide +kernel⟩
theorem fn_machine_in (T : Tz K mg) : Fn P w K mg base 6 "machine_in" (spMin K) := by
  refine fn_of T.h_machine_in T.g_machine_in rfl sc_machine_in (fun _ _ _ _ _ _ us hl => match us, hl with | [_, _, _, _], _ => rfl) (fun vs H Q E h => ?_) (BodyOk0.ok fun cdv A outer s H vs Q E hr h => ?_)
  · obtain ⟨_, _, _, _, p, _⟩ := h
    obtain ⟨⟨_, _, rfl, _⟩, _⟩ := p
    rfl
  refine ⟨_, pss_one (ps_ret (StX.pe_makeR T.mk_Machine (in_Mac1 T) (hr.mono (by decide)) (by rfl) T.g_Machine passL (pa_cons (StX.pe_makeR T.mk_Parts (in_Parts T) (hr.mono (by decide)) (by rfl) T.g_Parts passL (pa_cons (pv 0) (pa_cons (pv 1) (pa_cons (pe_callTy call_tuple_of (by rfl) T.b_tuple boot_tuple (pa_cons (pe_callB (cr_sortM rfl) (by rfl) T.b_sorted boot_sorted (pa_cons (pe_callTy (cr_setM rfl hr.units) (by rfl) T.b_set boot_set (pa_cons (pe_callTy call_list_of (by rfl) T.b_list boot_list (pa_cons (pv 2) pa_nil)) pa_nil)) pa_nil)) pa_nil)) (pa_cons (pe_callTy call_tuple_of (by rfl) T.b_tuple boot_tuple (pa_cons (pe_callB (cr_sortedSet rfl) (by rfl) T.b_sorted boot_sorted (pa_cons (pe_callTy (cr_setI rfl) (by rfl) T.b_set boot_set (pa_cons (pe_callTy call_list_of (by rfl) T.b_list boot_list (pa_cons (pv 3) pa_nil)) pa_nil)) pa_nil)) pa_nil)) pa_nil))))) pa_nil))), h.body (N := ["letters", "size", "steps", "ends"]) fun D a B p => ?_⟩
  · obtain ⟨⟨x, y, rfl, hx, hy⟩, hs, he⟩ := p
    have one : EvR D (StX.tMakeR (He.ga K "Parts") (spPartsI K) E0 (tCons (tVar 0) (tCons (tVar 1) (tCons (tTupOf K (tCons (tCB (rSortM K P w) (tCons (tCB (rSetM K P w) (tCons (tLstOf K (tCons (tVar 2) tNil)) tNil)) tNil)) tNil)) (tCons (tTupOf K (tCons (tCB (rSortedSet w) (tCons (tCB (rSetI K w) (tCons (tLstOf K (tCons (tVar 3) tNil)) tNil)) tNil)) tNil)) tNil)))))
        (start ["letters", "size", "steps", "ends"] [.str a.L, .int a.n, x, y]) B (pEx (MSort a) (pPar K)) := by
      refine ev_makeX (c := MSort a) (R := fun vs H => ∃ M', MSort a M' ∧ fourArgs K M' vs H) ?_ (fun vs B2 _ r => r) fun M' x dx o d B8 cM hx8 hd8 hn po => ⟨M', cM, par_made hx8 hd8 hn po⟩
      refine (ea_consX (P := pEq (.str a.L)) (ev_varE rfl) fun B2 s2 => ea_consX (P := pEq (.int a.n)) (ev_varE rfl) fun B3 s3 => ea_consX (ev_tupleEx (ev_sortM ((ev_listOfL (ev_var rfl (Mo.mo (s2.trans s3) hx))).imp fun v B4 _ h => pLst.map h) hs)) fun B4 s4 => ea_one (ev_tupleEx (ev_sortI ((ev_listOfL (ev_var rfl (Mo.mo ((s2.trans s3).trans s4) hy))).imp fun v B4 _ h => pLst.map h) he))).imp fun vs B5 _ h => ?_
      obtain ⟨v1, r1, rfl, rfl, v2, r2, rfl, rfl, v3, r3, rfl, ⟨st', c1, h1⟩, v4, rfl, en', c2, h2⟩ := h
      exact ⟨⟨a.L, a.n, st', en'⟩, ⟨rfl, rfl, c1, c2⟩, v3, v4, rfl, h1, h2⟩
    refine es_ret (ev_makeX (c := MSort a) (ea_one one) (fun vs B2 _ ⟨v, e1, M', cM, hp⟩ => ⟨M', cM, v, e1, hp⟩) fun M' x dx o d B8 cM hx8 hd8 hn po => ⟨M', cM, mac_made hx8 hd8 hn po⟩)
theorem sc_require_machine : FnScope ["value"] ["value"] d_require_machine.scope := ⟨rfl, rfl, rfl, by decide +kernel, rfl, by decide +kernel, by decide +kernel⟩
theorem fn_require_machine (T : Tz K mg) : Fn P w K mg base 1 "require_machine" (spReqM K) := by
  refine fn_of T.h_require_machine T.g_require_machine rfl sc_require_machine (fun _ _ _ _ _ _ us hl => match us, hl with | [_], _ => rfl) (fun vs H Q E h => ?_) (BodyOk0.ok fun cdv A outer s H vs Q E hr h => ?_)
  · obtain ⟨_, _, _, _, p, _⟩ := h
    obtain ⟨⟨_, rfl, _⟩, _⟩ := p
    rfl
  refine ⟨_, pss_one (ps_if (pt_not (pt_val (pe_callB call_isi (by rfl) T.b_isinstance boot_isinstance (pa_cons (pv 0) (pa_cons (pe_glob (v := .ref (He.ga K "Machine")) (by rfl) T.g_Machine rfl) pa_nil))))) (pss_one ps_never) pss_nil), h.bodyN (N := ["value"]) fun D a B p => ?_⟩
  · obtain ⟨⟨x, rfl, hx⟩, _⟩ := p
    obtain ⟨c, dx, s, e, rfl, ho, _, _⟩ := hx
    exact (en_ifF ((et_not (et_B (ev_isi (b := true) (ev_varE rfl) (fun _ _ => ev_c) (.own _) (isI_ins T.cl_Machine T.si_Machine T.kz_Machine ho)))).to rfl)).imp fun _ _ _ _ => rfl
end
end CW
set_option Elab.async false
set_option linter.all false
set_option maxRecDepth 100000
set_option maxHeartbeats 4000000
/-! W7: texts written: joined_words, write_machine. -/
namespace CW
open PySem PySem.Spec PyProof.Rows L2
theorem call_strW {X : Cx} : CallR X (.type "str") (fun xs H Q => (∃ i, xs = [.int i] ∧ i.natAbs.log2 < 1920 ∧ Q (.str (toString i)) H) ∨ ∃ a, xs = [.str a] ∧ Q (.str a) H) := call_str_int.or SkE.call_str_str
/-- an int's digits -/
abbrev dig (i : Int) : Str := Str.ofString (toString i)
def keyS : Key → Str
  | .inl i => dig i
  | .inr x => x
def pKey (k : Key) : PV := pEq (kV k)
instance {k : Key} : Mo (pKey k) := ⟨fun _ h => h⟩
def keyD : Key → PyData
  | .inl i => .int i
  | .inr x => .str x
def keyOkS : Key → Bool
  | .inl i => decide (i.natAbs.log2 < 1920)
  | .inr x => PyData.strOk x
def sp1 : Str := " "
def nl1 : Str := "\n"
def dash : Str := "-"
def joinW (ks : List Key) : Str := if ks = [] then dash else Txt.join sp1 (ks.map keyS)
section
variable {K : PySem.W.Frag} {H : Hp}
theorem dp_keys : ∀ {ks : List Key} {xs : List V}, Paired (fun a v => pKey a v H) ks xs → DpAll K H xs (ks.map keyD)
  | _, _, .nil => .nil
  | .inl i :: _, _, .cons r t => by rw [show _ = V.int i from r]; exact .cons (.int i) (dp_keys t)
  | .inr x :: _, _, .cons r t => by rw [show _ = V.str x from r]; exact .cons (.str x) (dp_keys t)
theorem can_keys : ∀ {ks : List Key}, (∀ k ∈ ks, keyOkS k = true) → PyData.canLayAll0 (ks.map keyD) = true
  | [], _ => by simp [PyData.canLayAll0]
  | .inl i :: ks, h => by
    have := can_keys fun k hk => h k (List.mem_cons_of_mem _ hk)
    simp [PyData.canLayAll0, PyData.canLay0, keyD, this]
  | .inr x :: ks, h => by
    have h1 : PyData.strOk x = true := h (.inr x) List.mem_cons_self
    have := can_keys fun k hk => h k (List.mem_cons_of_mem _ hk)
    simp [PyData.canLayAll0, PyData.canLay0, keyD, this, h1]
theorem dep_keys : ∀ ks : List Key, PyData.depthAll (ks.map keyD) ≤ 1
  | [] => by simp [PyData.depthAll]
  | k :: ks => by
    have := dep_keys ks
    have h1 : (keyD k).depth ≤ 1 := by cases k <;> simp [keyD, PyData.depth]
    simp only [List.map_cons, PyData.depthAll]
    omega
theorem shaped_keys {ks : List Key} (h : ∀ k ∈ ks, keyOkS k = true) : SeqAt.shaped (.list (ks.map keyD)) = true := by
  have := dep_keys ks
  unfold SeqAt.shaped
  rw [Bool.and_eq_true, decide_eq_true_eq]
  refine ⟨by simpa [PyData.canLay0] using can_keys h, ?_⟩
  simp only [PyData.depth]
  omega
theorem shaped_nil : SeqAt.shaped (.list []) = true := shaped_keys (ks := []) (fun k h => by cases h)
theorem eqv_nil (ks : List Key) : PyData.eqv (.list (ks.map keyD)) (.list []) = decide (ks = []) := by
  cases ks with
  | nil => simp [PyData.eqv, PyData.eqvAll]
  | cons k ks => simp [PyData.eqv, PyData.eqvAll]
end
def spJoin (K : PySem.W.Frag) : Sp := PSp (fun _ (ks : List Key) vs B => (∃ x, vs = [x] ∧ pMap K pKey ks x B) ∧ (∀ k ∈ ks, keyOkS k = true) ∧ ks.length < 100000 ∧ ((ks.map keyS).map (·.length)).sum + (ks.map keyS).length * sp1.length ≤ 16777216) (fun ks => pEq (.str (joinW ks)))
section
variable {P : Program} {w : World} {K : PySem.W.Frag} {mg : Str → Option Value} {base : Heap} {D : Dm} {σ : L2.St} {B H : Hp} {te ta : TE}
theorem paired_mapL {α β : Type} {R : β → PV} {f : α → β} : ∀ {as : List α} {xs : List V}, Paired (fun a v => R (f a) v H) as xs → Paired (fun b v => R b v H) (as.map f) xs
  | _, _, .nil => .nil
  | _, _, .cons r t => .cons r (paired_mapL t)
theorem pLst.fmap {α β : Type} {R : β → PV} {f : α → β} {as : List α} {x : V} (h : pLst K (fun a => R (f a)) as x H) : pLst K R (as.map f) x H := let ⟨p, xs, h1, h2, h3⟩ := h; ⟨p, xs, h1, h2, paired_mapL h3⟩
theorem sc_joined_words : FnScope ["words", "word"] ["words"] d_joined_words.scope := ⟨rfl, rfl, rfl, by decide +kernel, rfl, by decide +kernel, by decide +kernel⟩
theorem fn_joined_words (T : Tz K mg) : Fn P w K mg base 1 "joined_words" (spJoin K) := by
  obtain ⟨_, g_NOTHING⟩ := T.t_NOTHING
  refine fn_of T.h_joined_words T.g_joined_words rfl sc_joined_words (fun _ _ _ _ _ _ us hl => match us, hl with | [_], _ => rfl) (fun vs H Q E h => ?_) (BodyOk0.ok fun cdv A outer s H vs Q E hr h => ?_)
  · obtain ⟨_, _, _, _, p, _⟩ := h
    obtain ⟨⟨_, rfl, _⟩, _⟩ := p
    rfl
  refine ⟨_, pss_one (ps_ret (pe_ifExp (pt_cmpR (op_neD hr.units) (pv 0) (pe_lst pa_nil) (nomark _)) (pe_join pe_str (pe_lc (own := [("word", 1)]) (g := gName 1) (tt := tYes) (by rfl) sc_joined_words.nd (pi_list (pv 0)) (blkOk_by (N := ["words", "word"]) (sc := d_joined_words.scope) (own := [("word", 1)]) (by decide +kernel)) (fun _ _ _ _ _ => (pg_name (i := 1) sc_joined_words.nd rfl (Or.inl rfl))) (fun _ _ _ _ _ => pts_nil) (fun _ _ _ _ _ => (pe_callTy call_strW (by rfl) T.b_str boot_str (pa_cons (pv 1) pa_nil))))) (pe_glob (v := .str "-") (by rfl) g_NOTHING ⟨_, rfl⟩))), h.body (N := ["words", "word"]) fun D a B p => ?_⟩
  · obtain ⟨⟨x, rfl, hx⟩, hk, hl, hj⟩ := p
    obtain ⟨p, xs, rfl, hp, px⟩ := hx
    have hx : ∀ B2, Same B B2 → pMap K pKey a (.ref p) B2 := fun B2 e => Mo.mo (P := pMap K pKey a) e ⟨p, xs, rfl, hp, px⟩
    refine es_ret (ev_if (Pb := is (!decide (a = []))) ((et_test (ev_neD (K := K) (d := .list (a.map keyD)) (e := .list []) (ev_var rfl (.lst hp (dp_keys px))) (fun B2 s2 => ev_lstD ea_nilD (by show 0 ≤ 100000; omega)) (shaped_keys hk) shaped_nil)).to (by rw [eqv_nil])) (fun z B2 s2 => ?_) fun z B2 s2 => ?_)
    · have ne : a ≠ [] := by
        have z' : true = !decide (a = []) := z
        intro e
        rw [decide_eq_true e] at z'
        cases z'
      refine (ev_join (ys := a.map keyS) ev_c (fun B3 s3 => (ev_lc1 (R' := fun k => txt (keyS k)) (el_list (ev_var rfl (hx _ (s2.trans s3)))) hl (fun k y B4 hk4 s4 hy => ?_) (fun _ _ _ _ e h => h)).imp fun v B4 _ h => pLst.map (pLst.fmap h)) hj).to (by unfold joinW; rw [if_neg ne] <;> rfl)
      obtain rfl : y = _ := hy
      refine ev_cbE (ea_oneE (ev_varE rfl)) fun B5 s5 => EvV.nowE fun H Q s q => ?_
      have ok := hk k hk4
      cases k with
      | inl i => exact .inl ⟨i, rfl, of_decide_eq_true ok, q⟩
      | inr z => exact .inr ⟨z, rfl, q⟩
    · have e : a = [] := by
        have z' : false = !decide (a = []) := z
        by_cases c : a = []
        · exact c
        · rw [decide_eq_false c] at z'; cases z'
      exact ev_c.to (by unfold joinW; rw [if_pos e] <;> rfl)
end
end CW
set_option Elab.async false
set_option linter.all false
set_option maxRecDepth 100000
set_option maxHeartbeats 4000000
/-! W8: write_machine. -/
namespace CW
open PySem PySem.Spec PyProof.Rows L2 TL
theorem dig_nat (n : Nat) : cs (dig n) = numL n := tl_num n
theorem dig_of {i : Int} (h : 0 ≤ i) : dig i = dig ((i.toNat : Nat) : Int) := by rw [Int.toNat_of_nonneg h]
theorem dig_len {i : Int} (h0 : 0 ≤ i) (h1 : i < 1000000) : (dig i).length ≤ 6 := by
  rw [dig_of h0, ← len_cs, dig_nat]
  exact numL_len (by decide) (by show i.toNat < 1000000; omega)
theorem dig_log {i : Int} (h0 : 0 ≤ i) (h1 : i < 1000000) : i.natAbs.log2 < 1920 := by
  have : i.natAbs < 2 ^ 20 := by omega
  have h2 : i.natAbs.log2 < 20 := by
    by_cases z : i.natAbs = 0
    · rw [z]; decide
    · exact (Nat.log2_lt z).mpr this
  omega
def headL (k : Str) (L : Str) (n : Int) : Str := catS Str.empty [k, L, sp1, dig n]
def kMach : Str := "machine "
def kBox : Str := "box "
def kStep : Str := "step "
def kEnds : Str := "ends "
def stepL (t : Tri) : Str := catS Str.empty [kStep, dig t.1, sp1, t.2.1, sp1, dig t.2.2]
def endsL (en : List Int) : Str := kEnds ++ joinW (en.map .inl)
def rowsL (M : MD) : List Str := [headL kMach M.L M.n] ++ M.st.map stepL ++ [endsL M.en]
def textM (M : MD) : Str := Txt.join nl1 (rowsL M)
structure MD.Sm (M : MD) : Prop where
  l : M.L.length ≤ 100
  n0 : 0 ≤ M.n
  n1 : M.n < 1000000
  k : M.st.length ≤ 100
  s : ∀ t ∈ M.st, (0 ≤ t.1 ∧ t.1 < 1000000) ∧ (0 ≤ t.2.2 ∧ t.2.2 < 1000000) ∧ t.2.1.length ≤ 10
  ek : M.en.length ≤ 100
  e : ∀ j ∈ M.en, 0 ≤ j ∧ j < 1000000
theorem catS_len : ∀ (xs : List Str) (a : Str), (catS a xs).length = a.length + (xs.map (·.length)).sum
  | [], a => by simp [catS]
  | x :: xs, a => by
    show (catS (a ++ x) xs).length = _
    rw [catS_len xs, Str.length_append, List.map_cons, List.sum_cons]
    omega
theorem sum_le {α : Type} {f : α → Nat} {b : Nat} : ∀ {l : List α}, (∀ a ∈ l, f a ≤ b) → (l.map f).sum ≤ l.length * b
  | [], _ => by simp
  | a :: l, h => by
    have h1 := h a List.mem_cons_self
    have h2 := sum_le (l := l) fun x hx => h x (List.mem_cons_of_mem _ hx)
    rw [List.map_cons, List.sum_cons, List.length_cons, Nat.add_mul]
    omega
theorem headL_len {k L : Str} {n : Int} (hk : k.length ≤ 10) (h : L.length ≤ 100) (h0 : 0 ≤ n) (h1 : n < 1000000) : (headL k L n).length ≤ 200 := by
  have := dig_len h0 h1
  unfold headL
  rw [catS_len]
  have e1 : sp1.length = 1 := rfl
  have e3 : Str.empty.length = 0 := rfl
  simp only [List.map_cons, List.map_nil, List.sum_cons, List.sum_nil, e1, e3]
  omega
theorem stepL_len {t : Tri} (h : (0 ≤ t.1 ∧ t.1 < 1000000) ∧ (0 ≤ t.2.2 ∧ t.2.2 < 1000000) ∧ t.2.1.length ≤ 10) : (stepL t).length ≤ 40 := by
  have h1 := dig_len h.1.1 h.1.2
  have h2 := dig_len h.2.1.1 h.2.1.2
  have h3 := h.2.2
  unfold stepL
  rw [catS_len]
  have e1 : sp1.length = 1 := rfl
  have e2 : kStep.length = 5 := rfl
  have e3 : Str.empty.length = 0 := rfl
  simp only [List.map_cons, List.map_nil, List.sum_cons, List.sum_nil, e1, e2, e3]
  omega
theorem join_len (a : Str) : ∀ xs : List Str, (Txt.join a xs).length ≤ (xs.map (·.length)).sum + xs.length * a.length := by
  intro xs
  rw [join_eq, ← len_cs]
  show (tl (Str.join a xs)).length ≤ _
  rw [tl_join]
  have gen : ∀ xs : List Str, (joinL (tl a) (xs.map tl)).length ≤ (xs.map (·.length)).sum + xs.length * a.length := by
    intro xs
    have la : (tl a).length = a.length := len_cs a
    induction xs with
    | nil => simp [joinL]
    | cons x xs ih =>
      have lx : (tl x).length = x.length := len_cs x
      cases xs with
      | nil => simp [joinL, lx]
      | cons y ys =>
        simp only [List.map_cons, joinL, List.length_append, List.sum_cons, List.length_cons] at ih ⊢
        rw [lx, la]
        have : (ys.length + 1 + 1) * a.length = (ys.length + 1) * a.length + a.length := by rw [Nat.add_mul (ys.length + 1) 1, Nat.one_mul]
        omega
  exact gen xs
theorem sum_digs {en : List Int} (h : ∀ j ∈ en, 0 ≤ j ∧ j < 1000000) : (((en.map (Sum.inl : Int → Key)).map keyS).map (·.length)).sum ≤ en.length * 6 := by
  rw [List.map_map, List.map_map]
  exact sum_le fun j hj => dig_len (h j hj).1 (h j hj).2
theorem joinW_len {en : List Int} (h : ∀ j ∈ en, 0 ≤ j ∧ j < 1000000) : (joinW (en.map .inl)).length ≤ en.length * 7 + 1 := by
  have sm := sum_digs h
  unfold joinW
  split
  · show 1 ≤ _; omega
  · refine Nat.le_trans (join_len _ _) ?_
    have e1 : sp1.length = 1 := rfl
    rw [List.length_map, List.length_map, e1]
    omega
theorem rows_small {a : MD} (sm : a.Sm) : ((rowsL a).map (·.length)).sum + (rowsL a).length * nl1.length ≤ 100000 := by
  have h1 := headL_len (k := kMach) (by decide) sm.l sm.n0 sm.n1
  have h2 := sum_le (l := a.st) (f := fun t => (stepL t).length) (b := 40) fun t ht => stepL_len (sm.s t ht)
  have h3 := joinW_len sm.e
  have h4 := sm.k
  have h5 := sm.ek
  have e1 : nl1.length = 1 := rfl
  have e2 : (endsL a.en).length = 5 + (joinW (a.en.map .inl)).length := by unfold endsL; rw [Str.length_append] <;> rfl
  unfold rowsL
  simp only [List.map_append, List.map_cons, List.map_nil, List.sum_append, List.sum_cons, List.sum_nil, List.length_append, List.length_cons, List.length_nil, List.length_map, List.map_map, e1, e2]
  have h6 : (a.st.map ((fun x => x.length) ∘ stepL)).sum ≤ a.st.length * 40 := h2
  omega
def spWriteM (K : PySem.W.Frag) : Sp := PSp (fun _ (M : MD) vs B => (∃ x, vs = [x] ∧ pMac K M x B) ∧ M.Sm) (fun M => pEq (.str (textM M)))
theorem lookL (M : MD) (s e : V) : (macF M s e).lookup ("own_letters" : Str) = some (V.str M.L) := rfl
theorem lookN (M : MD) (s e : V) : (macF M s e).lookup ("own_size" : Str) = some (V.int M.n) := rfl
theorem lookS (M : MD) (s e : V) : (macF M s e).lookup ("own_steps" : Str) = some s := rfl
theorem lookE (M : MD) (s e : V) : (macF M s e).lookup ("own_ends" : Str) = some e := rfl
section
variable {P : Program} {w : World} {K : PySem.W.Frag} {mg : Str → Option Value} {base : Heap} {D : Dm} {σ : L2.St} {B H : Hp} {te ta : TE} {M : MD} {tA : TA} {zs : List Str}
theorem ev_macL (T : Tz K mg) (h : EvR D te σ B (pMac K M)) : EvR D (tFld K te "own_letters") σ B (pEq (.str M.L)) := ev_fld T.cl_Machine T.na_Machine_own_letters (h.imp fun v B2 _ ⟨a, dx, s, e, e1, ho, h3, h4⟩ => ⟨a, dx, _, _, e1, ho, lookL .., rfl⟩)
theorem ev_macN (T : Tz K mg) (h : EvR D te σ B (pMac K M)) : EvR D (tFld K te "own_size") σ B (pEq (.int M.n)) := ev_fld T.cl_Machine T.na_Machine_own_size (h.imp fun v B2 _ ⟨a, dx, s, e, e1, ho, h3, h4⟩ => ⟨a, dx, _, _, e1, ho, lookN .., rfl⟩)
theorem ev_macS (T : Tz K mg) (h : EvR D te σ B (pMac K M)) : EvR D (tFld K te "own_steps") σ B (stp K M.st) := ev_fld T.cl_Machine T.na_Machine_own_steps (h.imp fun v B2 _ ⟨a, dx, s, e, e1, ho, h3, h4⟩ => ⟨a, dx, _, s, e1, ho, lookS .., h3⟩)
theorem ev_macE (T : Tz K mg) (h : EvR D te σ B (pMac K M)) : EvR D (tFld K te "own_ends") σ B (nms_ K M.en) := ev_fld T.cl_Machine T.na_Machine_own_ends (h.imp fun v B2 _ ⟨a, dx, s, e, e1, ho, h3, h4⟩ => ⟨a, dx, _, e, e1, ho, lookE .., h4⟩)
theorem txt_list {H : Hp} : ∀ {zs : List Str}, Paired (fun a v => txt a v H) zs (zs.map V.str)
  | [] => .nil
  | z :: zs => .cons rfl txt_list
/-- [.., ..] of texts -/
theorem ev_lstS (h : EvA D tA σ B (fun vs _ => vs = zs.map V.str)) (hl : zs.length ≤ 100000) : EvR D (tLst tA) σ B (pLst K txt zs) :=
  (ev_lst (R := fun vs _ => vs = zs.map V.str) h (fun vs _ e => by rw [e, List.length_map]; exact hl) fun _ _ _ _ h => h).imp fun v B2 _ ⟨p, vs, e1, e2, e3⟩ => ⟨p, vs, e1, e2, by rw [e3]; exact txt_list⟩
/-- *zs, then more -/
theorem ea_starS {tr : TA} {ys : List Str} (h : EvR D te σ B (pLst K txt zs)) (hr : ∀ B2, Same B B2 → EvA D tr σ B2 (fun vs _ => vs = ys.map V.str)) : EvA D (StX.tStar K te tr) σ B (fun vs _ => vs = (zs ++ ys).map V.str) :=
  (ea_star (R := fun vs _ => vs = zs.map V.str) (h.imp fun v B2 _ ⟨p, xs, e1, e2, e3⟩ => ⟨p, xs, e1, .inr (SqL.of e2), paired_str e3⟩) (fun _ _ _ _ h => h) hr).imp fun vs B2 _ ⟨a, b, e1, e2, e3⟩ => by rw [e1, e2, e3, List.map_append]
/-- a, b, c = a triple -/
theorem sets_tri {i j k : Nat} {v : V} {t : Tri} (h : tri K t v B) : Sets D (gTup K 3 (gCons (gName i) (gCons (gName j) (gCons (gName k) gNil)))) v σ B (((σ.set i (some (.int t.1))).set j (some (.str t.2.1))).set k (some (.int t.2.2))) := by
  obtain ⟨p, rfl, hp⟩ := h
  exact sets_tup hp rfl fun H k q => ⟨_, _, rfl, _, _, rfl, _, _, rfl, rfl, q⟩
theorem sc_write_machine : FnScope ["machine", "lines", "here", "letter", "there"] ["machine"] d_write_machine.scope := ⟨rfl, rfl, rfl, by decide +kernel, rfl, by decide +kernel, by decide +kernel⟩
theorem fn_write_machine (T : Tz K mg) : Fn P w K mg base 2 "write_machine" (spWriteM K) := by
  refine fn_of T.h_write_machine T.g_write_machine rfl sc_write_machine (fun _ _ _ _ _ _ us hl => match us, hl with | [_], _ => rfl) (fun vs H Q E h => ?_) (BodyOk0.ok fun cdv A outer s H vs Q E hr h => ?_)
  · obtain ⟨_, _, _, _, p, _⟩ := h
    obtain ⟨⟨_, rfl, _⟩, _⟩ := p
    rfl
  refine ⟨_, pss_cons (ps_expr (pe_fn (fn_require_machine T) (hr.mono (by decide)) passL (pa_cons (pv 0) pa_nil)))
      (pss_cons (ps_set (i := 1) sc_write_machine.nd rfl (Or.inl rfl) (pe_lst (pa_cons (pe_joined (.cons pe_str (.cons (pe_fmt (pe_fld (pv 0) rfl)) (.cons pe_str (.cons (pe_fmt (pe_fld (pv 0) rfl)) .nil))))) pa_nil)))
      (pss_cons (ps_set (i := 1) sc_write_machine.nd rfl (Or.inl rfl) (pe_op op_cat (pv 1) (pe_lc (own := [("here", 2), ("letter", 3), ("there", 4)]) (g := gTup _ 3 (gCons (gName 2) (gCons (gName 3) (gCons (gName 4) gNil)))) (tt := tYes) (by rfl) sc_write_machine.nd (pi_tup (pe_fld (pv 0) rfl)) (blkOk_by (N := ["machine", "lines", "here", "letter", "there"]) (sc := d_write_machine.scope) (own := [("here", 2), ("letter", 3), ("there", 4)]) (by decide +kernel)) (fun _ _ _ _ _ => (pg_tup (by rfl) (pgs_cons (pg_name (i := 2) sc_write_machine.nd rfl (Or.inl rfl)) (pgs_cons (pg_name (i := 3) sc_write_machine.nd rfl (Or.inl rfl)) (pgs_cons (pg_name (i := 4) sc_write_machine.nd rfl (Or.inl rfl)) pgs_nil))))) (fun _ _ _ _ _ => pts_nil) (fun _ _ _ _ _ => (pe_joined (.cons pe_str (.cons (pe_fmt (pv 2)) (.cons pe_str (.cons (pe_fmt (pv 3)) (.cons pe_str (.cons (pe_fmt (pv 4)) .nil)))))))))))
      (pss_one (ps_ret (pe_join pe_str (pe_lst (StX.pa_star (pv 1) (pa_cons (pe_op op_add_str pe_str (pe_fn (fn_joined_words T) (hr.mono (by decide)) passL (pa_cons (pe_callTy call_list_of (by rfl) T.b_list boot_list (pa_cons (pe_fld (pv 0) rfl) pa_nil)) pa_nil))) pa_nil)))))))), h.body (N := ["machine", "lines", "here", "letter", "there"]) fun D a B p => ?_⟩
  · obtain ⟨⟨x, rfl, hx⟩, sm⟩ := p
    have hm : ∀ {σ : L2.St} B2, Same B B2 → σ[0]? = some (some x) → EvR D (tVar 0) σ B2 (pMac K a) := fun B2 e h => ev_var h (Mo.mo e hx)
    refine es_seq (en_drop (ev_psp (Post := fun _ => pEq .non) a (ea_one (hm B (Same.refl B) rfl)) fun vs B2 _ ⟨v, e1, e2⟩ => ⟨⟨v, e1, e2⟩, trivial⟩)) fun σ2 B2 s2 e => ?_
    subst e
    have lN := dig_log sm.n0 sm.n1
    refine es_set (P1 := pLst K txt [headL kMach a.L a.n]) (ev_lstS (zs := [headL kMach a.L a.n]) (ea_oneE (ev_joined (.cons ev_c fun B3 s3 => .cons (ev_fmtS (ev_macL T (hm _ (s2.trans s3) rfl)) (Nat.le_trans sm.l (by decide))) fun B4 s4 => .cons ev_c fun B5 s5 => .cons (ev_fmtI (ev_macN T (hm _ (((s2.trans s3).trans s4).trans s5) rfl)) lN) fun _ _ => .nil) (by
      have := headL_len (k := kMach) (by decide) sm.l sm.n0 sm.n1
      unfold headL at this
      rw [catS_len] at this
      have e3 : Str.empty.length = 0 := rfl
      rw [e3] at this
      exact Nat.le_trans (by simpa using this) (by decide : (200 : Nat) ≤ _)))) (by show 1 ≤ _; omega)) fun v B3 s3 hv => ?_
    have s23 := s2.trans s3
    refine es_set (P1 := pLst K txt ([headL kMach a.L a.n] ++ a.st.map stepL)) (ev_cat (ev_var rfl hv) (fun B4 s4 => (ev_lcL (R := tri K) (R' := fun t => txt (stepL t)) (el_tup (ev_macS T (hm _ (s23.trans s4) rfl))) (by have := sm.k; omega) fun t y B5 ht s5 hy => ⟨_, by rfl, sets_tri hy, fun B6 s6 => ?_⟩).imp fun v B5 _ h => pLst.fmap h) (by
      rw [List.length_map]
      have := sm.k
      show 1 + _ ≤ _
      exact Nat.le_trans (by omega : 1 + a.st.length ≤ 200) (by decide))) fun v4 B4 s4 hv4 => ?_
    · have ok := sm.s t ht
      refine ev_joined (.cons ev_c fun _ _ => .cons (ev_fmtI (i := t.1) (ev_varE rfl) (dig_log ok.1.1 ok.1.2)) fun _ _ => .cons ev_c fun _ _ => .cons (ev_fmtS (x := t.2.1) (ev_varE rfl) (Nat.le_trans ok.2.2 (by decide))) fun _ _ => .cons ev_c fun _ _ => .cons (ev_fmtI (i := t.2.2) (ev_varE rfl) (dig_log ok.2.1.1 ok.2.1.2)) fun _ _ => .nil) (by
        have := stepL_len ok
        unfold stepL at this
        rw [catS_len] at this
        have e3 : Str.empty.length = 0 := rfl
        rw [e3] at this
        exact Nat.le_trans (by simpa using this) (by decide : (40 : Nat) ≤ _))
    have s24 := s23.trans s4
    have okK : ∀ k ∈ a.en.map (Sum.inl : Int → Key), keyOkS k = true := fun k hk => by
      obtain ⟨j, hj, rfl⟩ := List.mem_map.mp hk
      exact decide_eq_true (dig_log (sm.e j hj).1 (sm.e j hj).2)
    have okJ : (((a.en.map (Sum.inl : Int → Key)).map keyS).map (·.length)).sum + ((a.en.map (Sum.inl : Int → Key)).map keyS).length * sp1.length ≤ 16777216 := by
      have e1 : sp1.length = 1 := rfl
      rw [List.length_map, List.length_map, e1]
      have := sum_digs sm.e
      have := sm.ek
      omega
    have okA : kEnds.length + (joinW (a.en.map .inl)).length ≤ sizeLine := by
      have := joinW_len sm.e
      have := sm.ek
      exact Nat.le_trans (by show 5 + _ ≤ 1000; omega) (by decide)
    have okL : (rowsL a).length ≤ 100000 := by
      show ([headL kMach a.L a.n] ++ a.st.map stepL ++ [endsL a.en]).length ≤ _
      rw [List.length_append, List.length_append, List.length_map]
      have := sm.k
      show 1 + _ + 1 ≤ _
      omega
    have okT := Nat.le_trans (rows_small sm) (by decide : 100000 ≤ 16777216)
    refine es_ret ((ev_join (ys := rowsL a) ev_c (fun B5 s5 => (ev_lstS (zs := rowsL a) (ea_starS (ev_var rfl (Mo.mo s5 hv4)) fun B6 s6 => ea_oneE (ev_addS (x := kEnds) (y := joinW (a.en.map .inl)) ev_c (fun B7 s7 => ev_psp (Post := fun ks => pEq (.str (joinW ks))) (a.en.map .inl) (ea_one ((ev_listOfT (ev_macE T (hm _ (((s24.trans s5).trans s6).trans s7) rfl))).imp fun v B8 _ h => pLst.map (pLst.fmap (R := pKey) (f := Sum.inl) h))) fun vs B8 _ ⟨v, e1, e2⟩ => ⟨⟨v, e1, e2⟩, okK, by rw [List.length_map]; have := sm.ek; omega, okJ⟩) okA)) okL).imp fun v B6 _ h => pLst.map h) okT).to rfl)
end
end CW
set_option Elab.async false
set_option linter.all false
set_option maxRecDepth 100000
set_option maxHeartbeats 1000000
/-! Hid: things that change while a def runs: hidden from the base, known to the heap. -/
namespace CW
open PySem PySem.Spec PyProof.Rows L2
structure Hd1 (D : Dm) (B H : Hp) (a : Addr) (o : HO) : Prop where
  ob : H a = some o
  nb : B a = none
  nd : ¬ D.ds a
/-- the demesne with such things, which stand as they are -/
def DH (D : Dm) (os : List (Addr × HO)) : Dm where
  ds := fun b => (∃ o, (b, o) ∈ os) ∨ D.ds b
  inv := fun H => (∀ p ∈ os, H p.1 = some p.2) ∧ D.inv H
  loc := fun {H H'} h i => ⟨fun p hp => by rw [h p.1 (.inl ⟨p.2, hp⟩)]; exact i.1 p hp, D.loc (fun d hd => h d (.inr hd)) i.2⟩
  there := fun {H d} i h => by
    rcases h with ⟨o, h⟩ | h
    · rw [i.1 (d, o) h]; exact Option.some_ne_none _
    · exact D.there i.2 h
/-- as an object changes: from (B0, H0) to (B, H), but for those at as -/
structure Chg (D : Dm) (as : List Addr) (B0 H0 B H : Hp) : Prop where
  bs : Same B0 B
  kx : ∀ b o, H0 b = some o → ¬ D.ds b → b ∉ as → H b = some o
  fr : ∀ b, H0 b ≠ none → B0 b = none → B b = none
  hv : ∀ b, H0 b ≠ none → H b ≠ none
section
variable {D : Dm} {K : PySem.W.Frag} {σ : L2.St} {B B0 B2 B3 H H0 H2 H3 : Hp} {a : Addr} {o o' : HO} {te ta : TE} {tt : TT} {P : PV} {os : List (Addr × HO)} {u t : TS} {Ds : Ends} {as : List Addr}
theorem at_DH (at_ : At D B H) (hs : ∀ p ∈ os, Hd1 D B H p.1 p.2) : At (DH D os) B H := ⟨fun d hd => by
  rcases hd with ⟨o, h⟩ | h
  · exact (hs _ h).nb
  · exact at_.off d h, at_.sm, fun p hp => (hs p hp).ob, at_.inv⟩
theorem DH.un (at_ : At (DH D os) B H) : At D B H := ⟨fun d hd => at_.off d (.inr hd), at_.sm, at_.inv.2⟩
theorem stp_DH (hs : ∀ p ∈ os, Hd1 D B H p.1 p.2) (e : Stp (DH D os) B H B2 H2) : Stp D B H B2 H2 := ⟨e.bs, DH.un e.at2, fun b o h1 h2 => by
  by_cases q : ∃ o, (b, o) ∈ os
  · obtain ⟨o', q⟩ := q
    have e1 := (hs _ q).ob
    have e2 := e.at2.inv.1 _ q
    dsimp only at e1 e2
    rw [h1] at e1
    rw [e2, e1]
  · exact e.x b o h1 fun z => z.elim q h2, e.fr⟩
theorem Hd1.stp (h : Hd1 D B H a o) (e : Stp D B H B2 H2) : Hd1 D B2 H2 a o := ⟨e.x a o h.ob h.nd, e.fr a (by rw [h.ob]; exact Option.some_ne_none _) h.nb, h.nd⟩
theorem Hd1.put (h : Hd1 D B H a o) : Hd1 D B (upd H a o') a o' := ⟨upd_same, h.nb, h.nd⟩
theorem Hd1.off {b : Addr} {p : HO} (h : Hd1 D B H b p) (hb : b ≠ a) : Hd1 D B (upd H a o') b p := ⟨by rw [upd_ne hb]; exact h.ob, h.nb, h.nd⟩
theorem Hd1.at_ (h : Hd1 D B H a o) (at_ : At D B H) : At D B (upd H a o') := at_.chg h.nb h.nd
/-- what is laid, hidden -/
theorem Hd1.new (at_ : At D B H) (h : H a = none) : Hd1 D B (upd H a o) a o := ⟨upd_same, at_.sm.free h, fun z => D.there at_.inv z h⟩
theorem Hd1.past {b : Addr} {p : HO} (h : Hd1 D B H b p) (ha : H a = none) : Hd1 D B (upd H a o) b p := h.off (ne_of_none h.ob ha)
theorem Hd1.ne {b : Addr} {p : HO} (h : Hd1 D B H a o) (h2 : Hd1 D B H b p) (n : o ≠ p) : a ≠ b := fun z => n (by
  have e1 := h.ob
  have e2 := h2.ob
  rw [z] at e1
  exact Option.some.inj (e1.symm.trans e2))
theorem Chg.refl : Chg D as B H B H := ⟨Same.refl B, fun _ _ h _ _ => h, fun _ _ h => h, fun _ h => h⟩
theorem Chg.of (i : D.inv H) (e : Stp D B H B2 H2) : Chg D as B H B2 H2 := ⟨e.bs, fun b o h1 h2 _ => e.x b o h1 h2, e.fr, fun b h => by
  by_cases q : D.ds b
  · exact D.there e.at2.inv q
  · cases w : H b with
    | none => exact absurd w h
    | some o => rw [e.x b o w q]; exact Option.some_ne_none _⟩
theorem Chg.trans (m : Chg D as B0 H0 B H) (n : Chg D as B H B2 H2) : Chg D as B0 H0 B2 H2 := ⟨m.bs.trans n.bs, fun b o h1 h2 h3 => n.kx b o (m.kx b o h1 h2 h3) h2 h3, fun b h1 h2 => n.fr b (m.hv b h1) (m.fr b h1 h2), fun b h => n.hv b (m.hv b h)⟩
theorem Chg.stp (m : Chg D as B0 H0 B H) (i : D.inv H) (e : Stp D B H B2 H2) : Chg D as B0 H0 B2 H2 := m.trans (Chg.of i e)
theorem Chg.put (m : Chg D as B0 H0 B H) (ha : a ∈ as) : Chg D as B0 H0 B (upd H a o') := ⟨m.bs, fun b o h1 h2 h3 => by rw [upd_ne (fun z : b = a => h3 (z ▸ ha))]; exact m.kx b o h1 h2 h3, m.fr, fun b h => by
  by_cases z : b = a
  · subst z; rw [upd_same]; exact Option.some_ne_none _
  · rw [upd_ne z]; exact m.hv b h⟩
theorem Chg.mono {bs : List Addr} (m : Chg D as B0 H0 B H) (h : ∀ a ∈ as, a ∈ bs) : Chg D bs B0 H0 B H := ⟨m.bs, fun b o h1 h2 h3 => m.kx b o h1 h2 fun z => h3 (h b z), m.fr, m.hv⟩
/-- what was new since may be left out -/
theorem Chg.drop (m : Chg D (a :: as) B0 H0 B H) (h : H0 a = none) : Chg D as B0 H0 B H := ⟨m.bs, fun b o h1 h2 h3 => m.kx b o h1 h2 fun z => by
  rcases List.mem_cons.mp z with z | z
  · rw [z, h] at h1; cases h1
  · exact h3 z, m.fr, m.hv⟩
theorem Chg.keep {b : Addr} {p : HO} (m : Chg D as B0 H0 B H) (h : Hd1 D B0 H0 b p) (hb : b ∉ as) : Hd1 D B H b p := ⟨m.kx b p h.ob h.nd hb, m.fr b (by rw [h.ob]; exact Option.some_ne_none _) h.nb, h.nd⟩
/-- nothing of old changed: a step -/
theorem Chg.done (m : Chg D [] B0 H0 B H) (at_ : At D B H) : Stp D B0 H0 B H := ⟨m.bs, at_, fun b o h1 h2 => m.kx b o h1 h2 (by simp), m.fr⟩
/-- the base comes to know what was hidden -/
theorem Hd1.know (h : Hd1 D B H a o) (at_ : At D B H) : At D (upd B a o) H := at_.know h.ob h.nb h.nd
/-! evaluation while such things stand -/
theorem EvR.hid {Q : VK} (h : EvR (DH D os) te σ B P) (at_ : At D B H) (hs : ∀ p ∈ os, Hd1 D B H p.1 p.2) (q : ∀ v B2 H2, Stp D B H B2 H2 → P v B2 → Q v H2) : te σ H Q :=
  h H (at_DH at_ hs) Q fun v B2 H2 e p => q v B2 H2 (stp_DH hs e) p
theorem EvT.hid {Q : Bool → Hp → Prop} {Pb : Bool → Prop} (h : EvT (DH D os) tt σ B Pb) (at_ : At D B H) (hs : ∀ p ∈ os, Hd1 D B H p.1 p.2) (q : ∀ b B2 H2, Stp D B H B2 H2 → Pb b → Q b H2) : tt σ H Q :=
  h H (at_DH at_ hs) Q fun v B2 H2 e p => q v B2 H2 (stp_DH hs e) p
/-- x = e; the rest -/
theorem sh_set {i : Nat} (h : EvR (DH D os) te σ B P) (at_ : At D B H) (hs : ∀ p ∈ os, Hd1 D B H p.1 p.2) (k : ∀ v B2 H2, Stp D B H B2 H2 → P v B2 → u Ds (σ.set i (some v)) H2) : tSeq (tAsg te (gName i)) u Ds σ H := h.hid at_ hs k
/-- x = e, the last -/
theorem sh_setL {i : Nat} (h : EvR (DH D os) te σ B P) (at_ : At D B H) (hs : ∀ p ∈ os, Hd1 D B H p.1 p.2) (k : ∀ v B2 H2, Stp D B H B2 H2 → P v B2 → Ds.nx (σ.set i (some v)) H2) : tAsg te (gName i) Ds σ H := h.hid at_ hs k
/-- if c: raise; the rest -/
theorem sh_ifF (h : EvT (DH D os) tt σ B (is false)) (at_ : At D B H) (hs : ∀ p ∈ os, Hd1 D B H p.1 p.2) (k : ∀ B2 H2, Stp D B H B2 H2 → u Ds σ H2) : tSeq (tIfS tt t tNext) u Ds σ H := h.hid at_ hs fun b B2 H2 e p => by
  subst p
  exact k B2 H2 e
theorem sh_ifFL (h : EvT (DH D os) tt σ B (is false)) (at_ : At D B H) (hs : ∀ p ∈ os, Hd1 D B H p.1 p.2) (k : ∀ B2 H2, Stp D B H B2 H2 → Ds.nx σ H2) : tIfS tt t tNext Ds σ H := h.hid at_ hs fun b B2 H2 e p => by
  subst p
  exact k B2 H2 e
theorem sh_ret (h : EvR (DH D os) te σ B P) (at_ : At D B H) (hs : ∀ p ∈ os, Hd1 D B H p.1 p.2) (k : ∀ v B2 H2, Stp D B H B2 H2 → P v B2 → Ds.rt v H2) : tRet te Ds σ H := h.hid at_ hs k
/-- x = [..], hidden; the rest -/
theorem sh_lst {i : Nat} {tA : TA} {R : List V → Hp → Prop} (h : EvA (DH D os) tA σ B R) (hl : ∀ vs H', R vs H' → vs.length ≤ 100000) (at_ : At D B H) (hs : ∀ p ∈ os, Hd1 D B H p.1 p.2)
    (k : ∀ l vs B2 H2, Stp D B H B2 H2 → R vs B2 → H2 l = none → u Ds (σ.set i (some (.ref l))) (upd H2 l (.lst vs))) : tSeq (tAsg (tLst tA) (gName i)) u Ds σ H :=
  h H (at_DH at_ hs) _ fun vs B2 H2 e r => ⟨Nat.le_trans (hl _ _ r) (by decide), fun l hn => k l vs B2 H2 (stp_DH hs e) r hn⟩
/-- e.f of a hidden instance -/
theorem ev_fldH {C a dx : Addr} {f : Str} {fs : List (Str × V)} {v : V} (c : Cls K C) (na : NoAttr K C f) (h : EvR (DH D os) te σ B (pEq (.ref a))) (hm : (a, HO.ins C dx fs) ∈ os) (hf : fs.lookup f = some v) (hp : P v B) (hmo : ∀ B2, Same B B2 → P v B → P v B2) : EvR (DH D os) (tFld K te f) σ B P := fun H at_ Q q =>
  h H at_ _ fun x B2 H2 e p => ⟨a, C, dx, fs, v, p, e.at2.inv.1 _ hm, c, na, hf, q v B2 H2 e (hmo B2 e.bs hp)⟩
end
/-! while -/
theorem while_ev {c : TT} {tb : TS} {Ds : Ends} {σ : L2.St} {H : Hp} (Iv : Nat → L2.St → Hp → Prop) (m0 : Nat) (h0 : Iv m0 σ H)
    (hs : ∀ m σ1 H1, Iv m σ1 H1 → c σ1 H1 fun b H2 => if b = true then ∃ m', m' < m ∧ tb { Ds with nx := Iv m', ct := Iv m', bk := Ds.nx } σ1 H2 else Ds.nx σ1 H2)
    (mono : ∀ σ H Q Q', (∀ b H1, Q b H1 → Q' b H1) → c σ H Q → c σ H Q') : tWhile c tb Ds σ H :=
  ⟨Iv, ⟨m0, h0⟩, fun m σ1 H1 p => mono σ1 H1 _ _ (fun b H2 q => by
    by_cases hb : b = true
    · rw [if_pos hb] at q ⊢
      obtain ⟨m', hm, q⟩ := q
      exact ⟨Iv m', fun σ' H' p' => ⟨m', hm, p'⟩, q⟩
    · rw [if_neg hb] at q ⊢
      exact q) (hs m σ1 H1 p)⟩
theorem while_ev2 {c : TT} {tb : TS} {Ds : Ends} {σ : L2.St} {H : Hp} (Iv : Nat → L2.St → Hp → Prop) (m0 : Nat) (h0 : Iv m0 σ H)
    (hs : ∀ m σ1 H1, Iv m σ1 H1 → c σ1 H1 fun b H2 => if b = true then ∃ N : L2.St → Hp → Prop, (∀ σ' H', N σ' H' → ∃ m', m' < m ∧ Iv m' σ' H') ∧ tb { Ds with nx := N, ct := N, bk := Ds.nx } σ1 H2 else Ds.nx σ1 H2) : tWhile c tb Ds σ H := ⟨Iv, ⟨m0, h0⟩, hs⟩
end CW
set_option Elab.async false
set_option linter.all false
set_option maxRecDepth 100000
set_option maxHeartbeats 1000000
/-! MG: >= of tuples of ints and texts; methods without arguments by their raw promise. -/
namespace CW
open PySem PySem.Spec PyProof.Rows L2
theorem lexAt_not (e r : Nat → Bool) : ∀ (n i : Nat), Ob.lexAt e (fun j => !r j) true i n = !Ob.lexAt e r false i n
  | 0, i => rfl
  | n + 1, i => by
    rw [Ob.lexAt_succ, Ob.lexAt_succ]
    by_cases h : e i = true
    · rw [if_pos h, if_pos h]; exact lexAt_not e r n (i + 1)
    · rw [if_neg h, if_neg h]
section
variable {X : Cx}
def rGeK (K : PySem.W.Frag) : R2 := fun x y H Q => ∃ (a b : Addr) (ks ls : List Key), x = .ref a ∧ y = .ref b ∧ SqT K H a (ks.map kV) ∧ SqT K H b (ls.map kV) ∧ kin ks ls = true ∧ Q (.bl (!ltKs ks ls)) H
theorem rc_geK {A : Around} {s : Shared} {ks ls : List Key} {its its2 : List Value} {a b : Addr} (r1 : Vals (ks.map kV) its) (r2 : Vals (ls.map kV) its2) (p1 : s.heap.IsTuple a its.toArray) (p2 : s.heap.IsTuple b its2.toArray) (hk : kin ks ls = true) (hu : A.units < cLine) :
    Ob.RcOp .GtE A s (.ref a) (.ref b) (!ltKs ks ls) := by
  have hl := kin_len hk
  have n1 : its.toArray.size = ks.length := by rw [List.size_toArray, ← r1.length, List.length_map]
  have n2 : its2.toArray.size = ls.length := by rw [List.size_toArray, ← r2.length, List.length_map]
  have R := Ob.RcOp.tuples_ge (A := A) (s := s) (e := fun j => decide (ks.getD j k0 = ls.getD j k0)) (r := fun j => !ltK (ks.getD j k0) (ls.getD j k0)) p1 p2 hu (fun j h1 h2 => by
    have q1 := vals_at r1 j h1
    have q2 := vals_at r2 j h2
    rcases kin_at hk j (by omega) with ⟨x, y, ex, ey⟩ | ⟨x, y, ex, ey⟩
    · rw [ex] at q1; rw [ey] at q2
      obtain ⟨t, q1⟩ := q1; obtain ⟨t', q2⟩ := q2
      rw [q1, q2, ex, ey, key_ll]
      exact SeqAt.EqAt.int_int _ _ _ _
    · rw [ex] at q1; rw [ey] at q2
      obtain ⟨t, q1⟩ := q1; obtain ⟨t', q2⟩ := q2
      rw [q1, q2, ex, ey, key_rr]
      have := SeqAt.EqAt.str_str (A := A.in1) (s := s) x t y t'
      rw [show decide (x = y) = (x == y) from by rw [Bool.beq_eq_decide_eq]]
      exact this) (fun j h1 h2 _ => by
    have q1 := vals_at r1 j h1
    have q2 := vals_at r2 j h2
    rcases kin_at hk j (by omega) with ⟨x, y, ex, ey⟩ | ⟨x, y, ex, ey⟩
    · rw [ex] at q1; rw [ey] at q2
      obtain ⟨t, q1⟩ := q1; obtain ⟨t', q2⟩ := q2
      rw [q1, q2, ex, ey]
      have g : Ob.RcOp .GtE A.in1 s (.int x t) (.int y t') (decide (x ≥ y)) := Ob.RcOp.ge_int x y t t'
      rw [show decide (x ≥ y) = !decide (x < y) from by by_cases z : x < y <;> simp [z] <;> omega] at g
      exact g
    · rw [ex] at q1; rw [ey] at q2
      obtain ⟨t, q1⟩ := q1; obtain ⟨t', q2⟩ := q2
      rw [q1, q2, ex, ey]
      exact fun prog w E Q h => P.ge_str h)
  rw [n1, n2, ← hl, Nat.min_self, decide_eq_true (Nat.le_refl _), lexAt_not] at R
  rw [lexAt_ltKs _ false (fun _ _ => trivial) ks.length 0 ks ls (by omega) (by omega) fun _ _ => rfl] at R
  exact R
theorem op_geK (hu : X.A.units < cLine) : OpR X (compareOp .GtE) (rGeK X.K) := by
  intro pins s σ H x y v u Q I rx ry h
  obtain ⟨a, b, ks, ls, rfl, rfl, ha, hb, hk, q⟩ := h
  cases rx
  cases ry
  obtain ⟨its, r1, p1, _⟩ := I.tuple ha
  obtain ⟨its2, r2, p2, _⟩ := I.tuple hb
  exact rc_geK r1 r2 p1 p2 hk hu X.prog X.w X.xe _ ⟨.bl _, H, I, rfl, q⟩
/-- o.m() -/
theorem pe_meR0 {CX : CXT} {k : Nat} {C f : Addr} {m : Str} {sp : Sp} {E : XK} {o : Expr} {ta : TE} {apos pos : Pos} {pl : Sem Bool} (c : Cls X.K C) (hm : Meth X.K C m f) (F : FnR X.prog X.w X.K X.mg X.base CX k f sp) (hr : Room k X.A) (hx : Passes CX X E) (he : PE X o ta)
    (ht : eval (.Call (.Attribute o m apos) [] [] pos) X.env = (do
      let ov ← eval o X.env
      standAt apos.atName
      let (f, first) ← holding [ov] (getMethod ov m pl)
      callWith pos f first (backTo pos (starEach [] X.env)) (backToKw pos (keywordEach [] X.env))) := by rfl) : PE X (.Call (.Attribute o m apos) [] [] pos) (tMethR C m sp E ta tNil) := by
  refine ⟨fun pins s σ H Q I h => PySem.W.methodCall_KW (pl := pl) (thn (he.run pins s σ H _ I h) fun u s1 ⟨x, H1, I1, rx, a, dx, fs, ex, ea, l, q⟩ => ?_) ht⟩
  subst ex
  obtain rfl : u = Value.ref a := rx
  exact getmeth_ok I1 ea c hm l (PySem.W.callWith_K0 (first := [.ref a]) I1.kIn hm.kp (wpAny_call (run_fnR (us := [.ref a]) (vs := [.ref a]) F hr hx I1 (.cons rfl .nil) q)))
end
end CW
set_option Elab.async false
set_option linter.all false
set_option maxRecDepth 100000
set_option maxHeartbeats 4000000
/-! W9: Lines. -/
namespace CW
open PySem PySem.Spec PyProof.Rows L2
/-- a promise of a def that reads hidden things and changes none -/
def RSp {α : Type} (O : α → List (Addr × HO)) (Pre : α → List V → Hp → Prop) (Post : α → PV) : Sp := fun vs H Q _ => ∃ (D : Dm) (B : Hp) (a : α), At D B H ∧ (∀ p ∈ O a, Hd1 D B H p.1 p.2) ∧ Pre a vs B ∧ ∀ v B2 H2, Stp D B H B2 H2 → Post a v B2 → Q v H2
section
variable {D : Dm} {K : PySem.W.Frag} {σ : L2.St} {B B2 H H2 : Hp} {te ta : TE} {P : PV} {os : List (Addr × HO)}
theorem RSp.body {α : Type} {O : α → List (Addr × HO)} {Pre : α → List V → Hp → Prop} {Post : α → PV} {N : List Str} {t : TS} {vs : List V} {H : Hp} {Q : VK} {E : XK} (h : RSp O Pre Post vs H Q E) (k : ∀ D a B, (∀ p ∈ O a, ¬ D.ds p.1) → Pre a vs B → EvS (DH D (O a)) t (start N vs) B (Post a)) :
    t { nx := fun _ H' => Q .non H', rt := Q } (start N vs) H := by
  obtain ⟨D, B, a, at_, hs, p, q⟩ := h
  exact k D a B (fun p hp => (hs p hp).nd) p H (at_DH at_ hs) _ fun v B2 H2 e po => q v B2 H2 (stp_DH hs e) po
theorem RSp.bodyN {α : Type} {O : α → List (Addr × HO)} {Pre : α → List V → Hp → Prop} {Post : α → PV} {N : List Str} {t : TS} {vs : List V} {H : Hp} {Q : VK} {E : XK} (h : RSp O Pre Post vs H Q E) (k : ∀ D a B, (∀ p ∈ O a, ¬ D.ds p.1) → Pre a vs B → EvN (DH D (O a)) t (start N vs) B (fun _ B2 => Post a .non B2)) :
    t { nx := fun _ H' => Q .non H', rt := Q } (start N vs) H := by
  obtain ⟨D, B, a, at_, hs, p, q⟩ := h
  exact k D a B (fun p hp => (hs p hp).nd) p H (at_DH at_ hs) _ fun σ2 B2 H2 e po => q _ B2 H2 (stp_DH hs e) po
theorem dh_hd (nd : ∀ p ∈ os, ¬ D.ds p.1) (a : At (DH D os) B H) : ∀ p ∈ os, Hd1 D B H p.1 p.2 := fun p hp => ⟨a.inv.1 p hp, a.off p.1 (.inl ⟨p.2, hp⟩), nd p hp⟩
theorem Stp.dh (nd : ∀ p ∈ os, ¬ D.ds p.1) (a : At (DH D os) B H) (e : Stp D B H B2 H2) : Stp (DH D os) B H B2 H2 :=
  ⟨e.bs, at_DH e.at2 fun p hp => (dh_hd nd a p hp).stp e, fun b o h1 h2 => e.x b o h1 fun z => h2 (.inr z), e.fr⟩
theorem EvV.rsp {α : Type} {O : α → List (Addr × HO)} {Pre : α → List V → Hp → Prop} {Post : α → PV} {vs : List V} {E : XK} (a : α) (nd : ∀ p ∈ os, ¬ D.ds p.1) (hO : ∀ p ∈ O a, p ∈ os) (hp : Pre a vs B) : EvV (DH D os) (fun H Q => RSp O Pre Post vs H Q E) B (Post a) := fun H at_ Q q =>
  ⟨D, B, a, DH.un at_, fun p h => dh_hd nd at_ p (hO p h), hp, fun v B2 H2 e po => q v B2 H2 (Stp.dh nd at_ e) po⟩
/-- o.m(..), o hidden -/
theorem ev_meH {C a dx : Addr} {m : Str} {fs : List (Str × V)} {sp : Sp} {E : XK} {t : TA} {R : List V → Hp → Prop} (h : EvR (DH D os) ta σ B (pEq (.ref a))) (hm : (a, HO.ins C dx fs) ∈ os) (hl : fs.lookup m = none) (ht : ∀ B2, Same B B2 → EvA (DH D os) t σ B2 R)
    (hs : ∀ vs B2, Same B B2 → R vs B2 → EvV (DH D os) (fun H Q => sp (.ref a :: vs) H Q E) B2 P) : EvR (DH D os) (tMethR C m sp E ta t) σ B P := fun H at_ Q q =>
  h H at_ _ fun v B2 H2 e2 p => ⟨a, dx, fs, p, e2.at2.inv.1 _ hm, hl, by
    rw [show v = .ref a from p]
    exact ht B2 e2.bs H2 e2.at2 _ fun vs B3 H3 e3 r => hs vs B3 (e2.bs.trans e3.bs) r H3 e3.at2 Q fun w B4 H4 e4 p4 => q w B4 H4 ((e2.trans e3).trans e4) p4⟩
end
theorem sh_if0 {tt : TT} {t u : TS} {Ds : Ends} {D : Dm} {σ : L2.St} {B H : Hp} (h : EvT D tt σ B (is false)) (at_ : At D B H) (k : ∀ B2 H2, Stp D B H B2 H2 → u Ds σ H2) : tSeq (tIfS tt t tNext) u Ds σ H := h H at_ _ fun b B2 H2 e p => by
  subst p
  exact k B2 H2 e
/-! ### Lines -/
structure LnD where
  x : Addr
  dx : Addr
  p : Addr
  R : List Str
  i : Nat
abbrev lC (K : PySem.W.Frag) : Addr := He.ga K "Lines"
def lnF (p : Addr) (i : Int) : List (Str × V) := [("own_rows", .ref p), ("own_at", .int i)]
def lnO (K : PySem.W.Frag) (L : LnD) : HO := .ins (lC K) L.dx (lnF L.p (L.i : Nat))
def lnH (K : PySem.W.Frag) (L : LnD) : List (Addr × HO) := [(L.x, lnO K L)]
structure RowsOk (R : List Str) : Prop where
  len : R.length ≤ 90000
  ok : ∀ r ∈ R, r.length ≤ 90000 ∧ Txt.split r sp1 ≠ []
def nextB (R : List Str) (i : Nat) (wd : Str) : Bool := match R[i]? with
  | none => false
  | some r => decide ((Txt.split r sp1).head? = some wd)
def spParts (K : PySem.W.Frag) : Sp := RSp (fun a : LnD × Str => lnH K a.1) (fun a vs B => vs = [.ref a.1.x] ∧ pMap K txt a.1.R (.ref a.1.p) B ∧ RowsOk a.1.R ∧ a.1.R[a.1.i]? = some a.2) (fun a => pLst K txt (Txt.split a.2 sp1))
def spNext (K : PySem.W.Frag) : Sp := RSp (fun a : LnD × Str => lnH K a.1) (fun a vs B => vs = [.ref a.1.x, .str a.2] ∧ pMap K txt a.1.R (.ref a.1.p) B ∧ RowsOk a.1.R ∧ a.1.i ≤ a.1.R.length) (fun a => pEq (.bl (nextB a.1.R a.1.i a.2)))
def spFin (K : PySem.W.Frag) : Sp := RSp (fun a : LnD => lnH K a) (fun a vs B => vs = [.ref a.x] ∧ pMap K txt a.R (.ref a.p) B ∧ a.i = a.R.length) (fun _ => pEq .non)
/-- it goes on by one row -/
def spGo (K : PySem.W.Frag) : Sp := fun vs H Q _ => ∃ (D : Dm) (B : Hp) (L : LnD), vs = [.ref L.x] ∧ At D B H ∧ Hd1 D B H L.x (lnO K L) ∧ ∀ B2 H2, Stp D B H B2 H2 → Q .non (upd H2 L.x (lnO K { L with i := L.i + 1 }))
def spLinI (K : PySem.W.Frag) : Sp := ISp (insO (lC K)) ownO (fun (z : Str) ws B => ws = [.str z] ∧ z.length + 2 ≤ sizeLine) (fun z x dx o d B => ∃ p, o = .ins (lC K) dx (lnF p 0) ∧ d = .own x ∧ pMap K txt (Txt.split z nl1) (.ref p) B)
section
variable {P : Program} {w : World} {K : PySem.W.Frag} {mg : Str → Option Value} {base : Heap} {D : Dm} {σ : L2.St} {B H : Hp} {te ta : TE} {L : LnD} {os : List (Addr × HO)}
theorem ev_lnAt (T : Tz K mg) (h : EvR (DH D os) te σ B (pEq (.ref L.x))) (hm : (L.x, lnO K L) ∈ os) : EvR (DH D os) (tFld K te "own_at") σ B (pEq (.int (L.i : Nat))) := ev_fldH T.cl_Lines T.na_Lines_own_at h hm (by rfl) rfl fun _ _ h => h
theorem ev_lnRows (T : Tz K mg) (h : EvR (DH D os) te σ B (pEq (.ref L.x))) (hm : (L.x, lnO K L) ∈ os) (hp : pMap K txt L.R (.ref L.p) B) : EvR (DH D os) (tFld K te "own_rows") σ B (pMap K txt L.R) := ev_fldH T.cl_Lines T.na_Lines_own_rows h hm (by rfl) hp fun B2 e h => Mo.mo e h
theorem sc_Lines_parts : FnScope ["self"] ["self"] d_Lines_parts.scope := ⟨rfl, rfl, rfl, by decide +kernel, rfl, by decide +kernel, by decide +kernel⟩
theorem mt_Lines_parts (T : Tz K mg) : FnR P w K mg base (L2.CX P w) 1 (He.fAd K d_Lines_parts.at_) (spParts K) := by
  refine fnr_of T.h_Lines_parts rfl sc_Lines_parts (fun _ _ _ _ _ _ us hl => match us, hl with | [_], _ => rfl) (fun vs H Q E h => ?_) (BodyOk0.ok fun cdv A outer s H vs Q E hr h => ?_)
  · obtain ⟨_, _, _, _, _, ⟨rfl, _⟩, _⟩ := h
    rfl
  refine ⟨_, pss_cons (ps_if (pt_cmpR op_eq (pe_fld (pv 0) rfl) (pe_callB call_len (by rfl) T.b_len boot_len (pa_cons (pe_fld (pv 0) rfl) pa_nil)) (nomark _)) (pss_one ps_never) pss_nil)
      (pss_one (ps_ret (pe_split (pe_ix ix_list (pe_fld (pv 0) rfl) (pe_fld (pv 0) rfl) (fun _ _ => rfl)) pe_str))), ?_⟩
  refine h.body (N := ["self"]) fun D a B nd p => ?_
  obtain ⟨L, row⟩ := a
  obtain ⟨rfl, hR, ok, hrow⟩ := p
  have hm : (L.x, lnO K L) ∈ lnH K L := List.mem_singleton.mpr rfl
  have hi : L.i < L.R.length := (List.getElem?_eq_some_iff.mp hrow).1
  have hr : row ∈ L.R := List.mem_of_getElem? hrow
  refine es_ifF ((et_test (ev_eq (ev_lnAt T (ev_varE rfl) hm) (fun B2 s2 => (ev_cb (ea_one (ev_lnRows T (ev_varE rfl) hm (Mo.mo s2 hR))) fun vs B3 s3 ⟨v, e1, p, xs, e2, hx, px⟩ => EvV.nowE fun H Q s q => ⟨v, xs.length, e1, by rw [e2]; exact .inl ⟨xs, Same.lst s hx, rfl⟩, by rw [← px.length]; exact q⟩ : EvR _ _ _ _ (pEq (.int (L.R.length : Nat))))) rfl)).to (decide_eq_false fun z => by
    have : (L.i : Int) = (L.R.length : Int) := by injection z
    omega)) fun B2 s2 => ?_
  refine es_ret (ev_split ((ev_ixL (R := txt) (ev_lnRows T (ev_varE rfl) hm (Mo.mo s2 hR)) (fun B3 s3 => ev_lnAt T (ev_varE rfl) hm) (by omega) (by simpa using hrow)).imp fun v B3 _ h => h) (fun _ _ => ev_c) (by decide) (Nat.le_trans (Nat.add_le_add_right (ok.ok row hr).1 2) (by decide)))
theorem sc_Lines_is_next : FnScope ["self", "word"] ["self", "word"] d_Lines_is_next.scope := ⟨rfl, rfl, rfl, by decide +kernel, rfl, by decide +kernel, by decide +kernel⟩
theorem mt_Lines_is_next (T : Tz K mg) : FnR P w K mg base (L2.CX P w) 2 (He.fAd K d_Lines_is_next.at_) (spNext K) := by
  refine fnr_of T.h_Lines_is_next rfl sc_Lines_is_next (fun _ _ _ _ _ _ us hl => match us, hl with | [_, _], _ => rfl) (fun vs H Q E h => ?_) (BodyOk0.ok fun cdv A outer s H vs Q E hr h => ?_)
  · obtain ⟨_, _, _, _, _, ⟨rfl, _⟩, _⟩ := h
    rfl
  refine ⟨_, pss_one (ps_ret (pe_and (pe_cmpR op_lt (pe_fld (pv 0) rfl) (pe_callB call_len (by rfl) T.b_len boot_len (pa_cons (pe_fld (pv 0) rfl) pa_nil)) (nomark _)) (pe_one (pe_cmpR op_eq (pe_ix ix_list (pe_meR0 T.cl_Lines T.me_Lines_parts (mt_Lines_parts T) (hr.mono (by decide)) passL (pv 0)) pe_int (fun _ _ => rfl)) (pv 1) (nomark _))))), ?_⟩
  refine h.body (N := ["self", "word"]) fun D a B nd p => ?_
  obtain ⟨L, wd⟩ := a
  obtain ⟨rfl, hR, ok, hi⟩ := p
  have hi : L.i ≤ L.R.length := hi
  have hm : (L.x, lnO K L) ∈ lnH K L := List.mem_singleton.mpr rfl
  have lt : EvR (DH D (lnH K L)) (tOp (rI0 fun i j => .bl (decide (i < j))) (tFld K (tVar 0) "own_at") (tCB (fun xs H Q => ∃ x n, xs = [x] ∧ LenV K x H n ∧ Q (.int n) H) (tCons (tFld K (tVar 0) "own_rows") tNil))) (start ["self", "word"] [.ref L.x, .str wd]) B (pEq (.bl (decide (L.i < L.R.length)))) :=
    (ev_I0 (ev_lnAt T (ev_varE rfl) hm) (fun B2 s2 => (ev_cb (ea_one (ev_lnRows T (ev_varE rfl) hm (Mo.mo s2 hR))) fun vs B3 s3 ⟨v, e1, p, xs, e2, hx, px⟩ => EvV.nowE fun H Q s q => ⟨v, xs.length, e1, by rw [e2]; exact .inl ⟨xs, Same.lst s hx, rfl⟩, by rw [← px.length]; exact q⟩ : EvR _ _ _ _ (pEq (.int (L.R.length : Nat)))))).to (congrArg V.bl (decide_eq_decide.mpr (by omega)))
  by_cases hlt : L.i < L.R.length
  · obtain ⟨row, hrow⟩ : ∃ row, L.R[L.i]? = some row := ⟨L.R[L.i], List.getElem?_eq_getElem hlt⟩
    obtain ⟨w0, ws, hw⟩ := List.exists_cons_of_ne_nil (ok.ok row (List.mem_of_getElem? hrow)).2
    refine es_ret ((ev_andV (b := true) (c := decide (w0 = wd)) (lt.to (by rw [decide_eq_true hlt])) fun _ B2 s2 => ?_).to (by
      unfold nextB
      rw [hrow]
      dsimp only
      rw [hw]
      simp))
    refine (ev_eq (x := .str w0) (y := .str wd) (ev_ixL (R := txt) (as := Txt.split row sp1) (i := 0) (a := w0) (ev_meH (P := pMap K txt (Txt.split row sp1)) (ev_varE rfl) hm rfl (fun B3 s3 => ea_nil) fun vs B3 s3 e => by
      rw [e]
      exact (EvV.rsp (L, row) nd (fun p h => h) ⟨rfl, Mo.mo (s2.trans s3) hR, ok, hrow⟩).imp fun v B4 _ h => pLst.map h) (fun _ _ => ev_c) (by decide) (by rw [hw] <;> rfl)) (fun _ _ => ev_varE rfl) rfl).to (congrArg V.bl (decide_eq_decide.mpr ⟨fun z => by injection z, fun z => by rw [z]⟩))
  · refine es_ret ((ev_andF (lt.to (by rw [decide_eq_false hlt]))).to (by
      unfold nextB
      rw [show (L, wd).1.R[(L, wd).1.i]? = none from List.getElem?_eq_none (by show L.R.length ≤ L.i; omega)]))
theorem sc_Lines_go_on : FnScope ["self"] ["self"] d_Lines_go_on.scope := ⟨rfl, rfl, rfl, by decide +kernel, rfl, by decide +kernel, by decide +kernel⟩
theorem mt_Lines_go_on (T : Tz K mg) : FnR P w K mg base (L2.CX P w) 1 (He.fAd K d_Lines_go_on.at_) (spGo K) := by
  refine fnr_of T.h_Lines_go_on rfl sc_Lines_go_on (fun _ _ _ _ _ _ us hl => match us, hl with | [_], _ => rfl) (fun vs H Q E h => ?_) (BodyOk0.ok fun cdv A outer s H vs Q E hr h => ?_)
  · obtain ⟨_, _, _, rfl, _⟩ := h
    rfl
  refine ⟨_, pss_one (ps_fld (pv 0) (pe_op op_add (pe_fld (pv 0) rfl) pe_int) rfl), ?_⟩
  obtain ⟨D, B, L, rfl, at_, hd, q⟩ := h
  have hm : (L.x, lnO K L) ∈ lnH K L := List.mem_singleton.mpr rfl
  have hs : ∀ p ∈ lnH K L, Hd1 D B H p.1 p.2 := fun p hp => by rw [List.mem_singleton.mp hp]; exact hd
  refine (ev_I0 (D := DH D (lnH K L)) (ev_lnAt T (ev_varE rfl) hm) fun _ _ => ev_c).hid at_ hs fun v B2 H2 e p => ⟨_, rfl, L.x, lC K, L.dx, lnF L.p (L.i : Nat), rfl, (hd.stp e).ob, T.cl_Lines, T.na_Lines_own_at, by show (2 : Nat) < 1000; decide, ?_⟩
  rw [show v = _ from p]
  exact q B2 H2 e
theorem sc_Lines_finish : FnScope ["self"] ["self"] d_Lines_finish.scope := ⟨rfl, rfl, rfl, by decide +kernel, rfl, by decide +kernel, by decide +kernel⟩
theorem mt_Lines_finish (T : Tz K mg) : FnR P w K mg base (L2.CX P w) 1 (He.fAd K d_Lines_finish.at_) (spFin K) := by
  refine fnr_of T.h_Lines_finish rfl sc_Lines_finish (fun _ _ _ _ _ _ us hl => match us, hl with | [_], _ => rfl) (fun vs H Q E h => ?_) (BodyOk0.ok fun cdv A outer s H vs Q E hr h => ?_)
  · obtain ⟨_, _, _, _, _, ⟨rfl, _⟩, _⟩ := h
    rfl
  refine ⟨_, pss_one (ps_if (pt_cmpR op_lt (pe_fld (pv 0) rfl) (pe_callB call_len (by rfl) T.b_len boot_len (pa_cons (pe_fld (pv 0) rfl) pa_nil)) (nomark _)) (pss_one ps_never) pss_nil), ?_⟩
  refine h.bodyN (N := ["self"]) fun D L B nd p => ?_
  obtain ⟨rfl, hR, hi⟩ := p
  have hm : (L.x, lnO K L) ∈ lnH K L := List.mem_singleton.mpr rfl
  have lt : EvR (DH D (lnH K L)) (tOp (rI0 fun i j => .bl (decide (i < j))) (tFld K (tVar 0) "own_at") (tCB (fun xs H Q => ∃ x n, xs = [x] ∧ LenV K x H n ∧ Q (.int n) H) (tCons (tFld K (tVar 0) "own_rows") tNil))) (start ["self"] [.ref L.x]) B (pEq (.bl (decide ((L.i : Int) < (L.R.length : Nat))))) :=
    ev_I0 (ev_lnAt T (ev_varE rfl) hm) (fun B2 s2 => (ev_cb (ea_one (ev_lnRows T (ev_varE rfl) hm (Mo.mo s2 hR))) fun vs B3 s3 ⟨v, e1, p, xs, e2, hx, px⟩ => EvV.nowE fun H Q s q => ⟨v, xs.length, e1, by rw [e2]; exact .inl ⟨xs, Same.lst s hx, rfl⟩, by rw [← px.length]; exact q⟩ : EvR _ _ _ _ (pEq (.int (L.R.length : Nat)))))
  exact (en_ifF (et_test (lt.to (by rw [decide_eq_false (by omega)])))).imp fun _ _ _ _ => rfl
theorem sc_Lines_init : FnScope ["self", "text"] ["self", "text"] d_Lines_init.scope := ⟨rfl, rfl, rfl, by decide +kernel, rfl, by decide +kernel, by decide +kernel⟩
theorem in_Lines (T : Tz K mg) : FnR P w K mg base (L2.CX P w) 1 (He.fAd K d_Lines_init.at_) (spLinI K) := by
  refine fnr_of T.h_Lines_init rfl sc_Lines_init (fun _ _ _ _ _ _ us hl => match us, hl with | [_, _], _ => rfl) (fun vs H Q E h => ?_) (BodyOk0.ok fun cdv A outer s H vs Q E hr h => ?_)
  · obtain ⟨_, _, _, _, _, _, rfl, _, ⟨rfl, _⟩, _⟩ := h
    rfl
  refine ⟨_, pss_cons (ps_if (pt_not (pt_val (pe_callB call_isi (by rfl) T.b_isinstance boot_isinstance (pa_cons (pv 1) (pa_cons (pe_bltn (v := .ty "str") (by rfl) T.b_str boot_str rfl) pa_nil))))) (pss_one ps_never) pss_nil)
      (pss_cons (ps_fld (pv 0) (pe_split (pv 1) pe_str) rfl)
      (pss_one (ps_fld (pv 0) pe_int rfl))), ?_⟩
  obtain ⟨D, B, x, dx, z, ws, rfl, m, ⟨rfl, hz⟩, q⟩ := h
  have t1 : EvT D (tNot (tB (tIsI K 1 "str"))) (start ["self", "text"] [.ref x, .str z]) B (is (!isTy "str" (.str z))) := et_not (et_B (ev_isi (ev_varE rfl) (fun _ _ => ev_c) (.ty _) (isI_of rfl kit4_str)))
  refine sh_if0 (t1.to (by rw [isTy_str] <;> rfl)) m.at_ fun B1 H1 e1 => ?_
  refine st_fld T.cl_Lines T.na_Lines_own_rows (by decide) (m.stp e1) (P := pLst K txt (Txt.split z nl1)) (ev_split (ev_varE rfl) (fun _ _ => ev_c) (by decide) hz) rfl rfl fun v B2 H2 s2 m2 d2 p2 => ?_
  refine st_fldL T.cl_Lines T.na_Lines_own_at (by show (2:Nat) ≤ 1000; omega) m2 (P := pEq (.int 0)) ev_c rfl rfl fun v3 B3 H3 s3 m3 d3 p3 => ?_
  obtain ⟨p, xs, rfl, hp, px⟩ := p2
  obtain rfl : v3 = _ := p3
  exact q B3 H3 _ _ m3 (d3 _ _ (d2 _ _ (Mkd.refl.stp m.at_.inv e1))) ⟨p, rfl, rfl, p, xs, rfl, SqL.of (s3 _ _ hp), Paired.mono (fun a v h => h) px⟩
end
end CW
set_option Elab.async false
set_option linter.all false
set_option maxRecDepth 100000
set_option maxHeartbeats 4000000
/-! W10: is_number, are_numbers, head_of. -/
namespace CW
open PySem PySem.Spec PyProof.Rows L2 TL
def digs : Str := "0123456789"
def zero1 : Str := "0"
def isNum (z : Str) : Bool := !decide (z = Str.empty) && ((cs z).all (fun c => decide (c ∈ cs digs)) && (decide (z = zero1) || !decide ((⟨#[(cs z).headD 0]⟩ : Str) = zero1)))
def areNums (ws : List Str) : Bool := !decide (ws = []) && ws.all isNum
def spTL (K : PySem.W.Frag) (f : List Str → Bool) : Sp := PSp (fun _ (z : List Str) vs B => (∃ x, vs = [x] ∧ pMap K txt z x B) ∧ (∀ r ∈ z, r.length ≤ 90000 ∧ PyData.strOk r = true) ∧ z.length ≤ 90000) (fun z => pEq (.bl (f z)))
section
variable {D : Dm} {K : PySem.W.Frag} {σ : L2.St} {B B0 H H0 : Hp} {te : TE} {tt : TT} {P : PV} {l : Addr} {o : HO} {as : List Addr}
/-- the base sees for a while what is hidden -/
theorem seen_stp (at_ : At D B H) (hl : Hd1 D B H l o) {B2 H2 : Hp} (e : Stp D (upd B l o) H B2 H2) : Stp D B H (fun b => if b = l then none else B2 b) H2 := by
  have n1 : Same B (upd B l o) := Same.new hl.nb
  refine ⟨fun b u h => ?_, ⟨fun d hd => ?_, fun b u h => ?_, e.at2.inv⟩, e.x, fun b h1 h2 => ?_⟩
  · have : b ≠ l := fun z => by rw [z, hl.nb] at h; cases h
    show (if b = l then none else B2 b) = some u
    rw [if_neg this]
    exact e.bs b u (n1 b u h)
  · show (if d = l then none else B2 d) = none
    split
    · rfl
    · exact e.at2.off d hd
  · have h' : (if b = l then none else B2 b) = some u := h
    split at h'
    · cases h'
    · exact e.at2.sm b u h'
  · show (if b = l then none else B2 b) = none
    split
    · rfl
    · rename_i z
      exact e.fr b h1 (by rw [upd_ne z]; exact h2)
theorem EvT.seen {Q : Bool → Hp → Prop} {Pb : Bool → Prop} (h : EvT D tt σ (upd B l o) Pb) (at_ : At D B H) (hl : Hd1 D B H l o) (q : ∀ b B2 H2, Stp D B H B2 H2 → Pb b → Q b H2) : tt σ H Q :=
  h H (hl.know at_) Q fun b B2 H2 e p => q b _ H2 (seen_stp at_ hl e) p
theorem Chg.know (m : Chg D as B0 H0 B H) (h0 : H0 l = none) (hb : B l = none) : Chg D as B0 H0 (upd B l o) H := ⟨m.bs.trans (Same.new hb), m.kx, fun b h1 h2 => by
  rw [upd_ne (fun z : b = l => h1 (by rw [z]; exact h0))]
  exact m.fr b h1 h2, m.hv⟩
end
section
variable {P : Program} {w : World} {K : PySem.W.Frag} {mg : Str → Option Value} {base : Heap} {D : Dm} {σ : L2.St} {B H : Hp} {te ta : TE} {L : LnD} {os : List (Addr × HO)}
theorem ev_neS {x y : Str} (ha : EvR D te σ B (pEq (.str x))) (hb : ∀ B2, Same B B2 → EvR D ta σ B2 (pEq (.str y))) : EvR D (tOp rNe te ta) σ B (pEq (.bl (!decide (x = y)))) := (ev_ne ha hb rfl).to (by
  rw [show decide (V.str x = V.str y) = decide (x = y) from decide_eq_decide.mpr ⟨fun z => by injection z, fun z => by rw [z]⟩])
theorem ev_eqS {x y : Str} (ha : EvR D te σ B (pEq (.str x))) (hb : ∀ B2, Same B B2 → EvR D ta σ B2 (pEq (.str y))) : EvR D (tOp rEq te ta) σ B (pEq (.bl (decide (x = y)))) := (ev_eq ha hb rfl).to (by
  rw [show decide (V.str x = V.str y) = decide (x = y) from decide_eq_decide.mpr ⟨fun z => by injection z, fun z => by rw [z]⟩])
theorem ev_neI {x y : Int} (ha : EvR D te σ B (pEq (.int x))) (hb : ∀ B2, Same B B2 → EvR D ta σ B2 (pEq (.int y))) : EvR D (tOp rNe te ta) σ B (pEq (.bl (!decide (x = y)))) := (ev_ne ha hb rfl).to (by
  rw [show decide (V.int x = V.int y) = decide (x = y) from decide_eq_decide.mpr ⟨fun z => by injection z, fun z => by rw [z]⟩])
/-- len of a list of known things -/
theorem ev_lenM {α : Type} {R : α → PV} {as : List α} [∀ a, Mo (R a)] (h : EvR D te σ B (pMap K R as)) : EvR D (tCB (fun xs H Q => ∃ x n, xs = [x] ∧ LenV K x H n ∧ Q (.int n) H) (tCons te tNil)) σ B (pEq (.int (as.length : Nat))) :=
  ev_cb (ea_one h) fun vs B3 s3 ⟨v, e1, p, xs, e2, hx, px⟩ => EvV.nowE fun H Q s q => ⟨v, xs.length, e1, by rw [e2]; exact .inl ⟨xs, Same.lst s hx, rfl⟩, by rw [← px.length]; exact q⟩
theorem ev_lenMT {α : Type} {R : α → PV} {as : List α} [∀ a, Mo (R a)] (h : EvR D te σ B (pMapT K R as)) : EvR D (tCB (fun xs H Q => ∃ x n, xs = [x] ∧ LenV K x H n ∧ Q (.int n) H) (tCons te tNil)) σ B (pEq (.int (as.length : Nat))) :=
  ev_cb (ea_one h) fun vs B3 s3 ⟨v, e1, p, xs, e2, hx, px⟩ => EvV.nowE fun H Q s q => ⟨v, xs.length, e1, by rw [e2]; exact .inr ⟨xs, Same.tup s hx, rfl⟩, by rw [← px.length]; exact q⟩
/-- ws != [] -/
theorem pdat_txt {ws : List Str} {x : V} (h : pMap K txt ws x B) : pDat K (.list ((ws.map (Sum.inr : Str → Key)).map keyD)) x B := by
  obtain ⟨p, xs, rfl, hp, px⟩ := h
  refine .lst hp ?_
  have : ∀ {ws : List Str} {xs : List V}, Paired (fun a v => txt a v B) ws xs → DpAll K B xs ((ws.map (Sum.inr : Str → Key)).map keyD) := by
    intro ws xs h
    induction h with
    | nil => exact .nil
    | cons r _ ih => rw [show _ = V.str _ from r]; exact .cons (.str _) ih
  exact this px
theorem shaped_txt {ws : List Str} (h : ∀ r ∈ ws, PyData.strOk r = true) : SeqAt.shaped (.list ((ws.map (Sum.inr : Str → Key)).map keyD)) = true := shaped_keys fun k hk => by
  obtain ⟨r, hr, rfl⟩ := List.mem_map.mp hk
  exact h r hr
theorem ev_neNil {ws : List Str} (h : EvR D te σ B (pMap K txt ws)) (ok : ∀ r ∈ ws, PyData.strOk r = true) : EvR D (tOp (rNeD K) te (tLst tNil)) σ B (pEq (.bl (!decide (ws = [])))) :=
  (ev_neD (K := K) (h.imp fun v B2 _ h => pdat_txt h) (fun B2 s2 => ev_lstD ea_nilD (by show 0 ≤ 100000; omega)) (shaped_txt ok) shaped_nil).to (by
    rw [eqv_nil, show decide (ws.map (Sum.inr : Str → Key) = []) = decide (ws = []) from decide_eq_decide.mpr List.map_eq_nil_iff])
theorem sc_is_number : FnScope ["word", "sign"] ["word"] d_is_number.scope := ⟨rfl, rfl, rfl, by decide +kernel, rfl, by decide +kernel, by decide +kernel⟩
theorem fn_is_number (T : Tz K mg) : Fn P w K mg base 1 "is_number" (spS isNum) := by
  obtain ⟨_, g_DIGITS⟩ := T.t_DIGITS
  refine fn_of T.h_is_number T.g_is_number rfl sc_is_number (fun _ _ _ _ _ _ us hl => match us, hl with | [_], _ => rfl) (fun vs H Q E h => ?_) (BodyOk0.ok fun cdv A outer s H vs Q E hr h => ?_)
  · obtain ⟨_, _, _, _, p, _⟩ := h
    obtain ⟨rfl, _⟩ := p
    rfl
  refine ⟨_, pss_one (ps_ret (pe_and (pe_cmpR op_ne (pv 0) pe_str (nomark _)) (pe_and (pe_callB (cr_all rfl) (by rfl) T.b_all boot_all (pa_cons (pe_lc (own := [("sign", 1)]) (g := gName 1) (tt := tYes) (by rfl) sc_is_number.nd (pi_str (pv 0)) (blkOk_by (N := ["word", "sign"]) (sc := d_is_number.scope) (own := [("sign", 1)]) (by decide +kernel)) (fun _ _ _ _ _ => (pg_name (i := 1) sc_is_number.nd rfl (Or.inl rfl))) (fun _ _ _ _ _ => pts_nil) (fun _ _ _ _ _ => (pe_cmpR op_in_sign (pv 1) (pe_glob (v := .str "0123456789") (by rfl) g_DIGITS ⟨_, rfl⟩) (by rfl)))) pa_nil)) (pe_one (pe_or (pe_cmpR op_eq (pv 0) pe_str (nomark _)) (pe_one (pe_cmpR op_ne (pe_ix ix_str (pv 0) pe_int (fun _ _ => rfl)) pe_str (nomark _)))))))), h.body (N := ["word", "sign"]) fun D a B p => ?_⟩
  · obtain ⟨rfl, hz⟩ := p
    refine es_ret ((ev_andV (b := !decide (a = Str.empty)) (ev_neS (ev_varE rfl) fun _ _ => ev_c) fun ne B2 s2 => ev_andV (b := (cs a).all fun c => decide (c ∈ cs digs)) (ev_all (as := cs a) (f := fun c => decide (c ∈ cs digs)) (ev_lc1 (el_str (ev_varE rfl)) (by rw [len_cs]; omega) (fun c x B3 _ _ hx => ?_) (fun _ _ _ _ _ h => h))) fun _ B3 s3 => ev_orV (ev_eqS (ev_varE rfl) fun _ _ => ev_c) fun _ B4 s4 => ev_neS (x := ⟨#[(cs a).headD 0]⟩) (ev_ixS (c := (cs a).headD 0) (ev_varE rfl) (fun _ _ => ev_c) (Nat.le_trans hz (by decide)) (by decide) ?_) fun _ _ => ev_c).to rfl)
    · obtain rfl : x = _ := hx
      exact ev_inSign (ev_varE rfl) fun _ _ => ev_c
    · have n1 : a ≠ Str.empty := fun e => by rw [decide_eq_true e] at ne; cases ne
      have n2 : cs a ≠ [] := fun e => n1 (cps_inj (by rw [show a.cps.toList = [] from e] <;> rfl))
      cases q : cs a with
      | nil => exact absurd q n2
      | cons c r => rw [show a.cps.toList = c :: r from q] <;> rfl
theorem sc_are_numbers : FnScope ["words", "word"] ["words"] d_are_numbers.scope := ⟨rfl, rfl, rfl, by decide +kernel, rfl, by decide +kernel, by decide +kernel⟩
theorem fn_are_numbers (T : Tz K mg) : Fn P w K mg base 2 "are_numbers" (spTL K areNums) := by
  refine fn_of T.h_are_numbers T.g_are_numbers rfl sc_are_numbers (fun _ _ _ _ _ _ us hl => match us, hl with | [_], _ => rfl) (fun vs H Q E h => ?_) (BodyOk0.ok fun cdv A outer s H vs Q E hr h => ?_)
  · obtain ⟨_, _, _, _, p, _⟩ := h
    obtain ⟨⟨_, rfl, _⟩, _⟩ := p
    rfl
  refine ⟨_, pss_one (ps_ret (pe_and (pe_cmpR (op_neD hr.units) (pv 0) (pe_lst pa_nil) (nomark _)) (pe_one (pe_callB (cr_all rfl) (by rfl) T.b_all boot_all (pa_cons (pe_lc (own := [("word", 1)]) (g := gName 1) (tt := tYes) (by rfl) sc_are_numbers.nd (pi_list (pv 0)) (blkOk_by (N := ["words", "word"]) (sc := d_are_numbers.scope) (own := [("word", 1)]) (by decide +kernel)) (fun _ _ _ _ _ => (pg_name (i := 1) sc_are_numbers.nd rfl (Or.inl rfl))) (fun _ _ _ _ _ => pts_nil) (fun _ _ _ _ _ => (pe_fn (fn_is_number T) (hr.mono (by decide)) passL (pa_cons (pv 1) pa_nil)))) pa_nil))))), h.body (N := ["words", "word"]) fun D a B p => ?_⟩
  · obtain ⟨⟨x, rfl, hx⟩, ok, hl⟩ := p
    refine es_ret (ev_andV (b := !decide (a = [])) (ev_neNil (ev_var rfl hx) fun r hr => (ok r hr).2) fun _ B2 s2 => ev_all (as := a) (f := isNum) (ev_lc1 (el_list (ev_var rfl (Mo.mo s2 hx))) (by omega) (fun z y B3 hz s3 hy => ?_) (fun _ _ _ _ _ h => h)))
    obtain rfl : y = _ := hy
    exact ev_psp (Post := fun z => pEq (.bl (isNum z))) z (ea_oneE (ev_varE rfl)) fun vs B4 _ r => ⟨r, (ok z hz).1⟩
end
end CW
set_option Elab.async false
set_option linter.all false
set_option maxRecDepth 100000
set_option maxHeartbeats 1000000
/-! PL1: digits are numbers; rows split again. -/
namespace CW
open PySem PySem.Spec PyProof.Rows L2 TL
theorem head_step {n : Nat} (h : 10 ≤ n) : (numL n).headD 0 = (numL (n / 10)).headD 0 := by
  rw [numL_step h]
  cases q : numL (n / 10) with
  | nil => exact absurd q (numL_ne _)
  | cons a r => rfl
theorem head_ne : ∀ n : Nat, 0 < n → (numL n).headD 0 ≠ 48 := by
  intro n
  induction n using Nat.strongRecOn with
  | ind n ih =>
    intro h
    by_cases c : n < 10
    · rw [numL_lt c]
      show 48 + n ≠ 48
      omega
    · rw [head_step (by omega)]
      exact ih (n / 10) (by omega) (by omega)
theorem mem_digs {c : Nat} (h : 48 ≤ c ∧ c ≤ 57) : c ∈ cs digs := by
  have e : cs digs = [48, 49, 50, 51, 52, 53, 54, 55, 56, 57] := by decide +kernel
  rw [e]
  simp only [List.mem_cons, List.mem_nil_iff, or_false]
  omega
theorem isNum_dig (n : Nat) : isNum (dig n) = true := by
  have e := dig_nat n
  have ne : dig n ≠ Str.empty := fun z => numL_ne n (by rw [← e, z] <;> rfl)
  unfold isNum
  rw [decide_eq_false ne, e]
  have h1 : (numL n).all (fun c => decide (c ∈ cs digs)) = true := List.all_eq_true.mpr fun c hc => decide_eq_true (mem_digs (numL_digits n c hc))
  rw [h1]
  by_cases z : n = 0
  · rw [show dig (n : Int) = zero1 from by rw [z]; rfl, decide_eq_true rfl]
    rfl
  · have h2 := head_ne n (by omega)
    have h3 : (⟨#[(numL n).headD 0]⟩ : Str) ≠ zero1 := fun q => h2 (by
      have q2 := congrArg (fun z : Str => z.cps.toList) q
      have q3 : [(numL n).headD 0] = [48] := q2
      injection q3)
    rw [decide_eq_false h3]
    simp
theorem dig_text {n : Nat} (h : n < 1000000) : PySem.intText? (dig n) = some (n : Int) := int_num (Nat.le_trans (numL_len (k := 6) (by decide) h) (by decide))
theorem dig_small {n : Nat} (h : n < 1000000) : (dig n).length ≤ 6 := dig_len (by omega) (by omega)
theorem dig_ok (n : Nat) : PyData.strOk (dig n) = true := by
  unfold PyData.strOk
  rw [← Array.all_toList]
  refine List.all_eq_true.mpr fun c hc => ?_
  have hc2 : c ∈ numL n := by rw [← dig_nat]; exact hc
  have := numL_digits n c hc2
  simp only [decide_eq_true_eq]
  omega
end CW
set_option Elab.async false
set_option linter.all false
set_option maxRecDepth 100000
set_option maxHeartbeats 4000000
/-! W11: head_of, is_step_line, steps_of. -/
namespace CW
open PySem PySem.Spec PyProof.Rows L2 TL
/-- a promise of a def that goes over rows of the lines -/
def MSp {α : Type} (K : PySem.W.Frag) (L : α → LnD) (nx : α → Nat) (Pre : α → List V → Hp → Prop) (Post : α → PV) : Sp := fun vs H Q _ => ∃ (D : Dm) (B : Hp) (a : α), At D B H ∧ Hd1 D B H (L a).x (lnO K (L a)) ∧ pMap K txt (L a).R (.ref (L a).p) B ∧ RowsOk (L a).R ∧ Pre a vs B ∧
  ∀ v B2 H2, At D B2 H2 → Hd1 D B2 H2 (L a).x (lnO K { L a with i := nx a }) → Chg D [(L a).x] B H B2 H2 → Post a v B2 → Q v H2
/-- the row i splits into ws -/
def RowIs (L : LnD) (ws : List Str) : Prop := ∃ r, L.R[L.i]? = some r ∧ Txt.split r sp1 = ws
structure HdD where
  L : LnD
  wd : Str
  l : Str
  n : Nat
def spHead (K : PySem.W.Frag) : Sp := MSp K HdD.L (fun a => a.L.i + 1) (fun a vs _ => vs = [.ref a.L.x, .str a.wd] ∧ RowIs a.L [a.wd, a.l, dig a.n] ∧ isLetters a.l = true ∧ a.l.length ≤ 90000 ∧ a.n < 1000000) (fun a => pPr (txt a.l) (num a.n))
def wStep : Str := "step"
def wEnds : Str := "ends"
/-- the words of a step's row -/
def stepW (t : Tri) : List Str := [wStep, dig t.1, t.2.1, dig t.2.2]
structure StOk (t : Tri) : Prop where
  a0 : 0 ≤ t.1
  a1 : t.1 < 1000000
  b0 : 0 ≤ t.2.2
  b1 : t.2.2 < 1000000
  s : ∃ c, t.2.1 = ⟨#[c]⟩ ∧ c ∈ cs lowers
def spStepLine (K : PySem.W.Frag) : Sp := PSp (fun _ (t : Tri) vs B => (∃ x, vs = [x] ∧ pMap K txt (stepW t) x B) ∧ StOk t) (fun _ => pEq (.bl true))
structure SsD where
  L : LnD
  st : List Tri
structure SsOk (a : SsD) : Prop where
  rows : ∀ j t, a.st[j]? = some t → RowIs { a.L with i := a.L.i + j } (stepW t)
  ok : ∀ t ∈ a.st, StOk t
  asc : ascT a.st = true
  stop : nextB a.L.R (a.L.i + a.st.length) wStep = false
  le : a.L.i + a.st.length ≤ a.L.R.length
def spSteps (K : PySem.W.Frag) : Sp := MSp K SsD.L (fun a => a.L.i + a.st.length) (fun a vs _ => vs = [.ref a.L.x] ∧ SsOk a) (fun a => stp K a.st)
section
variable {P : Program} {w : World} {K : PySem.W.Frag} {mg : Str → Option Value} {base : Heap} {D : Dm} {σ : L2.St} {B H : Hp} {te ta : TE} {L : LnD} {os : List (Addr × HO)} {u : TS} {Ds : Ends}
/-- lines.parts() -/
theorem ev_parts {ws : List Str} (hx : EvR (DH D (lnH K L)) te σ B (pEq (.ref L.x))) (nd : ¬ D.ds L.x) (hR : pMap K txt L.R (.ref L.p) B) (ok : RowsOk L.R) (hr : RowIs L ws) : EvR (DH D (lnH K L)) (tMethR (lC K) "parts" (spParts K) E0 te tNil) σ B (pLst K txt ws) := by
  obtain ⟨r, h1, h2⟩ := hr
  refine ev_meH hx (List.mem_singleton.mpr rfl) rfl (fun B3 s3 => ea_nil) fun vs B3 s3 e => ?_
  rw [e, ← h2]
  exact EvV.rsp (L, r) (fun p hp => by rw [List.mem_singleton.mp hp]; exact nd) (fun p h => h) ⟨rfl, Mo.mo s3 hR, ok, h1⟩
theorem ev_isNext {wd : Str} {tw : TE} (hx : EvR (DH D (lnH K L)) te σ B (pEq (.ref L.x))) (nd : ¬ D.ds L.x) (hR : pMap K txt L.R (.ref L.p) B) (ok : RowsOk L.R) (hi : L.i ≤ L.R.length) (hw : ∀ B2, Same B B2 → EvR (DH D (lnH K L)) tw σ B2 (pEq (.str wd))) : EvR (DH D (lnH K L)) (tMethR (lC K) "is_next" (spNext K) E0 te (tCons tw tNil)) σ B (pEq (.bl (nextB L.R L.i wd))) := by
  refine ev_meH hx (List.mem_singleton.mpr rfl) rfl (fun B3 s3 => ea_oneE (hw B3 s3)) fun vs B3 s3 e => ?_
  rw [e]
  exact EvV.rsp (Post := fun a : LnD × Str => pEq (.bl (nextB a.1.R a.1.i a.2))) (L, wd) (fun p hp => by rw [List.mem_singleton.mp hp]; exact nd) (fun p h => h) ⟨rfl, Mo.mo s3 hR, ok, hi⟩
/-- lines.go_on(); the rest -/
theorem sh_go (at_ : At D B H) (hd : Hd1 D B H L.x (lnO K L)) (h0 : σ[0]? = some (some (.ref L.x))) (k : ∀ B2 H2, At D B2 H2 → Hd1 D B2 H2 L.x (lnO K { L with i := L.i + 1 }) → (∀ as, L.x ∈ as → Chg D as B H B2 H2) → (∀ b o, Hd1 D B H b o → b ≠ L.x → Hd1 D B2 H2 b o) → u Ds σ H2) :
    tSeq (tDrop (tMethR (lC K) "go_on" (spGo K) E0 (tVar 0) tNil)) u Ds σ H :=
  ⟨_, h0, L.x, L.dx, lnF L.p (L.i : Nat), rfl, hd.ob, rfl, D, B, L, rfl, at_, hd, fun B2 H2 e => k B2 _ ((hd.stp e).at_ e.at2) (hd.stp e).put (fun as ha => (Chg.of at_.inv e).put ha) fun b o h hb => (h.stp e).off hb⟩
theorem hd_os (hd : Hd1 D B H L.x (lnO K L)) : ∀ p ∈ lnH K L, Hd1 D B H p.1 p.2 := fun p hp => by rw [List.mem_singleton.mp hp]; exact hd
theorem ev_pr {R1 R2 : PV} [Mo R1] [Mo R2] (h : EvR D te σ B R1) (h2 : ∀ B2, Same B B2 → EvR D ta σ B2 R2) : EvR D (tTup (tCons te (tCons ta tNil))) σ B (pPr R1 R2) :=
  (ev_tup (R := fun vs H => ∃ x y, vs = [x, y] ∧ R1 x H ∧ R2 y H) ((ea_cons h fun B2 s2 => ea_one (h2 B2 s2)).imp fun vs B2 _ ⟨v, r, e1, p1, v2, e2, p2⟩ => ⟨v, v2, by rw [e1, e2], p1, p2⟩) (fun vs H ⟨_, _, e, _⟩ => by rw [e]; show 2 ≤ _; omega) fun xs H1 H2 e ⟨x, y, e1, p1, p2⟩ => ⟨x, y, e1, Mo.mo e p1, Mo.mo e p2⟩).imp fun v B2 _ ⟨p, vs, e1, e2, x, y, e3, p1, p2⟩ => ⟨p, x, y, e1, by rw [e2, e3], p1, p2⟩
theorem ev_num {z : Str} {t : TA} (h : EvA D t σ B (fun vs _ => vs = [.str z])) (hz : z.length ≤ 90000) : EvR D (tFn (spS isNum) E0 t) σ B (pEq (.bl (isNum z))) := ev_psp (Post := fun z => pEq (.bl (isNum z))) z h fun vs B2 _ e => ⟨e, hz⟩
theorem sc_head_of : FnScope ["lines", "word", "words"] ["lines", "word"] d_head_of.scope := ⟨rfl, rfl, rfl, by decide +kernel, rfl, by decide +kernel, by decide +kernel⟩
theorem fn_head_of (T : Tz K mg) : Fn P w K mg base 3 "head_of" (spHead K) := by
  refine fn_of T.h_head_of T.g_head_of rfl sc_head_of (fun _ _ _ _ _ _ us hl => match us, hl with | [_, _], _ => rfl) (fun vs H Q E h => ?_) (BodyOk0.ok fun cdv A outer s H vs Q E hr h => ?_)
  · obtain ⟨_, _, _, _, _, _, _, ⟨rfl, _⟩, _⟩ := h
    rfl
  refine ⟨_, pss_cons (ps_set (i := 2) sc_head_of.nd rfl (Or.inl rfl) (pe_meR0 T.cl_Lines T.me_Lines_parts (mt_Lines_parts T) (hr.mono (by decide)) passL (pv 0)))
      (pss_cons (ps_if (PW.pt (pw_or (pt_cmpR op_ne (pe_callB call_len (by rfl) T.b_len boot_len (pa_cons (pv 2) pa_nil)) pe_int (nomark _)) (pw_or (pt_cmpR op_ne (pe_ix ix_list (pv 2) pe_int (fun _ _ => rfl)) (pv 1) (nomark _)) (pw_or (pt_not (pt_val (pe_fn (fn_is_letters T) (hr.mono (by decide)) passL (pa_cons (pe_ix ix_list (pv 2) pe_int (fun _ _ => rfl)) pa_nil)))) (pw_or1 (pt_not (pt_val (pe_fn (fn_is_number T) (hr.mono (by decide)) passL (pa_cons (pe_ix ix_list (pv 2) pe_int (fun _ _ => rfl)) pa_nil))))))))) (pss_one ps_never) pss_nil)
      (pss_cons (ps_expr (pe_meR0 T.cl_Lines T.me_Lines_go_on (mt_Lines_go_on T) (hr.mono (by decide)) passL (pv 0)))
      (pss_one (ps_ret (pe_tup (pa_cons (pe_ix ix_list (pv 2) pe_int (fun _ _ => rfl)) (pa_cons (pe_callTy call_int_str (by rfl) T.b_int boot_int (pa_cons (pe_ix ix_list (pv 2) pe_int (fun _ _ => rfl)) pa_nil)) pa_nil))))))), ?_⟩
  obtain ⟨D, B, ⟨L, wd, l, n⟩, at_, hd, hR, ok, ⟨rfl, hr, hl, hll, hn⟩, q⟩ := h
  have nd := hd.nd
  have e1 : (dig (n : Int)).length ≤ 90000 := Nat.le_trans (dig_small hn) (by decide)
  refine sh_set (P := pLst K txt [wd, l, dig n]) (ev_parts (ev_varE rfl) nd hR ok hr) at_ (hd_os hd) fun v B2 H2 s2 hv => ?_
  have hv2 : ∀ {Dm : Dm} {σ : L2.St} B3, Same B2 B3 → σ[2]? = some (some v) → EvR Dm (tVar 2) σ B3 (pMap K txt [wd, l, dig n]) := fun B3 s h => ev_var h (pLst.map (Mo.mo s hv))
  refine sh_ifF (et_orF ((et_test (ev_neI (x := (3 : Nat)) (y := 3) (ev_lenM (hv2 B2 (Same.refl _) rfl)) fun _ _ => ev_c)).to rfl) fun B3 s3 => et_orF ((et_test (ev_neS (x := wd) (y := wd) (ev_ixL (R := txt) (a := wd) (i := 0) (hv2 B3 s3 rfl) (fun _ _ => ev_c) (by decide) rfl) fun _ _ => ev_varE rfl)).to (by simp)) fun B4 s4 => et_orF ((et_not (et_B (ev_psp (Post := fun z => pEq (.bl (isLetters z))) l (ea_oneE (ev_ixL (R := txt) (a := l) (i := 1) (hv2 B4 (s3.trans s4) rfl) (fun _ _ => ev_c) (by decide) rfl)) fun vs B5 _ e => ⟨e, hll⟩))).to (by rw [hl] <;> rfl)) fun B5 s5 => (et_not (et_B (ev_num (z := dig n) (ea_oneE (ev_ixL (R := txt) (a := dig n) (i := 2) (hv2 B5 ((s3.trans s4).trans s5) rfl) (fun _ _ => ev_c) (by decide) rfl)) e1))).to (by rw [isNum_dig] <;> rfl)) s2.at2 (hd_os (hd.stp s2)) fun B3 H3 s3 => ?_
  have hd3 := (hd.stp s2).stp s3
  refine sh_go s3.at2 hd3 rfl fun B4 H4 at4 hd4 c4 _ => ?_
  have c14 := ((Chg.of (as := [L.x]) at_.inv (s2.trans s3))).trans (c4 [L.x] (List.mem_singleton.mpr rfl))
  have s24 : Same B2 B4 := s3.bs.trans (c4 [L.x] (List.mem_singleton.mpr rfl)).bs
  refine (ev_pr (D := D) (R1 := txt l) (R2 := num n) (ev_ixL (R := txt) (i := 1) (hv2 B4 s24 rfl) (fun _ _ => ev_c) (by decide) rfl) fun B5 s5 => ?_) H4 at4 _ fun v5 B5 H5 s5 p5 => ?_
  · exact ev_intS (ev_ixL (R := txt) (a := dig n) (i := 2) (hv2 B5 (s24.trans s5) rfl) (fun _ _ => ev_c) (by decide) rfl) (dig_text hn) (Nat.le_trans (dig_small hn) (by decide))
  · exact q v5 B5 H5 s5.at2 (hd4.stp s5) (c14.stp at4.inv s5) p5
end
end CW
set_option Elab.async false
set_option linter.all false
set_option maxRecDepth 100000
set_option maxHeartbeats 4000000
/-! W12: is_step_line, steps_of. -/
namespace CW
open PySem PySem.Spec PyProof.Rows L2 TL
theorem dig_textI {i : Int} (h0 : 0 ≤ i) (h1 : i < 1000000) : PySem.intText? (dig i) = some i := by
  have := dig_text (n := i.toNat) (by omega)
  rw [Int.toNat_of_nonneg h0] at this
  exact this
theorem isNum_digI {i : Int} (h0 : 0 ≤ i) : isNum (dig i) = true := by rw [dig_of h0]; exact isNum_dig _
/-- a triple as data -/
def triD (t : Tri) : PyData := .tuple [.int t.1, .str t.2.1, .int t.2.2]
theorem dp_tri {K : PySem.W.Frag} {H : Hp} {t : Tri} {v : V} (h : tri K t v H) : Dp K H v (triD t) := by
  obtain ⟨p, rfl, hp⟩ := h
  exact .tup hp (.cons (.int _) (.cons (.str _) (.cons (.int _) .nil)))
theorem dp_tris {K : PySem.W.Frag} {H : Hp} : ∀ {st : List Tri} {xs : List V}, Paired (fun a v => tri K a v H) st xs → DpAll K H xs (st.map triD)
  | _, _, .nil => .nil
  | _, _, .cons r t => .cons (dp_tri r) (dp_tris t)
theorem can_tris : ∀ {st : List Tri}, (∀ t ∈ st, PyData.strOk t.2.1 = true) → PyData.canLayAll0 (st.map triD) = true
  | [], _ => by simp [PyData.canLayAll0]
  | t :: st, h => by
    have h1 := h t List.mem_cons_self
    have := can_tris fun x hx => h x (List.mem_cons_of_mem _ hx)
    simp [PyData.canLayAll0, PyData.canLay0, triD, this, h1]
theorem dep_tri (t : Tri) : (triD t).depth ≤ 2 := by simp [triD, PyData.depth, PyData.depthAll]
theorem dep_tris : ∀ st : List Tri, PyData.depthAll (st.map triD) ≤ 2
  | [] => by simp [PyData.depthAll]
  | t :: st => by
    have := dep_tris st
    have := dep_tri t
    simp only [List.map_cons, PyData.depthAll]
    omega
theorem shaped_trisL {st : List Tri} (h : ∀ t ∈ st, PyData.strOk t.2.1 = true) : SeqAt.shaped (.list (st.map triD)) = true := by
  have := dep_tris st
  unfold SeqAt.shaped
  rw [Bool.and_eq_true, decide_eq_true_eq]
  refine ⟨by simpa [PyData.canLay0] using can_tris h, ?_⟩
  simp only [PyData.depth]
  omega
theorem shaped_trisT {st : List Tri} (h : ∀ t ∈ st, PyData.strOk t.2.1 = true) : SeqAt.shaped (.tuple (st.map triD)) = true := by
  have := dep_tris st
  unfold SeqAt.shaped
  rw [Bool.and_eq_true, decide_eq_true_eq]
  refine ⟨by simpa [PyData.canLay0] using can_tris h, ?_⟩
  simp only [PyData.depth]
  omega
theorem low_ok {z : Str} (h : ∃ c, z = ⟨#[c]⟩ ∧ c ∈ cs lowers) : PyData.strOk z = true := by
  obtain ⟨c, rfl, hc⟩ := h
  have e : ∀ c ∈ cs lowers, c < 1114112 := by decide +kernel
  simp [PyData.strOk, e c hc]
section
variable {P : Program} {w : World} {K : PySem.W.Frag} {mg : Str → Option Value} {base : Heap} {D : Dm} {σ : L2.St} {B H : Hp} {te ta : TE} {L : LnD} {os : List (Addr × HO)} {u : TS} {Ds : Ends}
theorem ev_word {z : Str} {t : TA} (h : EvA D t σ B (fun vs _ => vs = [.str z])) (hz : z.length ≤ 90000) : EvR D (tFn (spS isWord) E0 t) σ B (pEq (.bl (isWord z))) := ev_psp (Post := fun z => pEq (.bl (isWord z))) z h fun vs B2 _ e => ⟨e, hz⟩
theorem sc_is_step_line : FnScope ["words"] ["words"] d_is_step_line.scope := ⟨rfl, rfl, rfl, by decide +kernel, rfl, by decide +kernel, by decide +kernel⟩
theorem fn_is_step_line (T : Tz K mg) : Fn P w K mg base 2 "is_step_line" (spStepLine K) := by
  refine fn_of T.h_is_step_line T.g_is_step_line rfl sc_is_step_line (fun _ _ _ _ _ _ us hl => match us, hl with | [_], _ => rfl) (fun vs H Q E h => ?_) (BodyOk0.ok fun cdv A outer s H vs Q E hr h => ?_)
  · obtain ⟨_, _, _, _, p, _⟩ := h
    obtain ⟨⟨_, rfl, _⟩, _⟩ := p
    rfl
  refine ⟨_, pss_cons (ps_if (PW.pt (pw_or (pt_cmpR op_ne (pe_callB call_len (by rfl) T.b_len boot_len (pa_cons (pv 0) pa_nil)) pe_int (nomark _)) (pw_or (pt_cmpR op_ne (pe_ix ix_list (pv 0) pe_int (fun _ _ => rfl)) pe_str (nomark _)) (pw_or (pt_not (pt_val (pe_fn (fn_is_word T) (hr.mono (by decide)) passL (pa_cons (pe_ix ix_list (pv 0) pe_int (fun _ _ => rfl)) pa_nil)))) (pw_or1 (pt_cmpR op_ne (pe_callB call_len (by rfl) T.b_len boot_len (pa_cons (pe_ix ix_list (pv 0) pe_int (fun _ _ => rfl)) pa_nil)) pe_int (nomark _))))))) (pss_one (ps_ret pe_bl)) pss_nil)
      (pss_one (ps_ret (pe_and (pe_fn (fn_is_number T) (hr.mono (by decide)) passL (pa_cons (pe_ix ix_list (pv 0) pe_int (fun _ _ => rfl)) pa_nil)) (pe_one (pe_fn (fn_is_number T) (hr.mono (by decide)) passL (pa_cons (pe_ix ix_list (pv 0) pe_int (fun _ _ => rfl)) pa_nil)))))), h.body (N := ["words"]) fun D a B p => ?_⟩
  · obtain ⟨⟨x, rfl, hx⟩, ok⟩ := p
    have hv : ∀ B2, Same B B2 → EvR D (tVar 0) (start ["words"] [x]) B2 (pMap K txt (stepW a)) := fun B2 s => ev_var rfl (Mo.mo s hx)
    obtain ⟨c, hc, hcl⟩ := ok.s
    have lz : a.2.1.length = 1 := by rw [hc] <;> rfl
    have w2 : isWord a.2.1 = true := by
      rw [hc]
      show (decide (c ∈ cs lowers) && true) = true
      rw [decide_eq_true hcl]
      rfl
    have l1 : (dig a.1).length ≤ 90000 := Nat.le_trans (dig_len ok.a0 ok.a1) (by decide)
    have l3 : (dig a.2.2).length ≤ 90000 := Nat.le_trans (dig_len ok.b0 ok.b1) (by decide)
    refine es_ifF (et_orF ((et_test (ev_neI (x := (4 : Nat)) (y := 4) (ev_lenM (hv B (Same.refl _))) fun _ _ => ev_c)).to rfl) fun B2 s2 => et_orF ((et_test (ev_neS (x := wStep) (y := wStep) (ev_ixL (R := txt) (a := wStep) (i := 0) (hv B2 s2) (fun _ _ => ev_c) (by decide) rfl) fun _ _ => ev_c)).to (by simp)) fun B3 s3 => et_orF ((et_not (et_B (ev_word (z := a.2.1) (ea_oneE (ev_ixL (R := txt) (a := a.2.1) (i := 2) (hv B3 (s2.trans s3)) (fun _ _ => ev_c) (by decide) rfl)) (by rw [lz]; decide)))).to (by rw [w2] <;> rfl)) fun B4 s4 =>
      (et_test (ev_neI (x := a.2.1.length) (y := 1) (ev_lenS (ev_ixL (R := txt) (a := a.2.1) (i := 2) (hv B4 ((s2.trans s3).trans s4)) (fun _ _ => ev_c) (by decide) rfl) (by rw [lz]; decide)) fun _ _ => ev_c)).to (by rw [lz] <;> rfl)) fun B2 s2 => ?_
    refine es_ret ((ev_andT (c := true) ((ev_num (z := dig a.1) (ea_oneE (ev_ixL (R := txt) (a := dig a.1) (i := 1) (hv B2 s2) (fun _ _ => ev_c) (by decide) rfl)) l1).to (by rw [isNum_digI ok.a0])) fun B3 s3 => (ev_num (z := dig a.2.2) (ea_oneE (ev_ixL (R := txt) (a := dig a.2.2) (i := 3) (hv B3 (s2.trans s3)) (fun _ _ => ev_c) (by decide) rfl)) l3).to (by rw [isNum_digI ok.b0])).to rfl)
theorem sh_set0 {i : Nat} {P : PV} (h : EvR D te σ B P) (at_ : At D B H) (k : ∀ v B2 H2, Stp D B H B2 H2 → P v B2 → u Ds (σ.set i (some v)) H2) : tSeq (tAsg te (gName i)) u Ds σ H := h H at_ _ k
theorem sh_ifSeen {tt : TT} {t : TS} {l : Addr} {o : HO} {c : Bool} (h : EvT D tt σ (upd B l o) (is c)) (at_ : At D B H) (hl : Hd1 D B H l o) (hc : c = false) (k : ∀ B2 H2, Stp D B H B2 H2 → u Ds σ H2) : tSeq (tIfS tt t tNext) u Ds σ H := h.seen at_ hl fun b B2 H2 e p => by
  rw [show b = false from p.trans hc]
  exact k B2 H2 e
theorem sh_goL (at_ : At D B H) (hd : Hd1 D B H L.x (lnO K L)) (h0 : σ[0]? = some (some (.ref L.x))) (k : ∀ B2 H2, At D B2 H2 → Hd1 D B2 H2 L.x (lnO K { L with i := L.i + 1 }) → (∀ as, L.x ∈ as → Chg D as B H B2 H2) → (∀ b o, Hd1 D B H b o → b ≠ L.x → Hd1 D B2 H2 b o) → Ds.nx σ H2) :
    tDrop (tMethR (lC K) "go_on" (spGo K) E0 (tVar 0) tNil) Ds σ H :=
  ⟨_, h0, L.x, L.dx, lnF L.p (L.i : Nat), rfl, hd.ob, rfl, D, B, L, rfl, at_, hd, fun B2 H2 e => k B2 _ ((hd.stp e).at_ e.at2) (hd.stp e).put (fun as ha => (Chg.of at_.inv e).put ha) fun b o h hb => (h.stp e).off hb⟩
theorem ev_tri {t : Tri} {tb tc : TE} (h1 : EvR D te σ B (pEq (.int t.1))) (h2 : ∀ B2, Same B B2 → EvR D tb σ B2 (pEq (.str t.2.1))) (h3 : ∀ B2, Same B B2 → EvR D tc σ B2 (pEq (.int t.2.2))) : EvR D (tTup (tCons te (tCons tb (tCons tc tNil)))) σ B (tri K t) :=
  (ev_tup (R := fun vs _ => vs = (tK t).map kV) (ea_consE h1 fun B2 s2 => ea_consE (h2 B2 s2) fun B3 s3 => ea_oneE (h3 B3 (s2.trans s3))) (fun vs H e => by rw [e]; show 3 ≤ _; omega) fun _ _ _ _ h => h).imp fun v B2 _ ⟨p, vs, e1, e2, e3⟩ => ⟨p, e1, SqT.of (by rw [e2, e3])⟩
theorem eqv_nilT (st : List Tri) : PyData.eqv (.list (st.map triD)) (.list []) = decide (st = []) := by
  cases st with
  | nil => simp [PyData.eqv, PyData.eqvAll]
  | cons k ks => simp [PyData.eqv, PyData.eqvAll]
/-- xs.append(e); the rest -/
theorem sh_append {i : Nat} {l : Addr} {xs : List V} {P : PV} (at_ : At D B H) (hl : Hd1 D B H l (.lst xs)) (h0 : σ[i]? = some (some (.ref l))) (hx : xs.length < 100000) (h : EvR D te σ B P) (k : ∀ v B2 H2, Stp D B H B2 H2 → P v B2 → u Ds σ (upd H2 l (.lst (xs ++ [v])))) :
    tSeq (tDrop (tBM K "list" rAppend (tVar i) (tCons te tNil))) u Ds σ H :=
  ⟨.ref l, h0, .inl ⟨rfl, _, SqL.of hl.ob⟩, h H at_ _ fun v B2 H2 e p => ⟨l, xs, v, rfl, rfl, e.x l _ hl.ob hl.nd, Nat.lt_of_lt_of_le hx (by decide), k v B2 H2 e p⟩⟩
/-- xs[-1] -/
theorem ev_lastL {α : Type} {R : α → PV} {as : List α} {a : α} {r : V → Hp → VK → Prop} [∀ a, Mo (R a)] (h : EvR D te σ B (pMap K R as)) (hi : ∀ B2, Same B B2 → EvR D ta σ B2 (pEq (.int (-1)))) (ha : as.getLast? = some a) : EvR D (tOp (rIxL K) te ta) σ B (R a) :=
  ev_op h hi fun x y B2 _ ⟨p, xs, e1, hx, pr⟩ ey => by
    have hn : as ≠ [] := fun e => by rw [e] at ha; cases ha
    have h1 : as[as.length - 1]? = some a := by rw [← List.getLast?_eq_getElem?]; exact ha
    obtain ⟨v, hv, rv⟩ := paired_at pr h1
    have hl : 0 < as.length := List.length_pos_iff.mpr hn
    have e : atI xs (-1) = some v := by
      have lx := pr.length
      unfold atI ixN
      rw [if_neg (by omega)]
      first
        | (rw [if_pos (by omega)]; show xs[_]? = some v; rw [show ((-1 : Int) + (xs.length : Int)).toNat = as.length - 1 from by omega]; exact hv)
        | (rw [if_pos (by omega)]; show xs[_]? = some v; rw [show ((xs.length : Int) + (-1)).toNat = as.length - 1 from by omega]; exact hv)
    exact EvV.now (v := v) (fun H Q s q => ⟨p, xs, -1, v, e1, ey, Same.lst s hx, e, q⟩) rv
theorem take_succ_get {α : Type} {l : List α} {j : Nat} {t : α} (h : l[j]? = some t) : l.take (j + 1) = l.take j ++ [t] := by rw [List.take_succ, h] <;> rfl
theorem asc_next {f : Tri → Tri → Bool} : ∀ {l : List Tri} {j : Nat} {t s : Tri}, (l.zip l.tail).all (fun p => f p.1 p.2) = true → l[j]? = some s → l[j + 1]? = some t → f s t = true
  | [], _, _, _, _, h, _ => by simp at h
  | [a], 0, _, _, _, _, h => by simp at h
  | [a], j + 1, _, _, _, h, _ => by simp at h
  | a :: b :: l, 0, t, s, h, h1, h2 => by
    have e1 : a = s := by simpa using h1
    have e2 : b = t := by simpa using h2
    have := (List.all_eq_true.mp h) (a, b) (by simp)
    rw [← e1, ← e2]; exact this
  | a :: b :: l, j + 1, t, s, h, h1, h2 => by
    have h' : ((b :: l).zip l).all (fun p => f p.1 p.2) = true := by
      have : (f a b && ((b :: l).zip l).all fun p => f p.1 p.2) = true := h
      exact (Bool.and_eq_true_iff.mp this).2
    exact asc_next (l := b :: l) (j := j) h' (by simpa using h1) (by simpa using h2)
theorem sc_steps_of : FnScope ["lines", "found", "words", "step"] ["lines"] d_steps_of.scope := ⟨rfl, rfl, rfl, by decide +kernel, rfl, by decide +kernel, by decide +kernel⟩
theorem fn_steps_of (T : Tz K mg) : Fn P w K mg base 3 "steps_of" (spSteps K) := by
  refine fn_of T.h_steps_of T.g_steps_of rfl sc_steps_of (fun _ _ _ _ _ _ us hl => match us, hl with | [_], _ => rfl) (fun vs H Q E h => ?_) (BodyOk0.ok fun cdv A outer s H vs Q E hr h => ?_)
  · obtain ⟨_, _, _, _, _, _, _, ⟨rfl, _⟩, _⟩ := h
    rfl
  refine ⟨_, pss_cons (ps_set (i := 1) sc_steps_of.nd rfl (Or.inl rfl) (pe_lst pa_nil))
      (pss_cons (ps_while PassesOwn.never (pt_val (pe_methR (pv 0) T.cl_Lines T.me_Lines_is_next (mt_Lines_is_next T) (hr.mono (by decide)) passL (pa_cons pe_str pa_nil))) (pss_cons (ps_set (i := 2) sc_steps_of.nd rfl (Or.inl rfl) (pe_meR0 T.cl_Lines T.me_Lines_parts (mt_Lines_parts T) (hr.mono (by decide)) passL (pv 0)))
      (pss_cons (ps_if (pt_not (pt_val (pe_fn (fn_is_step_line T) (hr.mono (by decide)) passL (pa_cons (pv 2) pa_nil)))) (pss_one ps_never) pss_nil)
      (pss_cons (ps_set (i := 3) sc_steps_of.nd rfl (Or.inl rfl) (pe_tup (pa_cons (pe_callTy call_int_str (by rfl) T.b_int boot_int (pa_cons (pe_ix ix_list (pv 2) pe_int (fun _ _ => rfl)) pa_nil)) (pa_cons (pe_ix ix_list (pv 2) pe_int (fun _ _ => rfl)) (pa_cons (pe_callTy call_int_str (by rfl) T.b_int boot_int (pa_cons (pe_ix ix_list (pv 2) pe_int (fun _ _ => rfl)) pa_nil)) pa_nil)))))
      (pss_cons (ps_if (PW.pt (pw_and (pt_cmpR (op_neD hr.units) (pv 1) (pe_lst pa_nil) (nomark _)) (pw_and1 (pt_cmpR (op_geK hr.units0) (pe_ix ix_list (pv 1) (pe_un un_neg pe_int) (fun _ _ => rfl)) (pv 3) (nomark _))))) (pss_one ps_never) pss_nil)
      (pss_cons (ps_expr (pe_bm PySem.F.plainAttrs_list PySem.F.slot_list_append PySem.F.type_list_append mt_append (pv 1) (pa_cons (pv 3) pa_nil)))
      (pss_one (ps_expr (pe_meR0 T.cl_Lines T.me_Lines_go_on (mt_Lines_go_on T) (hr.mono (by decide)) passL (pv 0))))))))))
      (pss_one (ps_ret (pe_callTy call_tuple_of (by rfl) T.b_tuple boot_tuple (pa_cons (pv 1) pa_nil))))), ?_⟩
  obtain ⟨D, B, ⟨L, st⟩, at_, hd, hR, ok, ⟨rfl, so⟩, q⟩ := h
  dsimp only at hd hR ok q
  have nd := hd.nd
  have len90 := ok.len
  have le := so.le
  dsimp only at le
  -- found = []
  refine ⟨by show 0 ≤ _; decide, fun l hn => ?_⟩
  have hl0 : Hd1 D B (upd H l (.lst [])) l (.lst []) := Hd1.new at_ hn
  have hx0 : Hd1 D B (upd H l (.lst [])) L.x (lnO K L) := hd.past hn
  have c0 : Chg D [L.x, l] B H B (upd H l (.lst [])) := (Chg.refl (D := D) (as := [L.x, l])).put (by simp)
  have lx : L.x ≠ l := fun z => by rw [z] at hd; exact absurd hn (by rw [hd.ob]; exact Option.some_ne_none _)
  -- the loop
  let Iv : Nat → L2.St → Hp → Prop := fun m σ1 H1 => ∃ (j : Nat) (B1 : Hp) (xs : List V), m = st.length - j ∧ j ≤ st.length ∧ At D B1 H1 ∧ Hd1 D B1 H1 L.x (lnO K { L with i := L.i + j }) ∧ Hd1 D B1 H1 l (.lst xs) ∧ Paired (fun a v => tri K a v B1) (st.take j) xs ∧
    Chg D [L.x, l] B H B1 H1 ∧ σ1[0]? = some (some (.ref L.x)) ∧ σ1[1]? = some (some (.ref l)) ∧ σ1.length = 4
  refine while_ev2 Iv st.length ⟨0, B, [], rfl, Nat.zero_le _, (Stp.hid at_ hn).at2, hx0, hl0, .nil, c0, rfl, rfl, rfl⟩ ?_
  rintro m σ1 H1 ⟨j, B1, xs, rfl, hj, at1, hd1, hl1, px, c1, e0, e1, len⟩
  have s1 : Same B B1 := c1.bs
  have hR1 : pMap K txt L.R (.ref L.p) B1 := Mo.mo s1 hR
  refine (et_B (ev_isNext (L := { L with i := L.i + j }) (wd := wStep) (ev_varE e0) nd hR1 ok (by show L.i + j ≤ L.R.length; omega) (fun _ _ => ev_c))).hid at1 (hd_os hd1) fun b B2 H2 s2 hb => ?_
  have hR2 : pMap K txt L.R (.ref L.p) B2 := Mo.mo s2.bs hR1
  have hd2 := hd1.stp s2
  have hl2 := hl1.stp s2
  have lenx : xs.length = j := by
    have := px.length
    rw [List.length_take] at this
    omega
  by_cases hlt : j < st.length
  · obtain ⟨t, ht⟩ : ∃ t, st[j]? = some t := ⟨st[j], List.getElem?_eq_getElem hlt⟩
    have row := so.rows j t ht
    have okt := so.ok t (List.mem_of_getElem? ht)
    have hb1 : nextB L.R (L.i + j) wStep = true := by
      obtain ⟨r, h1, h2⟩ := row
      unfold nextB
      rw [show L.R[L.i + j]? = some r from h1]
      dsimp only
      rw [h2]
      exact decide_eq_true rfl
    have hb2 : b = true := (show b = nextB L.R (L.i + j) wStep from hb).trans hb1
    rw [if_pos hb2]
    refine ⟨Iv (st.length - (j + 1)), fun σ' H' p => ⟨_, by omega, p⟩, ?_⟩
    refine sh_set (P := pLst K txt (stepW t)) (ev_parts (L := { L with i := L.i + j }) (ev_varE e0) nd hR2 ok row) s2.at2 (hd_os hd2) fun v B3 H3 s3 hv => ?_
    have f0 : (σ1.set 2 (some v))[0]? = some (some (.ref L.x)) := by rw [List.getElem?_set_ne (by decide)]; exact e0
    have f1 : (σ1.set 2 (some v))[1]? = some (some (.ref l)) := by rw [List.getElem?_set_ne (by decide)]; exact e1
    have f2 : (σ1.set 2 (some v))[2]? = some (some v) := List.getElem?_set_self (by rw [len]; decide)
    refine sh_if0 ((et_not (et_B (ev_psp (Post := fun _ => pEq (.bl true)) t (ea_one (ev_var f2 (pLst.map hv))) fun vs B4 _ ⟨v, e1, e2⟩ => ⟨⟨v, e1, e2⟩, okt⟩))).to rfl) s3.at2 fun B4 H4 s4 => ?_
    have hv4 : pMap K txt (stepW t) v B4 := pLst.map (Mo.mo s4.bs hv)
    have l1 : (dig t.1).length ≤ 640 := Nat.le_trans (dig_len okt.a0 okt.a1) (by decide)
    have l3 : (dig t.2.2).length ≤ 640 := Nat.le_trans (dig_len okt.b0 okt.b1) (by decide)
    refine sh_set0 (P := tri K t) (ev_tri (ev_intS (ev_ixL (R := txt) (a := dig t.1) (i := 1) (ev_var f2 hv4) (fun _ _ => ev_c) (by decide) rfl) (dig_textI okt.a0 okt.a1) l1) (fun B5 s5 => ev_ixL (R := txt) (a := t.2.1) (i := 2) (ev_var f2 (Mo.mo s5 hv4)) (fun _ _ => ev_c) (by decide) rfl) fun B5 s5 => ev_intS (ev_ixL (R := txt) (a := dig t.2.2) (i := 3) (ev_var f2 (Mo.mo s5 hv4)) (fun _ _ => ev_c) (by decide) rfl) (dig_textI okt.b0 okt.b1) l3) s4.at2 fun v5 B5 H5 s5 hv5 => ?_
    have s25 := (s3.trans s4).trans s5
    have hl5 := hl2.stp s25
    have hd5 := hd2.stp s25
    have g0 : ((σ1.set 2 (some v)).set 3 (some v5))[0]? = some (some (.ref L.x)) := by rw [List.getElem?_set_ne (by decide)]; exact f0
    have g1 : ((σ1.set 2 (some v)).set 3 (some v5))[1]? = some (some (.ref l)) := by rw [List.getElem?_set_ne (by decide)]; exact f1
    have g3 : ((σ1.set 2 (some v)).set 3 (some v5))[3]? = some (some v5) := List.getElem?_set_self (by rw [List.length_set, len]; decide)
    have px5 : Paired (fun a v => tri K a v B5) (st.take j) xs := Paired.mono (fun a v h => Mo.mo (s2.bs.trans s25.bs) h) px
    have n5 : Same B5 (upd B5 l (.lst xs)) := Same.new hl5.nb
    have seenL : ∀ B6, Same (upd B5 l (.lst xs)) B6 → pMap K (tri K) (st.take j) (.ref l) B6 := fun B6 s => Mo.mo (P := pMap K (tri K) (st.take j)) s ⟨l, xs, rfl, SqL.of upd_same, Paired.mono (fun a v h => Mo.mo n5 h) px5⟩
    have okD : ∀ t ∈ st.take j, PyData.strOk t.2.1 = true := fun t ht => low_ok (so.ok t (List.mem_of_mem_take ht)).s
    refine sh_ifSeen (l := l) (o := .lst xs) (et_and (b := !decide (st.take j = [])) (c := false) (et_test ((ev_neD (K := K) (d := .list ((st.take j).map triD)) (e := .list []) (ev_var g1 (by
      obtain ⟨p, ys, e, hp, py⟩ := seenL _ (Same.refl _)
      rw [e]
      exact .lst hp (dp_tris py))) (fun B6 s6 => ev_lstD ea_nilD (by show 0 ≤ 100000; omega)) (shaped_trisL okD) shaped_nil).to (by rw [eqv_nilT]))) fun hne B6 s6 => ?_) s5.at2 hl5 (by simp) fun B6 H6 s6 => ?_
    · -- the last is less
      have hne2 : st.take j ≠ [] := fun e => by rw [decide_eq_true e] at hne; cases hne
      obtain ⟨j', rfl⟩ : ∃ j', j = j' + 1 := ⟨j - 1, by
        have : j ≠ 0 := fun e => hne2 (by rw [e] <;> rfl)
        omega⟩
      have hs' : j' < st.length := by omega
      have hlast : (st.take (j' + 1)).getLast? = some st[j'] := by
        rw [take_succ_get (List.getElem?_eq_getElem hs'), List.getLast?_append]
        rfl
      have lt := asc_next (f := ltT) so.asc (List.getElem?_eq_getElem hs') ht
      refine et_test ((ev_op (P1 := tri K st[j']) (P2 := tri K t) (ev_lastL (R := tri K) (r := fun _ _ _ => True) (ev_var g1 (seenL B6 s6)) (fun _ _ => ev_un ev_c fun x B7 s7 e => EvV.nowE fun H Q s q => ⟨1, e, q⟩) hlast) (fun B7 s7 => ev_var g3 (Mo.mo ((n5.trans s6).trans s7) hv5)) fun x y B7 s7 ⟨p, e1, hp⟩ ⟨r, e2, hr⟩ => EvV.nowE fun H Q s k => ⟨p, r, tK st[j'], tK t, e1, e2, Same.tup s hp, Same.tup s hr, rfl, ?_⟩).to rfl)
      rw [ltKs_tK, lt] at *
      exact k
    have hl6 := hl5.stp s6
    have hd6 := hd5.stp s6
    refine sh_append (P := tri K t) (xs := xs) s6.at2 hl6 g1 (by rw [lenx]; omega) (ev_var g3 (Mo.mo s6.bs hv5)) fun v7 B7 H7 s7 hv7 => ?_
    have hl7 := (hl6.stp s7)
    have hd7 := (hd6.stp s7).off (o' := .lst (xs ++ [v7])) lx
    have at7 := hl7.at_ (o' := .lst (xs ++ [v7])) s7.at2
    have hl7' := hl7.put (o' := .lst (xs ++ [v7]))
    refine sh_goL (L := { L with i := L.i + j }) at7 hd7 g0 fun B8 H8 at8 hd8 c8 keep => ?_
    have s78 : Same B7 B8 := (c8 [L.x, l] (by simp)).bs
    refine ⟨j + 1, B8, xs ++ [v7], rfl, hlt, at8, hd8, keep l _ hl7' (Ne.symm lx), ?_, ?_, g0, g1, by rw [List.length_set, List.length_set]; exact len⟩
    · rw [take_succ_get ht]
      exact Paired.snoc (F := fun a v => tri K a v B8) (Mo.mo s78 hv7) (Paired.mono (fun a v h => Mo.mo ((s6.bs.trans s7.bs).trans s78) h) px5)
    · exact (((c1.stp at1.inv (s2.trans s25)).stp s5.at2.inv (s6.trans s7)).put (by simp)).trans (c8 [L.x, l] (by simp))
  · have hj2 : j = st.length := by omega
    have hb2 : b = false := (show b = nextB L.R (L.i + j) wStep from hb).trans (by rw [hj2]; exact so.stop)
    rw [if_neg (by rw [hb2]; exact Bool.false_ne_true)]
    have n2 : Same B2 (upd B2 l (.lst xs)) := Same.new hl2.nb
    have pf : pMap K (tri K) st (.ref l) (upd B2 l (.lst xs)) := ⟨l, xs, rfl, SqL.of upd_same, by
      rw [hj2, List.take_length] at px
      exact Paired.mono (fun a v h => Mo.mo (s2.bs.trans n2) h) px⟩
    refine ev_tupleOf (D := D) (ev_var e1 pf) H2 (hl2.know s2.at2) _ fun v B3 H3 s3 hv => q v B3 H3 s3.at2 ?_ ?_ hv
    · have : Hd1 D (upd B2 l (.lst xs)) H2 L.x (lnO K { L with i := L.i + j }) := ⟨hd2.ob, by rw [upd_ne lx]; exact hd2.nb, hd2.nd⟩
      have := this.stp s3
      rw [hj2] at this
      exact this
    · exact Chg.drop (a := l) ((((c1.stp at1.inv s2).know hn hl2.nb).stp s2.at2.inv s3).mono fun a ha => by
        rcases List.mem_cons.mp ha with e | e
        · rw [e]; simp
        · rw [List.mem_singleton.mp e]; simp) hn
end
end CW
set_option Elab.async false
set_option linter.all false
set_option maxRecDepth 100000
set_option maxHeartbeats 4000000
/-! W13: ends_of, read_machine. -/
namespace CW
open PySem PySem.Spec PyProof.Rows L2 TL
/-! comprehensions with a test -/
section
variable {D : Dm} {K : PySem.W.Frag} {σ : L2.St} {B : Hp} {wi : TI} {g : TG} {tt : TT} {te : TE} {vs : List Nat} {α : Type} {as : List α} {R R' : α → PV} {f : α → Bool}
theorem paired_rangeF {xs : List V} {H : Hp} {h : Nat → Bool} (hh : ∀ i a, as[i]? = some a → h i = f a) (p : Paired (fun i v => ∃ a, as[i]? = some a ∧ R a v H) ((List.range as.length).filter h) xs) : Paired (fun a v => R a v H) (as.filter f) xs := by
  have gen : ∀ (n k : Nat) (l : List α) (xs : List V), l.length = n → (∀ i, l[i]? = as[k + i]?) → Paired (fun i v => ∃ a, as[i]? = some a ∧ R a v H) ((List.range' k n).filter h) xs → Paired (fun a v => R a v H) (l.filter f) xs := by
    intro n
    induction n with
    | zero =>
      intro k l xs hl he p
      have : l = [] := List.eq_nil_of_length_eq_zero hl
      subst this
      cases p
      exact .nil
    | succ n ih =>
      intro k l xs hl he p
      cases l with
      | nil => simp at hl
      | cons b l =>
        have eb : as[k]? = some b := by simpa using (he 0).symm
        have hk := hh k b eb
        have he' : ∀ i, l[i]? = as[k + 1 + i]? := fun i => by
          have := he (i + 1)
          rw [show k + (i + 1) = k + 1 + i from by omega] at this
          simpa using this
        rw [List.range'_succ] at p
        by_cases c : f b = true
        · rw [List.filter_cons_of_pos (by rw [hk]; exact c)] at p
          rw [List.filter_cons_of_pos c]
          cases p with
          | cons h1 h2 =>
            obtain ⟨a, e1, r⟩ := h1
            rw [eb] at e1
            cases e1
            exact .cons r (ih (k + 1) l _ (by simpa using hl) he' h2)
        · rw [List.filter_cons_of_neg (by rw [hk]; exact c)] at p
          rw [List.filter_cons_of_neg c]
          exact ih (k + 1) l _ (by simpa using hl) he' p
  exact gen as.length 0 as xs rfl (fun i => by rw [Nat.zero_add]) (by rw [← List.range_eq_range']; exact p)
theorem ev_lcLF [∀ a, Mo (R' a)] (hi : EvL D wi σ B as R) (hn : as.length < 100000)
    (hs : ∀ a x B2, a ∈ as → Same B B2 → R a x B2 → ∃ σ2, wipe σ2 vs = wipe σ vs ∧ Sets D g x (wipe σ vs) B2 σ2 ∧ ∀ B3, Same B2 B3 → EvT D tt σ2 B3 (is (f a)) ∧ (f a = true → ∀ B4, Same B3 B4 → EvR D te σ2 B4 (R' a))) : EvR D (tLc wi g tt te vs) σ B (pLst K R' (as.filter f)) :=
  haveI : ∀ i : Nat, Mo (fun v H => ∃ a : α, as[i]? = some a ∧ R' a v H) := fun i => ⟨fun {v H H'} e h => by obtain ⟨a, h1, h2⟩ := h; exact ⟨a, h1, Mo.mo e h2⟩⟩
  (ev_lcF (R := fun i v H => ∃ a, as[i]? = some a ∧ R' a v H) (Pb := fun i b => ∃ a, as[i]? = some a ∧ b = f a) hi hn fun i x B2 _ e ⟨a, h1, h2⟩ => by
    obtain ⟨σ2, q1, q2, q3⟩ := hs a x B2 (List.mem_of_getElem? h1) e h2
    refine ⟨σ2, q1, q2, fun B3 e3 => ⟨(q3 B3 e3).1.imp fun b hb => ⟨a, h1, hb⟩, fun ⟨a', h1', hb⟩ B4 e4 => ?_⟩⟩
    rw [h1] at h1'
    cases h1'
    exact ((q3 B3 e3).2 hb.symm B4 e4).imp fun v B5 _ h => ⟨a, h1, h⟩).imp fun v B2 _ ⟨p, xs, h, e1, e2, e3, pr⟩ => by
    refine ⟨p, xs, e1, e2, paired_rangeF (h := h) (fun i a ha => ?_) pr⟩
    obtain ⟨a', ha', hb⟩ := e3 i (List.getElem?_eq_some_iff.mp ha).1
    rw [ha] at ha'
    cases ha'
    exact hb
end
/-- the words of the ends' row -/
def endsW (en : List Int) : List Str := if en = [] then [dash] else en.map dig
structure EnD where
  L : LnD
  en : List Int
structure EnOk (a : EnD) : Prop where
  row : RowIs a.L (wEnds :: endsW a.en)
  ok : ∀ j ∈ a.en, 0 ≤ j ∧ j < 1000000
  asc : ascI a.en = true
  len : a.en.length ≤ 80000
def spEnds (K : PySem.W.Frag) : Sp := MSp K EnD.L (fun a => a.L.i + 1) (fun a vs _ => vs = [.ref a.L.x] ∧ EnOk a) (fun a => nms_ K a.en)
def valS (z : Str) : Int := (PySem.intText? z).getD 0
theorem dig_ne_dash {i : Int} (h0 : 0 ≤ i) : dig i ≠ dash := fun e => by
  have h1 : isNum (dig i) = true := isNum_digI h0
  rw [e] at h1
  exact absurd h1 (by decide +kernel)
theorem endsW_vals {en : List Int} (h : ∀ j ∈ en, 0 ≤ j ∧ j < 1000000) : ((endsW en).filter fun z => !decide (z = dash)).map valS = en := by
  unfold endsW
  split
  · rename_i e
    rw [e]
    rfl
  · have : ∀ en : List Int, (∀ j ∈ en, 0 ≤ j ∧ j < 1000000) → ((en.map dig).filter fun z => !decide (z = dash)).map valS = en := by
      intro en
      induction en with
      | nil => exact fun _ => rfl
      | cons j en ih =>
        intro h
        have hj := h j List.mem_cons_self
        rw [List.map_cons, List.filter_cons_of_pos (by rw [decide_eq_false (dig_ne_dash hj.1)] <;> rfl), List.map_cons, ih fun k hk => h k (List.mem_cons_of_mem _ hk)]
        congr 1
        unfold valS
        rw [dig_textI hj.1 hj.2] <;> rfl
    exact this en h
theorem endsW_ok {en : List Int} (h : ∀ j ∈ en, 0 ≤ j ∧ j < 1000000) : ∀ z ∈ endsW en, z.length ≤ 640 ∧ PyData.strOk z = true ∧ (z ≠ dash → PySem.intText? z = some (valS z)) := by
  intro z hz
  unfold endsW at hz
  split at hz
  · rw [List.mem_singleton.mp hz]
    exact ⟨by decide, by decide +kernel, fun e => absurd rfl e⟩
  · obtain ⟨j, hj, rfl⟩ := List.mem_map.mp hz
    have hj2 := h j hj
    refine ⟨Nat.le_trans (dig_len hj2.1 hj2.2) (by decide), by rw [dig_of hj2.1]; exact dig_ok _, fun _ => ?_⟩
    unfold valS
    rw [dig_textI hj2.1 hj2.2] <;> rfl
theorem endsW_nums {en : List Int} (h : ∀ j ∈ en, 0 ≤ j ∧ j < 1000000) (ne : en ≠ []) : areNums (endsW en) = true := by
  unfold areNums endsW
  rw [if_neg ne, decide_eq_false (by rw [List.map_eq_nil_iff]; exact ne)]
  show (true && _) = true
  rw [Bool.true_and, List.all_map]
  exact List.all_eq_true.mpr fun j hj => isNum_digI (h j hj).1
theorem endsW_len (en : List Int) : (endsW en).length ≤ en.length + 1 := by
  unfold endsW
  split
  · show 1 ≤ _; omega
  · rw [List.length_map]; omega
theorem eqvAll_refl_txt : ∀ (ws : List Str), PyData.eqvAll ((ws.map (Sum.inr : Str → Key)).map keyD) ((ws.map (Sum.inr : Str → Key)).map keyD) = true
  | [] => by simp [PyData.eqvAll]
  | w :: ws => by simp only [List.map_cons, PyData.eqvAll, keyD, PyData.eqv, eqvAll_refl_txt ws]; simp
section
variable {P : Program} {w : World} {K : PySem.W.Frag} {mg : Str → Option Value} {base : Heap} {D : Dm} {σ : L2.St} {B H : Hp} {te ta : TE} {L : LnD} {os : List (Addr × HO)} {u : TS} {Ds : Ends}
theorem sc_ends_of : FnScope ["lines", "words", "found", "word"] ["lines"] d_ends_of.scope := ⟨rfl, rfl, rfl, by decide +kernel, rfl, by decide +kernel, by decide +kernel⟩
theorem fn_ends_of (T : Tz K mg) : Fn P w K mg base 3 "ends_of" (spEnds K) := by
  obtain ⟨_, g_NOTHING⟩ := T.t_NOTHING
  refine fn_of T.h_ends_of T.g_ends_of rfl sc_ends_of (fun _ _ _ _ _ _ us hl => match us, hl with | [_], _ => rfl) (fun vs H Q E h => ?_) (BodyOk0.ok fun cdv A outer s H vs Q E hr h => ?_)
  · obtain ⟨_, _, _, _, _, _, _, ⟨rfl, _⟩, _⟩ := h
    rfl
  refine ⟨_, pss_cons (ps_set (i := 1) sc_ends_of.nd rfl (Or.inl rfl) (pe_meR0 T.cl_Lines T.me_Lines_parts (mt_Lines_parts T) (hr.mono (by decide)) passL (pv 0)))
      (pss_cons (ps_if (PW.pt (pw_or (pt_cmpR op_ne (pe_ix ix_list (pv 1) pe_int (fun _ _ => rfl)) pe_str (nomark _)) (pw_or1 (PW.pt (pw_and (pt_cmpR (op_neD hr.units) (pv 1) (pe_lst (pa_cons pe_str (pa_cons (pe_glob (v := .str "-") (by rfl) g_NOTHING ⟨_, rfl⟩) pa_nil))) (nomark _)) (pw_and1 (pt_not (pt_val (pe_fn (fn_are_numbers T) (hr.mono (by decide)) passL (pa_cons (pe_slice sl_list (pv 1) (po_some pe_int) po_none) pa_nil)))))))))) (pss_one ps_never) pss_nil)
      (pss_cons (ps_set (i := 2) sc_ends_of.nd rfl (Or.inl rfl) (pe_callTy call_tuple_of (by rfl) T.b_tuple boot_tuple (pa_cons (pe_lc (own := [("word", 3)]) (g := gName 3) (by rfl) sc_ends_of.nd (pi_list (pe_slice sl_list (pv 1) (po_some pe_int) po_none)) (blkOk_by (N := ["lines", "words", "found", "word"]) (sc := d_ends_of.scope) (own := [("word", 3)]) (by decide +kernel)) (fun _ _ _ _ _ => (pg_name (i := 3) sc_ends_of.nd rfl (Or.inl rfl))) (fun _ _ _ _ _ => (pts_one (pt_cmpR op_ne (pv 3) (pe_glob (v := .str "-") (by rfl) g_NOTHING ⟨_, rfl⟩) (nomark _)))) (fun _ _ _ _ _ => (pe_callTy call_int_str (by rfl) T.b_int boot_int (pa_cons (pv 3) pa_nil)))) pa_nil)))
      (pss_cons (ps_if (pt_not (pt_val (pe_fn (fn_is_ascendingI T) (hr.mono (by decide)) passL (pa_cons (pv 2) pa_nil)))) (pss_one ps_never) pss_nil)
      (pss_cons (ps_expr (pe_meR0 T.cl_Lines T.me_Lines_go_on (mt_Lines_go_on T) (hr.mono (by decide)) passL (pv 0)))
      (pss_one (ps_ret (pv 2))))))), ?_⟩
  obtain ⟨D, B, ⟨L, en⟩, at_, hd, hR, ok, ⟨rfl, eo⟩, q⟩ := h
  dsimp only at hd hR ok q
  have nd := hd.nd
  have row := eo.row
  have eok := eo.ok
  have elen := eo.len
  dsimp only at row eok elen
  have wok := endsW_ok eok
  have wlen := endsW_len en
  refine sh_set (P := pLst K txt (wEnds :: endsW en)) (ev_parts (ev_varE rfl) nd hR ok row) at_ (hd_os hd) fun v B2 H2 s2 hv => ?_
  have hv2 : ∀ {Dm : Dm} {σ : L2.St} B3, Same B2 B3 → σ[1]? = some (some v) → EvR Dm (tVar 1) σ B3 (pMap K txt (wEnds :: endsW en)) := fun B3 s h => ev_var h (pLst.map (Mo.mo s hv))
  have allOk : ∀ r ∈ wEnds :: endsW en, PyData.strOk r = true := fun r hr => by
    rcases List.mem_cons.mp hr with e | e
    · rw [e]; decide +kernel
    · exact (wok r e).2.1
  have tail1 : ∀ {Dm : Dm} {σ : L2.St} B3, Same B2 B3 → σ[1]? = some (some v) → EvR Dm (tSl (rSlL K) (tVar 1) (tPart (tC (.int 1))) tNoPart) σ B3 (pLst K txt (endsW en)) := fun B3 s h => (ev_slL (hv2 B3 s h) (fun _ _ => eo_some ev_c) (fun _ _ => eo_none)).imp fun v B4 _ h => by rw [cut1] at h; exact h
  have dpE : pDat K (.list (((wEnds :: [dash]).map (Sum.inr : Str → Key)).map keyD)) = pDat K (.list (((wEnds :: [dash]).map (Sum.inr : Str → Key)).map keyD)) := rfl
  refine sh_if0 (et_orF ((et_test (ev_neS (x := wEnds) (y := wEnds) (ev_ixL (R := txt) (a := wEnds) (i := 0) (hv2 B2 (Same.refl _) rfl) (fun _ _ => ev_c) (by decide) rfl) fun _ _ => ev_c)).to (by simp)) fun B3 s3 => ?_) s2.at2 fun B3 H3 s3 => ?_
  · have t1 : EvT D (tTest (tOp (rNeD K) (tVar 1) (tLst (tCons (tC (.str wEnds)) (tCons (tC (.str dash)) tNil))))) (start ["lines", "words", "found", "word"] [.ref L.x] |>.set 1 (some v)) B3 (is (!PyData.eqv (.list (((wEnds :: endsW en).map (Sum.inr : Str → Key)).map keyD)) (.list (([wEnds, dash].map (Sum.inr : Str → Key)).map keyD)))) :=
      et_test (ev_neD (K := K) ((hv2 B3 s3 rfl).imp fun v B4 _ h => pdat_txt h) (fun B4 s4 => ev_lstD (ea_consD (ev_strD ev_c) fun _ _ => ea_consD (ev_strD ev_c) fun _ _ => ea_nilD) (by show 2 ≤ 100000; omega)) (shaped_txt allOk) (shaped_txt (ws := [wEnds, dash]) fun r hr => by
        rcases List.mem_cons.mp hr with e | e
        · rw [e]; decide +kernel
        · rw [List.mem_singleton.mp e]; decide +kernel))
    by_cases ne : en = []
    · refine et_andF (t1.to ?_)
      have : endsW en = [dash] := by unfold endsW; rw [if_pos ne]
      rw [this, show PyData.eqv (.list (([wEnds, dash].map (Sum.inr : Str → Key)).map keyD)) (.list (([wEnds, dash].map (Sum.inr : Str → Key)).map keyD)) = true from by
        simp only [PyData.eqv]; exact eqvAll_refl_txt _] <;> rfl
    · refine (et_and (c := false) t1 fun _ B4 s4 => (et_not (et_B (ev_psp (Post := fun z => pEq (.bl (areNums z))) (endsW en) (ea_one ((tail1 B4 (s3.trans s4) rfl).imp fun v B5 _ h => pLst.map h)) fun vs B5 _ ⟨v, e1, e2⟩ => ⟨⟨v, e1, e2⟩, fun r hr => ⟨Nat.le_trans (wok r hr).1 (by decide), (wok r hr).2.1⟩, by omega⟩))).to (by rw [endsW_nums eok ne] <;> rfl)).to (by simp)
  have hd3 := (hd.stp s2).stp s3
  refine sh_set0 (P := nms_ K en) (ev_tupleOf ((ev_lcLF (R := txt) (R' := fun z => num (valS z)) (f := fun z => !decide (z = dash)) (el_list ((tail1 B3 s3.bs rfl).imp fun v B5 _ h => pLst.map h)) (by omega) fun z y B4 hz s4 hy => ⟨_, wipe_set, sets_name, fun B5 s5 => ⟨?_, fun hne B6 s6 => ?_⟩⟩).imp fun v B5 _ h => by
      have := pLst.fmap (R := num) (f := valS) h
      rw [endsW_vals eok] at this
      exact pLst.map this)) s3.at2 fun v4 B4 H4 s4 hv4 => ?_
  · obtain rfl : y = _ := hy
    exact et_test (ev_neS (ev_varE rfl) fun _ _ => ev_c)
  · obtain rfl : y = _ := hy
    have zd : z ≠ dash := fun e => by rw [decide_eq_true e] at hne; cases hne
    exact ev_intS (ev_varE rfl) ((wok z hz).2.2 zd) (wok z hz).1
  refine sh_if0 ((et_not (et_B (ev_psp (Post := fun z => pEq (.bl (ascI z))) en (ea_one (ev_var rfl hv4)) fun vs B6 _ ⟨v, e1, e2⟩ => ⟨⟨v, e1, e2⟩, by omega⟩))).to (by rw [eo.asc] <;> rfl)) s4.at2 fun B5 H5 s5 => ?_
  have hd5 := (hd3.stp s4).stp s5
  refine sh_go s5.at2 hd5 rfl fun B6 H6 at6 hd6 c6 _ => ?_
  exact ⟨v4, rfl, q v4 B6 H6 at6 hd6 ((Chg.of at_.inv (((s2.trans s3).trans s4).trans s5)).trans (c6 [L.x] (List.mem_singleton.mpr rfl))) (Mo.mo (P := nms_ K en) (s5.bs.trans (c6 [L.x] (List.mem_singleton.mpr rfl)).bs) hv4)⟩
end
end CW
set_option Elab.async false
set_option linter.all false
set_option maxRecDepth 100000
set_option maxHeartbeats 1000000
/-! PL2: the rows of a machine's text split again. -/
namespace CW
open PySem PySem.Spec PyProof.Rows L2 TL
def wMach : Str := "machine"
def wBox : Str := "box"
theorem split_by {y : Str} {s : Nat} (ey : tl y = [s]) (hs : s < 256) {parts : List Str} (hne : parts ≠ []) (hp : ∀ p ∈ parts, s ∉ cs p) : Txt.split (Txt.join y parts) y = parts := by
  have hk : y.cps.all (· < 256) = true := by
    rw [← Array.all_toList, show y.cps.toList = [s] from ey]
    simp [hs]
  exact split_join ey hk hne hp
theorem tl_cat : ∀ (xs : List Str) (a : Str), cs (catS a xs) = cs a ++ (xs.map cs).flatten
  | [], a => by simp [catS]
  | x :: xs, a => by
    show cs (catS (a ++ x) xs) = _
    rw [tl_cat xs]
    show (a ++ x).cps.toList ++ _ = _
    rw [Str.cps_append, Array.toList_append, List.map_cons, List.flatten_cons, List.append_assoc]
theorem tl_joinT (y : Str) (parts : List Str) : cs (Txt.join y parts) = joinL (cs y) (parts.map cs) := by rw [join_eq]; exact tl_join y parts
theorem head_join (w k : Str) (hk : cs k = cs w ++ cs sp1) (L : Str) (n : Int) : headL k L n = Txt.join sp1 [w, L, dig n] := by
  apply cps_inj
  show cs (headL k L n) = cs (Txt.join sp1 [w, L, dig n])
  unfold headL
  rw [tl_cat, tl_joinT]
  simp only [List.map_cons, List.map_nil, List.flatten_cons, List.flatten_nil, joinL, hk]
  simp [List.append_assoc, show cs Str.empty = [] from rfl]
theorem step_join (t : Tri) : stepL t = Txt.join sp1 (stepW t) := by
  apply cps_inj
  show cs (stepL t) = cs (Txt.join sp1 (stepW t))
  unfold stepL stepW
  rw [tl_cat, tl_joinT]
  have e : cs kStep = cs wStep ++ cs sp1 := by decide +kernel
  simp only [List.map_cons, List.map_nil, List.flatten_cons, List.flatten_nil, joinL, e]
  simp [List.append_assoc, show cs Str.empty = [] from rfl]
theorem ends_join (en : List Int) : endsL en = Txt.join sp1 (wEnds :: endsW en) := by
  apply cps_inj
  show cs (endsL en) = cs (Txt.join sp1 (wEnds :: endsW en))
  have e : cs kEnds = cs wEnds ++ cs sp1 := by decide +kernel
  have h1 : cs (endsL en) = cs kEnds ++ cs (joinW (en.map .inl)) := by
    unfold endsL
    show (kEnds ++ _).cps.toList = _
    rw [Str.cps_append, Array.toList_append]
  have h2 : cs (joinW (en.map .inl)) = joinL (cs sp1) ((endsW en).map cs) := by
    unfold joinW endsW
    by_cases c : en = []
    · rw [if_pos (by rw [c] <;> rfl), if_pos c]
      rfl
    · rw [if_neg (by rw [List.map_eq_nil_iff]; exact c), if_neg c, tl_joinT, List.map_map, List.map_map, List.map_map] <;> rfl
  rw [h1, h2, tl_joinT, e, List.map_cons]
  have ne : (endsW en).map cs ≠ [] := by
    unfold endsW
    split
    · simp
    · rename_i c
      simp [c]
  cases q : (endsW en).map cs with
  | nil => exact absurd q ne
  | cons a r => simp [joinL, List.append_assoc]
/-- a sign that is no space, no line's end, no digit's neighbour -/
def plainS (z : Str) : Prop := 32 ∉ cs z ∧ 10 ∉ cs z
theorem dig_plain {i : Int} (h : 0 ≤ i) : plainS (dig i) := by
  rw [dig_of h]
  unfold plainS
  rw [dig_nat]
  exact ⟨numL_free (.inl (by decide)), numL_free (.inl (by decide))⟩
theorem low_plain {z : Str} (h : isWord z = true) : plainS z := by
  have h1 := List.all_eq_true.mp h
  have e : ∀ c ∈ cs lowers, c ≠ 32 ∧ c ≠ 10 := by decide +kernel
  exact ⟨fun m => (e 32 (of_decide_eq_true (h1 32 m))).1 rfl, fun m => (e 10 (of_decide_eq_true (h1 10 m))).2 rfl⟩
theorem letters_word {z : Str} (h : isLetters z = true) : isWord z = true := by
  unfold isLetters at h
  exact (Bool.and_eq_true_iff.mp h).1
theorem no_nl {ws : List Str} (h : ∀ z ∈ ws, plainS z) : 10 ∉ cs (Txt.join sp1 ws) := by
  rw [tl_joinT]
  have : ∀ ws : List Str, (∀ z ∈ ws, plainS z) → 10 ∉ joinL (cs sp1) (ws.map cs) := by
    intro ws
    induction ws with
    | nil => intro _; simp [joinL]
    | cons z ws ih =>
      intro h
      have hz := (h z List.mem_cons_self).2
      have ih' := ih fun y hy => h y (List.mem_cons_of_mem _ hy)
      cases ws with
      | nil => simpa [joinL] using hz
      | cons y ws =>
        have e : 10 ∉ cs sp1 := by decide +kernel
        simp only [List.map_cons, joinL] at ih' ⊢
        intro m
        rcases List.mem_append.mp m with m | m
        · exact hz m
        · rcases List.mem_append.mp m with m | m
          · exact e m
          · exact ih' m
  exact this ws h
theorem split_sp {ws : List Str} (h : ∀ z ∈ ws, plainS z) (hne : ws ≠ []) : Txt.split (Txt.join sp1 ws) sp1 = ws := split_by (s := 32) (by decide +kernel) (by decide) hne fun z hz => (h z hz).1
theorem split_nl {rs : List Str} (h : ∀ r ∈ rs, 10 ∉ cs r) (hne : rs ≠ []) : Txt.split (Txt.join nl1 rs) nl1 = rs := split_by (s := 10) (by decide +kernel) (by decide) hne h
theorem stepW_plain {t : Tri} (h : StOk t) : ∀ z ∈ stepW t, plainS z := by
  obtain ⟨c, hc, hcl⟩ := h.s
  have e1 : isWord t.2.1 = true := by
    rw [hc]
    show (decide (c ∈ cs lowers) && true) = true
    rw [decide_eq_true hcl] <;> rfl
  have e0 : plainS wStep := ⟨by decide +kernel, by decide +kernel⟩
  intro z hz
  unfold stepW at hz
  simp only [List.mem_cons, List.mem_nil_iff, or_false] at hz
  rcases hz with rfl | rfl | rfl | rfl
  · exact e0
  · exact dig_plain h.a0
  · exact low_plain e1
  · exact dig_plain h.b0
theorem endsW_plain {en : List Int} (h : ∀ j ∈ en, 0 ≤ j ∧ j < 1000000) : ∀ z ∈ wEnds :: endsW en, plainS z := by
  intro z hz
  rcases List.mem_cons.mp hz with rfl | hz
  · exact ⟨by decide +kernel, by decide +kernel⟩
  · unfold endsW at hz
    split at hz
    · rw [List.mem_singleton.mp hz]
      exact ⟨by decide +kernel, by decide +kernel⟩
    · obtain ⟨j, hj, rfl⟩ := List.mem_map.mp hz
      exact dig_plain (h j hj).1
end CW
set_option Elab.async false
set_option linter.all false
set_option maxRecDepth 100000
set_option maxHeartbeats 4000000
/-! W14: read_machine. -/
namespace CW
open PySem PySem.Spec PyProof.Rows L2 TL
section
variable {P : Program} {w : World} {K : PySem.W.Frag} {mg : Str → Option Value} {base : Heap} {D : Dm} {σ : L2.St} {B H : Hp} {te ta : TE} {L : LnD} {os : List (Addr × HO)} {u : TS} {Ds : Ends}
theorem sh_make {α : Type} {C : Addr} {Pre : α → List V → Hp → Prop} {Post : α → Addr → Addr → HO → HO → Hp → Prop} {E : XK} {t : TA} {R : List V → Hp → Prop} {i : Nat} (a : α) (h : EvA D t σ B R) (at_ : At D B H) (hp : ∀ vs B2, Same B B2 → R vs B2 → Pre a vs B2)
    (k : ∀ x dx o d B2 H2, At D B2 H2 → Hd1 D B2 H2 x o → (∀ as, Chg D as B H B2 H2) → H x = none → Post a x dx o d B2 → u Ds (σ.set i (some (.ref x))) H2) : tSeq (tAsg (StX.tMakeR C (ISp (insO C) ownO Pre Post) E t) (gName i)) u Ds σ H :=
  h H at_ _ fun vs B2 H2 e2 r x dx hx hd hn => ⟨D, B2, x, dx, a, vs, rfl, Mkg.new e2.at2 hx hd hn, hp vs B2 e2.bs r, fun B3 H3 o3 d3 m md po => ⟨rfl, by
    have xH : ∀ b, H2 b = none → H b = none := fun b hb => by
      cases q : H b with
      | none => rfl
      | some o =>
        by_cases z : D.ds b
        · exact absurd hb (D.there e2.at2.inv z)
        · rw [e2.x b o q z] at hb; cases hb
    have c2 : ∀ as, Chg D as B2 H2 B3 H3 := fun as => ⟨md.bs, fun b o h1 h2 _ => md.kx b o (by rw [upd_ne (ne_of_none h1 hx), upd_ne (ne_of_none h1 hd)]; exact h1) h2 (ne_of_none h1 hx) (ne_of_none h1 hd), fun b h1 h2 => by
      have b1 : b ≠ x := fun z => h1 (by rw [z]; exact hx)
      have b2 : b ≠ dx := fun z => h1 (by rw [z]; exact hd)
      exact md.fr b (by rw [upd_ne b1, upd_ne b2]; exact h1) h2 b1 b2, fun b h1 => by
      have b1 : b ≠ x := fun z => h1 (by rw [z]; exact hx)
      have b2 : b ≠ dx := fun z => h1 (by rw [z]; exact hd)
      by_cases z : D.ds b
      · exact D.there m.at_.inv z
      · cases q : H2 b with
        | none => exact absurd q h1
        | some o =>
          rw [md.kx b o (by rw [upd_ne b1, upd_ne b2]; exact q) z b1 b2]
          exact Option.some_ne_none _⟩
    exact k x dx o3 d3 B3 H3 m.at_ ⟨m.ob, m.bx, m.nx⟩ (fun as => (Chg.of at_.inv e2).trans (c2 as)) (xH x hx) po⟩⟩
/-- x = f(lines); the rest -/
theorem sh_fnM {α : Type} {Lx : α → LnD} {nx : α → Nat} {Pre : α → List V → Hp → Prop} {Post : α → PV} {E : XK} {t : TA} {R : List V → Hp → Prop} (a : α) (at_ : At D B H) (hd : Hd1 D B H (Lx a).x (lnO K (Lx a))) (hR : pMap K txt (Lx a).R (.ref (Lx a).p) B) (ok : RowsOk (Lx a).R) (h : EvA D t σ B R) (hp : ∀ vs B2, Same B B2 → R vs B2 → Pre a vs B2)
    {g : TG} (k : ∀ v B2 H2, At D B2 H2 → Hd1 D B2 H2 (Lx a).x (lnO K { Lx a with i := nx a }) → Chg D [(Lx a).x] B H B2 H2 → Post a v B2 → g v σ H2 (u Ds)) : tSeq (tAsg (tFn (MSp K Lx nx Pre Post) E t) g) u Ds σ H :=
  h H at_ _ fun vs B2 H2 e2 r => ⟨D, B2, a, e2.at2, hd.stp e2, Mo.mo e2.bs hR, ok, hp vs B2 e2.bs r, fun v B3 H3 a3 h3 c3 p3 => k v B3 H3 a3 h3 ((Chg.of at_.inv e2).trans c3) p3⟩
theorem sh_fnN {α : Type} {Lx : α → LnD} {nx : α → Nat} {Pre : α → List V → Hp → Prop} {Post : α → PV} {E : XK} {t : TA} {R : List V → Hp → Prop} {i : Nat} (a : α) (at_ : At D B H) (hd : Hd1 D B H (Lx a).x (lnO K (Lx a))) (hR : pMap K txt (Lx a).R (.ref (Lx a).p) B) (ok : RowsOk (Lx a).R) (h : EvA D t σ B R) (hp : ∀ vs B2, Same B B2 → R vs B2 → Pre a vs B2)
    (k : ∀ v B2 H2, At D B2 H2 → Hd1 D B2 H2 (Lx a).x (lnO K { Lx a with i := nx a }) → Chg D [(Lx a).x] B H B2 H2 → Post a v B2 → u Ds (σ.set i (some v)) H2) : tSeq (tAsg (tFn (MSp K Lx nx Pre Post) E t) (gName i)) u Ds σ H := sh_fnM a at_ hd hR ok h hp k
end
/-! the text's rows -/
structure MD.Go (M : MD) : Prop where
  ok : M.Ok
  st : ∀ t ∈ M.st, StOk t
  en : ∀ j ∈ M.en, 0 ≤ j ∧ j < 1000000
  ek : M.en.length ≤ 100
theorem MD.Go.sm {M : MD} (g : M.Go) : M.Sm where
  l := by have := g.ok.len; omega
  n0 := by have := g.ok.n1; omega
  n1 := by have := g.ok.n5; omega
  k := by have := g.ok.k; omega
  s := fun t ht => by
    have := g.st t ht
    obtain ⟨c, hc, _⟩ := this.s
    exact ⟨⟨this.a0, this.a1⟩, ⟨this.b0, this.b1⟩, by rw [hc]; show 1 ≤ 10; omega⟩
  ek := g.ek
  e := g.en
section
variable {M : MD}
theorem rowH (g : M.Go) : Txt.split (headL kMach M.L M.n) sp1 = [wMach, M.L, dig M.n] ∧ 10 ∉ cs (headL kMach M.L M.n) := by
  have hp : ∀ z ∈ [wMach, M.L, dig M.n], plainS z := by
    intro z hz
    simp only [List.mem_cons, List.mem_nil_iff, or_false] at hz
    rcases hz with rfl | rfl | rfl
    · exact ⟨by decide +kernel, by decide +kernel⟩
    · exact low_plain (letters_word g.ok.l)
    · exact dig_plain (by have := g.ok.n1; omega)
  rw [head_join wMach kMach (by decide +kernel)]
  exact ⟨split_sp hp (by simp), no_nl hp⟩
theorem rowS {t : Tri} (h : StOk t) : Txt.split (stepL t) sp1 = stepW t ∧ 10 ∉ cs (stepL t) := by
  rw [step_join]
  exact ⟨split_sp (stepW_plain h) (by unfold stepW; simp), no_nl (stepW_plain h)⟩
theorem rowE (g : M.Go) : Txt.split (endsL M.en) sp1 = wEnds :: endsW M.en ∧ 10 ∉ cs (endsL M.en) := by
  rw [ends_join]
  exact ⟨split_sp (endsW_plain g.en) (by simp), no_nl (endsW_plain g.en)⟩
theorem rows_split (g : M.Go) : Txt.split (textM M) nl1 = rowsL M := by
  unfold textM
  refine split_nl (fun r hr => ?_) (by unfold rowsL; simp)
  unfold rowsL at hr
  rcases List.mem_append.mp hr with hr | hr
  · rcases List.mem_append.mp hr with hr | hr
    · rw [List.mem_singleton.mp hr]; exact (rowH g).2
    · obtain ⟨t, ht, rfl⟩ := List.mem_map.mp hr
      exact (rowS (g.st t ht)).2
  · rw [List.mem_singleton.mp hr]; exact (rowE g).2
theorem rows_len (M : MD) : (rowsL M).length = M.st.length + 2 := by
  unfold rowsL
  simp
theorem rows_ok (g : M.Go) : RowsOk (rowsL M) := by
  have sm := g.sm
  refine ⟨by rw [rows_len]; have := sm.k; omega, fun r hr => ?_⟩
  unfold rowsL at hr
  rcases List.mem_append.mp hr with hr | hr
  · rcases List.mem_append.mp hr with hr | hr
    · rw [List.mem_singleton.mp hr, (rowH g).1]
      exact ⟨Nat.le_trans (headL_len (by decide) sm.l sm.n0 sm.n1) (by decide), by simp⟩
    · obtain ⟨t, ht, rfl⟩ := List.mem_map.mp hr
      rw [(rowS (g.st t ht)).1]
      exact ⟨Nat.le_trans (stepL_len (sm.s t ht)) (by decide), by unfold stepW; simp⟩
  · rw [List.mem_singleton.mp hr, (rowE g).1]
    have h3 := joinW_len sm.e
    have h5 := sm.ek
    have e2 : (endsL M.en).length = 5 + (joinW (M.en.map .inl)).length := by unfold endsL; rw [Str.length_append] <;> rfl
    exact ⟨by omega, by simp⟩
theorem row_0 (M : MD) : (rowsL M)[0]? = some (headL kMach M.L M.n) := rfl
theorem row_j {j : Nat} {t : Tri} (h : M.st[j]? = some t) : (rowsL M)[1 + j]? = some (stepL t) := by
  have hj := (List.getElem?_eq_some_iff.mp h).1
  unfold rowsL
  rw [List.append_assoc, Nat.add_comm]
  show ((M.st.map stepL) ++ [endsL M.en])[j]? = _
  rw [List.getElem?_append_left (by rw [List.length_map]; exact hj), List.getElem?_map, h] <;> rfl
theorem row_e (M : MD) : (rowsL M)[1 + M.st.length]? = some (endsL M.en) := by
  unfold rowsL
  rw [List.append_assoc, Nat.add_comm]
  show ((M.st.map stepL) ++ [endsL M.en])[M.st.length]? = _
  rw [List.getElem?_append_right (by rw [List.length_map]; exact Nat.le_refl _), List.length_map, Nat.sub_self] <;> rfl
end
def spReadM (K : PySem.W.Frag) : Sp := PSp (fun _ (M : MD) vs _ => vs = [.str (textM M)] ∧ M.Go) (fun M => pMac K M)
section
variable {P : Program} {w : World} {K : PySem.W.Frag} {mg : Str → Option Value} {base : Heap}
theorem sc_read_machine : FnScope ["text", "lines", "letters", "size", "steps", "ends"] ["text"] d_read_machine.scope := ⟨rfl, rfl, rfl, by decide +kernel, rfl, by decide +kernel, by decide +kernel⟩
theorem fn_read_machine (T : Tz K mg) : Fn P w K mg base 6 "read_machine" (spReadM K) := by
  refine fn_of T.h_read_machine T.g_read_machine rfl sc_read_machine (fun _ _ _ _ _ _ us hl => match us, hl with | [_], _ => rfl) (fun vs H Q E h => ?_) (BodyOk0.ok fun cdv A outer s H vs Q E hr h => ?_)
  · obtain ⟨_, _, _, _, ⟨rfl, _⟩, _⟩ := h
    rfl
  refine ⟨_, pss_cons (ps_set (i := 1) sc_read_machine.nd rfl (Or.inl rfl) (StX.pe_makeR T.mk_Lines (in_Lines T) (hr.mono (by decide)) (by rfl) T.g_Lines passL (pa_cons (pv 0) pa_nil)))
      (pss_cons (ps_asg (pe_fn (fn_head_of T) (hr.mono (by decide)) passL (pa_cons (pv 1) (pa_cons pe_str pa_nil))) (pg_tup (by rfl) (pgs_cons (pg_name (i := 2) sc_read_machine.nd rfl (Or.inl rfl)) (pgs_cons (pg_name (i := 3) sc_read_machine.nd rfl (Or.inl rfl)) pgs_nil))))
      (pss_cons (ps_set (i := 4) sc_read_machine.nd rfl (Or.inl rfl) (pe_fn (fn_steps_of T) (hr.mono (by decide)) passL (pa_cons (pv 1) pa_nil)))
      (pss_cons (ps_set (i := 5) sc_read_machine.nd rfl (Or.inl rfl) (pe_fn (fn_ends_of T) (hr.mono (by decide)) passL (pa_cons (pv 1) pa_nil)))
      (pss_cons (ps_expr (pe_meR0 T.cl_Lines T.me_Lines_finish (mt_Lines_finish T) (hr.mono (by decide)) passL (pv 1)))
      (pss_one (ps_ret (StX.pe_makeR T.mk_Machine (in_Mac4 T) (hr.mono (by decide)) (by rfl) T.g_Machine passL (pa_cons (pv 2) (pa_cons (pv 3) (pa_cons (pv 4) (pa_cons (pv 5) pa_nil))))))))))), ?_⟩
  obtain ⟨D, B, M, at_, ⟨rfl, g⟩, q⟩ := h
  have sm := g.sm
  have ok := rows_ok g
  have tlen : (textM M).length + 2 ≤ sizeLine := by
    have := join_len nl1 (rowsL M)
    have := rows_small sm
    exact Nat.le_trans (by unfold textM; omega) (by decide : 100002 ≤ sizeLine)
  refine sh_make (textM M) (ea_oneE (ev_varE rfl)) at_ (fun vs B2 _ e => ⟨e, tlen⟩) fun x dx o d B2 H2 at2 hd2 c2 hx ⟨p, ho, _, hR⟩ => ?_
  rw [rows_split g] at hR
  subst ho
  -- letters, size = head_of(lines, 'machine')
  refine sh_fnM (Lx := HdD.L) (nx := fun a => a.L.i + 1) (⟨⟨x, dx, p, rowsL M, 0⟩, wMach, M.L, M.n.toNat⟩ : HdD) at2 hd2 hR ok (ea_consE (ev_varE rfl) fun _ _ => ea_oneE ev_c) (fun vs B3 _ e => ⟨e, ⟨_, row_0 M, by rw [(rowH g).1, dig_of (by have := g.ok.n1; omega)]⟩, g.ok.l, by show M.L.length ≤ 90000; have := g.ok.len; omega, by show M.n.toNat < 1000000; have := g.ok.n5; omega⟩) fun v B3 H3 at3 hd3 c3 hv => ?_
  obtain ⟨vl, vn, h1, h2, hs⟩ := sets_pair (D := D) (K := K) (i := 2) (j := 3) (σ := start ["text", "lines", "letters", "size", "steps", "ends"] [.str (textM M)] |>.set 1 (some (.ref x))) hv
  refine hs H3 at3 _ fun B4 H4 s4 => ?_
  obtain rfl : vl = _ := h1
  obtain rfl : vn = _ := h2
  have hd4 := hd3.stp s4
  have hR4 : pMap K txt (rowsL M) (.ref p) B4 := Mo.mo (c3.bs.trans s4.bs) hR
  -- steps = steps_of(lines)
  refine sh_fnN (Lx := SsD.L) (nx := fun a => a.L.i + a.st.length) (⟨⟨x, dx, p, rowsL M, 1⟩, M.st⟩ : SsD) s4.at2 hd4 hR4 ok (ea_oneE (ev_varE rfl)) (fun vs B5 _ e => ⟨e, ⟨fun j t ht => ⟨_, row_j ht, (rowS (g.st t (List.mem_of_getElem? ht))).1⟩, g.st, g.ok.sa, by
    unfold nextB
    show (match (rowsL M)[1 + M.st.length]? with | none => false | some r => decide ((Txt.split r sp1).head? = some wStep)) = false
    rw [row_e]
    dsimp only
    rw [(rowE g).1]
    exact decide_eq_false fun z => absurd (Option.some.inj z) (by decide +kernel), by show 1 + M.st.length ≤ (rowsL M).length; rw [rows_len]; omega⟩⟩) fun v5 B5 H5 at5 hd5 c5 hv5 => ?_
  have hR5 : pMap K txt (rowsL M) (.ref p) B5 := Mo.mo c5.bs hR4
  -- ends = ends_of(lines)
  refine sh_fnN (Lx := EnD.L) (nx := fun a => a.L.i + 1) (⟨⟨x, dx, p, rowsL M, 1 + M.st.length⟩, M.en⟩ : EnD) at5 hd5 hR5 ok (ea_oneE (ev_varE rfl)) (fun vs B6 _ e => ⟨e, ⟨⟨_, row_e M, (rowE g).1⟩, g.en, g.ok.ea, by show M.en.length ≤ 80000; have := g.ek; omega⟩⟩) fun v6 B6 H6 at6 hd6 c6 hv6 => ?_
  have hR6 : pMap K txt (rowsL M) (.ref p) B6 := Mo.mo c6.bs hR5
  -- lines.finish()
  have hd6' : Hd1 D B6 H6 x (lnO K ⟨x, dx, p, rowsL M, 1 + M.st.length + 1⟩) := hd6
  refine (ev_meH (D := D) (os := lnH K ⟨x, dx, p, rowsL M, 1 + M.st.length + 1⟩) (P := pEq .non) (ev_varE rfl) (List.mem_singleton.mpr rfl) rfl (fun B7 s7 => ea_nil) fun vs B7 s7 e => by
    rw [e]
    exact EvV.rsp (Post := fun _ : LnD => pEq .non) (⟨x, dx, p, rowsL M, 1 + M.st.length + 1⟩ : LnD) (fun p hp => by rw [List.mem_singleton.mp hp]; exact hd6'.nd) (fun p h => h) ⟨rfl, Mo.mo s7 hR6, by show 1 + M.st.length + 1 = (rowsL M).length; rw [rows_len]; omega⟩).hid at6 (hd_os hd6') fun v7 B7 H7 s7 _ => ?_
  -- Machine(..)
  have hS : stp K M.st v5 B7 := Mo.mo (P := stp K M.st) (c6.bs.trans s7.bs) hv5
  have hE : nms_ K M.en v6 B7 := Mo.mo (P := nms_ K M.en) s7.bs hv6
  refine (ev_make (D := D) (P := pMac K M) (a := M) (ea_consE (ev_varE rfl) fun _ _ => ea_consE (v := .int M.n) (ev_var rfl (by show V.int _ = V.int _; rw [Int.toNat_of_nonneg (by have := g.ok.n1; omega)])) fun _ _ => ea_consE (ev_varE rfl) fun _ _ => ea_oneE (ev_varE rfl)) (fun vs B8 s8 r => ⟨⟨v5, v6, r, Mo.mo (P := stp K M.st) s8 hS, Mo.mo (P := nms_ K M.en) s8 hE⟩, g.ok⟩) fun x dx o d B8 hx8 hd8 hn po => mac_made hx8 hd8 hn po) H7 s7.at2 _ fun v8 B8 H8 s8 hv8 => ?_
  have c16 : Chg D [x] B H B8 H8 := (((((((c2 [x]).trans c3).trans (Chg.of at3.inv s4)).trans c5).trans c6).stp at6.inv s7).stp s7.at2.inv s8)
  exact q v8 B8 H8 ((c16.drop hx).done s8.at2) hv8
end
end CW
set_option Elab.async false
set_option linter.all false
set_option maxRecDepth 100000
set_option maxHeartbeats 4000000
/-! W15: Machine.__eq__. -/
namespace CW
open PySem PySem.Spec PyProof.Rows L2 TL
def spMEq (K : PySem.W.Frag) : Sp := PSp (fun _ (M : MD) vs B => (∃ x y, vs = [x, y] ∧ pMac K M x B ∧ pMac K M y B) ∧ ∀ t ∈ M.st, PyData.strOk t.2.1 = true) (fun _ => pEq (.bl true))
section
variable {P : Program} {w : World} {K : PySem.W.Frag} {mg : Str → Option Value} {base : Heap} {D : Dm} {σ : L2.St} {B H : Hp} {te ta : TE} {M : MD}
theorem dp_st {st : List Tri} {x : V} (h : stp K st x B) : pDat K (.tuple (st.map triD)) x B := by
  obtain ⟨p, xs, rfl, hp, px⟩ := h
  exact .tup hp (dp_tris px)
def intsD (ns : List Int) : List PyData := ns.map .int
theorem dp_ints : ∀ {ns : List Int} {xs : List V} {H : Hp}, Paired (fun a v => num a v H) ns xs → DpAll K H xs (intsD ns)
  | _, _, _, .nil => .nil
  | _, _, _, .cons r t => by rw [show _ = V.int _ from r]; exact .cons (.int _) (dp_ints t)
theorem dp_en {ns : List Int} {x : V} (h : nms_ K ns x B) : pDat K (.tuple (intsD ns)) x B := by
  obtain ⟨p, xs, rfl, hp, px⟩ := h
  exact .tup hp (dp_ints px)
theorem can_ints : ∀ ns : List Int, PyData.canLayAll0 (intsD ns) = true
  | [] => by simp [intsD, PyData.canLayAll0]
  | n :: ns => by
    have := can_ints ns
    simp only [intsD, List.map_cons, PyData.canLayAll0, PyData.canLay0] at this ⊢
    simpa using this
theorem dep_ints : ∀ ns : List Int, PyData.depthAll (intsD ns) ≤ 1
  | [] => by simp [intsD, PyData.depthAll]
  | n :: ns => by
    have := dep_ints ns
    simp only [intsD, List.map_cons, PyData.depthAll, PyData.depth] at this ⊢
    omega
theorem shaped_ints (ns : List Int) : SeqAt.shaped (.tuple (intsD ns)) = true := by
  have := dep_ints ns
  unfold SeqAt.shaped
  rw [Bool.and_eq_true, decide_eq_true_eq]
  refine ⟨by simpa [PyData.canLay0] using can_ints ns, ?_⟩
  simp only [PyData.depth]
  omega
theorem sc_Machine_eq : FnScope ["self", "value"] ["self", "value"] d_Machine_eq.scope := ⟨rfl, rfl, rfl, by decide +kernel, rfl, by decide +kernel, by decide +kernel⟩
theorem mt_Mac_eq (T : Tz K mg) : FnR P w K mg base (L2.CX P w) 1 (He.fAd K d_Machine_eq.at_) (spMEq K) := by
  refine fnr_of T.h_Machine_eq rfl sc_Machine_eq (fun _ _ _ _ _ _ us hl => match us, hl with | [_, _], _ => rfl) (fun vs H Q E h => ?_) (BodyOk0.ok fun cdv A outer s H vs Q E hr h => ?_)
  · obtain ⟨_, _, _, _, p, _⟩ := h
    obtain ⟨⟨_, _, rfl, _⟩, _⟩ := p
    rfl
  refine ⟨_, pss_cons (ps_if (PW.pt (pw_or (pt_not (pt_val (pe_callB call_isi (by rfl) T.b_isinstance boot_isinstance (pa_cons (pv 1) (pa_cons (pe_glob (v := .ref (He.ga K "Machine")) (by rfl) T.g_Machine rfl) pa_nil))))) (pw_or (pt_cmpR op_ne (pe_fld (pv 0) rfl) (pe_fld (pv 1) rfl) (nomark _)) (pw_or1 (pt_cmpR op_ne (pe_fld (pv 0) rfl) (pe_fld (pv 1) rfl) (nomark _)))))) (pss_one (ps_ret pe_bl)) pss_nil)
      (pss_one (ps_ret (pe_and (pe_cmpR (op_eqD hr.units) (pe_fld (pv 0) rfl) (pe_fld (pv 1) rfl) (nomark _)) (pe_one (pe_cmpR (op_eqD hr.units) (pe_fld (pv 0) rfl) (pe_fld (pv 1) rfl) (nomark _)))))), ?_⟩
  refine h.body (N := ["self", "value"]) fun D M B p => ?_
  obtain ⟨⟨x, y, rfl, hx, hy⟩, hs⟩ := p
  have hX : ∀ {σ : L2.St} B2, Same B B2 → σ[0]? = some (some x) → EvR D (tVar 0) σ B2 (pMac K M) := fun B2 e h => ev_var h (Mo.mo e hx)
  have hY : ∀ {σ : L2.St} B2, Same B B2 → σ[1]? = some (some y) → EvR D (tVar 1) σ B2 (pMac K M) := fun B2 e h => ev_var h (Mo.mo e hy)
  have iy : IsI K B y (.ref (He.ga K "Machine")) true := by
    obtain ⟨a, dx, s, e, rfl, ho, _⟩ := hy
    exact isI_ins T.cl_Machine T.si_Machine T.kz_Machine ho
  refine es_ifF (et_orF ((et_not (et_B (ev_isi (b := true) (ev_varE rfl) (fun _ _ => ev_c) (.own _) iy))).to rfl) fun B2 s2 => et_orF ((et_test (ev_neS (ev_macL T (hX B2 s2 rfl)) fun B3 s3 => ev_macL T (hY B3 (s2.trans s3) rfl))).to (by simp)) fun B3 s3 => (et_test (ev_neI (ev_macN T (hX B3 (s2.trans s3) rfl)) fun B4 s4 => ev_macN T (hY B4 ((s2.trans s3).trans s4) rfl))).to (by simp)) fun B2 s2 => ?_
  refine es_ret (ev_andT (c := true) ((ev_eqD (K := K) (d := .tuple (M.st.map triD)) (e := .tuple (M.st.map triD)) ((ev_macS T (hX B2 s2 rfl)).imp fun v B3 _ h => dp_st h) (fun B3 s3 => (ev_macS T (hY B3 (s2.trans s3) rfl)).imp fun v B3 _ h => dp_st h) (shaped_trisT hs) (shaped_trisT hs)).to (by rw [SeqAt.eqv_refl _ (SeqAt.canLay_of_shaped (shaped_trisT hs))])) fun B3 s3 => (ev_eqD (K := K) (d := .tuple (intsD M.en)) (e := .tuple (intsD M.en)) ((ev_macE T (hX B3 (s2.trans s3) rfl)).imp fun v B3 _ h => dp_en h) (fun B4 s4 => (ev_macE T (hY B4 ((s2.trans s3).trans s4) rfl)).imp fun v B3 _ h => dp_en h) (shaped_ints _) (shaped_ints _)).to (by rw [SeqAt.eqv_refl _ (SeqAt.canLay_of_shaped (shaped_ints _))]))
end
end CW
set_option Elab.async false
set_option linter.all false
set_option maxRecDepth 100000
set_option maxHeartbeats 4000000
/-! W16: walks written. -/
namespace CW
open PySem PySem.Spec PyProof.Rows L2 TL
structure WsOk (t : Tri) : Prop where
  a0 : 0 ≤ t.1
  a1 : t.1 < 1000000
  b0 : 0 ≤ t.2.2
  b1 : t.2.2 < 1000000
  s : ∃ c, t.2.1 = ⟨#[c]⟩ ∧ (c ∈ cs lowers ∨ c ∈ cs uppers)
structure WkOk (wk : List Tri) : Prop where
  s : ∀ t ∈ wk, WsOk t
  ch : (wk.zip wk.tail).all (fun p => decide (p.1.2.2 = p.2.1)) = true
  len : wk.length ≤ 100
theorem WsOk.row {t : Tri} (h : WsOk t) : isRow t.2.1 = true := by
  obtain ⟨c, hc, hcl⟩ := h.s
  rw [hc]
  show ((decide (c ∈ cs lowers) || decide (c ∈ cs uppers)) && true) = true
  rcases hcl with e | e
  · rw [decide_eq_true e]; rfl
  · rw [decide_eq_true e, Bool.or_true]; rfl
theorem WsOk.one {t : Tri} (h : WsOk t) : t.2.1.length = 1 := by
  obtain ⟨c, hc, _⟩ := h.s
  rw [hc] <;> rfl
theorem WsOk.sok {t : Tri} (h : WsOk t) : PyData.strOk t.2.1 = true := by
  obtain ⟨c, hc, hcl⟩ := h.s
  have e1 : ∀ c ∈ cs lowers, c < 1114112 := by decide +kernel
  have e2 : ∀ c ∈ cs uppers, c < 1114112 := by decide +kernel
  rw [hc]
  rcases hcl with e | e
  · simp [PyData.strOk, e1 c e]
  · simp [PyData.strOk, e2 c e]
def pairS (t : Tri) : Str := catS Str.empty [t.2.1, sp1, dig t.2.2]
def wkParts : List Tri → List Str
  | [] => [dash]
  | t :: wk => dig t.1 :: (t :: wk).map pairS
def walkT (wk : List Tri) : Str := Txt.join sp1 (wkParts wk)
def blurT (w1 w2 : List Tri) : Str := walkT w1 ++ nl1 ++ walkT w2
theorem pairS_len {t : Tri} (h : WsOk t) : (pairS t).length ≤ 8 := by
  have h1 := h.one
  have h2 := dig_len h.b0 h.b1
  unfold pairS
  rw [catS_len]
  have e1 : sp1.length = 1 := rfl
  have e3 : Str.empty.length = 0 := rfl
  simp only [List.map_cons, List.map_nil, List.sum_cons, List.sum_nil, e1, e3]
  omega
theorem parts_sum {wk : List Tri} (h : WkOk wk) : ((wkParts wk).map (·.length)).sum + (wkParts wk).length * sp1.length ≤ 2000 := by
  have e1 : sp1.length = 1 := rfl
  have hl := h.len
  cases wk with
  | nil => decide +kernel
  | cons t wk =>
    have h1 := sum_le (l := t :: wk) (f := fun t => (pairS t).length) (b := 8) fun x hx => pairS_len (h.s x hx)
    have ht := h.s t List.mem_cons_self
    have h2 := dig_len ht.a0 ht.a1
    show ((dig t.1 :: (t :: wk).map pairS).map (·.length)).sum + (dig t.1 :: (t :: wk).map pairS).length * sp1.length ≤ 2000
    rw [List.map_cons, List.sum_cons, List.length_cons, List.length_map, List.map_map, e1]
    have h3 : ((t :: wk).map ((fun x => x.length) ∘ pairS)).sum ≤ (t :: wk).length * 8 := h1
    omega
theorem walkT_len {wk : List Tri} (h : WkOk wk) : (walkT wk).length ≤ 2000 := Nat.le_trans (join_len _ _) (parts_sum h)
def spTold (K : PySem.W.Frag) : Sp := PSp (fun _ (t : Tri) vs B => (∃ x, vs = [x] ∧ tri K t x B) ∧ WsOk t) (fun _ => pEq (.bl true))
def spToldW (K : PySem.W.Frag) : Sp := PSp (fun _ (wk : List Tri) vs B => (∃ x, vs = [x] ∧ stp K wk x B) ∧ WkOk wk) (fun _ => pEq (.bl true))
def spWalkT (K : PySem.W.Frag) : Sp := PSp (fun _ (wk : List Tri) vs B => (∃ x, vs = [x] ∧ stp K wk x B) ∧ WkOk wk) (fun wk => pEq (.str (walkT wk)))
def spBlurT (K : PySem.W.Frag) : Sp := PSp (fun _ (a : List Tri × List Tri) vs B => (∃ x, vs = [x] ∧ pMapT K (stp K) [a.1, a.2] x B) ∧ WkOk a.1 ∧ WkOk a.2) (fun a => pEq (.str (blurT a.1 a.2)))
section
variable {P : Program} {w : World} {K : PySem.W.Frag} {mg : Str → Option Value} {base : Heap} {D : Dm} {σ : L2.St} {B H : Hp} {te ta : TE}
theorem isI_stp {α : Type} {R : α → PV} {as : List α} {x : V} (h : pMapT K R as x B) : IsI K B x (.type "tuple") true := by
  obtain ⟨p, xs, rfl, hp, _⟩ := h
  exact isI_tup hp
theorem isI_tri {t : Tri} {x : V} (h : tri K t x B) : IsI K B x (.type "tuple") true := by
  obtain ⟨p, rfl, hp⟩ := h
  exact isI_tup hp
theorem ev_row {z : Str} {t : TA} (h : EvA D t σ B (fun vs _ => vs = [.str z])) (hz : z.length ≤ 90000) : EvR D (tFn (spS isRow) E0 t) σ B (pEq (.bl (isRow z))) := ev_psp (Post := fun z => pEq (.bl (isRow z))) z h fun vs B2 _ e => ⟨e, hz⟩
theorem ev_lenTri {t : Tri} (h : EvR D te σ B (tri K t)) : EvR D (tCB (fun xs H Q => ∃ x n, xs = [x] ∧ LenV K x H n ∧ Q (.int n) H) (tCons te tNil)) σ B (pEq (.int (3 : Nat))) := ev_lenT (xs := (tK t).map kV) (h.imp fun v B2 _ h => h)
theorem sc_is_told_step : FnScope ["value"] ["value"] d_is_told_step.scope := ⟨rfl, rfl, rfl, by decide +kernel, rfl, by decide +kernel, by decide +kernel⟩
theorem fn_is_told_step (T : Tz K mg) : Fn P w K mg base 2 "is_told_step" (spTold K) := by
  refine fn_of T.h_is_told_step T.g_is_told_step rfl sc_is_told_step (fun _ _ _ _ _ _ us hl => match us, hl with | [_], _ => rfl) (fun vs H Q E h => ?_) (BodyOk0.ok fun cdv A outer s H vs Q E hr h => ?_)
  · obtain ⟨_, _, _, _, p, _⟩ := h
    obtain ⟨⟨_, rfl, _⟩, _⟩ := p
    rfl
  refine ⟨_, pss_cons (ps_if (PW.pt (pw_or (pt_not (pt_val (pe_callB call_isi (by rfl) T.b_isinstance boot_isinstance (pa_cons (pv 0) (pa_cons (pe_bltn (v := .ty "tuple") (by rfl) T.b_tuple boot_tuple rfl) pa_nil))))) (pw_or (pt_cmpR op_ne (pe_callB call_len (by rfl) T.b_len boot_len (pa_cons (pv 0) pa_nil)) pe_int (nomark _)) (pw_or (pt_not (pt_val (pe_fn (fn_is_row T) (hr.mono (by decide)) passL (pa_cons (pe_ix ix_tup (pv 0) pe_int (fun _ _ => rfl)) pa_nil)))) (pw_or1 (pt_cmpR op_ne (pe_callB call_len (by rfl) T.b_len boot_len (pa_cons (pe_ix ix_tup (pv 0) pe_int (fun _ _ => rfl)) pa_nil)) pe_int (nomark _))))))) (pss_one (ps_ret pe_bl)) pss_nil)
      (pss_one (ps_ret (pe_and (pe_fn (fn_is_integer T) (hr.mono (by decide)) passL (pa_cons (pe_ix ix_tup (pv 0) pe_int (fun _ _ => rfl)) (pa_cons pe_int (pa_cons pe_non pa_nil)))) (pe_one (pe_fn (fn_is_integer T) (hr.mono (by decide)) passL (pa_cons (pe_ix ix_tup (pv 0) pe_int (fun _ _ => rfl)) (pa_cons pe_int (pa_cons pe_non pa_nil)))))))), h.body (N := ["value"]) fun D a B p => ?_⟩
  · obtain ⟨⟨x, rfl, hx⟩, ok⟩ := p
    have hv : ∀ B2, Same B B2 → EvR D (tVar 0) (start ["value"] [x]) B2 (tri K a) := fun B2 s => ev_var rfl (Mo.mo s hx)
    have l1 := ok.one
    refine es_ifF (et_orF ((et_not (et_B (ev_isi (b := true) (ev_varE rfl) (fun _ _ => ev_c) (.ty _) (isI_tri hx)))).to rfl) fun B2 s2 => et_orF ((et_test (ev_neI (ev_lenTri (hv B2 s2)) fun _ _ => ev_c)).to rfl) fun B3 s3 => et_orF ((et_not (et_B (ev_row (z := a.2.1) (ea_oneE (ev_triB (hv B3 (s2.trans s3)) fun _ _ => ev_c)) (by rw [l1]; decide)))).to (by rw [ok.row] <;> rfl)) fun B4 s4 => (et_test (ev_neI (x := a.2.1.length) (ev_lenS (ev_triB (hv B4 ((s2.trans s3).trans s4)) fun _ _ => ev_c) (by rw [l1]; decide)) fun _ _ => ev_c)).to (by rw [l1] <;> rfl)) fun B2 s2 => ?_
    refine es_ret ((ev_andT (c := true) ((ev_intR (x := .int a.1) (l := 0) (m := none) (ea_consE (ev_triA (hv B2 s2) fun _ _ => ev_c) fun _ _ => ea_consE ev_c fun _ _ => ea_oneE ev_c) rfl).to (by simp [isInt, ok.a0])) fun B3 s3 => (ev_intR (x := .int a.2.2) (l := 0) (m := none) (ea_consE (ev_triC (hv B3 (s2.trans s3)) fun _ _ => ev_c) fun _ _ => ea_consE ev_c fun _ _ => ea_oneE ev_c) rfl).to (by simp [isInt, ok.b0])).to rfl)
theorem sc_is_told_walk : FnScope ["value", "step", "one", "other"] ["value"] d_is_told_walk.scope := ⟨rfl, rfl, rfl, by decide +kernel, rfl, by decide +kernel, by decide +kernel⟩
theorem fn_is_told_walk (T : Tz K mg) : Fn P w K mg base 3 "is_told_walk" (spToldW K) := by
  refine fn_of T.h_is_told_walk T.g_is_told_walk rfl sc_is_told_walk (fun _ _ _ _ _ _ us hl => match us, hl with | [_], _ => rfl) (fun vs H Q E h => ?_) (BodyOk0.ok fun cdv A outer s H vs Q E hr h => ?_)
  · obtain ⟨_, _, _, _, p, _⟩ := h
    obtain ⟨⟨_, rfl, _⟩, _⟩ := p
    rfl
  refine ⟨_, pss_cons (ps_if (PW.pt (pw_or (pt_not (pt_val (pe_callB call_isi (by rfl) T.b_isinstance boot_isinstance (pa_cons (pv 0) (pa_cons (pe_bltn (v := .ty "tuple") (by rfl) T.b_tuple boot_tuple rfl) pa_nil))))) (pw_or1 (pt_not (pt_val (pe_callB (cr_all rfl) (by rfl) T.b_all boot_all (pa_cons (pe_lc (own := [("step", 1)]) (g := gName 1) (tt := tYes) (by rfl) sc_is_told_walk.nd (pi_tup (pv 0)) (blkOk_by (N := ["value", "step", "one", "other"]) (sc := d_is_told_walk.scope) (own := [("step", 1)]) (by decide +kernel)) (fun _ _ _ _ _ => (pg_name (i := 1) sc_is_told_walk.nd rfl (Or.inl rfl))) (fun _ _ _ _ _ => pts_nil) (fun _ _ _ _ _ => (pe_fn (fn_is_told_step T) (hr.mono (by decide)) passL (pa_cons (pv 1) pa_nil)))) pa_nil))))))) (pss_one (ps_ret pe_bl)) pss_nil)
      (pss_one (ps_ret (pe_callB (cr_all rfl) (by rfl) T.b_all boot_all (pa_cons (pe_lc (own := [("one", 2), ("other", 3)]) (g := gTup _ 2 (gCons (gName 2) (gCons (gName 3) gNil))) (tt := tYes) (by rfl) sc_is_told_walk.nd (RZ.pi_zipA (by rfl) T.b_zip (pa_cons (pv 0) (pa_cons (pe_slice sl_tupA (pv 0) (po_some pe_int) po_none) pa_nil))) (blkOk_by (N := ["value", "step", "one", "other"]) (sc := d_is_told_walk.scope) (own := [("one", 2), ("other", 3)]) (by decide +kernel)) (fun _ _ _ _ _ => (pg_tup (by rfl) (pgs_cons (pg_name (i := 2) sc_is_told_walk.nd rfl (Or.inl rfl)) (pgs_cons (pg_name (i := 3) sc_is_told_walk.nd rfl (Or.inl rfl)) pgs_nil)))) (fun _ _ _ _ _ => pts_nil) (fun _ _ _ _ _ => (pe_cmpR op_eq (pe_ix (r := rIxT K) ix_tup (pv 2) pe_int (fun _ _ => rfl)) (pe_ix (r := rIxT K) ix_tup (pv 3) pe_int (fun _ _ => rfl)) (nomark _)))) pa_nil)))), h.body (N := ["value", "step", "one", "other"]) fun D a B p => ?_⟩
  · obtain ⟨⟨x, rfl, hx⟩, ok⟩ := p
    have hl := ok.len
    have hv : ∀ B2, Same B B2 → EvR D (tVar 0) (start ["value", "step", "one", "other"] [x]) B2 (stp K a) := fun B2 s => ev_var rfl (Mo.mo s hx)
    refine es_ifF (et_orF ((et_not (et_B (ev_isi (b := true) (ev_varE rfl) (fun _ _ => ev_c) (.ty _) (isI_stp hx)))).to rfl) fun B2 s2 => (et_not (et_B (ev_all (as := a) (f := fun _ => true) (ev_lc1 (el_tup (hv B2 s2)) (by omega) (fun t y B3 ht s3 hy => ?_) (fun _ _ _ _ e h => Mo.mo e h))))).to (by simp)) fun B2 s2 => ?_
    · exact ev_psp (Post := fun _ => pEq (.bl true)) t (ea_one (ev_var rfl hy)) fun vs B4 _ ⟨v, e1, e2⟩ => ⟨⟨v, e1, e2⟩, ok.s t ht⟩
    · refine es_ret ((ev_all (as := a.zip a.tail) (f := fun p => decide (p.1.2.2 = p.2.1)) (ev_lcL (R := fun p => pPr (tri K p.1) (tri K p.2)) ?_ ?_ fun c y B3 _ _ hy => ?_)).to (by rw [ok.ch]))
      · refine el_zipT (R := tri K) (R' := tri K) ((ea_cons (P := stp K a) (hv B2 s2) fun B3 s3 => ea_one (P := stp K a.tail) ((ev_slT (as := a) (hv B3 (s2.trans s3)) (fun _ _ => eo_some ev_c) (fun _ _ => eo_none)).imp fun v B3 _ h => by rw [← cut1]; exact h)).imp fun vs B4 _ h => ?_)
        obtain ⟨v, r, rfl, hv, ⟨u, rfl, hu⟩⟩ := h
        exact ⟨v, u, rfl, hv, hu⟩
      · rw [List.length_zip]; omega
      · obtain ⟨x1, x2, h1, h2, hs⟩ := sets_pair hy (D := D) (K := K) (i := 2) (j := 3) (σ := wipe (start ["value", "step", "one", "other"] [x]) [2, 3])
        refine ⟨_, by rfl, hs, fun B4 s4 => ?_⟩
        refine (ev_eq (ev_triC (ev_var rfl (Mo.mo s4 h1)) fun _ _ => ev_c) (fun B5 s5 => ev_triA (ev_var rfl (Mo.mo (s4.trans s5) h2)) fun _ _ => ev_c) rfl).to (congrArg V.bl (decide_eq_decide.mpr ⟨fun z => by injection z, fun z => by rw [z]⟩))
theorem eqv_nilTT (st : List Tri) : PyData.eqv (.tuple (st.map triD)) (.tuple []) = decide (st = []) := by
  cases st with
  | nil => simp [PyData.eqv, PyData.eqvAll]
  | cons k ks => simp [PyData.eqv, PyData.eqvAll]
theorem sc_walk_line : FnScope ["walk", "here", "sign", "there"] ["walk"] d_walk_line.scope := ⟨rfl, rfl, rfl, by decide +kernel, rfl, by decide +kernel, by decide +kernel⟩
theorem fn_walk_line (T : Tz K mg) : Fn P w K mg base 1 "walk_line" (spWalkT K) := by
  obtain ⟨_, g_NOTHING⟩ := T.t_NOTHING
  refine fn_of T.h_walk_line T.g_walk_line rfl sc_walk_line (fun _ _ _ _ _ _ us hl => match us, hl with | [_], _ => rfl) (fun vs H Q E h => ?_) (BodyOk0.ok fun cdv A outer s H vs Q E hr h => ?_)
  · obtain ⟨_, _, _, _, p, _⟩ := h
    obtain ⟨⟨_, rfl, _⟩, _⟩ := p
    rfl
  refine ⟨_, pss_cons (ps_if (pt_cmpR (op_eqD hr.units) (pv 0) (pe_tup pa_nil) (nomark _)) (pss_one (ps_ret (pe_glob (v := .str "-") (by rfl) g_NOTHING ⟨_, rfl⟩))) pss_nil)
      (pss_one (ps_ret (pe_join pe_str (pe_lst (pa_cons (pe_callTy call_str_int (by rfl) T.b_str boot_str (pa_cons (pe_ix ix_tup (pe_ix ix_tup (pv 0) pe_int (fun _ _ => rfl)) pe_int (fun _ _ => rfl)) pa_nil)) (StX.pa_star (pe_lc (own := [("here", 1), ("sign", 2), ("there", 3)]) (g := gTup _ 3 (gCons (gName 1) (gCons (gName 2) (gCons (gName 3) gNil)))) (tt := tYes) (by rfl) sc_walk_line.nd (pi_tup (pv 0)) (blkOk_by (N := ["walk", "here", "sign", "there"]) (sc := d_walk_line.scope) (own := [("here", 1), ("sign", 2), ("there", 3)]) (by decide +kernel)) (fun _ _ _ _ _ => (pg_tup (by rfl) (pgs_cons (pg_name (i := 1) sc_walk_line.nd rfl (Or.inl rfl)) (pgs_cons (pg_name (i := 2) sc_walk_line.nd rfl (Or.inl rfl)) (pgs_cons (pg_name (i := 3) sc_walk_line.nd rfl (Or.inl rfl)) pgs_nil))))) (fun _ _ _ _ _ => pts_nil) (fun _ _ _ _ _ => (pe_joined (.cons (pe_fmt (pv 2)) (.cons pe_str (.cons (pe_fmt (pv 3)) .nil)))))) pa_nil)))))), h.body (N := ["walk", "here", "sign", "there"]) fun D a B p => ?_⟩
  · obtain ⟨⟨x, rfl, hx⟩, ok⟩ := p
    have hl := ok.len
    have hv : ∀ B2, Same B B2 → EvR D (tVar 0) (start ["walk", "here", "sign", "there"] [x]) B2 (stp K a) := fun B2 s => ev_var rfl (Mo.mo s hx)
    have t1 : EvT D (tTest (tOp (rEqD K) (tVar 0) (tTup tNil))) (start ["walk", "here", "sign", "there"] [x]) B (is (decide (a = []))) := (et_test (ev_eqD (K := K) ((hv B (Same.refl _)).imp fun v B3 _ h => dp_st h) (fun B3 s3 => ev_tupD ea_nilD (by show 0 ≤ 100000; omega)) (shaped_trisT fun t ht => (ok.s t ht).sok) (shaped_trisT (st := []) fun t ht => by cases ht))).to (eqv_nilTT a)
    cases a with
    | nil => exact es_ifT (t1.to (by simp)) fun B2 s2 => es_ret ev_c
    | cons t wk =>
      refine es_ifF (t1.to (by simp)) fun B2 s2 => es_ret (ev_join (ys := wkParts (t :: wk)) ev_c (fun B3 s3 => (ev_lstS (zs := wkParts (t :: wk)) (ea_consE (v := .str (dig t.1)) (ev_strI (ev_triA (ev_ixT (R := tri K) (a := t) (i := 0) (hv B3 (s2.trans s3)) (fun _ _ => ev_c) (by decide) rfl) fun _ _ => ev_c) (dig_log (ok.s t List.mem_cons_self).a0 (ok.s t List.mem_cons_self).a1)) fun B4 s4 => ?_) ?_).imp fun v B5 _ h => pLst.map h) (Nat.le_trans (parts_sum ok) (by decide)))
      · refine (ea_starS (ys := []) ((ev_lcL (as := t :: wk) (R := tri K) (R' := fun t => txt (pairS t)) (el_tup (hv B4 ((s2.trans s3).trans s4))) (by omega) fun u y B5 hu s5 hy => ⟨_, by rfl, sets_tri hy, fun B6 s6 => ?_⟩).imp fun v B5 _ h => pLst.fmap h) fun _ _ => ea_nil).imp fun vs B5 _ e => by rw [e, List.append_nil]
        have oku := ok.s u hu
        refine ev_joined (.cons (ev_fmtS (x := u.2.1) (ev_varE rfl) (by rw [oku.one]; decide)) fun _ _ => .cons ev_c fun _ _ => .cons (ev_fmtI (i := u.2.2) (ev_varE rfl) (dig_log oku.b0 oku.b1)) fun _ _ => .nil) (by
          have := pairS_len oku
          unfold pairS at this
          rw [catS_len] at this
          have e3 : Str.empty.length = 0 := rfl
          rw [e3] at this
          exact Nat.le_trans (by simpa using this) (by decide : (8 : Nat) ≤ _))
      · show (dig t.1 :: (t :: wk).map pairS).length ≤ _
        rw [List.length_cons, List.length_map]
        omega
theorem ev_walkT {wk : List Tri} {t : TA} (h : EvA D t σ B (fun vs H => ∃ v, vs = [v] ∧ stp K wk v H)) (ok : WkOk wk) : EvR D (tFn (spWalkT K) E0 t) σ B (pEq (.str (walkT wk))) := ev_psp (Post := fun wk => pEq (.str (walkT wk))) wk h fun vs B2 _ ⟨v, e1, e2⟩ => ⟨⟨v, e1, e2⟩, ok⟩
theorem ev_told {wk : List Tri} {t : TA} (h : EvA D t σ B (fun vs H => ∃ v, vs = [v] ∧ stp K wk v H)) (ok : WkOk wk) : EvR D (tFn (spToldW K) E0 t) σ B (pEq (.bl true)) := ev_psp (Post := fun _ => pEq (.bl true)) wk h fun vs B2 _ ⟨v, e1, e2⟩ => ⟨⟨v, e1, e2⟩, ok⟩
theorem sc_write_walk : FnScope ["walk"] ["walk"] d_write_walk.scope := ⟨rfl, rfl, rfl, by decide +kernel, rfl, by decide +kernel, by decide +kernel⟩
theorem fn_write_walk (T : Tz K mg) : Fn P w K mg base 4 "write_walk" (spWalkT K) := by
  refine fn_of T.h_write_walk T.g_write_walk rfl sc_write_walk (fun _ _ _ _ _ _ us hl => match us, hl with | [_], _ => rfl) (fun vs H Q E h => ?_) (BodyOk0.ok fun cdv A outer s H vs Q E hr h => ?_)
  · obtain ⟨_, _, _, _, p, _⟩ := h
    obtain ⟨⟨_, rfl, _⟩, _⟩ := p
    rfl
  refine ⟨_, pss_cons (ps_if (pt_not (pt_val (pe_fn (fn_is_told_walk T) (hr.mono (by decide)) passL (pa_cons (pv 0) pa_nil)))) (pss_one ps_never) pss_nil)
      (pss_one (ps_ret (pe_fn (fn_walk_line T) (hr.mono (by decide)) passL (pa_cons (pv 0) pa_nil)))), h.body (N := ["walk"]) fun D a B p => ?_⟩
  · obtain ⟨⟨x, rfl, hx⟩, ok⟩ := p
    exact es_ifF ((et_not (et_B (ev_told (ea_one (ev_var rfl hx)) ok))).to rfl) fun B2 s2 => es_ret (ev_walkT (ea_one (ev_var rfl (Mo.mo s2 hx))) ok)
theorem sc_write_blur : FnScope ["blur", "walk"] ["blur"] d_write_blur.scope := ⟨rfl, rfl, rfl, by decide +kernel, rfl, by decide +kernel, by decide +kernel⟩
theorem fn_write_blur (T : Tz K mg) : Fn P w K mg base 4 "write_blur" (spBlurT K) := by
  refine fn_of T.h_write_blur T.g_write_blur rfl sc_write_blur (fun _ _ _ _ _ _ us hl => match us, hl with | [_], _ => rfl) (fun vs H Q E h => ?_) (BodyOk0.ok fun cdv A outer s H vs Q E hr h => ?_)
  · obtain ⟨_, _, _, _, p, _⟩ := h
    obtain ⟨⟨_, rfl, _⟩, _⟩ := p
    rfl
  refine ⟨_, pss_cons (ps_if (PW.pt (pw_or (pt_not (pt_val (pe_callB call_isi (by rfl) T.b_isinstance boot_isinstance (pa_cons (pv 0) (pa_cons (pe_bltn (v := .ty "tuple") (by rfl) T.b_tuple boot_tuple rfl) pa_nil))))) (pw_or (pt_cmpR op_ne (pe_callB call_len (by rfl) T.b_len boot_len (pa_cons (pv 0) pa_nil)) pe_int (nomark _)) (pw_or1 (pt_not (pt_val (pe_callB (cr_all rfl) (by rfl) T.b_all boot_all (pa_cons (pe_lc (own := [("walk", 1)]) (g := gName 1) (tt := tYes) (by rfl) sc_write_blur.nd (pi_tup (pv 0)) (blkOk_by (N := ["blur", "walk"]) (sc := d_write_blur.scope) (own := [("walk", 1)]) (by decide +kernel)) (fun _ _ _ _ _ => (pg_name (i := 1) sc_write_blur.nd rfl (Or.inl rfl))) (fun _ _ _ _ _ => pts_nil) (fun _ _ _ _ _ => (pe_fn (fn_is_told_walk T) (hr.mono (by decide)) passL (pa_cons (pv 1) pa_nil)))) pa_nil)))))))) (pss_one ps_never) pss_nil)
      (pss_one (ps_ret (pe_op op_add_str (pe_op op_add_str (pe_fn (fn_walk_line T) (hr.mono (by decide)) passL (pa_cons (pe_ix ix_tup (pv 0) pe_int (fun _ _ => rfl)) pa_nil)) pe_str) (pe_fn (fn_walk_line T) (hr.mono (by decide)) passL (pa_cons (pe_ix ix_tup (pv 0) pe_int (fun _ _ => rfl)) pa_nil))))), h.body (N := ["blur", "walk"]) fun D a B p => ?_⟩
  · obtain ⟨⟨x, rfl, hx⟩, ok1, ok2⟩ := p
    have hv : ∀ {σ : L2.St} B2, Same B B2 → σ[0]? = some (some x) → EvR D (tVar 0) σ B2 (pMapT K (stp K) [a.1, a.2]) := fun B2 s h => ev_var h (Mo.mo s hx)
    have b1 := walkT_len ok1
    have b2 := walkT_len ok2
    refine es_ifF (et_orF ((et_not (et_B (ev_isi (b := true) (ev_varE rfl) (fun _ _ => ev_c) (.ty _) (isI_stp hx)))).to rfl) fun B2 s2 => et_orF ((et_test (ev_neI (ev_lenMT (hv B2 s2 rfl)) fun _ _ => ev_c)).to rfl) fun B3 s3 => (et_not (et_B (ev_all (as := [a.1, a.2]) (f := fun _ => true) (ev_lc1 (el_tup (hv B3 (s2.trans s3) rfl)) (by show 2 < 100000; omega) (fun wk y B4 hw s4 hy => ?_) (fun _ _ _ _ e h => Mo.mo e h))))).to (by simp)) fun B2 s2 => ?_
    · refine ev_told (ea_one (ev_var rfl hy)) ?_
      rcases List.mem_cons.mp hw with e | e
      · rw [e]; exact ok1
      · rw [List.mem_singleton.mp e]; exact ok2
    · refine es_ret (ev_addS (x := walkT a.1 ++ nl1) (y := walkT a.2) (ev_addS (x := walkT a.1) (y := nl1) (ev_walkT (ea_one (ev_ixT (R := stp K) (a := a.1) (i := 0) (hv B2 s2 rfl) (fun _ _ => ev_c) (by decide) rfl)) ok1) (fun _ _ => ev_c) ?_) (fun B3 s3 => ev_walkT (ea_one (ev_ixT (R := stp K) (a := a.2) (i := 1) (hv B3 (s2.trans s3) rfl) (fun _ _ => ev_c) (by decide) rfl)) ok2) ?_)
      · exact Nat.le_trans (by show _ + 1 ≤ 3000; omega) (by decide)
      · rw [Str.length_append]
        exact Nat.le_trans (by show _ + 1 + _ ≤ 5000; omega) (by decide)
end
end CW
set_option Elab.async false
set_option linter.all false
set_option maxRecDepth 100000
set_option maxHeartbeats 1000000
/-! SlSt: xs[::2], xs[1::2] of a list. -/
namespace CW
open PySem PySem.Spec PyProof.Rows L2
/-- every second, from the first on -/
def evens {α : Type} : List α → List α
  | [] => []
  | [a] => [a]
  | a :: _ :: r => a :: evens r
theorem evens_cons {α : Type} (x : α) (r : List α) : evens (x :: r) = x :: evens r.tail := by
  cases r <;> rfl
theorem evens_le {α : Type} : ∀ l : List α, (evens l).length ≤ l.length
  | [] => Nat.le_refl _
  | [_] => Nat.le_refl _
  | a :: b :: r => by
    have := evens_le r
    show (evens r).length + 1 ≤ r.length + 1 + 1
    omega
theorem evens_pick {α : Type} (l : List α) : ∀ (c a : Nat), c = (l.length - a + 1) / 2 → ((List.range c).filterMap fun k => l[a + 2 * k]?) = evens (l.drop a)
  | 0, a, h => by
    rw [List.drop_eq_nil_of_le (by omega)]
    rfl
  | c + 1, a, h => by
    have ha : a < l.length := by omega
    have e0 : l[a + 2 * 0]? = some l[a] := by rw [Nat.mul_zero, Nat.add_zero, List.getElem?_eq_getElem ha]
    rw [List.range_succ_eq_map, List.filterMap_cons]
    simp only [e0]
    rw [List.filterMap_map, List.drop_eq_getElem_cons ha, evens_cons]
    congr 1
    have ih := evens_pick l c (a + 2) (by omega)
    rw [show (l.drop (a + 1)).tail = l.drop (a + 2) from by rw [List.tail_drop], ← ih]
    refine congrArg (fun f => (List.range c).filterMap f) (funext fun k => ?_)
    show l[a + 2 * (k + 1)]? = l[a + 2 + 2 * k]?
    congr 1
    omega
theorem paired_evens {α β : Type} {F : α → β → Prop} : ∀ {l : List α} {m : List β}, Paired F l m → Paired F (evens l) (evens m)
  | _, _, .nil => .nil
  | _, _, .cons r .nil => .cons r .nil
  | _, _, .cons r (.cons _ t) => .cons r (paired_evens t)
theorem paired_tail {α β : Type} {F : α → β → Prop} : ∀ {l : List α} {m : List β}, Paired F l m → Paired F l.tail m.tail
  | _, _, .nil => .nil
  | _, _, .cons _ t => t
theorem range_two (a n : Nat) (h : a ≤ n) : sliceRange (a : Nat) (n : Nat) 2 = (List.range ((n - a + 1) / 2)).map fun k => a + 2 * k := by
  unfold sliceRange
  simp only [show (2 : Int) > 0 from by decide, if_true]
  have e : (if (a : Int) < (n : Int) then (((n : Int) - a + 2 - 1) / 2) else 0).toNat = (n - a + 1) / 2 := by
    by_cases c : a < n
    · rw [if_pos (by omega)]
      have : ((n : Int) - a + 2 - 1) / 2 = (((n - a + 1) / 2 : Nat) : Int) := by omega
      rw [this, Int.toNat_natCast]
    · rw [if_neg (by omega)]
      have : n - a = 0 := by omega
      rw [this]
      rfl
  rw [e]
  exact List.map_congr_left fun k _ => by omega
theorem pick_two (its : List Value) (lo : Option Int) (a : Nat) (hb : sliceBounds lo none (some 2) its.length = ((a : Int), (its.length : Int), 2)) (ha : a ≤ its.length) : slicePick its.toArray lo none (some 2) = (evens (its.drop a)).toArray := by
  unfold slicePick
  rw [List.size_toArray, hb]
  dsimp only
  rw [range_two a its.length ha, List.filterMap_map]
  congr 1
  rw [← evens_pick its ((its.length - a + 1) / 2) a rfl]
  refine congrArg (fun f => (List.range _).filterMap f) (funext fun k => ?_)
  show its.toArray[a + 2 * k]? = _
  simp
/-- xs[::2] -/
def rEv0 (K : PySem.W.Frag) : V → Hp → VK → Prop := fun x H Q => ∃ a xs, x = .ref a ∧ SqL K H a xs ∧ ∀ p, H p = none → Q (.ref p) (upd H p (.lst (evens xs)))
def rEv1 (K : PySem.W.Frag) : V → Hp → VK → Prop := fun x H Q => ∃ a xs, x = .ref a ∧ SqL K H a xs ∧ ∀ p, H p = none → Q (.ref p) (upd H p (.lst (evens xs.tail)))
section
variable {X : Cx} {e : Expr} {te : TE} {p1 p2 p3 pos : Pos} {k1 k2 : Nat}
theorem step_ok {lo : Option Int} {a : Nat} {vl : Value} {Q : VK} {slc : Expr} {pins : List (Addr × Obj)} {σ : L2.St} {H : Hp} {s : Shared} {l : Addr} {xs : List V} {t : Tok} (I : Inv X pins σ H s) (hx : SqL X.K H l xs) (pl : IsPart vl lo)
    (hb : sliceBounds lo none (some 2) xs.length = ((a : Int), (xs.length : Int), 2)) (ha : a ≤ xs.length) (q : ∀ p, H p = none → Q (.ref p) (upd H p (.lst (evens (xs.drop a)))))
    (hs : subscripted slc false (Value.ref l) (Value.ref s.heap.objs.size) = operate [Value.ref l, Value.ref s.heap.objs.size] (getItem (Value.ref l) (Value.ref s.heap.objs.size)) := by with_unfolding_all rfl) :
    wpAny (model X.prog X.w) X.A (subscriptTail e slc (.ref l) (.ref s.heap.objs.size)) (EP X pins σ Q) X.xe { s with heap := s.heap.push { cls := .type "slice", data := .fields #[vl, .none, .int 2 t] } } := by
  have I4 : Inv X pins σ H { s with heap := s.heap.push { cls := .type "slice", data := .fields #[vl, .none, .int 2 t] } } := I.kept (t' := s.toks) fun b ob q => Heap.get?_push_of_some _ q
  obtain ⟨its, r, ht, hz⟩ := I4.list hx
  have hlen := r.length
  have hg : wpAny (model X.prog X.w) X.A (getItem (.ref l) (.ref s.heap.objs.size)) (EP X pins σ Q) X.xe { s with heap := s.heap.push { cls := .type "slice", data := .fields #[vl, .none, .int 2 t] } } := by
    refine wpAny_getItem_list_slice ht.isList (Heap.IsSliceOf.new ..) pl .none (.int 2 t) (by simp) ?_ (by rw [List.size_toArray] <;> omega)
    rw [pick_two its lo a (by rw [← hlen]; exact hb) (by omega)]
    refine ⟨.ref _, _, I4.laid (t' := s.toks) (o := .lst (evens (xs.drop a))) (fun b ob q => Heap.get?_push_of_some _ q) (Nat.le_refl _) ?_, rfl, q _ (I4.hok.fresh (Nat.le_refl _))⟩
    refine ⟨Nat.le_trans (evens_le _) (Nat.le_trans (by rw [List.length_drop]; omega) hz), _, 0, paired_evens (r.drop a), Heap.get?_push_size _ rfl⟩
  exact tail_any (ops := [.ref l, .ref s.heap.objs.size]) ht.isList.typeIs slot_list_getitem.lookup hg hs
theorem pe_ev0 (he : PE X e te) : PE X (.Subscript e (.Slice none none (some (.Constant (.int 2) k1 p1)) p2) pos) (tUn (rEv0 X.K) te) := by
  refine ⟨fun pins s σ H Q I h => ?_⟩
  refine Subscript_ (thn (he.run pins s σ H _ I h) fun v s1 ⟨x, H1, I1, r1, l, xs, ex, hx, q1⟩ => ?_)
  subst ex
  cases r1
  refine wpAny_Slice ?_
  simp only [evalPart_none]
  refine wpAny_pure (wpAny_pure ?_)
  rw [evalPart_some]
  refine thn ((pe_int (X := X) (i := 2) (j := k1) (pos := p1)).run pins s1 σ H1 (fun y H' => y = .int 2 ∧ H' = H1) I1 ⟨rfl, rfl⟩) fun u s2 ⟨y, H2, I2, r2, ey, eH⟩ => ?_
  subst ey
  subst eH
  obtain ⟨t, rfl⟩ := r2
  exact step_ok (lo := none) (a := 0) I2 hx .none (by
    unfold sliceBounds
    simp) (Nat.zero_le _) q1
theorem pe_ev1 (he : PE X e te) : PE X (.Subscript e (.Slice (some (.Constant (.int 1) k2 p3)) none (some (.Constant (.int 2) k1 p1)) p2) pos) (tUn (rEv1 X.K) te) := by
  refine ⟨fun pins s σ H Q I h => ?_⟩
  refine Subscript_ (thn (he.run pins s σ H _ I h) fun v s1 ⟨x, H1, I1, r1, l, xs, ex, hx, q1⟩ => ?_)
  subst ex
  cases r1
  refine wpAny_Slice ?_
  rw [evalPart_some]
  refine thn ((pe_int (X := X) (i := 1) (j := k2) (pos := p3)).run pins s1 σ H1 (fun y H' => y = .int 1 ∧ H' = H1) I1 ⟨rfl, rfl⟩) fun u0 s0 ⟨y0, H0, I0, r0, ey0, eH0⟩ => ?_
  subst ey0
  subst eH0
  obtain ⟨t0, rfl⟩ := r0
  rw [evalPart_none]
  refine wpAny_pure ?_
  rw [evalPart_some]
  refine thn ((pe_int (X := X) (i := 2) (j := k1) (pos := p1)).run pins s0 σ H0 (fun y H' => y = .int 2 ∧ H' = H0) I0 ⟨rfl, rfl⟩) fun u s2 ⟨y, H2, I2, r2, ey, eH⟩ => ?_
  subst ey
  subst eH
  obtain ⟨t, rfl⟩ := r2
  refine step_ok (lo := some 1) (a := min 1 xs.length) I2 hx (.int 1 t0) (by
    unfold sliceBounds
    simp only [Option.getD_some, show (2 : Int) > 0 from by decide, if_true, show ¬ (1 : Int) < 0 from by decide, if_false]
    congr 1
    omega) (Nat.min_le_right _ _) fun p hp => ?_
  have e1 : xs.drop (min 1 xs.length) = xs.tail := by
    cases xs with
    | nil => rfl
    | cons a r => simp
  rw [e1]
  exact q1 p hp
end
end CW
set_option Elab.async false
set_option linter.all false
set_option maxRecDepth 100000
set_option maxHeartbeats 4000000
/-! W17: walks read. -/
namespace CW
open PySem PySem.Spec PyProof.Rows L2 TL
section
variable {D : Dm} {K : PySem.W.Frag} {σ : L2.St} {B : Hp} {te ta tb : TE} {α : Type} {as : List α} {R : α → PV} {u : TS} {Ds : Ends} {H : Hp}
theorem el_enumL [∀ a, Mo (R a)] (h : EvR D te σ B (pMap K R as)) : EvL D (iEnum K (tCons te tNil)) σ B ((List.range as.length).zip as) (fun p => pPr (numN p.1) (R p.2)) := fun H a R' r =>
  ea_one (P := pMap K R as) h H a _ fun vs B2 H2 e ⟨v, e1, p, xs, e2, hl, pr⟩ => ⟨p, xs, by rw [e1, e2], Same.lst e.at2.sm hl, by
    have hn : ((List.range as.length).zip as).length = xs.length := by rw [List.length_zip, List.length_range, ← pr.length, Nat.min_self]
    refine r (Ite K p) B2 H2 (fun H => SqL K H p xs) _ e (fun _ _ s q => Same.lst s q) (by rw [hn]; exact walk_enum) hl fun i B3 hi s3 H3 v H4 a3 y3 => ?_
    obtain ⟨T, n, x, rfl, hT, e4, hn', hx⟩ := y3
    obtain ⟨b, hb, rb⟩ := Paired.get pr hx
    obtain rfl : V.int (i : Nat) = n := Option.some.inj hn'
    have s4 : Same B2 (upd B3 T (.tup [.int (i : Nat), x])) := s3.trans (Same.new (a3.sm.free hT))
    refine ⟨_, gives_new a3 hT e4, (i, b), ?_, T, _, _, rfl, upd_same, rfl, Mo.mo s4 rb⟩
    rw [List.getElem?_zip_eq_some]
    have := (List.getElem?_eq_some_iff.mp hb).1
    exact ⟨by rw [List.getElem?_range this], hb⟩⟩
theorem ev_ev0 [∀ a, Mo (R a)] (h : EvR D te σ B (pMap K R as)) : EvR D (tUn (rEv0 K) te) σ B (pLst K R (evens as)) :=
  ev_un h fun x B2 _ ⟨p, xs, e1, hx, pr⟩ => EvV.new (o := .lst (evens xs)) (fun H Q s q => ⟨p, xs, e1, Same.lst s hx, q⟩) fun q hq => ⟨q, _, rfl, upd_same, paired_evens (Paired.mono (fun a v h => Mo.mo (Same.new hq) h) pr)⟩
theorem ev_ev1 [∀ a, Mo (R a)] (h : EvR D te σ B (pMap K R as)) : EvR D (tUn (rEv1 K) te) σ B (pLst K R (evens as.tail)) :=
  ev_un h fun x B2 _ ⟨p, xs, e1, hx, pr⟩ => EvV.new (o := .lst (evens xs.tail)) (fun H Q s q => ⟨p, xs, e1, Same.lst s hx, q⟩) fun q hq => ⟨q, _, rfl, upd_same, paired_evens (paired_tail (Paired.mono (fun a v h => Mo.mo (Same.new hq) h) pr))⟩
/-- x, y = e1, e2; the rest -/
theorem sh_par {i j : Nat} {P1 P2 : PV} [Mo P1] (h1 : EvR D ta σ B P1) (h2 : ∀ B2, Same B B2 → EvR D tb σ B2 P2) (at_ : At D B H) (k : ∀ v w B2 H2, Stp D B H B2 H2 → P1 v B2 → P2 w B2 → u Ds ((σ.set i (some v)).set j (some w)) H2) : tSeq (tPar i j (tCons ta (tCons tb tNil))) u Ds σ H :=
  h1 H at_ _ fun v B2 H2 e2 p => h2 B2 e2.bs H2 e2.at2 _ fun w B3 H3 e3 q => ⟨v, w, rfl, k v w B3 H3 (e2.trans e3) (Mo.mo e3.bs p) q⟩
/-- if ..: more checks; the rest: either way it goes on -/
theorem sh_ifB {tt : TT} {t : TS} {b : Bool} (h : EvT D tt σ B (is b)) (at_ : At D B H) (hT : b = true → ∀ B2 H2, Stp D B H B2 H2 → ∀ Ds : Ends, (∀ B3 H3, Stp D B2 H2 B3 H3 → Ds.nx σ H3) → t Ds σ H2) (k : ∀ B2 H2, Stp D B H B2 H2 → u Ds σ H2) : tSeq (tIfS tt t tNext) u Ds σ H := h H at_ _ fun c B2 H2 e p => by
  have p' : c = b := p
  subst p'
  cases c with
  | false => exact k B2 H2 e
  | true => exact hT rfl B2 H2 e _ fun B3 H3 e3 => k B3 H3 (e.trans e3)
end
/-- the words of a walk's row -/
def wkTail (wk : List Tri) : List Str := wk.flatMap fun t => [t.2.1, dig t.2.2]
def wkW : List Tri → List Str
  | [] => [dash]
  | t :: wk => dig t.1 :: wkTail (t :: wk)
def wkStates : List Tri → List Str
  | [] => [dash]
  | t :: wk => dig t.1 :: (t :: wk).map fun t => dig t.2.2
def wkNums : List Tri → List Int
  | [] => []
  | t :: wk => t.1 :: (t :: wk).map fun t => t.2.2
theorem evens_tail : ∀ wk : List Tri, ∀ x : Str, evens (x :: wkTail wk) = x :: wk.map (fun t => dig t.2.2)
  | [], x => rfl
  | t :: wk, x => by
    show x :: evens (dig t.2.2 :: wkTail wk) = _
    rw [evens_tail wk]
    rfl
theorem evens_signs : ∀ wk : List Tri, evens (wkTail wk) = wk.map (fun t => t.2.1)
  | [] => rfl
  | t :: wk => by
    show t.2.1 :: evens (wkTail wk) = _
    rw [evens_signs wk] <;> rfl
theorem evens_wk : ∀ wk : List Tri, evens (wkW wk) = wkStates wk
  | [] => rfl
  | t :: wk => evens_tail (t :: wk) _
theorem evens_wk1 : ∀ wk : List Tri, evens (wkW wk).tail = wk.map (fun t => t.2.1)
  | [] => rfl
  | t :: wk => evens_signs (t :: wk)
theorem states_vals {wk : List Tri} (h : ∀ t ∈ wk, WsOk t) : ((wkStates wk).filter fun z => !decide (z = dash)).map valS = wkNums wk := by
  cases wk with
  | nil => rfl
  | cons t wk =>
    have ht := h t List.mem_cons_self
    have gen : ∀ ns : List Int, (∀ j ∈ ns, 0 ≤ j ∧ j < 1000000) → ((ns.map dig).filter fun z => !decide (z = dash)).map valS = ns := by
      intro ns hn
      by_cases c : ns = []
      · rw [c]; rfl
      · have := endsW_vals hn
        unfold endsW at this
        rw [if_neg c] at this
        exact this
    have e : wkStates (t :: wk) = (wkNums (t :: wk)).map dig := by
      show _ = (t.1 :: (t :: wk).map fun t => t.2.2).map dig
      rw [List.map_cons, List.map_map] <;> rfl
    rw [e]
    refine gen _ fun j hj => ?_
    rcases List.mem_cons.mp hj with e | hj
    · rw [e]; exact ⟨ht.a0, ht.a1⟩
    · obtain ⟨u, hu, rfl⟩ := List.mem_map.mp hj
      have := h u hu
      exact ⟨this.b0, this.b1⟩
theorem states_ok {wk : List Tri} (h : ∀ t ∈ wk, WsOk t) : ∀ z ∈ wkStates wk, z.length ≤ 640 ∧ PyData.strOk z = true ∧ (z ≠ dash → PySem.intText? z = some (valS z)) := by
  intro z hz
  have one : ∀ i : Int, 0 ≤ i → i < 1000000 → (dig i).length ≤ 640 ∧ PyData.strOk (dig i) = true ∧ (dig i ≠ dash → PySem.intText? (dig i) = some (valS (dig i))) := fun i h0 h1 =>
    ⟨Nat.le_trans (dig_len h0 h1) (by decide), by rw [dig_of h0]; exact dig_ok _, fun _ => by unfold valS; rw [dig_textI h0 h1] <;> rfl⟩
  cases wk with
  | nil =>
    rw [List.mem_singleton.mp hz]
    exact ⟨by decide, by decide +kernel, fun e => absurd rfl e⟩
  | cons t wk =>
    rcases List.mem_cons.mp hz with e | hz
    · rw [e]; exact one _ (h t List.mem_cons_self).a0 (h t List.mem_cons_self).a1
    · obtain ⟨u, hu, rfl⟩ := List.mem_map.mp hz
      exact one _ (h u hu).b0 (h u hu).b1
theorem states_nums {t : Tri} {wk : List Tri} (h : ∀ u ∈ t :: wk, WsOk u) : areNums (wkStates (t :: wk)) = true := by
  unfold areNums
  rw [decide_eq_false (by unfold wkStates; simp)]
  show (true && _) = true
  rw [Bool.true_and]
  refine List.all_eq_true.mpr fun z hz => ?_
  rcases List.mem_cons.mp hz with e | hz
  · rw [e]; exact isNum_digI (h t List.mem_cons_self).a0
  · obtain ⟨u, hu, rfl⟩ := List.mem_map.mp hz
    exact isNum_digI (h u hu).b0
theorem states_len (t : Tri) (wk : List Tri) : (wkStates (t :: wk)).length = (t :: wk).length + 1 := by
  show (dig t.1 :: (t :: wk).map fun t => dig t.2.2).length = _
  rw [List.length_cons, List.length_map]
theorem nums_next {wk : List Tri} {j : Nat} {t : Tri} (h : wk[j]? = some t) : (wkNums wk)[j + 1]? = some t.2.2 := by
  cases wk with
  | nil => simp at h
  | cons a wk =>
    show (a.1 :: (a :: wk).map fun t => t.2.2)[j + 1]? = _
    rw [List.getElem?_cons_succ, List.getElem?_map, h] <;> rfl
theorem nums_at {wk : List Tri} (ch : (wk.zip wk.tail).all (fun p => decide (p.1.2.2 = p.2.1)) = true) {j : Nat} {t : Tri} (h : wk[j]? = some t) : (wkNums wk)[j]? = some t.1 := by
  cases j with
  | zero =>
    cases wk with
    | nil => simp at h
    | cons a wk =>
      have : a = t := by simpa using h
      rw [← this] <;> rfl
  | succ j =>
    have hj := (List.getElem?_eq_some_iff.mp h).1
    have hs : wk[j]? = some wk[j] := List.getElem?_eq_getElem (by omega)
    have := asc_next (f := fun a b => decide (a.2.2 = b.1)) ch hs h
    rw [nums_next hs, of_decide_eq_true this]
theorem wkW_plain {wk : List Tri} (h : ∀ t ∈ wk, WsOk t) : ∀ z ∈ wkW wk, plainS z := by
  have sg : ∀ t, WsOk t → plainS t.2.1 := fun t ht => by
    obtain ⟨c, hc, hcl⟩ := ht.s
    have e1 : ∀ c ∈ cs lowers, c ≠ 32 ∧ c ≠ 10 := by decide +kernel
    have e2 : ∀ c ∈ cs uppers, c ≠ 32 ∧ c ≠ 10 := by decide +kernel
    have e3 : c ≠ 32 ∧ c ≠ 10 := hcl.elim (e1 c) (e2 c)
    rw [hc]
    exact ⟨fun m => e3.1 (List.mem_singleton.mp m).symm, fun m => e3.2 (List.mem_singleton.mp m).symm⟩
  intro z hz
  cases wk with
  | nil =>
    rw [List.mem_singleton.mp hz]
    exact ⟨by decide +kernel, by decide +kernel⟩
  | cons t wk =>
    rcases List.mem_cons.mp hz with e | hz
    · rw [e]; exact dig_plain (h t List.mem_cons_self).a0
    · obtain ⟨u, hu, hz⟩ := List.mem_flatMap.mp hz
      rcases List.mem_cons.mp hz with e | hz
      · rw [e]; exact sg u (h u hu)
      · rw [List.mem_singleton.mp hz]; exact dig_plain (h u hu).b0
theorem walk_join (wk : List Tri) : walkT wk = Txt.join sp1 (wkW wk) := by
  cases wk with
  | nil => rfl
  | cons t wk =>
    apply cps_inj
    show cs (Txt.join sp1 (dig t.1 :: (t :: wk).map pairS)) = cs (Txt.join sp1 (dig t.1 :: wkTail (t :: wk)))
    rw [tl_joinT, tl_joinT]
    have gen : ∀ (wk : List Tri) (x : List Nat), joinL (cs sp1) (x :: (wk.map pairS).map cs) = joinL (cs sp1) (x :: (wkTail wk).map cs) := by
      intro wk
      induction wk with
      | nil => exact fun x => rfl
      | cons u wk ih =>
        intro x
        have e1 : cs (pairS u) = cs u.2.1 ++ (cs sp1 ++ cs (dig u.2.2)) := by
          unfold pairS
          rw [tl_cat]
          simp [show cs Str.empty = [] from rfl]
        have e2 : (wkTail (u :: wk)).map cs = cs u.2.1 :: cs (dig u.2.2) :: (wkTail wk).map cs := rfl
        have ih2 := ih (cs (dig u.2.2))
        have hd : ∀ (a b : List Nat) (l : List (List Nat)), joinL (cs sp1) ((a ++ b) :: l) = a ++ joinL (cs sp1) (b :: l) := fun a b l => by
          cases l with
          | nil => rfl
          | cons c r => simp [joinL, List.append_assoc]
        rw [e2, List.map_cons, List.map_cons, e1]
        show x ++ (cs sp1 ++ joinL (cs sp1) ((cs u.2.1 ++ (cs sp1 ++ cs (dig u.2.2))) :: (wk.map pairS).map cs)) = x ++ (cs sp1 ++ (cs u.2.1 ++ (cs sp1 ++ joinL (cs sp1) (cs (dig u.2.2) :: (wkTail wk).map cs))))
        rw [hd, hd, ih2]
    exact gen (t :: wk) (cs (dig t.1))
theorem paired_enum {R : Tri → V → Prop} {wk : List Tri} {d : Tri} {xs : List V} (h : Paired (fun (p : Nat × Str) v => R ((wk[p.1]?).getD d) v) ((List.range (wk.map fun t => t.2.1).length).zip (wk.map fun t => t.2.1)) xs) : Paired R wk xs := by
  have gen : ∀ (n k : Nat) (l : List Tri) (xs : List V), l.length = n → (∀ i, l[i]? = wk[k + i]?) → Paired (fun (p : Nat × Str) v => R ((wk[p.1]?).getD d) v) ((List.range' k n).zip (l.map fun t => t.2.1)) xs → Paired R l xs := by
    intro n
    induction n with
    | zero =>
      intro k l xs hl he p
      have : l = [] := List.eq_nil_of_length_eq_zero hl
      subst this
      cases p
      exact .nil
    | succ n ih =>
      intro k l xs hl he p
      cases l with
      | nil => simp at hl
      | cons b l =>
        have eb : wk[k]? = some b := by simpa using (he 0).symm
        rw [List.range'_succ, List.map_cons, List.zip_cons_cons] at p
        cases p with
        | cons h1 h2 =>
          dsimp only at h1
          rw [eb] at h1
          refine .cons h1 (ih (k + 1) l _ (by simpa using hl) (fun i => ?_) h2)
          have := he (i + 1)
          rw [show k + (i + 1) = k + 1 + i from by omega] at this
          simpa using this
  exact gen wk.length 0 wk xs rfl (fun i => by rw [Nat.zero_add]) (by rw [← List.range_eq_range']; rw [List.length_map] at h; exact h)
structure WkD where
  L : LnD
  wk : List Tri
def spWalkOf (K : PySem.W.Frag) : Sp := MSp K WkD.L (fun a => a.L.i + 1) (fun a vs _ => vs = [.ref a.L.x] ∧ RowIs a.L (wkW a.wk) ∧ WkOk a.wk) (fun a => stp K a.wk)
section
variable {P : Program} {w : World} {K : PySem.W.Frag} {mg : Str → Option Value} {base : Heap} {D : Dm} {σ : L2.St} {B H : Hp} {te ta : TE} {L : LnD} {os : List (Addr × HO)} {u : TS} {Ds : Ends}
theorem sc_walk_of : FnScope ["lines", "words", "states", "signs", "sign", "numbers", "word", "at"] ["lines"] d_walk_of.scope := ⟨rfl, rfl, rfl, by decide +kernel, rfl, by decide +kernel, by decide +kernel⟩
theorem fn_walk_of (T : Tz K mg) : Fn P w K mg base 3 "walk_of" (spWalkOf K) := by
  obtain ⟨_, g_NOTHING⟩ := T.t_NOTHING
  refine fn_of T.h_walk_of T.g_walk_of rfl sc_walk_of (fun _ _ _ _ _ _ us hl => match us, hl with | [_], _ => rfl) (fun vs H Q E h => ?_) (BodyOk0.ok fun cdv A outer s H vs Q E hr h => ?_)
  · obtain ⟨_, _, _, _, _, _, _, ⟨rfl, _⟩, _⟩ := h
    rfl
  refine ⟨_, pss_cons (ps_set (i := 1) sc_walk_of.nd rfl (Or.inl rfl) (pe_meR0 T.cl_Lines T.me_Lines_parts (mt_Lines_parts T) (hr.mono (by decide)) passL (pv 0)))
      (pss_cons (ps_par (i := 2) (j := 3) (by rfl) sc_walk_of.nd rfl rfl (by decide) rfl rfl (pa_cons (pe_ev0 (pv 1)) (pa_cons (pe_ev1 (pv 1)) pa_nil)) (by rfl))
      (pss_cons (ps_if (pt_cmpR (op_neD hr.units) (pv 1) (pe_lst (pa_cons (pe_glob (v := .str "-") (by rfl) g_NOTHING ⟨_, rfl⟩) pa_nil)) (nomark _)) (pss_cons (ps_if (PW.pt (pw_or (pt_cmpR op_ne (pe_callB call_len (by rfl) T.b_len boot_len (pa_cons (pv 2) pa_nil)) (pe_op op_add (pe_callB call_len (by rfl) T.b_len boot_len (pa_cons (pv 3) pa_nil)) pe_int) (nomark _)) (pw_or (pt_cmpR (op_eqD hr.units) (pv 3) (pe_lst pa_nil) (nomark _)) (pw_or1 (pt_not (pt_val (pe_fn (fn_are_numbers T) (hr.mono (by decide)) passL (pa_cons (pv 2) pa_nil)))))))) (pss_one ps_never) pss_nil)
      (pss_one (ps_if (pt_not (pt_val (pe_callB (cr_all rfl) (by rfl) T.b_all boot_all (pa_cons (pe_lc (own := [("sign", 4)]) (g := gName 4) (tt := tYes) (by rfl) sc_walk_of.nd (pi_list (pv 3)) (blkOk_by (N := ["lines", "words", "states", "signs", "sign", "numbers", "word", "at"]) (sc := d_walk_of.scope) (own := [("sign", 4)]) (by decide +kernel)) (fun _ _ _ _ _ => (pg_name (i := 4) sc_walk_of.nd rfl (Or.inl rfl))) (fun _ _ _ _ _ => pts_nil) (fun _ _ _ _ _ => (pe_and (pe_fn (fn_is_row T) (hr.mono (by decide)) passL (pa_cons (pv 4) pa_nil)) (pe_one (pe_cmpR op_eq (pe_callB (r := fun xs H Q => ∃ x n, xs = [x] ∧ LenV K x H n ∧ Q (.int n) H) call_len (by rfl) T.b_len boot_len (pa_cons (pv 4) pa_nil)) pe_int (nomark _)))))) pa_nil)))) (pss_one ps_never) pss_nil))) pss_nil)
      (pss_cons (ps_expr (pe_meR0 T.cl_Lines T.me_Lines_go_on (mt_Lines_go_on T) (hr.mono (by decide)) passL (pv 0)))
      (pss_cons (ps_set (i := 5) sc_walk_of.nd rfl (Or.inr rfl) (pe_lc (own := [("word", 6)]) (g := gName 6) (by rfl) sc_walk_of.nd (pi_list (pv 2)) (blkOk_by (N := ["lines", "words", "states", "signs", "sign", "numbers", "word", "at"]) (sc := d_walk_of.scope) (own := [("word", 6)]) (by decide +kernel)) (fun _ _ _ _ _ => (pg_name (i := 6) sc_walk_of.nd rfl (Or.inl rfl))) (fun _ _ _ _ _ => (pts_one (pt_cmpR op_ne (pv 6) (pe_glob (v := .str "-") (by rfl) g_NOTHING ⟨_, rfl⟩) (nomark _)))) (fun _ _ _ _ _ => (pe_callTy call_int_str (by rfl) T.b_int boot_int (pa_cons (pv 6) pa_nil)))))
      (pss_one (ps_ret (pe_callTy call_tuple_of (by rfl) T.b_tuple boot_tuple (pa_cons (pe_lc (own := [("at", 7), ("sign", 4)]) (g := gTup _ 2 (gCons (gName 7) (gCons (gName 4) gNil))) (tt := tYes) (by rfl) sc_walk_of.nd (pi_enum (by rfl) T.b_enumerate (pa_cons (pv 3) pa_nil)) (blkOk_by (N := ["lines", "words", "states", "signs", "sign", "numbers", "word", "at"]) (sc := d_walk_of.scope) (own := [("at", 7), ("sign", 4)]) (by decide +kernel)) (fun _ _ _ _ _ => (pg_tup (by rfl) (pgs_cons (pg_name (i := 7) sc_walk_of.nd rfl (Or.inl rfl)) (pgs_cons (pg_name (i := 4) sc_walk_of.nd rfl (Or.inl rfl)) pgs_nil)))) (fun _ _ _ _ _ => pts_nil) (fun _ _ _ _ _ => (pe_tup (pa_cons (pe_ix (r := rIxL K) ix_list (pv 5) (pv 7) (fun _ _ => rfl)) (pa_cons (pv 4) (pa_cons (pe_ix (r := rIxL K) ix_list (pv 5) (pe_op op_add (pv 7) pe_int) (fun _ _ => rfl)) pa_nil)))))) pa_nil)))))))), ?_⟩
  obtain ⟨D, B, ⟨L, wk⟩, at_, hd, hR, ok, ⟨rfl, hr, wok⟩, q⟩ := h
  dsimp only at hd hR ok q hr wok
  have nd := hd.nd
  have wlen := wok.len
  have stok := states_ok wok.s
  refine sh_set (P := pLst K txt (wkW wk)) (ev_parts (ev_varE rfl) nd hR ok hr) at_ (hd_os hd) fun v B2 H2 s2 hv => ?_
  refine sh_par (P1 := pLst K txt (wkStates wk)) (P2 := pLst K txt (wk.map fun t => t.2.1)) ((ev_ev0 (ev_var rfl (pLst.map hv))).imp fun v B3 _ h => by rw [evens_wk] at h; exact h) (fun B3 s3 => (ev_ev1 (ev_var rfl (pLst.map (Mo.mo s3 hv)))).imp fun v B4 _ h => by rw [evens_wk1] at h; exact h) s2.at2 fun v3 v4 B3 H3 s3 hv3 hv4 => ?_
  have wsok : ∀ r ∈ wkW wk, PyData.strOk r = true := fun r hr => by
    cases wk with
    | nil => rw [List.mem_singleton.mp hr]; decide +kernel
    | cons t wk =>
      rcases List.mem_cons.mp hr with e | hr
      · rw [e, dig_of (wok.s t List.mem_cons_self).a0]; exact dig_ok _
      · obtain ⟨u, hu, hz⟩ := List.mem_flatMap.mp hr
        rcases List.mem_cons.mp hz with e | hz
        · rw [e]; exact (wok.s u hu).sok
        · rw [List.mem_singleton.mp hz, dig_of (wok.s u hu).b0]; exact dig_ok _
  have sgok : ∀ r ∈ wk.map (fun t => t.2.1), PyData.strOk r = true := fun r hr => by
    obtain ⟨t, ht, rfl⟩ := List.mem_map.mp hr
    exact (wok.s t ht).sok
  refine sh_ifB (b := !PyData.eqv (.list (((wkW wk).map (Sum.inr : Str → Key)).map keyD)) (.list (([dash].map (Sum.inr : Str → Key)).map keyD))) (et_test (ev_neD (K := K) ((ev_var rfl (pLst.map (Mo.mo s3.bs hv))).imp fun v B4 _ h => pdat_txt h) (fun B4 s4 => ev_lstD (ea_consD (ev_strD ev_c) fun _ _ => ea_nilD) (by show 1 ≤ 100000; omega)) (shaped_txt wsok) (shaped_txt (ws := [dash]) fun r hr => by rw [List.mem_singleton.mp hr]; decide +kernel))) s3.at2 (fun hb B4 H4 s4 Ds' k => ?_) fun B4 H4 s4 => ?_
  · -- the checks
    cases wk with
    | nil =>
      exfalso
      have : PyData.eqv (.list (((wkW []).map (Sum.inr : Str → Key)).map keyD)) (.list (([dash].map (Sum.inr : Str → Key)).map keyD)) = true := by
        simp only [PyData.eqv]
        exact eqvAll_refl_txt [dash]
      rw [this] at hb
      cases hb
    | cons t wk =>
      have h3 : ∀ B5, Same B4 B5 → pMap K txt (wkStates (t :: wk)) v3 B5 := fun B5 s => pLst.map (Mo.mo (s4.bs.trans s) hv3)
      have h4 : ∀ B5, Same B4 B5 → pMap K txt ((t :: wk).map fun t => t.2.1) v4 B5 := fun B5 s => pLst.map (Mo.mo (s4.bs.trans s) hv4)
      refine sh_if0 (et_orF ((et_test (ev_neI (ev_lenM (ev_var rfl (h3 _ (Same.refl _)))) fun B5 s5 => ev_I0 (ev_lenM (ev_var rfl (h4 _ s5))) fun _ _ => ev_c)).to (by rw [states_len, List.length_map]; simp)) fun B5 s5 => et_orF ((et_test (ev_eqD (K := K) ((ev_var rfl (h4 _ s5)).imp fun v B6 _ h => pdat_txt h) (fun B6 s6 => ev_lstD ea_nilD (by show 0 ≤ 100000; omega)) (shaped_txt sgok) shaped_nil)).to (by rw [eqv_nil]; simp)) fun B6 s6 => (et_not (et_B (ev_psp (Post := fun z => pEq (.bl (areNums z))) (wkStates (t :: wk)) (ea_one (ev_var rfl (h3 _ (s5.trans s6)))) fun vs B7 _ ⟨v, e1, e2⟩ => ⟨⟨v, e1, e2⟩, fun r hr => ⟨Nat.le_trans (stok r hr).1 (by decide), (stok r hr).2.1⟩, by rw [states_len]; omega⟩))).to (by rw [states_nums wok.s] <;> rfl)) s4.at2 fun B5 H5 s5 => ?_
      refine sh_ifFL (os := []) (D := D) ?_ s5.at2 (fun p hp => by cases hp) fun B6 H6 s6 => k B6 H6 (s5.trans s6)
      refine (et_not (et_B (ev_all (as := (t :: wk).map fun t => t.2.1) (f := fun _ => true) (ev_lc1 (el_list (ev_var rfl (h4 _ s5.bs))) (by rw [List.length_map]; omega) (fun z y B6 hz s6 hy => ?_) (fun _ _ _ _ _ h => h))))).to (by simp)
      obtain rfl : y = _ := hy
      obtain ⟨x, hx, rfl⟩ := List.mem_map.mp hz
      have l1 := (wok.s x hx).one
      exact (ev_andT (c := true) ((ev_row (z := x.2.1) (ea_oneE (ev_varE rfl)) (by rw [l1]; decide)).to (by rw [(wok.s x hx).row])) fun B7 s7 => (ev_eq (x := .int x.2.1.length) (y := .int 1) (ev_lenS (ev_varE rfl) (by rw [l1]; decide)) (fun _ _ => ev_c) rfl).to (by rw [l1] <;> rfl)).to rfl
  have hd4 := ((hd.stp s2).stp s3).stp s4
  refine sh_go s4.at2 hd4 rfl fun B5 H5 at5 hd5 c5 _ => ?_
  have s35 : Same B3 B5 := s4.bs.trans (c5 [L.x] (List.mem_singleton.mpr rfl)).bs
  refine sh_set0 (P := pLst K num (wkNums wk)) ((ev_lcLF (R := txt) (R' := fun z => num (valS z)) (f := fun z => !decide (z = dash)) (el_list (ev_var rfl (pLst.map (Mo.mo s35 hv3)))) (by
    cases wk with
    | nil => show 1 < 100000; omega
    | cons t wk => rw [states_len]; omega) fun z y B6 hz s6 hy => ⟨_, wipe_set, sets_name, fun B7 s7 => ⟨?_, fun hne B8 s8 => ?_⟩⟩).imp fun v B6 _ h => by
      have := pLst.fmap (R := num) (f := valS) h
      rw [states_vals wok.s] at this
      exact this) at5 fun v6 B6 H6 s6 hv6 => ?_
  · obtain rfl : y = _ := hy
    exact et_test (ev_neS (ev_varE rfl) fun _ _ => ev_c)
  · obtain rfl : y = _ := hy
    have zd : z ≠ dash := fun e => by rw [decide_eq_true e] at hne; cases hne
    exact ev_intS (ev_varE rfl) ((stok z hz).2.2 zd) (stok z hz).1
  have s36 := s35.trans s6.bs
  refine (ev_tupleOf (D := D) ((ev_lcL (as := (List.range (wk.map fun t => t.2.1).length).zip (wk.map fun t => t.2.1)) (R := fun p => pPr (numN p.1) (txt p.2)) (R' := fun p => tri K ((wk[p.1]?).getD (0, Str.empty, 0))) (el_enumL (ev_var rfl (pLst.map (Mo.mo s36 hv4)))) (by rw [List.length_zip, List.length_range, List.length_map]; omega) fun c y B7 hc s7 hy => ?_).imp fun v B7 _ h => pLst.map h)) H6 s6.at2 _ fun v7 B7 H7 s7 hv7 => ?_
  · obtain ⟨x1, x2, h1, h2, hs⟩ := sets_pair hy (D := D) (K := K) (i := 7) (j := 4) (σ := wipe ((((start ["lines", "words", "states", "signs", "sign", "numbers", "word", "at"] [.ref L.x] |>.set 1 (some v)).set 2 (some v3)).set 3 (some v4)).set 5 (some v6)) [7, 4])
    refine ⟨_, by rfl, hs, fun B8 s8 => ?_⟩
    obtain rfl : x1 = _ := h1
    obtain rfl : x2 = _ := h2
    obtain ⟨j, z⟩ := c
    have hj := List.getElem_of_mem hc
    obtain ⟨n, hn, en⟩ := hj
    have hz2 := List.getElem?_zip_eq_some.mp (show ((List.range (wk.map fun t => t.2.1).length).zip (wk.map fun t => t.2.1))[n]? = some (j, z) from by rw [List.getElem?_eq_getElem hn, en])
    have hnl : n < wk.length := by
      rw [List.length_zip, List.length_range, List.length_map] at hn
      omega
    have ej : j = n := by
      have := hz2.1
      rw [List.getElem?_range (by rw [List.length_map]; exact hnl)] at this
      exact (Option.some.inj this).symm
    subst ej
    have ht : wk[j]? = some wk[j] := List.getElem?_eq_getElem hnl
    have ez : z = (wk[j]).2.1 := by
      have := hz2.2
      rw [List.getElem?_map, ht] at this
      exact (Option.some.inj this).symm
    show EvR D _ _ B8 (tri K ((wk[j]?).getD (0, Str.empty, 0)))
    rw [ht]
    show EvR D _ _ B8 (tri K wk[j])
    have hN : ∀ B9, Same B8 B9 → pMap K num (wkNums wk) v6 B9 := fun B9 s => pLst.map (Mo.mo ((s7.trans s8).trans s) hv6)
    refine ev_tri (ev_ixL (R := num) (a := (wk[j]).1) (i := (j : Nat)) (ev_var rfl (hN _ (Same.refl _))) (fun _ _ => ev_varE rfl) (by omega) (nums_at wok.ch ht)) (fun B9 s9 => by rw [← ez]; exact ev_varE rfl) fun B9 s9 => ev_ixL (R := num) (a := (wk[j]).2.2) (i := (j : Int) + 1) (ev_var rfl (hN _ s9)) (fun _ _ => ev_I0 (ev_varE rfl) fun _ _ => ev_c) (by omega) (by
      rw [show ((j : Int) + 1).toNat = j + 1 from by omega]
      exact nums_next ht)
  · have c17 : Chg D [L.x] B H B7 H7 := ((((Chg.of (as := [L.x]) at_.inv ((s2.trans s3).trans s4)).trans (c5 [L.x] (List.mem_singleton.mpr rfl))).stp at5.inv s6).stp s6.at2.inv s7)
    refine q v7 B7 H7 s7.at2 ((hd5.stp s6).stp s7) c17 ?_
    obtain ⟨p, xs, rfl, hp, px⟩ := hv7
    refine ⟨p, xs, rfl, hp, ?_⟩
    have gen := paired_enum (R := fun t v => tri K t v B7) (wk := wk) (d := (0, Str.empty, 0)) px
    exact gen
end
end CW
set_option Elab.async false
set_option linter.all false
set_option maxRecDepth 100000
set_option maxHeartbeats 4000000
/-! W18: read_walk, read_blur. -/
namespace CW
open PySem PySem.Spec PyProof.Rows L2 TL
def spReadW (K : PySem.W.Frag) : Sp := PSp (fun _ (wk : List Tri) vs _ => vs = [.str (walkT wk)] ∧ WkOk wk) (fun wk => stp K wk)
def spReadB (K : PySem.W.Frag) : Sp := PSp (fun _ (a : List Tri × List Tri) vs _ => vs = [.str (blurT a.1 a.2)] ∧ WkOk a.1 ∧ WkOk a.2) (fun a => pMapT K (stp K) [a.1, a.2])
theorem row_walk {wk : List Tri} (h : WkOk wk) : Txt.split (walkT wk) sp1 = wkW wk ∧ 10 ∉ cs (walkT wk) := by
  have ne : wkW wk ≠ [] := by cases wk <;> simp [wkW]
  rw [walk_join]
  exact ⟨split_sp (wkW_plain h.s) ne, no_nl (wkW_plain h.s)⟩
theorem rowsOk_walks {R : List Str} (h : ∀ r ∈ R, ∃ wk, WkOk wk ∧ r = walkT wk) (hl : R.length ≤ 100) : RowsOk R := ⟨by omega, fun r hr => by
  obtain ⟨wk, ok, rfl⟩ := h r hr
  refine ⟨Nat.le_trans (walkT_len ok) (by decide), ?_⟩
  rw [(row_walk ok).1]
  cases wk <;> simp [wkW]⟩
theorem blur_join (w1 w2 : List Tri) : blurT w1 w2 = Txt.join nl1 [walkT w1, walkT w2] := by
  apply cps_inj
  show cs (walkT w1 ++ nl1 ++ walkT w2) = cs (Txt.join nl1 [walkT w1, walkT w2])
  rw [tl_joinT]
  show ((walkT w1 ++ nl1) ++ walkT w2).cps.toList = _
  rw [Str.cps_append, Array.toList_append, Str.cps_append, Array.toList_append, List.append_assoc]
  rfl
theorem one_join (z : Str) : z = Txt.join nl1 [z] := by
  apply cps_inj
  show cs z = cs (Txt.join nl1 [z])
  rw [tl_joinT] <;> rfl
section
variable {P : Program} {w : World} {K : PySem.W.Frag} {mg : Str → Option Value} {base : Heap} {D : Dm} {σ : L2.St} {B H : Hp} {te ta : TE} {L : LnD} {u : TS} {Ds : Ends}
/-- lines.finish(); the rest -/
theorem sh_fin {i : Nat} (at_ : At D B H) (hd : Hd1 D B H L.x (lnO K L)) (h0 : σ[i]? = some (some (.ref L.x))) (hR : pMap K txt L.R (.ref L.p) B) (hi : L.i = L.R.length) (k : ∀ B2 H2, Stp D B H B2 H2 → u Ds σ H2) : tSeq (tDrop (tMethR (lC K) "finish" (spFin K) E0 (tVar i) tNil)) u Ds σ H :=
  (ev_meH (D := D) (os := lnH K L) (P := pEq .non) (ev_varE h0) (List.mem_singleton.mpr rfl) rfl (fun B7 s7 => ea_nil) fun vs B7 s7 e => by
    rw [e]
    exact EvV.rsp (Post := fun _ : LnD => pEq .non) L (fun p hp => by rw [List.mem_singleton.mp hp]; exact hd.nd) (fun p h => h) ⟨rfl, Mo.mo s7 hR, hi⟩).hid at_ (hd_os hd) fun v7 B7 H7 s7 _ => k B7 H7 s7
theorem sc_read_walk : FnScope ["text", "lines", "found"] ["text"] d_read_walk.scope := ⟨rfl, rfl, rfl, by decide +kernel, rfl, by decide +kernel, by decide +kernel⟩
theorem fn_read_walk (T : Tz K mg) : Fn P w K mg base 4 "read_walk" (spReadW K) := by
  refine fn_of T.h_read_walk T.g_read_walk rfl sc_read_walk (fun _ _ _ _ _ _ us hl => match us, hl with | [_], _ => rfl) (fun vs H Q E h => ?_) (BodyOk0.ok fun cdv A outer s H vs Q E hr h => ?_)
  · obtain ⟨_, _, _, _, ⟨rfl, _⟩, _⟩ := h
    rfl
  refine ⟨_, pss_cons (ps_set (i := 1) sc_read_walk.nd rfl (Or.inl rfl) (StX.pe_makeR T.mk_Lines (in_Lines T) (hr.mono (by decide)) (by rfl) T.g_Lines passL (pa_cons (pv 0) pa_nil)))
      (pss_cons (ps_set (i := 2) sc_read_walk.nd rfl (Or.inl rfl) (pe_fn (fn_walk_of T) (hr.mono (by decide)) passL (pa_cons (pv 1) pa_nil)))
      (pss_cons (ps_expr (pe_meR0 T.cl_Lines T.me_Lines_finish (mt_Lines_finish T) (hr.mono (by decide)) passL (pv 1)))
      (pss_one (ps_ret (pv 2))))), ?_⟩
  obtain ⟨D, B, wk, at_, ⟨rfl, ok⟩, q⟩ := h
  have rs : Txt.split (walkT wk) nl1 = [walkT wk] := by
    have := split_nl (rs := [walkT wk]) (fun r hr => by rw [List.mem_singleton.mp hr]; exact (row_walk ok).2) (by simp)
    rw [← one_join] at this
    exact this
  have rok : RowsOk [walkT wk] := rowsOk_walks (fun r hr => ⟨wk, ok, List.mem_singleton.mp hr⟩) (by show 1 ≤ 100; omega)
  refine sh_make (walkT wk) (ea_oneE (ev_varE rfl)) at_ (fun vs B2 _ e => ⟨e, Nat.le_trans (Nat.add_le_add_right (walkT_len ok) 2) (by decide)⟩) fun x dx o d B2 H2 at2 hd2 c2 hx ⟨p, ho, _, hR⟩ => ?_
  rw [rs] at hR
  subst ho
  refine sh_fnN (Lx := WkD.L) (nx := fun a => a.L.i + 1) (⟨⟨x, dx, p, [walkT wk], 0⟩, wk⟩ : WkD) at2 hd2 hR rok (ea_oneE (ev_varE rfl)) (fun vs B3 _ e => ⟨e, ⟨_, rfl, (row_walk ok).1⟩, ok⟩) fun v B3 H3 at3 hd3 c3 hv => ?_
  refine sh_fin (L := ⟨x, dx, p, [walkT wk], 1⟩) (i := 1) at3 hd3 rfl (Mo.mo c3.bs hR) rfl fun B4 H4 s4 => ?_
  exact ⟨v, rfl, q v B4 H4 (((((c2 [x]).trans c3).stp at3.inv s4).drop hx).done s4.at2) (Mo.mo (P := stp K wk) s4.bs hv)⟩
theorem sc_read_blur : FnScope ["text", "lines", "found"] ["text"] d_read_blur.scope := ⟨rfl, rfl, rfl, by decide +kernel, rfl, by decide +kernel, by decide +kernel⟩
theorem fn_read_blur (T : Tz K mg) : Fn P w K mg base 4 "read_blur" (spReadB K) := by
  refine fn_of T.h_read_blur T.g_read_blur rfl sc_read_blur (fun _ _ _ _ _ _ us hl => match us, hl with | [_], _ => rfl) (fun vs H Q E h => ?_) (BodyOk0.ok fun cdv A outer s H vs Q E hr h => ?_)
  · obtain ⟨_, _, _, _, ⟨rfl, _⟩, _⟩ := h
    rfl
  refine ⟨_, pss_cons (ps_set (i := 1) sc_read_blur.nd rfl (Or.inl rfl) (StX.pe_makeR T.mk_Lines (in_Lines T) (hr.mono (by decide)) (by rfl) T.g_Lines passL (pa_cons (pv 0) pa_nil)))
      (pss_cons (ps_set (i := 2) sc_read_blur.nd rfl (Or.inl rfl) (pe_tup (pa_cons (pe_fn (fn_walk_of T) (hr.mono (by decide)) passL (pa_cons (pv 1) pa_nil)) (pa_cons (pe_fn (fn_walk_of T) (hr.mono (by decide)) passL (pa_cons (pv 1) pa_nil)) pa_nil))))
      (pss_cons (ps_expr (pe_meR0 T.cl_Lines T.me_Lines_finish (mt_Lines_finish T) (hr.mono (by decide)) passL (pv 1)))
      (pss_one (ps_ret (pv 2))))), ?_⟩
  obtain ⟨D, B, ⟨w1, w2⟩, at_, ⟨rfl, ok1, ok2⟩, q⟩ := h
  dsimp only at q
  have rs : Txt.split (blurT w1 w2) nl1 = [walkT w1, walkT w2] := by
    rw [blur_join]
    refine split_nl (fun r hr => ?_) (by simp)
    rcases List.mem_cons.mp hr with e | e
    · rw [e]; exact (row_walk ok1).2
    · rw [List.mem_singleton.mp e]; exact (row_walk ok2).2
  have rok : RowsOk [walkT w1, walkT w2] := rowsOk_walks (fun r hr => by
    rcases List.mem_cons.mp hr with e | e
    · exact ⟨w1, ok1, e⟩
    · exact ⟨w2, ok2, List.mem_singleton.mp e⟩) (by show 2 ≤ 100; omega)
  have bl : (blurT w1 w2).length + 2 ≤ sizeLine := by
    have h1 : (walkT w1).length ≤ 2000 := walkT_len ok1
    have h2 : (walkT w2).length ≤ 2000 := walkT_len ok2
    unfold blurT
    rw [Str.length_append, Str.length_append]
    exact Nat.le_trans (by show _ + 1 + _ + 2 ≤ 5000; omega) (by decide)
  refine sh_make (blurT w1 w2) (ea_oneE (ev_varE rfl)) at_ (fun vs B2 _ e => ⟨e, bl⟩) fun x dx o d B2 H2 at2 hd2 c2 hx ⟨p, ho, _, hR⟩ => ?_
  rw [rs] at hR
  subst ho
  -- found = (walk_of(lines), walk_of(lines))
  refine ⟨_, rfl, D, B2, (⟨⟨x, dx, p, [walkT w1, walkT w2], 0⟩, w1⟩ : WkD), at2, hd2, hR, rok, ⟨rfl, ⟨_, rfl, (row_walk ok1).1⟩, ok1⟩, fun v3 B3 H3 at3 hd3 c3 hv3 => ?_⟩
  refine ⟨_, rfl, D, B3, (⟨⟨x, dx, p, [walkT w1, walkT w2], 1⟩, w2⟩ : WkD), at3, hd3, Mo.mo c3.bs hR, rok, ⟨rfl, ⟨_, rfl, (row_walk ok2).1⟩, ok2⟩, fun v4 B4 H4 at4 hd4 c4 hv4 => ?_⟩
  refine ⟨by show 2 ≤ sizeLine; decide, fun t ht => ?_⟩
  have e5 : Stp D B4 H4 (upd B4 t (.tup [v3, v4])) (upd H4 t (.tup [v3, v4])) := Stp.made at4 ht
  refine sh_fin (L := ⟨x, dx, p, [walkT w1, walkT w2], 2⟩) (i := 1) e5.at2 (hd4.stp e5) rfl (Mo.mo ((c3.bs.trans c4.bs).trans e5.bs) hR) rfl fun B6 H6 s6 => ?_
  refine ⟨.ref t, rfl, q (.ref t) B6 H6 (((((((c2 [x]).trans c3).trans c4).stp at4.inv e5).stp e5.at2.inv s6).drop hx).done s6.at2) ⟨t, [v3, v4], rfl, SqT.of (s6.bs _ _ upd_same), .cons (Mo.mo (P := stp K w1) ((c4.bs.trans e5.bs).trans s6.bs) hv3) (.cons (Mo.mo (P := stp K w2) (e5.bs.trans s6.bs) hv4) .nil)⟩⟩
end
end CW
set_option Elab.async false
set_option linter.all false
set_option maxRecDepth 100000
set_option maxHeartbeats 1000000
/-! EvDc: {k: v for ..}, and a dict walked under its lock. -/
namespace CW
open PySem PySem.Spec PyProof.Rows L2
section
variable {J : It} {n : Nat} {G : Hp → Prop} {Y : Nat → Hp → V → Hp → Prop}
theorem dc_it (w : Walk J n G Y) {g : TG} {tt : TT} {tk tv : TE} {vs : List Nat} {σ : L2.St} {H1 : Hp} {D : Addr} {Qd : Hp → Prop} (Pv : Nat → Hp → Prop) (h0 : Pv 0 (upd H1 D (.dK []))) (hG : ∀ i H, i ≤ n → Pv i H → G H)
    (hs : ∀ i x H H', i < n → Pv i H → Y i H x H' → g x (wipe σ vs) H' fun σ2 H2 => wipe σ2 vs = wipe σ vs ∧ tt σ2 H2 fun b H3 =>
      if b = true then tk σ2 H3 fun y H4 => tv σ2 H4 fun z H5 => ∃ kvs k, y = kV k ∧ H5 D = some (.dK kvs) ∧ kvs.length < sizeLine ∧ Pv (i + 1) (upd H5 D (.dK (putK kvs k z))) else Pv (i + 1) H3) (hd : ∀ H, Pv n H → Qd H) :
    ∃ W : Nat → Nat → Hp → Prop, (∃ m, W 0 m (upd H1 D (.dK []))) ∧ ∀ i m H, W i m H →
      (J.stop i H ∧ Qd H) ∨ (J.go i H ∧ ∃ Nx : Hp → Prop, (∀ H', Nx H' → ∃ m', m' < m ∧ W (i + 1) m' H') ∧ ∀ x H', J.yld i H x H' → g x (wipe σ vs) H' fun σ2 H2 => wipe σ2 vs = wipe σ vs ∧ tt σ2 H2 fun b H3 =>
        if b = true then tk σ2 H3 fun y H4 => tv σ2 H4 fun z H5 => ∃ kvs k, y = kV k ∧ H5 D = some (.dK kvs) ∧ kvs.length < sizeLine ∧ Nx (upd H5 D (.dK (putK kvs k z))) else Nx H3) := by
  refine ⟨fun i m H => m = n - i ∧ i ≤ n ∧ Pv i H, ⟨n, by simp, Nat.zero_le _, h0⟩, ?_⟩
  rintro i m H ⟨rfl, hi, p⟩
  have q := hG i H hi p
  by_cases hlt : i < n
  · exact .inr ⟨w.goes i H hlt q, Pv (i + 1), fun H' p' => ⟨n - (i + 1), by omega, rfl, hlt, p'⟩, fun x H' y => hs i x H H' hlt p (w.yields i H x H' hlt q y)⟩
  · have e : i = n := by omega
    subst e
    exact .inl ⟨w.stops H q, hd H p⟩
end
theorem putK_new {kvs : List (Key × V)} {k : Key} {v : V} (h : k ∉ kvs.map (·.1)) : putK kvs k v = kvs ++ [(k, v)] := by
  unfold putK
  rw [if_neg]
  intro c
  obtain ⟨kv, hm, e⟩ := List.any_eq_true.mp c
  exact h (List.mem_map.mpr ⟨kv, hm, of_decide_eq_true e⟩)
/-- a dict, one entry for each -/
def pDic {α : Type} (key : α → Key) (R : α → PV) (as : List α) : PV := fun x H => ∃ p kvs, x = .ref p ∧ H p = some (.dK kvs) ∧ Paired (fun a (kv : Key × V) => kv.1 = key a ∧ R a kv.2 H) as kvs
theorem Paired.mono2 {α β : Type} {F G : α → β → Prop} (h : ∀ a b, F a b → G a b) : ∀ {l₁ : List α} {l₂ : List β}, Paired F l₁ l₂ → Paired G l₁ l₂ := fun p => Paired.mono h p
instance {α : Type} {key : α → Key} {R : α → PV} {as : List α} [∀ a, Mo (R a)] : Mo (pDic key R as) := ⟨fun e ⟨p, kvs, h1, h2, h3⟩ => ⟨p, kvs, h1, e _ _ h2, Paired.mono (fun a kv h => ⟨h.1, Mo.mo e h.2⟩) h3⟩⟩
theorem dic_keys {α : Type} {key : α → Key} {R : α → V → Prop} : ∀ {as : List α} {kvs : List (Key × V)}, Paired (fun a (kv : Key × V) => kv.1 = key a ∧ R a kv.2) as kvs → kvs.map (·.1) = as.map key
  | _, _, .nil => rfl
  | _, _, .cons r t => by rw [List.map_cons, List.map_cons, dic_keys t, r.1]
section
variable {D : Dm} {K : PySem.W.Frag} {σ : L2.St} {B : Hp} {wi : TI} {g : TG} {te tk tv : TE} {vs : List Nat} {α : Type} {as : List α} {R R' : α → PV} {key : α → Key} {P : PV}
theorem ev_dcL [∀ a, Mo (R' a)] (hi : EvL D wi σ B as R) (hn : as.length < 100000) (hk : (as.map key).Nodup)
    (hs : ∀ a x B2, a ∈ as → Same B B2 → R a x B2 → ∃ σ2, wipe σ2 vs = wipe σ vs ∧ Sets D g x (wipe σ vs) B2 σ2 ∧ ∀ B3, Same B2 B3 → EvR D tk σ2 B3 (pEq (kV (key a))) ∧ ∀ B4, Same B3 B4 → EvR D tv σ2 B4 (R' a)) :
    EvR D (tDc wi g tYes tk tv vs) σ B (pDic key R' as) := fun H a Q q =>
  hi H a _ fun J B2 H2 G Y e2 hG w g2 hy L hL => by
    have hL2 : B2 L = none := e2.at2.sm.free hL
    have hLd : ¬ D.ds L := fun z => D.there e2.at2.inv z hL
    refine dc_it w (fun i H' => ∃ Bi kvs, Same B2 Bi ∧ At D Bi H' ∧ Bi L = none ∧ SameX D H2 H' ∧ (∀ b, H2 b ≠ none → B2 b = none → Bi b = none) ∧ H' L = some (.dK kvs) ∧ Paired (fun a (kv : Key × V) => kv.1 = key a ∧ R' a kv.2 Bi) (as.take i) kvs)
      ⟨B2, [], Same.refl _, (Stp.hid e2.at2 hL).at2, hL2, (Stp.hid e2.at2 hL).x, fun _ _ h => h, upd_same, .nil⟩ (fun i H' _ ⟨Bi, _, s, a, _⟩ => hG _ _ (s.trans a.sm) g2) ?_ ?_
    · rintro i x H3 H4 hlt ⟨Bi, kvs, si, ai, hLi, xi, fi, hx, pr⟩ y
      obtain ⟨B4, e4, u, hu, py⟩ := hy i Bi hlt si H3 x H4 ai y
      have hH3 : H3 L ≠ none := by rw [hx]; exact fun z => nomatch z
      obtain ⟨σ2, hw, hset, hrest⟩ := hs u x B4 (List.mem_of_getElem? hu) ((e2.bs.trans si).trans e4.bs) py
      have hlen : kvs.length ≤ i := by
        have := pr.length
        rw [List.length_take] at this
        omega
      refine hset H4 e4.at2 _ fun B5 H5 e5 => ⟨hw, ?_⟩
      dsimp only [tYes]
      rw [if_pos rfl]
      refine (hrest B5 e5.bs).1 H5 e5.at2 _ fun y6 B6 H6 e6 hy6 => (hrest B5 e5.bs).2 B6 e6.bs H6 e6.at2 _ fun v B7 H7 e7 hv => ?_
      have e37 := ((e4.trans e5).trans e6).trans e7
      have k2 : B7 L = none := e37.fr L hH3 hLi
      have hnew : key u ∉ kvs.map (·.1) := by
        rw [dic_keys (R := fun a v => R' a v Bi) pr]
        intro m
        obtain ⟨u', hu', ek⟩ := List.mem_map.mp m
        have h1 : as.take (i + 1) = as.take i ++ [u] := by rw [List.take_succ, hu] <;> rfl
        have h2 : ((as.take (i + 1)).map key).Nodup := hk.sublist ((List.take_sublist _ _).map key)
        rw [h1, List.map_append, List.map_cons, List.map_nil] at h2
        exact (List.nodup_append.mp h2).2.2 (key u') (List.mem_map.mpr ⟨u', hu', rfl⟩) (key u) (List.mem_singleton.mpr rfl) ek
      refine ⟨kvs, key u, hy6, e37.x L _ hx hLd, Nat.lt_of_le_of_lt hlen (Nat.lt_of_lt_of_le (Nat.lt_trans hlt hn) (by decide)), B7, kvs ++ [(key u, v)], si.trans e37.bs, e37.at2.chg k2 hLd, k2, fun b o h1 h2 => ?_, fun b h1 h2 => ?_, by rw [putK_new hnew]; exact upd_same, ?_⟩
      · have : b ≠ L := fun z => by rw [z, hL] at h1; cases h1
        rw [upd_ne this]; exact e37.x b o (xi b o h1 h2) h2
      · refine e37.fr b (fun z => ?_) (fi b h1 h2)
        by_cases d : D.ds b
        · exact D.there ai.inv d z
        · cases q : H2 b with
          | none => exact h1 q
          | some o => rw [xi b o q d] at z; cases z
      · rw [show as.take (i + 1) = as.take i ++ [u] from by rw [List.take_succ, hu] <;> rfl]
        exact Paired.snoc (F := fun a (kv : Key × V) => kv.1 = key a ∧ R' a kv.2 B7) ⟨rfl, hv⟩ (Paired.mono (fun a kv h => ⟨h.1, Mo.mo e37.bs h.2⟩) pr)
    · rintro H' ⟨Bi, kvs, si, ai, hLi, xi, fi, hx, pr⟩
      rw [List.take_length] at pr
      refine q _ (upd Bi L (.dK kvs)) H' (e2.trans ⟨si.trans (Same.new hLi), ai.know hx hLi hLd, xi, fun b h1 h2 => ?_⟩) ⟨L, kvs, rfl, upd_same, Paired.mono (fun a kv h => ⟨h.1, Mo.mo (Same.new hLi) h.2⟩) pr⟩
      have : b ≠ L := fun z => h1 (by rw [z]; exact hL)
      rw [upd_ne this]; exact fi b h1 h2
/-- d[k] -/
theorem ev_dget {a : α} [∀ a, Mo (R a)] (h : EvR D te σ B (pDic key R as)) (hk : (as.map key).Nodup) (ha : a ∈ as) (hi : ∀ B2, Same B B2 → EvR D tk σ B2 (pEq (kV (key a)))) : EvR D (tDGet te tk) σ B (R a) := fun H at_ Q q =>
  h H at_ _ fun x B2 H2 e2 ⟨p, kvs, e1, hp, pr⟩ => hi B2 e2.bs H2 e2.at2 _ fun y B3 H3 e3 hy => by
    have fnd : ∀ {as : List α} {kvs : List (Key × V)}, (as.map key).Nodup → a ∈ as → Paired (fun a (kv : Key × V) => kv.1 = key a ∧ R a kv.2 B2) as kvs → ∃ v, valV kvs (key a) = some v ∧ R a v B2 := by
      intro as kvs hk ha pr
      induction pr with
      | nil => cases ha
      | @cons b kv as kvs r t ih =>
        obtain ⟨k1, k2⟩ := List.nodup_cons.mp (by simpa using hk : (key b :: as.map key).Nodup)
        rcases List.mem_cons.mp ha with e | ha
        · refine ⟨kv.2, ?_, e ▸ r.2⟩
          unfold valV
          rw [List.find?_cons_of_pos (by rw [r.1, e]; exact decide_eq_true rfl)]
          rfl
        · obtain ⟨v, h1, h2⟩ := ih k2 ha
          refine ⟨v, ?_, h2⟩
          unfold valV at h1 ⊢
          rw [List.find?_cons_of_neg]
          · exact h1
          · rw [r.1]
            intro c
            exact k1 (List.mem_map.mpr ⟨a, ha, (of_decide_eq_true c).symm⟩)
    obtain ⟨v, h1, h2⟩ := fnd hk ha pr
    exact ⟨p, v, e1, .inl ⟨kvs, key a, .inl (e3.x p _ (e2.at2.sm p _ hp) fun z => by
      have := e2.at2.off p z
      rw [hp] at this; cases this), hy, h1.symm⟩, q v B3 H3 (e2.trans e3) (Mo.mo e3.bs h2)⟩
end
end CW
set_option Elab.async false
set_option linter.all false
set_option maxRecDepth 100000
set_option maxHeartbeats 1000000
/-! LenSet: len(set(t)), t a tuple of distinct ints. -/
namespace CW
open PySem PySem.Spec PyProof.Rows L2
theorem setR_len {w : World} {h : Heap} {a : Addr} {ns : List Int} {c : Nat} (R : SetR w h a (fun j => decide (j ∈ ns)) c) (hn : ns.Nodup) : c = ns.length := by
  obtain ⟨o, es, ep, t, _, _, _, _, nd, hk, _, _, hs, _⟩ := R
  have p : (es.toList.map keyOf).Perm ns := (List.perm_ext_iff_of_nodup nd hn).mpr fun k => by
    rw [← hk k, decide_eq_true_eq]
  have := p.length_eq
  rw [List.length_map, Array.length_toList] at this
  omega
def tLenSetT (K : PySem.W.Frag) (ta : TE) : TE := fun σ H Q => ta σ H fun x H1 => ∃ (l : Addr) (ns : List Int), x = .ref l ∧ SqT K H1 l (ns.map V.int) ∧ ns.Nodup ∧ ns.length ≤ 60 ∧ Q (.int (ns.length : Nat)) H1
theorem pe_lenSetT {X : Cx} {a : Expr} {ta : TE} {p p2 q pos : Pos} (hc : X.calm = true) (hg : Gl X "len") (hm : X.mg "len" = none) (hg2 : Gl X "set") (hm2 : X.mg "set" = none) (ha : PE X a ta)
    (na : starEach [a] X.env = (false, eval a X.env) :: starEach [] X.env := by rfl) : PE X (.Call (.Name "len" p) [.Call (.Name "set" p2) [a] [] q] [] pos) (tLenSetT X.K ta) := by
  refine ⟨fun pins s σ H Q I h => Call_ (ld_blt I hg hm PySem.boot_len ?_)⟩
  refine PyProof.Rows.callWith_builtin1 (PyProof.Rows.args_cons ?_ rfl) rfl rfl
  refine Call_ (ld_blt I hg2 hm2 PyProof.Rows.boot_set ?_)
  refine PyProof.Rows.callWith_type1 (PyProof.Rows.args_cons (thn (ha.run pins s σ H _ I h) fun v s1 ⟨x, H1, I1, r1, l, ns, e1, hq, hnd, hl, q1⟩ => PyProof.Rows.args_nil ?_) na) na rfl
  subst e1
  cases r1
  obtain ⟨its, r, pl, hz⟩ := I1.tuple hq
  refine call_set_tupI (P := X.prog) (w := X.w) ns (I1.ok.hd hc) pl (by simpa using r.ints) (by unfold scanBound; omega) fun h' tk c R hcl k => ?_
  have ec := setR_len R hnd
  refine PyProof.Rows.args_nil ?_
  obtain ⟨o, es, ep, t, ho, hex, hd, _, _, _, _, hf, hn, _⟩ := R
  have I2 : Inv X pins σ H1 { s1 with heap := h', toks := tk } := I1.kept fun b o e => k b o e
  refine call_len_set ho hex hd hf (by rw [hn] <;> omega) ⟨.int (ns.length : Nat), H1, I2.tok _, ⟨_, by rw [hn, ec]⟩, q1⟩
section
variable {D : Dm} {K : PySem.W.Frag} {σ : L2.St} {B : Hp} {te : TE} {ns : List Int}
theorem ev_lenSetT (h : EvR D te σ B (pMapT K num ns)) (hn : ns.Nodup) (hl : ns.length ≤ 60) : EvR D (tLenSetT K te) σ B (pEq (.int (ns.length : Nat))) := fun H a Q q =>
  h H a _ fun v B2 H2 e ⟨p, xs, e1, hp, px⟩ => ⟨p, ns, e1, by rw [← paired_num px]; exact Same.tup e.at2.sm hp, hn, hl, q _ B2 H2 e rfl⟩
end
end CW
set_option Elab.async false
set_option linter.all false
set_option maxRecDepth 100000
set_option maxHeartbeats 4000000
/-! W19: boxes: is_turn, are_turns, checked, Turns. -/
namespace CW
open PySem PySem.Spec PyProof.Rows L2 TL
/-- a letter and its turn -/
abbrev Lt1 := Nat × List Int
def bkey (a : Lt1) : Key := .inr ⟨#[a.1]⟩
abbrev tns (K : PySem.W.Frag) (ct : List Lt1) : PV := pDic bkey (fun a => nms_ K a.2) ct
structure BD where
  L : Str
  ct : List Lt1
structure BD.Ok (b : BD) (m : Nat) : Prop where
  l : isLetters b.L = true
  c : cs b.L = b.ct.map (·.1)
  m1 : 1 ≤ m
  m6 : m ≤ 6
  len : ∀ a ∈ b.ct, a.2.length = m
  nd : ∀ a ∈ b.ct, a.2.Nodup
  bd : ∀ a ∈ b.ct, ∀ x ∈ a.2, 0 ≤ x ∧ x ≤ (m : Int) - 1
  kd : (b.ct.map bkey).Nodup
theorem BD.Ok.len3 {b : BD} {m : Nat} (h : b.Ok m) : b.L.length ≤ 3 ∧ 1 ≤ b.L.length := by
  have := h.l
  unfold isLetters at this
  simp only [Bool.and_eq_true, decide_eq_true_eq] at this
  exact ⟨this.2.1.2, this.2.1.1⟩
theorem BD.Ok.clen {b : BD} {m : Nat} (h : b.Ok m) : b.ct.length = b.L.length := by
  have := congrArg List.length h.c
  rw [len_cs, List.length_map] at this
  exact this.symm
def spTurn (K : PySem.W.Frag) : Sp := PSp (fun _ (a : List Int × Nat) vs B => (∃ x, vs = [x, .int (a.2 : Nat)] ∧ nms_ K a.1 x B) ∧ a.1.length = a.2 ∧ a.1.Nodup ∧ (∀ x ∈ a.1, 0 ≤ x ∧ x ≤ (a.2 : Int) - 1) ∧ a.2 ≤ 6) (fun _ => pEq (.bl true))
def spTurns (K : PySem.W.Frag) : Sp := PSp (fun _ (a : BD × Nat) vs B => (∃ x, vs = [.str a.1.L, x] ∧ tns K a.1.ct x B) ∧ a.1.Ok a.2) (fun _ => pEq (.bl true))
section
variable {P : Program} {w : World} {K : PySem.W.Frag} {mg : Str → Option Value} {base : Heap} {D : Dm} {σ : L2.St} {B H : Hp} {te ta tk : TE}
theorem isI_dic {α : Type} {key : α → Key} {R : α → PV} {as : List α} {x : V} (h : pDic key R as x B) : IsI K B x (.type "dict") true := by
  obtain ⟨p, kvs, rfl, hp, _⟩ := h
  exact ⟨_, .base (.dK hp), kit_ty (by decide +kernel)⟩
/-- len(d) -/
theorem ev_lenDc {α : Type} {key : α → Key} {R : α → PV} {as : List α} [∀ a, Mo (R a)] (h : EvR D te σ B (pDic key R as)) : EvR D (tCB (fun xs H Q => ∃ d kvs, xs = [.ref d] ∧ H d = some (.dK kvs) ∧ Q (.int kvs.length) H) (tCons te tNil)) σ B (pEq (.int (as.length : Nat))) :=
  ev_cb (ea_one h) fun vs B3 s3 ⟨v, e1, p, kvs, e2, hp, pr⟩ => EvV.nowE fun H Q s q => ⟨p, kvs, by rw [e1, e2], s _ _ hp, by rw [← pr.length]; exact q⟩
/-- k in d -/
theorem ev_inDc {α : Type} {key : α → Key} {R : α → PV} {as : List α} {a : α} [∀ a, Mo (R a)] (hi : EvR D tk σ B (pEq (kV (key a)))) (h : ∀ B2, Same B B2 → EvR D te σ B2 (pDic key R as)) (hk : (as.map key).Nodup) (ha : a ∈ as) : EvR D (tDIn tk te) σ B (pEq (.bl true)) := fun H at_ Q q =>
  hi H at_ _ fun y B2 H2 e2 hy => h B2 e2.bs H2 e2.at2 _ fun x B3 H3 e3 ⟨p, kvs, e1, hp, pr⟩ => by
    have hs : (valV kvs (key a)).isSome = true := by
      unfold valV
      rw [Option.isSome_map]
      refine List.find?_isSome.mpr ?_
      have m : key a ∈ kvs.map (·.1) := by
        rw [dic_keys (R := fun a v => R a v B3) pr]
        exact List.mem_map.mpr ⟨a, ha, rfl⟩
      obtain ⟨kv, hkv, e⟩ := List.mem_map.mp m
      exact ⟨kv, hkv, decide_eq_true e⟩
    refine ⟨p, valV kvs (key a), e1, .inl ⟨kvs, key a, .inl (e3.at2.sm _ _ hp), hy, rfl⟩, ?_⟩
    rw [hs]
    exact q _ B3 H3 (e2.trans e3) rfl
theorem sc_is_turn : FnScope ["value", "size", "place"] ["value", "size"] d_is_turn.scope := ⟨rfl, rfl, rfl, by decide +kernel, rfl, by decide +kernel, by decide +kernel⟩
theorem fn_is_turn (T : Tz K mg) : Fn P w K mg base 2 "is_turn" (spTurn K) := by
  refine fn_of T.h_is_turn T.g_is_turn rfl sc_is_turn (fun _ _ _ _ _ _ us hl => match us, hl with | [_, _], _ => rfl) (fun vs H Q E h => ?_) (BodyOk0.ok fun cdv A outer s H vs Q E hr h => ?_)
  · obtain ⟨_, _, _, _, p, _⟩ := h
    obtain ⟨⟨_, rfl, _⟩, _⟩ := p
    rfl
  refine ⟨_, pss_cons (ps_if (PW.pt (pw_or (pt_not (pt_val (pe_callB call_isi (by rfl) T.b_isinstance boot_isinstance (pa_cons (pv 0) (pa_cons (pe_bltn (v := .ty "tuple") (by rfl) T.b_tuple boot_tuple rfl) pa_nil))))) (pw_or1 (pt_cmpR op_ne (pe_callB call_len (by rfl) T.b_len boot_len (pa_cons (pv 0) pa_nil)) (pv 1) (nomark _))))) (pss_one (ps_ret pe_bl)) pss_nil)
      (pss_one (ps_ret (pe_and (pe_callB (cr_all rfl) (by rfl) T.b_all boot_all (pa_cons (pe_lc (own := [("place", 2)]) (g := gName 2) (tt := tYes) (by rfl) sc_is_turn.nd (pi_tup (pv 0)) (blkOk_by (N := ["value", "size", "place"]) (sc := d_is_turn.scope) (own := [("place", 2)]) (by decide +kernel)) (fun _ _ _ _ _ => (pg_name (i := 2) sc_is_turn.nd rfl (Or.inl rfl))) (fun _ _ _ _ _ => pts_nil) (fun _ _ _ _ _ => (pe_fn (fn_is_integer T) (hr.mono (by decide)) passL (pa_cons (pv 2) (pa_cons pe_int (pa_cons (pe_op op_sub (pv 1) pe_int) pa_nil)))))) pa_nil)) (pe_one (pe_cmpR op_eq (pe_lenSetT (by rfl) (by rfl) T.b_len (by rfl) T.b_set (pv 0)) (pv 1) (nomark _)))))), h.body (N := ["value", "size", "place"]) fun D a B p => ?_⟩
  · obtain ⟨⟨x, rfl, hx⟩, hl, hnd, hb, h6⟩ := p
    have hv : ∀ B2, Same B B2 → EvR D (tVar 0) (start ["value", "size", "place"] [x, .int (a.2 : Nat)]) B2 (nms_ K a.1) := fun B2 s => ev_var rfl (Mo.mo s hx)
    refine es_ifF (et_orF ((et_not (et_B (ev_isi (b := true) (ev_varE rfl) (fun _ _ => ev_c) (.ty _) (isI_stp hx)))).to rfl) fun B2 s2 => (et_test (ev_neI (ev_lenMT (hv B2 s2)) fun _ _ => ev_varE rfl)).to (by rw [hl]; simp)) fun B2 s2 => ?_
    refine es_ret ((ev_andT (c := true) ((ev_all (as := a.1) (f := fun _ => true) (ev_lc1 (el_tup (hv B2 s2)) (by omega) (fun j y B3 hj s3 hy => ?_) (fun _ _ _ _ e h => Mo.mo e h))).to (by simp)) fun B3 s3 => (ev_eq (ev_lenSetT (hv B3 (s2.trans s3)) hnd (by omega)) (fun _ _ => ev_varE rfl) rfl).to (by rw [hl]; simp)).to rfl)
    exact (ev_intR (x := .int j) (l := 0) (m := some ((a.2 : Int) - 1)) (ea_consE (ev_var rfl hy) fun _ _ => ea_consE ev_c fun _ _ => ea_oneE (ev_I0 (ev_varE rfl) fun _ _ => ev_c)) rfl).to (by rw [isInt_ok (hb j hj).1 (hb j hj).2])
theorem sc_are_turns : FnScope ["letters", "value", "letter", "first"] ["letters", "value"] d_are_turns.scope := ⟨rfl, rfl, rfl, by decide +kernel, rfl, by decide +kernel, by decide +kernel⟩
theorem fn_are_turns (T : Tz K mg) : Fn P w K mg base 3 "are_turns" (spTurns K) := by
  obtain ⟨_, g_MAX_PLACES⟩ := T.i_MAX_PLACES
  refine fn_of T.h_are_turns T.g_are_turns rfl sc_are_turns (fun _ _ _ _ _ _ us hl => match us, hl with | [_, _], _ => rfl) (fun vs H Q E h => ?_) (BodyOk0.ok fun cdv A outer s H vs Q E hr h => ?_)
  · obtain ⟨_, _, _, _, p, _⟩ := h
    obtain ⟨⟨_, rfl, _⟩, _⟩ := p
    rfl
  refine ⟨_, pss_cons (ps_if (PW.pt (pw_or (pt_not (pt_val (pe_callB call_isi (by rfl) T.b_isinstance boot_isinstance (pa_cons (pv 1) (pa_cons (pe_bltn (v := .ty "dict") (by rfl) T.b_dict boot_dict rfl) pa_nil))))) (pw_or (pt_cmpR op_ne (pe_callB call_lenD (by rfl) T.b_len boot_len (pa_cons (pv 1) pa_nil)) (pe_callB call_len (by rfl) T.b_len boot_len (pa_cons (pv 0) pa_nil)) (nomark _)) (pw_or1 (pt_not (pt_val (pe_callB (cr_all rfl) (by rfl) T.b_all boot_all (pa_cons (pe_lc (own := [("letter", 2)]) (g := gName 2) (tt := tYes) (by rfl) sc_are_turns.nd (pi_str (pv 0)) (blkOk_by (N := ["letters", "value", "letter", "first"]) (sc := d_are_turns.scope) (own := [("letter", 2)]) (by decide +kernel)) (fun _ _ _ _ _ => (pg_name (i := 2) sc_are_turns.nd rfl (Or.inl rfl))) (fun _ _ _ _ _ => pts_nil) (fun _ _ _ _ _ => (pe_cmp (pc_din (hu_of hr) (pv 2) (pv 1)) rfl))) pa_nil)))))))) (pss_one (ps_ret pe_bl)) pss_nil)
      (pss_cons (ps_set (i := 3) sc_are_turns.nd rfl (Or.inr rfl) (pe_dget (hu_of hr) (pv 1) (pe_ix ix_str (pv 0) pe_int (fun _ _ => rfl)) (fun _ _ => rfl)))
      (pss_cons (ps_if (PW.pt (pw_or (pt_not (pt_val (pe_callB call_isi (by rfl) T.b_isinstance boot_isinstance (pa_cons (pv 3) (pa_cons (pe_bltn (v := .ty "tuple") (by rfl) T.b_tuple boot_tuple rfl) pa_nil))))) (pw_or1 (pt_not (pt_chain op_le op_le pe_int (pe_callB call_len (by rfl) T.b_len boot_len (pa_cons (pv 3) pa_nil)) (pe_glob (v := .int 6) (by rfl) g_MAX_PLACES ⟨_, rfl⟩)))))) (pss_one (ps_ret pe_bl)) pss_nil)
      (pss_one (ps_ret (pe_callB (cr_all rfl) (by rfl) T.b_all boot_all (pa_cons (pe_lc (own := [("letter", 2)]) (g := gName 2) (tt := tYes) (by rfl) sc_are_turns.nd (pi_str (pv 0)) (blkOk_by (N := ["letters", "value", "letter", "first"]) (sc := d_are_turns.scope) (own := [("letter", 2)]) (by decide +kernel)) (fun _ _ _ _ _ => (pg_name (i := 2) sc_are_turns.nd rfl (Or.inl rfl))) (fun _ _ _ _ _ => pts_nil) (fun _ _ _ _ _ => (pe_fn (fn_is_turn T) (hr.mono (by decide)) passL (pa_cons (pe_dget (hu_of hr) (pv 1) (pv 2) (fun _ _ => rfl)) (pa_cons (pe_callB (r := fun xs H Q => ∃ x n, xs = [x] ∧ LenV K x H n ∧ Q (.int n) H) call_len (by rfl) T.b_len boot_len (pa_cons (pv 3) pa_nil)) pa_nil))))) pa_nil)))))), h.body (N := ["letters", "value", "letter", "first"]) fun D a B p => ?_⟩
  · obtain ⟨⟨x, rfl, hx⟩, ok⟩ := p
    obtain ⟨⟨L, ct⟩, m⟩ := a
    dsimp only at hx ok
    have l3 := ok.len3
    have cl := ok.clen
    have cc := ok.c
    dsimp only at l3 cl cc
    have hv : ∀ {σ : L2.St} B2, Same B B2 → σ[1]? = some (some x) → EvR D (tVar 1) σ B2 (tns K ct) := fun B2 s h => ev_var h (Mo.mo s hx)
    have lz : L.length ≤ 100000 := by omega
    have mem : ∀ c ∈ cs L, ∃ a ∈ ct, a.1 = c := fun c hc => by
      rw [cc] at hc
      obtain ⟨a, ha, e⟩ := List.mem_map.mp hc
      exact ⟨a, ha, e⟩
    obtain ⟨a0, r0, ec⟩ : ∃ a0 r0, ct = a0 :: r0 := by
      cases ct with
      | nil => simp at cl; omega
      | cons a r => exact ⟨a, r, rfl⟩
    have h0 : a0 ∈ ct := by rw [ec]; exact List.mem_cons_self
    refine es_ifF (et_orF ((et_not (et_B (ev_isi (b := true) (ev_varE rfl) (fun _ _ => ev_c) (.ty _) (isI_dic hx)))).to rfl) fun B2 s2 => et_orF ((et_test (ev_ne (x := .int (ct.length : Nat)) (y := .int (L.length : Nat)) (ev_lenDc (hv B2 s2 rfl)) (fun _ _ => ev_lenS (ev_varE rfl) lz) rfl)).to (by rw [cl]; simp)) fun B3 s3 => (et_not (et_B (ev_all (as := cs L) (f := fun _ => true) (ev_lc1 (el_str (ev_varE rfl)) (by rw [len_cs]; omega) (fun c y B4 hc s4 hy => ?_) (fun _ _ _ _ _ h => h))))).to (by simp)) fun B2 s2 => ?_
    · obtain rfl : y = _ := hy
      obtain ⟨a, ha, rfl⟩ := mem c hc
      exact ev_inDc (key := bkey) (a := a) (ev_varE rfl) (fun B5 s5 => hv B5 (((s2.trans s3).trans s4).trans s5) rfl) ok.kd ha
    · refine es_set (P1 := nms_ K a0.2) (ev_dget (key := bkey) (a := a0) (hv B2 s2 rfl) ok.kd h0 fun B3 s3 => ev_ixS (c := a0.1) (ev_varE rfl) (fun _ _ => ev_c) (Nat.le_trans lz (by decide)) (by decide) (by
        show (cs L)[0]? = some a0.1
        rw [cc, ec] <;> rfl)) fun v B3 s3 hv3 => ?_
      have hm : a0.2.length = m := ok.len a0 h0
      have h1 := ok.m1
      have h6 := ok.m6
      refine es_ifF (et_orF ((et_not (et_B (ev_isi (b := true) (ev_varE rfl) (fun _ _ => ev_c) (.ty _) (isI_stp hv3)))).to rfl) fun B4 s4 => (et_not (et_test (ev_chain (b := decide (1 ≤ m)) (c := decide (m ≤ 6)) ev_c (fun B5 s5 => ev_lenMT (ev_var rfl (Mo.mo (P := nms_ K a0.2) (s4.trans s5) hv3))) (fun B5 s5 => (EvV.nowE fun _ _ _ q => ⟨1, ((a0.2.length : Nat) : Int), rfl, rfl, q⟩).imp fun v B h hv => ?_) (fun _ _ _ => ev_c) fun _ B5 s5 => (EvV.nowE fun _ _ _ q => ⟨((a0.2.length : Nat) : Int), 6, rfl, rfl, q⟩).imp fun v B h hv => ?_))).to (by simp [h1, h6])) fun B4 s4 => ?_
      · rw [show v = _ from hv]
        exact congrArg V.bl (decide_eq_decide.mpr (by rw [hm]; omega))
      · rw [show v = _ from hv]
        exact congrArg V.bl (decide_eq_decide.mpr (by rw [hm]; omega))
      · refine es_ret ((ev_all (as := cs L) (f := fun _ => true) (ev_lc1 (el_str (ev_varE rfl)) (by rw [len_cs]; omega) (fun c y B5 hc s5 hy => ?_) (fun _ _ _ _ _ h => h))).to (by simp))
        obtain rfl : y = _ := hy
        obtain ⟨a, ha, rfl⟩ := mem c hc
        have s35 := ((s2.trans s3).trans s4).trans s5
        exact ev_psp (Post := fun _ => pEq (.bl true)) (a.2, m) (ea_cons (P := nms_ K a.2) (ev_dget (key := bkey) (a := a) (hv B5 s35 rfl) ok.kd ha fun B6 s6 => ev_varE rfl) fun B6 s6 => ea_oneE (v := .int (m : Nat)) ((ev_lenMT (ev_var rfl (Mo.mo (P := nms_ K a0.2) ((s4.trans s5).trans s6) hv3))).to (by rw [hm]))) fun vs B6 _ ⟨v, r, e1, e2, e3⟩ => ⟨⟨v, by rw [e1, e3], e2⟩, ok.len a ha, ok.nd a ha, ok.bd a ha, h6⟩
end
end CW
set_option Elab.async false
set_option linter.all false
set_option maxRecDepth 100000
set_option maxHeartbeats 4000000
/-! W20: Turns, checked boxes, back_turn. -/
namespace CW
open PySem PySem.Spec PyProof.Rows L2 TL
abbrev tC_ (K : PySem.W.Frag) : Addr := He.ga K "Turns"
def pTur (K : PySem.W.Frag) (b : BD) : PV := fun x H => ∃ a dx d, x = .ref a ∧ SlX.Slt H a (tC_ K) dx [some (.str b.L), some d] ∧ tns K b.ct d H
instance {K : PySem.W.Frag} {b : BD} : Mo (pTur K b) := ⟨fun e ⟨a, dx, d, h1, h2, h3⟩ => ⟨a, dx, d, h1, slt_mono e h2, Mo.mo e h3⟩⟩
def twoArgs (K : PySem.W.Frag) (b : BD) (ws : List V) (B : Hp) : Prop := ∃ d, ws = [.str b.L, d] ∧ tns K b.ct d B
def spTurI (K : PySem.W.Frag) : Sp := ISp (insO (tC_ K)) ownO (twoArgs K) (fun b x dx o d B => ∃ v, o = SlX.SlO x (tC_ K) dx [some (.str b.L), some v] ∧ d = .xd [] ∧ tns K b.ct v B)
def spChkB (K : PySem.W.Frag) : Sp := PSp (fun _ (a : BD × Nat) vs B => twoArgs K a.1 vs B ∧ a.1.Ok a.2) (fun a => pTur K a.1)
/-- some tuple of ints -/
def pSomeT (K : PySem.W.Frag) : PV := fun x H => ∃ ns, nms_ K ns x H
instance {K : PySem.W.Frag} : Mo (pSomeT K) := ⟨fun e ⟨ns, h⟩ => ⟨ns, Mo.mo e h⟩⟩
def spBack (K : PySem.W.Frag) : Sp := PSp (fun _ (ns : List Int) vs B => (∃ x, vs = [x] ∧ nms_ K ns x B) ∧ ns.length ≤ 6 ∧ ns.Nodup ∧ ∀ x ∈ ns, 0 ≤ x ∧ x ≤ (ns.length : Int) - 1) (fun _ => pSomeT K)
section
variable {P : Program} {w : World} {K : PySem.W.Frag} {mg : Str → Option Value} {base : Heap} {D : Dm} {σ : L2.St} {B H : Hp} {te ta tk : TE}
theorem sc_Turns_init : FnScope ["self", "letters", "turns"] ["self", "letters", "turns"] d_Turns_init.scope := ⟨rfl, rfl, rfl, by decide +kernel, rfl, by decide +kernel, by decide +kernel⟩
theorem in_Turns (T : Tz K mg) : FnR P w K mg base (L2.CX P w) 1 (He.fAd K d_Turns_init.at_) (spTurI K) := by
  refine fnr_of T.h_Turns_init rfl sc_Turns_init (fun _ _ _ _ _ _ us hl => match us, hl with | [_, _, _], _ => rfl) (fun vs H Q E h => ?_) (BodyOk0.ok fun cdv A outer s H vs Q E hr h => ?_)
  · obtain ⟨_, _, _, _, _, _, rfl, _, ⟨_, rfl, _⟩, _⟩ := h
    rfl
  refine ⟨_, pss_cons (SlX.ps_sl (pv 0) (pv 1) rfl)
      (pss_one (SlX.ps_sl (pv 0) (pv 2) rfl)), ?_⟩
  obtain ⟨D, B, x, dx, b, ws, rfl, m, ⟨d, rfl, hd⟩, q⟩ := h
  refine st_slot T.sc_Turns T.sl_Turns_own_letters m (.inl ⟨rfl, rfl⟩) (ev_varE (v := .str b.L) rfl) rfl rfl fun v2 B2 H2 s2 m2 d2 p2 => ?_
  obtain rfl : v2 = _ := p2
  refine st_slot T.sc_Turns T.sl_Turns_own_turns m2 (.inr ⟨rfl, rfl⟩) (ev_varE (v := d) rfl) rfl rfl fun v3 B3 H3 s3 m3 d3 p3 => ?_
  obtain rfl : v3 = _ := p3
  exact q B3 H3 _ _ m3 (d3 _ _ (d2 _ _ Mkd.refl)) ⟨v3, by rfl, rfl, Mo.mo (P := tns K b.ct) (s2.trans s3) hd⟩
theorem sc_checked_boxes : FnScope ["letters", "turns"] ["letters", "turns"] d_checked_boxes.scope := ⟨rfl, rfl, rfl, by decide +kernel, rfl, by decide +kernel, by decide +kernel⟩
theorem fn_checkedB (T : Tz K mg) : Fn P w K mg base 4 "checked_boxes" (spChkB K) := by
  refine fn_of T.h_checked_boxes T.g_checked_boxes rfl sc_checked_boxes (fun _ _ _ _ _ _ us hl => match us, hl with | [_, _], _ => rfl) (fun vs H Q E h => ?_) (BodyOk0.ok fun cdv A outer s H vs Q E hr h => ?_)
  · obtain ⟨_, _, _, _, p, _⟩ := h
    obtain ⟨⟨_, rfl, _⟩, _⟩ := p
    rfl
  refine ⟨_, pss_cons (ps_if (pt_not (pt_val (pe_fn (fn_is_letters T) (hr.mono (by decide)) passL (pa_cons (pv 0) pa_nil)))) (pss_one ps_never) pss_nil)
      (pss_cons (ps_if (pt_not (pt_val (pe_fn (fn_are_turns T) (hr.mono (by decide)) passL (pa_cons (pv 0) (pa_cons (pv 1) pa_nil))))) (pss_one ps_never) pss_nil)
      (pss_one (ps_ret (StX.pe_makeR T.mk_Turns (in_Turns T) (hr.mono (by decide)) (by rfl) T.g_Turns passL (pa_cons (pv 0) (pa_cons (pv 1) pa_nil)))))), h.body (N := ["letters", "turns"]) fun D a B p => ?_⟩
  · obtain ⟨⟨d, rfl, hd⟩, ok⟩ := p
    have l3 := ok.len3
    refine es_ifF ((et_not (et_B (ev_psp (Post := fun z => pEq (.bl (isLetters z))) a.1.L (ea_oneE (ev_varE rfl)) fun vs B2 _ r => ⟨r, by omega⟩))).to (by rw [ok.l] <;> rfl)) fun B2 s2 => ?_
    refine es_ifF ((et_not (et_B (ev_psp (Post := fun _ => pEq (.bl true)) a (ea_cons (P := pEq (.str a.1.L)) (ev_varE rfl) fun B3 s3 => ea_one (ev_var rfl (Mo.mo (s2.trans s3) hd))) fun vs B3 _ ⟨v, r, e1, e2, v2, e3, e4⟩ => ⟨⟨v2, by rw [e1, e3, show v = _ from e2], e4⟩, ok⟩))).to rfl) fun B3 s3 => ?_
    refine es_ret (ev_make (a := a.1) (ea_consE (ev_varE rfl) fun _ _ => ea_oneE (ev_varE rfl)) (fun vs B8 s8 r => ⟨_, r, Mo.mo ((s2.trans s3).trans s8) hd⟩) fun x dx o d B8 hx8 hd8 hn ⟨v, q1, q2, q3⟩ => ?_)
    have n1 : Same B8 (upd (upd B8 dx d) x o) := (Same.new hd8).trans (Same.new (by rw [upd_ne (Ne.symm hn)]; exact hx8))
    exact ⟨x, dx, v, rfl, .inr ⟨by rw [upd_same, q1]; rfl, by rw [upd_ne hn, upd_same, q2]⟩, Mo.mo n1 q3⟩
/-- the places of a turn, each once -/
theorem perm_has {ns : List Int} (hn : ns.Nodup) (hb : ∀ x ∈ ns, 0 ≤ x ∧ x ≤ (ns.length : Int) - 1) : ∀ j : Nat, j < ns.length → (j : Int) ∈ ns := by
  intro j hj
  have h1 : (ns.map Int.toNat).Nodup := by
    refine List.pairwise_map.mpr (List.Pairwise.imp_of_mem (fun {a b} ha hb' hne e => hne ?_) hn)
    have := hb a ha
    have := hb b hb'
    omega
  have hm : j ∈ ns.map Int.toNat := by
    rcases Classical.em (j ∈ ns.map Int.toNat) with c | c
    · exact c
    · exfalso
      have := nat_nodup_len (j :: ns.map Int.toNat) (List.range ns.length) (List.nodup_cons.mpr ⟨c, h1⟩) fun x hx => by
        rcases List.mem_cons.mp hx with e | hx
        · rw [e]; exact List.mem_range.mpr hj
        · obtain ⟨y, hy, rfl⟩ := List.mem_map.mp hx
          have := hb y hy
          exact List.mem_range.mpr (by omega)
      rw [List.length_cons, List.length_map, List.length_range] at this
      omega
  obtain ⟨y, hy, e⟩ := List.mem_map.mp hm
  have := hb y hy
  rw [show (j : Int) = y from by omega]
  exact hy
/-- each a number -/
def pSomeI : PV := fun x _ => ∃ k : Int, x = .int k
instance : Mo pSomeI := ⟨fun _ h => h⟩
theorem some_ints {α : Type} {H : Hp} : ∀ {as : List α} {xs : List V}, Paired (fun _ v => pSomeI v H) as xs → ∃ ns : List Int, Paired (fun n v => num n v H) ns xs
  | _, _, .nil => ⟨[], .nil⟩
  | _, _, .cons ⟨k, e⟩ t => by
    obtain ⟨ns, h⟩ := some_ints t
    exact ⟨k :: ns, .cons e h⟩
theorem zip_snd {α β : Type} : ∀ {l : List α} {m : List β}, l.length = m.length → (l.zip m).map Prod.snd = m
  | [], [], _ => rfl
  | a :: l, b :: m, h => by rw [List.zip_cons_cons, List.map_cons, zip_snd (by simpa using h)]
  | [], _ :: _, h => by simp at h
  | _ :: _, [], h => by simp at h
theorem sc_back_turn : FnScope ["turn", "seats", "place", "later"] ["turn"] d_back_turn.scope := ⟨rfl, rfl, rfl, by decide +kernel, rfl, by decide +kernel, by decide +kernel⟩
theorem fn_back_turn (T : Tz K mg) : Fn P w K mg base 1 "back_turn" (spBack K) := by
  refine fn_of T.h_back_turn T.g_back_turn rfl sc_back_turn (fun _ _ _ _ _ _ us hl => match us, hl with | [_], _ => rfl) (fun vs H Q E h => ?_) (BodyOk0.ok fun cdv A outer s H vs Q E hr h => ?_)
  · obtain ⟨_, _, _, _, p, _⟩ := h
    obtain ⟨⟨_, rfl, _⟩, _⟩ := p
    rfl
  refine ⟨_, pss_cons (ps_set (i := 1) sc_back_turn.nd rfl (Or.inr rfl) (L2.pe_dc (own := [("place", 2), ("later", 3)]) (g := gTup _ 2 (gCons (gName 2) (gCons (gName 3) gNil))) (tt := tYes) (by rfl) sc_back_turn.nd (pi_enumT (by rfl) T.b_enumerate (pa_cons (pv 0) pa_nil)) (blkOk_by (N := ["turn", "seats", "place", "later"]) (sc := d_back_turn.scope) (own := [("place", 2), ("later", 3)]) (by decide +kernel)) (fun _ _ _ _ _ => (pg_tup (by rfl) (pgs_cons (pg_name (i := 2) sc_back_turn.nd rfl (Or.inl rfl)) (pgs_cons (pg_name (i := 3) sc_back_turn.nd rfl (Or.inl rfl)) pgs_nil)))) (fun _ _ _ _ _ => pts_nil) (fun _ _ _ _ _ => (pv 3)) (fun _ _ _ _ _ => (pv 2))))
      (pss_one (ps_ret (pe_callTy call_tuple_of (by rfl) T.b_tuple boot_tuple (pa_cons (pe_lc (own := [("place", 2)]) (g := gName 2) (tt := tYes) (by rfl) sc_back_turn.nd (pi_range1 (by rfl) T.b_range (pa_cons (pe_callB call_len (by rfl) T.b_len boot_len (pa_cons (pv 0) pa_nil)) pa_nil)) (blkOk_by (N := ["turn", "seats", "place", "later"]) (sc := d_back_turn.scope) (own := [("place", 2)]) (by decide +kernel)) (fun _ _ _ _ _ => (pg_name (i := 2) sc_back_turn.nd rfl (Or.inl rfl))) (fun _ _ _ _ _ => pts_nil) (fun _ _ _ _ _ => (pe_dget (hu_of hr) (pv 1) (pv 2) (fun _ _ => rfl)))) pa_nil)))), h.body (N := ["turn", "seats", "place", "later"]) fun D a B p => ?_⟩
  · obtain ⟨⟨x, rfl, hx⟩, h6, hn, hb⟩ := p
    have hk : (((List.range a.length).zip a).map fun p => (Sum.inl p.2 : Key)).Nodup := by
      rw [show (fun p : Nat × Int => (Sum.inl p.2 : Key)) = (fun x => (Sum.inl x : Key)) ∘ Prod.snd from rfl, ← List.map_map, zip_snd (by rw [List.length_range])]
      exact List.pairwise_map.mpr (hn.imp fun h e => h (Sum.inl.inj e))
    refine es_set (P1 := pDic (fun p : Nat × Int => (Sum.inl p.2 : Key)) (fun p => numN p.1) ((List.range a.length).zip a)) (ev_dcL (R := fun p => pPr (numN p.1) (num p.2)) (el_enumT (R := num) (ev_var rfl hx)) (by rw [List.length_zip, List.length_range]; omega) hk fun c y B2 hc s2 hy => ?_) fun v B2 s2 hv => ?_
    · obtain ⟨x1, x2, h1, h2, hs⟩ := sets_pair hy (D := D) (K := K) (i := 2) (j := 3) (σ := wipe (start ["turn", "seats", "place", "later"] [x]) [2, 3])
      obtain rfl : x1 = _ := h1
      obtain rfl : x2 = _ := h2
      exact ⟨_, by rfl, hs, fun B3 s3 => ⟨ev_varE rfl, fun B4 s4 => ev_varE rfl⟩⟩
    · refine es_ret ((ev_tupleOf (R := fun _ : Nat => pSomeI) ((ev_lc1 (R' := fun _ : Nat => pSomeI) (el_range1 (j := (a.length : Nat)) (ea_oneE (ev_lenMT (ev_var rfl (Mo.mo (P := nms_ K a) s2 hx)))) (by omega) (by omega)) (by rw [List.length_range]; omega) (fun j y B3 hj s3 hy => ?_) (fun _ _ _ _ _ h => h)).imp fun v B4 _ h => pLst.map h)).imp fun v B4 _ ⟨p, xs, e1, hp, px⟩ => ?_)
      · obtain rfl : y = _ := hy
        have hj2 : j < a.length := by
          have := List.mem_range.mp hj
          omega
        obtain ⟨i, hi, ei⟩ := List.getElem_of_mem (perm_has hn hb j hj2)
        have hm : (i, (j : Int)) ∈ (List.range a.length).zip a := by
          refine List.mem_of_getElem? (i := i) ?_
          rw [List.getElem?_zip_eq_some]
          exact ⟨by rw [List.getElem?_range hi], by rw [List.getElem?_eq_getElem hi, ei]⟩
        exact (ev_dget (key := fun p : Nat × Int => (Sum.inl p.2 : Key)) (R := fun p => numN p.1) (a := (i, (j : Int))) (ev_var rfl (Mo.mo s3 hv)) hk hm fun B4 s4 => ev_varE rfl).imp fun v B4 _ h => ⟨_, h⟩
      · obtain ⟨ns, h⟩ := some_ints px
        exact ⟨ns, p, xs, e1, hp, h⟩
end
end CW
set_option Elab.async false
set_option linter.all false
set_option maxRecDepth 100000
set_option maxHeartbeats 1000000
/-! Lk: a known dict walked under its lock: d.items(), d.values(). -/
namespace CW
open PySem PySem.Spec PyProof.Rows L2
/-- stays, when a dict is locked -/
class Ml (P : PV) : Prop where
  ml : ∀ {v : V} {B : Hp} {d : Addr} {od : Obj} {kvs : List (Key × V)}, B d = some (.dK kvs) → P v B → P v (upd B d (.frz od (.dK kvs)))
/-- stays, when a dict is unlocked -/
class Mu (P : PV) : Prop where
  mu : ∀ {v : V} {B : Hp} {d : Addr} {od : Obj} {kvs : List (Key × V)}, B d = some (.frz od (.dK kvs)) → P v B → P v (upd B d (.dK kvs))
instance {v : V} : Ml (pEq v) := ⟨fun _ h => h⟩
instance {v : V} : Mu (pEq v) := ⟨fun _ h => h⟩
instance {i : Int} : Ml (num i) := ⟨fun _ h => h⟩
instance {i : Int} : Mu (num i) := ⟨fun _ h => h⟩
section
variable {K : PySem.W.Frag} {α : Type} {R R' : α → PV} {as : List α} {key : α → Key}
theorem rdT_lk {B : Hp} {d p : Addr} {o o2 : HO} {xs : List V} (h : B d = some o) (n1 : o ≠ .tup xs) (n2 : ∀ z, o ≠ .frz z (.tup xs)) (r : Rd B p (.tup xs)) : Rd (upd B d o2) p (.tup xs) := by
  have e : p ≠ d := fun z => by
    subst z
    rcases r with r | ⟨q, r⟩
    · rw [h] at r; exact n1 (Option.some.inj r)
    · rw [h] at r; exact n2 _ (Option.some.inj r)
  rcases r with r | ⟨q, r⟩
  · exact .inl (by rw [upd_ne e]; exact r)
  · exact .inr ⟨q, by rw [upd_ne e]; exact r⟩
instance [∀ a, Ml (R a)] : Ml (pMapT K R as) := ⟨fun h ⟨p, xs, e, hx, pr⟩ => ⟨p, xs, e, by
  rcases hx with hx | hx
  · exact .inl (rdT_lk h (fun z => nomatch z) (fun _ z => nomatch z) hx)
  · exact .inr hx, Paired.mono (fun a v r => Ml.ml h r) pr⟩⟩
instance [∀ a, Mu (R a)] : Mu (pMapT K R as) := ⟨fun h ⟨p, xs, e, hx, pr⟩ => ⟨p, xs, e, by
  rcases hx with hx | hx
  · exact .inl (rdT_lk h (fun z => nomatch z) (fun _ z => by injection z with _ z; cases z) hx)
  · exact .inr hx, Paired.mono (fun a v r => Mu.mu h r) pr⟩⟩
instance [∀ a, Mu (R a)] : Mu (pDic key R as) := ⟨fun {v B d od kvs} h ⟨p, kw, e, hx, pr⟩ => ⟨p, kw, e, by
  rw [upd_ne (fun z : p = d => by subst z; rw [h] at hx; cases hx)]; exact hx, Paired.mono (fun a v r => ⟨r.1, Mu.mu h r.2⟩) pr⟩⟩
instance [∀ a, Mu (R a)] : Mu (pLst K R as) := ⟨fun {v B d od kvs} h ⟨p, kw, e, hx, pr⟩ => ⟨p, kw, e, by
  rw [upd_ne (fun z : p = d => by subst z; rw [h] at hx; cases hx)]; exact hx, Paired.mono (fun a v r => Mu.mu h r) pr⟩⟩
instance [∀ a, Mu (R a)] : Mu (pEx (fun _ : α => True) R) := ⟨fun h ⟨a, t, r⟩ => ⟨a, t, Mu.mu h r⟩⟩
variable {D : Dm} {σ : L2.St} {B : Hp} {t td : TE} {P : PV}
/-- a locked dict -/
def pFrz (key : α → Key) (R : α → PV) (as : List α) : PV := fun x H => ∃ d o kvs, x = .ref d ∧ H d = some (.frz o (.dK kvs)) ∧ Paired (fun a (kv : Key × V) => kv.1 = key a ∧ R a kv.2 H) as kvs
instance [∀ a, Mo (R a)] : Mo (pFrz key R as) := ⟨fun e ⟨p, o, kvs, h1, h2, h3⟩ => ⟨p, o, kvs, h1, e _ _ h2, Paired.mono (fun a kv h => ⟨h.1, Mo.mo e h.2⟩) h3⟩⟩
theorem ev_lock [∀ a, Ml (R a)] [Mu P] {x : V} (hx : pDic key R as x B)
    (h : ∀ d od kvs, x = .ref d → B d = some (.dK kvs) → pFrz key R as x (upd B d (.frz od (.dK kvs))) → EvR D t σ (upd B d (.frz od (.dK kvs))) P) : EvR D (tLockE t) σ B P := fun H a Q q => by
  obtain ⟨d, kvs, rfl, hd, pr⟩ := hx
  have hD : ¬ D.ds d := fun z => by rw [a.off d z] at hd; cases hd
  refine ⟨d, .dK kvs, a.sm _ _ hd, trivial, fun od => ?_⟩
  have a1 : At D (upd B d (.frz od (.dK kvs))) (upd H d (.frz od (.dK kvs))) := ⟨fun b hb => by
      rw [upd_ne (fun z : b = d => hD (by rw [← z]; exact hb))]; exact a.off b hb, fun b o e => by
      by_cases z : b = d
      · subst z; rw [upd_same] at e; rw [upd_same]; exact e
      · rw [upd_ne z] at e; rw [upd_ne z]; exact a.sm b o e, D.loc (fun b hb => upd_ne fun z : b = d => hD (by rw [← z]; exact hb)) a.inv⟩
  refine h d od kvs rfl hd ⟨d, od, kvs, rfl, upd_same, Paired.mono (fun a kv r => ⟨r.1, Ml.ml hd r.2⟩) pr⟩ _ a1 _ fun v B2 H2 e p => ?_
  have b2 := e.bs d _ upd_same
  refine ⟨e.at2.sm d _ b2, q v (upd B2 d (.dK kvs)) (upd H2 d (.dK kvs)) ⟨fun b o hb => ?_, ⟨fun b hb => ?_, fun b o eb => ?_, D.loc (fun b hb => upd_ne fun z : b = d => hD (by rw [← z]; exact hb)) e.at2.inv⟩, fun b o hb nb => ?_, fun b h1 h2 => ?_⟩ (Mu.mu b2 p)⟩
  · by_cases z : b = d
    · subst z; rw [upd_same]; rw [hd] at hb; exact hb
    · rw [upd_ne z]; exact e.bs b o (by rw [upd_ne z]; exact hb)
  · rw [upd_ne (fun z : b = d => hD (by rw [← z]; exact hb))]; exact e.at2.off b hb
  · by_cases z : b = d
    · subst z; rw [upd_same] at eb; rw [upd_same]; exact eb
    · rw [upd_ne z] at eb; rw [upd_ne z]; exact e.at2.sm b o eb
  · by_cases z : b = d
    · subst z; rw [upd_same]; rw [a.sm _ _ hd] at hb; exact hb
    · rw [upd_ne z]; exact e.x b o (by rw [upd_ne z]; exact hb) nb
  · have z : b ≠ d := fun z => by rw [z, hd] at h2; cases h2
    rw [upd_ne z]; exact e.fr b (by rw [upd_ne z]; exact h1) (by rw [upd_ne z]; exact h2)
theorem walk_items {d : Addr} {o : Obj} {kvs : List (Key × V)} : Walk (Iti d o kvs) kvs.length (fun H => H d = some (.frz o (.dK kvs))) (Iti d o kvs).yld := ⟨fun i H hi q => ⟨q, hi⟩, fun H q => ⟨q, Nat.le_refl _⟩, fun i H v H' _ _ y => y⟩
theorem walk_vals {d : Addr} {o : Obj} {kvs : List (Key × V)} : Walk (Itd d o kvs) kvs.length (fun H => H d = some (.frz o (.dK kvs))) (Itd d o kvs).yld := ⟨fun i H hi q => ⟨q, hi⟩, fun H q => ⟨q, Nat.le_refl _⟩, fun i H v H' _ _ y => y⟩
theorem el_items [∀ a, Mo (R a)] (h : EvR D td σ B (pFrz key R as)) : EvL D (iItems td) σ B as (fun a => pPr (pEq (kV (key a))) (R a)) := fun H a R' r =>
  h H a _ fun v B2 H2 e ⟨d, o, kvs, e1, hd, pr⟩ => ⟨d, o, kvs, e1, e.at2.sm _ _ hd, by
    refine r (Iti d o kvs) B2 H2 _ _ e (fun _ _ s q => s _ _ q) (by rw [pr.length]; exact walk_items) hd fun i B3 hi s3 H3 v H4 a3 y3 => ?_
    obtain ⟨T, k, x, hx, rfl, hT, e4⟩ := y3
    obtain ⟨b, hb, rb⟩ := Paired.get pr hx
    have s4 : Same B2 (upd B3 T (.tup [kV k, x])) := s3.trans (Same.new (a3.sm.free hT))
    exact ⟨_, gives_new a3 hT e4, b, hb, T, _, _, rfl, upd_same, congrArg kV rb.1, Mo.mo s4 rb.2⟩⟩
theorem el_values [∀ a, Mo (R a)] (h : EvR D td σ B (pFrz key R as)) : EvL D (iVals td) σ B as R := fun H a R' r =>
  h H a _ fun v B2 H2 e ⟨d, o, kvs, e1, hd, pr⟩ => ⟨d, o, kvs, e1, e.at2.sm _ _ hd, by
    refine r (Itd d o kvs) B2 H2 _ _ e (fun _ _ s q => s _ _ q) (by rw [pr.length]; exact walk_vals) hd fun i B3 hi s3 H3 v H4 a3 y3 => ?_
    obtain ⟨rfl, k, hx⟩ := y3
    obtain ⟨b, hb, rb⟩ := Paired.get pr hx
    exact ⟨B3, Stp.refl a3, b, hb, Mo.mo s3 rb.2⟩⟩
end
end CW
set_option Elab.async false
set_option linter.all false
set_option maxRecDepth 100000
set_option maxHeartbeats 1000000
/-! Mks2: an __init__ that reads what it has stored. -/
namespace CW
open PySem PySem.Spec PyProof.Rows L2
def del (B : Hp) (x : Addr) : Hp := fun b => if b = x then none else B b
theorem del_ne {B : Hp} {x b : Addr} (h : b ≠ x) : del B x b = B b := if_neg h
theorem del_same {B : Hp} {x : Addr} : del B x x = none := if_pos rfl
/-- an instance, or its dict -/
def Ino (o : HO) : Prop := (∃ C dx fs, o = .ins C dx fs) ∨ ∃ x, o = .own x
/-- stays, when an instance (or its dict) is forgotten -/
class Mf (P : PV) : Prop where
  mf : ∀ {v : V} {B : Hp} {p : Addr} {o : HO}, B p = some o → Ino o → P v B → P v (del B p)
instance {v : V} : Mf (pEq v) := ⟨fun _ _ h => h⟩
instance {i : Int} : Mf (num i) := ⟨fun _ _ h => h⟩
theorem pe_slK {X : Cx} {K : PySem.W.Frag} {e : Expr} {ta : TE} {f : Str} {pos : Pos} (hK : X.K = K) (he : PE X e ta) (hb : attributeBase e f X.env (eval e X.env) = eval e X.env := by rfl) : PE X (.Attribute e f pos) (SlX.tSl K ta f) := hK ▸ SlX.pe_sl he hb
theorem pe_fldK {X : Cx} {K : PySem.W.Frag} {e : Expr} {ta : TE} {f : Str} {pos : Pos} (hK : X.K = K) (he : PE X e ta) (hb : attributeBase e f X.env (eval e X.env) = eval e X.env) : PE X (.Attribute e f pos) (tFld K ta f) := hK ▸ pe_fld he hb
section
variable {K : PySem.W.Frag} {α : Type} {R : α → PV} {as : List α} {key : α → Key}
theorem ino_ne {o u : HO} (h : Ino o) (n1 : ∀ C dx fs, u ≠ .ins C dx fs) (n2 : ∀ x, u ≠ .own x) : u ≠ o := fun z => by
  subst z
  rcases h with ⟨_, _, _, h⟩ | ⟨_, h⟩
  · exact n1 _ _ _ h
  · exact n2 _ h
theorem del_at {B : Hp} {p b : Addr} {o u : HO} (h : B p = some o) (n : u ≠ o) (e : B b = some u) : del B p b = some u := by
  rw [del_ne (fun z : b = p => by subst z; rw [h] at e; exact n (Option.some.inj e).symm)]; exact e
instance [∀ a, Mf (R a)] : Mf (pMapT K R as) := ⟨fun h i ⟨p, xs, e, hx, pr⟩ => ⟨p, xs, e, by
  rcases hx with (hx | ⟨z, hx⟩) | hx
  · exact .inl (.inl (del_at h (ino_ne i (fun _ _ _ z => nomatch z) (fun _ z => nomatch z)) hx))
  · exact .inl (.inr ⟨z, del_at h (ino_ne i (fun _ _ _ z => nomatch z) (fun _ z => nomatch z)) hx⟩)
  · exact .inr hx, Paired.mono (fun a v r => Mf.mf h i r) pr⟩⟩
instance [∀ a, Mf (R a)] : Mf (pDic key R as) := ⟨fun h i ⟨p, kw, e, hx, pr⟩ => ⟨p, kw, e, del_at h (ino_ne i (fun _ _ _ z => nomatch z) (fun _ z => nomatch z)) hx, Paired.mono (fun a v r => ⟨r.1, Mf.mf h i r.2⟩) pr⟩⟩
instance [∀ a, Mf (R a)] : Mf (pLst K R as) := ⟨fun h i ⟨p, kw, e, hx, pr⟩ => ⟨p, kw, e, del_at h (ino_ne i (fun _ _ _ z => nomatch z) (fun _ z => nomatch z)) hx, Paired.mono (fun a v r => Mf.mf h i r) pr⟩⟩
variable {D : Dm} {σ : L2.St} {B H : Hp} {x dx C : Addr} {o d : HO} {te ta : TE} {P : PV} {f : Str} {fs : List (Str × V)} {u : TS} {Ds : Ends} {Q : V → Hp → Prop}
/-- an expression, read while the new thing is known -/
theorem Mkg.ev [Mf P] (m : Mkg D B H x dx o d) (io : Ino o) (id : Ino d) (h : EvR D te σ (upd (upd B dx d) x o) P) (q : ∀ v B2 H2, Stp D B H B2 H2 → P v B2 → Q v H2) : te σ H Q := by
  have n1 : upd B dx d x = none := by rw [upd_ne (Ne.symm m.ne)]; exact m.bx
  refine h H ((m.at_.know m.dc m.bd m.nd).know m.ob n1 m.nx) _ fun v B2 H2 e p => ?_
  have ex : B2 x = some o := e.bs x o upd_same
  have ed : B2 dx = some d := e.bs dx d (by rw [upd_ne m.ne, upd_same])
  have ed' : del B2 x dx = some d := by rw [del_ne m.ne]; exact ed
  refine q v (del (del B2 x) dx) H2 ⟨fun b u hb => ?_, ⟨fun b hb => ?_, fun b u eb => ?_, e.at2.inv⟩, e.x, fun b h1 h2 => ?_⟩ (Mf.mf ed' id (Mf.mf ex io p))
  · have b1 : b ≠ x := ne_of_none hb m.bx
    have b2 : b ≠ dx := ne_of_none hb m.bd
    rw [del_ne b2, del_ne b1]
    exact e.bs b u (by rw [upd_ne b1, upd_ne b2]; exact hb)
  · have b1 : b ≠ x := fun z => m.nx (by rw [← z]; exact hb)
    have b2 : b ≠ dx := fun z => m.nd (by rw [← z]; exact hb)
    rw [del_ne b2, del_ne b1]
    exact e.at2.off b hb
  · by_cases b2 : b = dx
    · subst b2; rw [del_same] at eb; cases eb
    · rw [del_ne b2] at eb
      by_cases b1 : b = x
      · subst b1; rw [del_same] at eb; cases eb
      · rw [del_ne b1] at eb; exact e.at2.sm b u eb
  · by_cases b2 : b = dx
    · subst b2; exact del_same
    · by_cases b1 : b = x
      · subst b1; rw [del_ne b2]; exact del_same
      · rw [del_ne b2, del_ne b1]; exact e.fr b h1 (by rw [upd_ne b1, upd_ne b2]; exact h2)
/-- self.f = e, where e reads self; the rest -/
theorem st_fldS [Mf P] (c : Cls K C) (na : NoAttr K C f) (hfs : fs.length < 1000) (id : Ino d) (m : Mkg D B H x dx (.ins C dx fs) d) (h : EvR D te σ (upd (upd B dx d) x (.ins C dx fs)) P) (hs : ta = tVar 0) (h0 : σ[0]? = some (some (.ref x)))
    (k : ∀ v B2 H2, Same B B2 → Mkg D B2 H2 x dx (.ins C dx (putF f v fs)) d → (∀ B0 H0, Mkd D x dx B0 H0 B H → Mkd D x dx B0 H0 B2 H2) → P v B2 → u Ds σ H2) : tSeq (sFld K ta te f) u Ds σ H := by
  subst hs
  exact m.ev (.inl ⟨_, _, _, rfl⟩) id h fun v B2 H2 e p => ⟨.ref x, h0, x, C, dx, fs, rfl, e.x x _ m.ob m.nx, c, na, hfs, k v B2 _ e.bs (m.stp e).put (fun B0 H0 md => (md.stp m.at_.inv e).put) p⟩
theorem st_fldSL [Mf P] (c : Cls K C) (na : NoAttr K C f) (hfs : fs.length < 1000) (id : Ino d) (m : Mkg D B H x dx (.ins C dx fs) d) (h : EvR D te σ (upd (upd B dx d) x (.ins C dx fs)) P) (hs : ta = tVar 0) (h0 : σ[0]? = some (some (.ref x)))
    (k : ∀ v B2 H2, Same B B2 → Mkg D B2 H2 x dx (.ins C dx (putF f v fs)) d → (∀ B0 H0, Mkd D x dx B0 H0 B H → Mkd D x dx B0 H0 B2 H2) → P v B2 → Ds.nx σ H2) : sFld K ta te f Ds σ H := by
  subst hs
  exact m.ev (.inl ⟨_, _, _, rfl⟩) id h fun v B2 H2 e p => ⟨.ref x, h0, x, C, dx, fs, rfl, e.x x _ m.ob m.nx, c, na, hfs, k v B2 _ e.bs (m.stp e).put (fun B0 H0 md => (md.stp m.at_.inv e).put) p⟩
end
end CW
set_option Elab.async false
set_option linter.all false
set_option maxRecDepth 100000
set_option maxHeartbeats 4000000
/-! W21: Box.__init__. -/
namespace CW
open PySem PySem.Spec PyProof.Rows L2 TL
abbrev bC (K : PySem.W.Frag) : Addr := He.ga K "Box"
def boxF (b : BD) (u k p : V) : List (Str × V) := [("own_letters", .str b.L), ("own_turns", u), ("own_backs", k), ("own_places", p)]
def pBox (K : PySem.W.Frag) (b : BD) : PV := fun x H => ∃ a dx u k p, x = .ref a ∧ H a = some (.ins (bC K) dx (boxF b u k p)) ∧ tns K b.ct u H
instance {K : PySem.W.Frag} {b : BD} : Mo (pBox K b) := ⟨fun e ⟨a, dx, u, k, p, h1, h2, h3⟩ => ⟨a, dx, u, k, p, h1, e _ _ h2, Mo.mo e h3⟩⟩
def boxPost (K : PySem.W.Frag) (b : BD) (x dx : Addr) (o d : HO) (B : Hp) : Prop := ∃ u k p, o = .ins (bC K) dx (boxF b u k p) ∧ d = .own x ∧ tns K b.ct u B
def spBoxI (K : PySem.W.Frag) : Sp := ISp (insO (bC K)) ownO (fun (a : BD × Nat) ws B => twoArgs K a.1 ws B ∧ a.1.Ok a.2) (fun a => boxPost K a.1)
instance {K : PySem.W.Frag} : Mf (pSomeT K) := ⟨fun h i ⟨ns, q⟩ => ⟨ns, Mf.mf h i q⟩⟩
instance : Mf pAny := ⟨fun _ _ h => h⟩
instance {K : PySem.W.Frag} : Mu (pSomeT K) := ⟨fun h ⟨ns, q⟩ => ⟨ns, Mu.mu h q⟩⟩
section
variable {P : Program} {w : World} {K : PySem.W.Frag} {mg : Str → Option Value} {base : Heap} {D : Dm} {σ : L2.St} {B H : Hp} {te ta tk : TE}
theorem ev_tur {b : BD} {v : V} {pa : Addr} {i : Nat} {f : Str} {Pw : PV} [Mo Pw] (T : Tz K mg) (t : SlX.Slot1 K (tC_ K) f pa i) (h : EvR D te σ B (pTur K b))
    (hw : ∀ d H, tns K b.ct d H → ∃ w, [some (.str b.L), some d][i]? = some (some w) ∧ Pw w H) : EvR D (SlX.tSl K te f) σ B Pw :=
  ev_slot T.sc_Turns t (h.imp fun v B2 _ ⟨a, dx, d, e1, hs, h3⟩ => by
    obtain ⟨w, hw1, hw2⟩ := hw d B2 h3
    exact ⟨a, dx, _, w, e1, hs, hw1, hw2⟩) fun w H1 H2 e p => Mo.mo e p
theorem EvL.unmap {α β : Type} {f : α → β} {R : β → PV} {as : List α} {wi : TI} (h : EvL D wi σ B (as.map f) R) : EvL D wi σ B as (fun a => R (f a)) := by
  unfold EvL at *
  rw [List.length_map] at h
  refine h.imp fun i x B2 _ _ ⟨c, h1, h2⟩ => ?_
  rw [List.getElem?_map] at h1
  obtain ⟨a, ha, rfl⟩ := Option.map_eq_some_iff.mp h1
  exact ⟨a, ha, h2⟩
theorem paired_mapR {α β : Type} {F : α → β → Prop} {f : α → β} : ∀ {l : List α}, (∀ a ∈ l, F a (f a)) → Paired F l (l.map f)
  | [], _ => .nil
  | a :: l, h => .cons (h a List.mem_cons_self) (paired_mapR fun b hb => h b (List.mem_cons_of_mem _ hb))
theorem ev_listRg {n : Nat} (h : EvR D te σ B (pEq (.int (n : Nat)))) (hn : n ≤ 100000) : EvR D (tLstRg (tRg1 te)) σ B (pLst K numN (List.range n)) := fun H a Q q =>
  h H a _ fun v B2 H2 e hv => by
    obtain rfl : v = _ := hv
    refine ⟨(n : Nat), rfl, RgOk.of_le (by omega) (by omega) (by omega) (by omega), fun p hp => q _ _ _ (e.trans (Stp.made e.at2 hp)) ⟨p, _, rfl, upd_same, ?_⟩⟩
    unfold rgV
    rw [show ((n : Int) - 0).toNat = n from by omega]
    exact paired_mapR fun i _ => congrArg V.int (Int.zero_add _)
theorem sc_Box_init : FnScope ["self", "letters", "turns", "held", "letter", "turn"] ["self", "letters", "turns"] d_Box_init.scope := ⟨rfl, rfl, rfl, by decide +kernel, rfl, by decide +kernel, by decide +kernel⟩
theorem bd_Box (T : Tz K mg) : BodyOk P w K mg base ["self", "letters", "turns", "held", "letter", "turn"] d_Box_init 4 (spBoxI K) := by
  refine BodyOk0.ok fun cdv A outer s H vs Q E hr h => ?_
  refine ⟨_, pss_cons (ps_set (i := 3) sc_Box_init.nd rfl (Or.inr rfl) (pe_ifExp (pt_val (pe_callB call_isi (by rfl) T.b_isinstance boot_isinstance (pa_cons (pv 1) (pa_cons (pe_glob (v := .ref (He.ga K "Turns")) (by rfl) T.g_Turns rfl) pa_nil)))) (pv 1) (pe_fn (fn_checkedB T) (hr.mono (by decide)) passL (pa_cons (pv 1) (pa_cons (pv 2) pa_nil)))))
      (pss_cons (ps_fld (pv 0) (SlX.pe_sl (pv 3)) rfl)
      (pss_cons (ps_fld (pv 0) (L2.pe_dc (own := [("letter", 4)]) (g := gName 4) (tt := tYes) (by rfl) sc_Box_init.nd (pi_str (SlX.pe_sl (pv 3))) (blkOk_by (N := ["self", "letters", "turns", "held", "letter", "turn"]) (sc := d_Box_init.scope) (own := [("letter", 4)]) (by decide +kernel)) (fun _ _ _ _ _ => (pg_name (i := 4) sc_Box_init.nd rfl (Or.inl rfl))) (fun _ _ _ _ _ => pts_nil) (fun _ _ _ _ _ => (pv 4)) (fun _ _ _ _ _ => (pe_dget (hu_of hr) (pe_slK (K := K) (by rfl) (pv 3)) (pv 4) (fun _ _ => rfl)))) rfl)
      (pss_cons (ps_fld (pv 0) (pe_lock (L2.pe_dc (own := [("letter", 4), ("turn", 5)]) (g := gTup _ 2 (gCons (gName 4) (gCons (gName 5) gNil))) (tt := tYes) (by rfl) sc_Box_init.nd (pi_items (pe_fld (pv 0) rfl)) (blkOk_by (N := ["self", "letters", "turns", "held", "letter", "turn"]) (sc := d_Box_init.scope) (own := [("letter", 4), ("turn", 5)]) (by decide +kernel)) (fun _ _ _ _ _ => (pg_tup (by rfl) (pgs_cons (pg_name (i := 4) sc_Box_init.nd rfl (Or.inl rfl)) (pgs_cons (pg_name (i := 5) sc_Box_init.nd rfl (Or.inl rfl)) pgs_nil)))) (fun _ _ _ _ _ => pts_nil) (fun _ _ _ _ _ => (pv 4)) (fun _ _ _ _ _ => (pe_fn (fn_back_turn T) (hr.mono (by decide)) passL (pa_cons (pv 5) pa_nil))))) rfl)
      (pss_one (ps_fld (pv 0) (pe_callTy call_tuple_of (by rfl) T.b_tuple boot_tuple (pa_cons (pe_listRg (by rfl) (by rfl) T.b_list (prg_1 (by rfl) T.b_range (pe_callB call_len (by rfl) T.b_len boot_len (pa_cons (pe_dget (hu_of hr) (pe_fld (pv 0) rfl) (pe_ix ix_str (pe_fld (pv 0) rfl) pe_int (fun _ _ => rfl)) (fun _ _ => rfl)) pa_nil)))) pa_nil)) rfl))))), ?_⟩
  obtain ⟨D, B, x, dx, ⟨b, n⟩, ws, rfl, m, ⟨⟨d, rfl, hd⟩, ok⟩, q⟩ := h
  dsimp only at hd ok
  have l3 := ok.len3
  have cl := ok.clen
  have cc := ok.c
  have n1 := ok.m1
  have n6 := ok.m6
  refine st_set (P := pTur K b) m ?_ fun v B2 H2 s2 m2 d2 p2 => ?_
  · refine ev_if (Pb := is false) (et_B ?_) (fun z => nomatch z) fun _ B2 s2 => ?_
    · exact ev_isi (K := K) (x := .str b.L) (ev_varE rfl) (fun _ _ => ev_c) (.own _) ⟨_, .base (.str b.L), T.ks_Turns⟩
    exact (ev_psp (Post := fun a : BD × Nat => pTur K a.1) (b, n) (ea_consE (ev_varE rfl) fun _ _ => ea_oneE (ev_varE rfl)) fun vs B3 s3 r => ⟨⟨d, r, Mo.mo (s2.trans s3) hd⟩, ok⟩).imp fun _ _ _ h => h
  have tv : ∀ {f : Str} {pa : Addr} {i : Nat} {Pw : PV} [Mo Pw] {σ : L2.St} (B3), Same B2 B3 → σ[3]? = some (some v) → SlX.Slot1 K (tC_ K) f pa i → (∀ d H, tns K b.ct d H → ∃ w, [some (.str b.L), some d][i]? = some (some w) ∧ Pw w H) → EvR D (SlX.tSl K (tVar 3) f) σ B3 Pw := fun B3 s3 h t hw => ev_tur (v := v) T t (ev_var h (Mo.mo s3 p2)) hw
  refine st_fld T.cl_Box T.na_Box_own_letters (by decide) m2 (tv (Pw := pEq (.str b.L)) B2 (Same.refl _) rfl T.sl_Turns_own_letters fun d H _ => ⟨_, rfl, rfl⟩) rfl rfl fun v3 B3 H3 s3 m3 d3 p3 => ?_
  obtain rfl : v3 = _ := p3
  refine st_fld T.cl_Box T.na_Box_own_turns (by show (1:Nat) < 1000; omega) m3 (P := tns K b.ct) ?_ rfl rfl fun u B4 H4 s4 m4 d4 p4 => ?_
  · refine ev_dcL (R := fun a : Lt1 => sgn a.1) ?_ (by omega) ok.kd fun a y B4 ha s4 hy => ?_
    · exact EvL.unmap (f := fun a : Lt1 => a.1) (R := sgn) (by rw [← cc]; exact el_str (tv (Pw := pEq (.str b.L)) B3 s3 rfl T.sl_Turns_own_letters fun d H _ => ⟨_, rfl, rfl⟩))
    · obtain rfl : y = _ := hy
      refine ⟨_, by rfl, sets_name, fun B5 s5 => ⟨ev_varE (by rfl), fun B6 s6 => ?_⟩⟩
      refine EvR.imp (ev_dget (key := bkey) (R := fun a => nms_ K a.2) (a := a) (tv (Pw := tns K b.ct) B6 (((s3.trans s4).trans s5).trans s6) rfl T.sl_Turns_own_turns fun d H h => ⟨_, rfl, h⟩) ok.kd ha fun B7 s7 => ?_) fun _ _ _ h => h
      exact ev_varE rfl
  refine st_fldS T.cl_Box T.na_Box_own_backs (by show (2:Nat) < 1000; omega) (.inr ⟨_, rfl⟩) m4 (P := pDic bkey (fun _ => pSomeT K) b.ct) ?_ rfl rfl fun bk B5 H5 s5 m5 d5 p5 => ?_
  · have hs4 : Same B4 (upd (upd B4 dx (ownO x dx)) x (.ins (bC K) dx [("own_letters", .str b.L), ("own_turns", u)])) := (Same.new m4.bd).trans (Same.new (by rw [upd_ne (Ne.symm m4.ne)]; exact m4.bx))
    refine ev_lock (key := bkey) (R := fun a => nms_ K a.2) (Mo.mo hs4 p4) fun dd od kvs e hdd pf => ?_
    have hxd : x ≠ dd := fun z => by rw [← z, upd_same] at hdd; cases hdd
    refine ev_dcL (R := fun a : Lt1 => pPr (pEq (kV (bkey a))) (nms_ K a.2)) (el_items (ev_fld T.cl_Box T.na_Box_own_turns (ev_var rfl ⟨x, dx, _, u, rfl, by rw [upd_ne hxd]; exact upd_same, rfl, pf⟩))) (by omega) ok.kd fun a y B6 ha s6 hy => ?_
    obtain ⟨x1, x2, h1, h2, hset⟩ := sets_pair hy (D := D) (K := K) (i := 4) (j := 5) (σ := wipe ((start ["self", "letters", "turns", "held", "letter", "turn"] [.ref x, .str b.L, d]).set 3 (some v)) [4, 5])
    obtain rfl : x1 = _ := h1
    refine ⟨_, by rfl, hset, fun B7 s7 => ⟨ev_varE rfl, fun B8 s8 => ?_⟩⟩
    exact (ev_psp (Post := fun _ : List Int => pSomeT K) a.2 (ea_oneE (ev_varE rfl)) fun vs B9 s9 r => ⟨⟨x2, r, Mo.mo ((s7.trans s8).trans s9) h2⟩, by rw [ok.len a ha]; exact n6, ok.nd a ha, by rw [ok.len a ha]; exact ok.bd a ha⟩).imp fun _ _ _ h => h
  refine st_fldSL T.cl_Box T.na_Box_own_places (by show (3:Nat) < 1000; omega) (.inr ⟨_, rfl⟩) m5 (P := pAny) ?_ rfl rfl fun pl B6 H6 s6 m6 d6 p6 => ?_
  · have hs5 : Same B5 (upd (upd B5 dx (ownO x dx)) x (.ins (bC K) dx [("own_letters", .str b.L), ("own_turns", u), ("own_backs", bk)])) := (Same.new m5.bd).trans (Same.new (by rw [upd_ne (Ne.symm m5.ne)]; exact m5.bx))
    obtain ⟨a0, r0, ec⟩ : ∃ a0 r0, b.ct = a0 :: r0 := by
      cases h : b.ct with
      | nil => rw [h] at cl; simp at cl; omega
      | cons a r => exact ⟨a, r, rfl⟩
    have h0 : a0 ∈ b.ct := by rw [ec]; exact List.mem_cons_self
    refine EvR.imp (ev_tupleOf (R := numN) ((ev_listRg (n := n) ?_ (by omega)).imp fun _ _ _ h => pLst.map h)) fun _ _ _ _ => trivial
    refine (ev_lenMT (R := num) (as := a0.2) ?_).to (by rw [ok.len a0 h0])
    refine EvR.imp (ev_dget (key := bkey) (R := fun a => nms_ K a.2) (a := a0) (as := b.ct) (ev_fld T.cl_Box T.na_Box_own_turns (ev_var rfl ⟨x, dx, _, u, rfl, upd_same, rfl, Mo.mo (s5.trans hs5) p4⟩)) ok.kd h0 fun B7 s7 => ?_) fun _ _ _ h => h
    refine ev_ixS (c := a0.1) (z := b.L) (ev_fld T.cl_Box T.na_Box_own_letters (ev_var rfl ⟨x, dx, _, _, rfl, s7 _ _ upd_same, rfl, rfl⟩)) (fun _ _ => ev_c) (Nat.le_trans (Nat.le_trans l3.1 (by decide : (3:Nat) ≤ 100000)) (by decide)) (by decide) ?_
    show (cs b.L)[0]? = some a0.1
    rw [cc, ec] <;> rfl
  exact q B6 H6 _ _ m6 (d6 _ _ (d5 _ _ (d4 _ _ (d3 _ _ (d2 _ _ Mkd.refl))))) ⟨u, bk, pl, rfl, rfl, Mo.mo (s5.trans s6) p4⟩
end
end CW
set_option Elab.async false
set_option linter.all false
set_option maxRecDepth 100000
set_option maxHeartbeats 1000000
/-! DEq: dicts of known things compared; dict(d); great powers; a property read by its own text. -/
namespace CW
open PySem PySem.Spec PyProof.Rows L2
section
variable {X : Cx}
/-- equal dicts of nested data -/
def rEqDD (K : PySem.W.Frag) : R2 := fun x y H Q => ∃ a b ks ls, x = .ref a ∧ y = .ref b ∧ H a = some (.dK ks) ∧ H b = some (.dK ls) ∧ ks.length = ls.length ∧ (∀ p ∈ ks, ∃ v d, valV ls p.1 = some v ∧ Dp K H p.2 d ∧ Dp K H v d ∧ SeqAt.shaped d = true) ∧ Q (.bl true) H
def rNeDD (K : PySem.W.Frag) : R2 := fun x y H Q => ∃ a b ks ls, x = .ref a ∧ y = .ref b ∧ H a = some (.dK ks) ∧ H b = some (.dK ls) ∧ ks.length = ls.length ∧ (∀ p ∈ ks, ∃ v d, valV ls p.1 = some v ∧ Dp K H p.2 d ∧ Dp K H v d ∧ SeqAt.shaped d = true) ∧ Q (.bl false) H
theorem hits_dp {pins : List (Addr × Obj)} {σ : L2.St} {s : Shared} {H : Hp} (I : Inv X pins σ H s) (hu : X.A.in1.units + 64 < cLine) {kvs : List (Key × V)} {vb : List (Key × Value)} (rb : KV kvs vb) {ks : List (Key × V)} {va : List (Key × Value)} (ra : KV ks va) :
    (∀ p ∈ ks, ∃ v d, valV kvs p.1 = some v ∧ Dp X.K H p.2 d ∧ Dp X.K H v d ∧ SeqAt.shaped d = true) → PySem.W.KeqHits X.A.in1 s vb va true := by
  unfold KV at ra
  induction ra with
  | nil => intro _; exact .nil
  | @cons p q ps qs h t ih =>
    intro hp
    obtain ⟨h1, h2⟩ := h
    obtain ⟨w, d, e, dp, dw, sd⟩ := hp p List.mem_cons_self
    have rr : RelO (some w) (valueAt vb p.1) := by rw [← e]; exact rb.val p.1
    obtain ⟨y, hy, ry⟩ := rr.some_of
    obtain ⟨k, v⟩ := q
    have h1' : p.1 = k := h1
    rw [h1'] at hy
    obtain ⟨as, q1⟩ := Dp.reads I d p.2 v dp h2
    obtain ⟨bs, q2⟩ := Dp.reads I d w y dw ry
    have eq := PySem.W.keq_at (A := X.A) q1 q2 sd sd hu
    rw [SeqAt.eqv_refl _ (SeqAt.canLay_of_shaped sd)] at eq
    show PySem.W.KeqHits X.A.in1 s vb ((k, v) :: qs) (true && true)
    exact .hit hy eq (ih fun p' hm => hp p' (List.mem_cons_of_mem _ hm))
theorem op_eqDD (hu : X.A.in1.units + 64 < cLine) (hu0 : X.A.units < cLine) : OpR X (compareOp .Eq) (rEqDD X.K) := by
  intro pins s σ H x y v u Q I rx ry h
  obtain ⟨a, b, ks, ls, rfl, rfl, ea, eb, hlen, hp, q⟩ := h
  obtain rfl : v = Value.ref a := rx
  obtain rfl : u = Value.ref b := ry
  obtain ⟨_, ya, va, ra, da⟩ := (show ObjOk X.prog X.w H s.heap a (.dK ks) from I.hok a _ ea)
  obtain ⟨_, yb, vb, rb, db⟩ := (show ObjOk X.prog X.w H s.heap b (.dK ls) from I.hok b _ eb)
  have hl : va.length = vb.length := by rw [← ra.length, ← rb.length]; exact hlen
  exact PySem.W.keq_eq (knd := mixKind X.prog X.w) (r := true) ya yb da db hu0 (fun _ => hits_dp I hu rb ra hp) (fin_bl I q (by simp [hl]))
theorem op_neDD (hu : X.A.in1.units + 64 < cLine) (hu0 : X.A.units < cLine) : OpR X (compareOp .NotEq) (rNeDD X.K) := by
  intro pins s σ H x y v u Q I rx ry h
  obtain ⟨a, b, ks, ls, rfl, rfl, ea, eb, hlen, hp, q⟩ := h
  obtain rfl : v = Value.ref a := rx
  obtain rfl : u = Value.ref b := ry
  obtain ⟨_, ya, va, ra, da⟩ := (show ObjOk X.prog X.w H s.heap a (.dK ks) from I.hok a _ ea)
  obtain ⟨_, yb, vb, rb, db⟩ := (show ObjOk X.prog X.w H s.heap b (.dK ls) from I.hok b _ eb)
  have hl : va.length = vb.length := by rw [← ra.length, ← rb.length]; exact hlen
  exact PySem.W.keq_ne (knd := mixKind X.prog X.w) (r := true) ya yb da db hu0 (fun _ => hits_dp I hu rb ra hp) (fin_bl I q (by simp [hl]))
/-- ** of a great base -/
def CPowW (i j : Int) : Prop := 0 ≤ j ∧ (Builtin.Int.intBits i : Int) * j ≤ 2 ^ 27
theorem op_powW : OpR X (binaryOp .Pow) (rI CPowW fun i j => .int (i ^ j.toNat)) := opI fun _ _ _ _ _ _ _ hc q => pow_int hc.1 hc.2 q
end
section
variable {D : Dm} {K : PySem.W.Frag} {σ : L2.St} {B : Hp} {te ta tb : TE} {α : Type} {as bs : List α} {R : α → PV} {key : α → Key} {dat : α → PyData}
/-- two dicts with the same entries, the one's in any order of the other's -/
theorem dic_same {x y : V} {B : Hp} (hR : ∀ a v, R a v B → Dp K B v (dat a)) (h1 : pDic key R as x B) (h2 : pDic key R as y B) (hk : (as.map key).Nodup) (hs : ∀ a ∈ as, SeqAt.shaped (dat a) = true) :
    ∃ a b ks ls, x = .ref a ∧ y = .ref b ∧ B a = some (.dK ks) ∧ B b = some (.dK ls) ∧ ks.length = ls.length ∧ (∀ p ∈ ks, ∃ v d, valV ls p.1 = some v ∧ Dp K B p.2 d ∧ Dp K B v d ∧ SeqAt.shaped d = true) := by
  obtain ⟨a, ks, rfl, ha, pa⟩ := h1
  obtain ⟨b, ls, rfl, hb, pb⟩ := h2
  refine ⟨a, b, ks, ls, rfl, rfl, ha, hb, by rw [← pa.length, ← pb.length], ?_⟩
  clear ha hb
  induction pa generalizing ls with
  | nil => intro p hp; cases hp
  | @cons u kv us kvs r t ih =>
    cases pb with
    | @cons _ lv _ lvs r2 t2 =>
      obtain ⟨k1, k2⟩ := List.nodup_cons.mp (by simpa using hk : (key u :: us.map key).Nodup)
      intro p hp
      rcases List.mem_cons.mp hp with e | hp
      · subst e
        exact ⟨lv.2, dat u, valV_pos (by rw [r2.1, r.1]), hR u _ r.2, hR u _ r2.2, hs u List.mem_cons_self⟩
      · obtain ⟨v, d, e1, e2⟩ := ih k2 (fun a ha => hs a (List.mem_cons_of_mem _ ha)) lvs t2 p hp
        refine ⟨v, d, ?_, e2⟩
        rw [valV_neg]
        · exact e1
        · intro e
          have hm : p.1 ∈ kvs.map (·.1) := List.mem_map.mpr ⟨p, hp, rfl⟩
          rw [dic_keys (R := fun a v => R a v B) t, ← e, r2.1] at hm
          exact k1 hm
theorem ev_eqDic [∀ a, Mo (R a)] (hR : ∀ a v B, R a v B → Dp K B v (dat a)) (h1 : EvR D te σ B (pDic key R as)) (h2 : ∀ B2, Same B B2 → EvR D ta σ B2 (pDic key R as)) (hk : (as.map key).Nodup) (hs : ∀ a ∈ as, SeqAt.shaped (dat a) = true) :
    EvR D (tOp (rEqDD K) te ta) σ B (pEq (.bl true)) := ev_op h1 h2 fun x y B2 _ p1 p2 => EvV.nowE fun H Q s q => by
  obtain ⟨a, b, ks, ls, e1, e2, ha, hb, hl, hp⟩ := dic_same (fun a v => hR a v B2) p1 p2 hk hs
  exact ⟨a, b, ks, ls, e1, e2, s _ _ ha, s _ _ hb, hl, fun p hm => by
    obtain ⟨v, d, q1, q2, q3, q4⟩ := hp p hm
    exact ⟨v, d, q1, Same.dp s q2, Same.dp s q3, q4⟩, q⟩
theorem ev_neDic [∀ a, Mo (R a)] (hR : ∀ a v B, R a v B → Dp K B v (dat a)) (h1 : EvR D te σ B (pDic key R as)) (h2 : ∀ B2, Same B B2 → EvR D ta σ B2 (pDic key R as)) (hk : (as.map key).Nodup) (hs : ∀ a ∈ as, SeqAt.shaped (dat a) = true) :
    EvR D (tOp (rNeDD K) te ta) σ B (pEq (.bl false)) := ev_op h1 h2 fun x y B2 _ p1 p2 => EvV.nowE fun H Q s q => by
  obtain ⟨a, b, ks, ls, e1, e2, ha, hb, hl, hp⟩ := dic_same (fun a v => hR a v B2) p1 p2 hk hs
  exact ⟨a, b, ks, ls, e1, e2, s _ _ ha, s _ _ hb, hl, fun p hm => by
    obtain ⟨v, d, q1, q2, q3, q4⟩ := hp p hm
    exact ⟨v, d, q1, Same.dp s q2, Same.dp s q3, q4⟩, q⟩
/-- dict(d) -/
theorem ev_dictD [∀ a, Mo (R a)] (h : EvR D te σ B (pDic key R as)) : EvR D (tCB (fun xs H Q => ∃ (a : Addr) (kvs : List (Key × V)), xs = [.ref a] ∧ Rd H a (.dK kvs) ∧ ∀ p, H p = none → Q (.ref p) (upd H p (.dK kvs))) (tCons te tNil)) σ B (pDic key R as) :=
  ev_cb (ea_one h) fun vs B2 e ⟨v, e1, p, kvs, e2, hl, pr⟩ => EvV.new (o := .dK kvs) (fun H Q s q => ⟨p, kvs, by rw [e1, e2], .inl (s _ _ hl), q⟩) fun q hq => ⟨q, kvs, rfl, upd_same, Paired.mono (fun a kv h => ⟨h.1, Mo.mo (Same.new hq) h.2⟩) pr⟩
end
/-! ### a def that stands at any address -/
structure FnA (P : Program) (w : World) (K : PySem.W.Frag) (mg : Str → Option Value) (base : Heap) (k : Nat) (d : DefA) (ps : List Str) (sp : Sp) : Prop where
  ex : ∃ fd, FnOk P w K mg base (L2.CX P w) k (d.ad K) fd ps sp ∧ Binds K fd ps []
abbrev BodyA0 (P : Program) (w : World) (K : PySem.W.Frag) (mg : Str → Option Value) (base : Heap) (N : List Str) (d : DefA) (k : Nat) (sp : Sp) : Prop :=
  ∀ (cdv : Value) (A : Around) (outer : List Env) (s : Shared) (H : Hp) (vs : List V) (Q : VK) (E : XK), Room k (A.deeper (envOfC d.qual d.scope s.heap.objs.size (d.ad K) cdv)) → sp vs H Q E →
    ∃ t, PSs (cxOf (L2.CX P w) P w K mg base N d.qual d.scope (d.ad K) cdv A outer s H E).nox d.body t ∧ t { nx := fun _ H' => Q .non H', rt := Q } (start N vs) H
abbrev BindA (d : DefA) (ps : List Str) : Prop := ∀ (kV doc pm : Value) (an : Option Addr) (cdv ct : Value) (us : List Value), us.length = ps.length → bindArgs (PySem.W.fnOf d.name d.qual d.params d.body d.scope .none kV doc pm an cdv ct) ⟨us, []⟩ = pure (ps.zip us)
section
variable {P : Program} {w : World} {K : PySem.W.Frag} {mg : Str → Option Value} {base : Heap} {d : DefA} {N ps : List Str} {k : Nat} {sp : Sp}
theorem fna_of (T : ∃ fd, FunD K d.name d.qual d.params d.body d.scope [] [] (d.ad K) fd) (S : FnScope N ps d.scope) (hb : BindA d ps) (len : ∀ vs H Q E, sp vs H Q E → vs.length = ps.length) (body : BodyA0 P w K mg base N d k sp) : FnA P w K mg base (k + 1) d ps sp := by
  obtain ⟨fd, F⟩ := T
  have G : FnOk P w K mg base (L2.CX P w) (k + 1) (d.ad K) fd ps sp := F.ok S len fun cdv A outer s H vs Q E hr hs => by
    obtain ⟨t, a, b⟩ := body cdv A outer s H vs Q E hr hs
    exact ⟨t, a.nox, b⟩
  exact ⟨fd, G, F.bindsN hb⟩
theorem FnA.fnr (F : FnA P w K mg base k d ps sp) : FnR P w K mg base (L2.CX P w) k (d.ad K) sp := by
  obtain ⟨fd, G, b⟩ := F.ex
  refine (G.raw b .nil).imp fun vs H Q E h => ?_
  rw [List.append_nil]; exact h
end
section
variable {X : Cx} {k : Nat} {C p : Addr} {f : Str} {sp : Sp} {E : XK} {e : Expr} {pos : Pos} {te : TE} {d : DefA} {ps : List Str}
theorem pe_propA (c : Cls X.K C) (hp : PropOf X.K C f p (d.ad X.K)) (F : FnA X.prog X.w X.K X.mg X.base k d ps sp) (hr : Room (k + 1) X.A) (hx : Passes (L2.CX X.prog X.w) X.nox E) (he : PE X e te)
    (hab : attributeBase e f X.env (eval e X.env) = eval e X.env := by rfl) : PE X (.Attribute e f pos) (tProp C sp [] E te) := by
  obtain ⟨fd, G, b⟩ := F.ex
  exact pe_prop he c hp G hr b .nil hx hab
end
section
variable {D : Dm} {σ : L2.St} {B : Hp} {te : TE} {P P1 : PV} {C : Addr} {sp : Sp} {E : XK}
theorem ev_prop (h : EvR D te σ B P1) (h1 : ∀ x H, P1 x H → ∃ a dx fs, x = .ref a ∧ H a = some (.ins C dx fs)) (hs : ∀ x B2, Same B B2 → P1 x B2 → EvV D (fun H Q => sp [x] H Q E) B2 P) : EvR D (tProp C sp [] E te) σ B P := fun H a Q q =>
  h H a _ fun x B2 H2 e p => by
    obtain ⟨b, dx, fs, rfl, ho⟩ := h1 x B2 p
    exact ⟨b, dx, fs, rfl, e.at2.sm _ _ ho, hs _ B2 e.bs p H2 e.at2 Q fun v B3 H3 e3 p3 => q v B3 H3 (e.trans e3) p3⟩
end
end CW
set_option Elab.async false
set_option linter.all false
set_option maxRecDepth 100000
set_option maxHeartbeats 4000000
/-! W22: Box made, ==, turns, require_box, write_box, sized; Machine.size. -/
namespace CW
open PySem PySem.Spec PyProof.Rows L2 TL
def boxKs (a : Lt1) : List Key := .inr ⟨#[a.1]⟩ :: a.2.map .inl
def rowB (a : Lt1) : Str := joinW (boxKs a)
def rowsB (b : BD) (m : Nat) : List Str := [headL kBox b.L (m : Int)] ++ b.ct.map rowB
def textB (b : BD) (m : Nat) : Str := Txt.join nl1 (rowsB b m)
def spWriteB (K : PySem.W.Frag) : Sp := PSp (fun _ (a : BD × Nat) vs B => (∃ x, vs = [x] ∧ pBox K a.1 x B) ∧ a.1.Ok a.2) (fun a => pEq (.str (textB a.1 a.2)))
def spReqB (K : PySem.W.Frag) : Sp := PSp (fun _ (b : BD) vs B => (∃ x, vs = [x] ∧ pBox K b x B) ∧ True) (fun _ => pEq .non)
def spBEq (K : PySem.W.Frag) : Sp := PSp (fun _ (b : BD × Nat) vs B => (∃ x y, vs = [x, y] ∧ pBox K b.1 x B ∧ pBox K b.1 y B) ∧ b.1.Ok b.2) (fun _ => pEq (.bl true))
def spBTurns (K : PySem.W.Frag) : Sp := PSp (fun _ (b : BD) vs B => (∃ x, vs = [x] ∧ pBox K b x B) ∧ True) (fun b => tns K b.ct)
def spMSize (K : PySem.W.Frag) : Sp := PSp (fun _ (M : MD) vs B => (∃ x, vs = [x] ∧ pMac K M x B) ∧ True) (fun M => pEq (.int M.n))
def spSized (K : PySem.W.Frag) : Sp := PSp (fun _ (a : BD × Nat) vs B => (∃ d, vs = [d, .int (a.2 : Nat)] ∧ tns K a.1.ct d B) ∧ a.1.Ok a.2) (fun a => tns K a.1.ct)
theorem box_made {K : PySem.W.Frag} {b : BD} {x dx : Addr} {o d : HO} {B : Hp} (hx : B x = none) (hd : B dx = none) (hn : dx ≠ x) (h : boxPost K b x dx o d B) : pBox K b (.ref x) (upd (upd B dx d) x o) := by
  obtain ⟨u, k, p, q1, q2, q3⟩ := h
  have n1 : Same B (upd (upd B dx d) x o) := (Same.new hd).trans (Same.new (by rw [upd_ne (Ne.symm hn)]; exact hx))
  exact ⟨x, dx, u, k, p, rfl, by rw [upd_same, q1], Mo.mo n1 q3⟩
theorem BD.Ok.low {b : BD} {m : Nat} (h : b.Ok m) : ∀ a ∈ b.ct, a.1 ∈ cs lowers := fun a ha => by
  have hc : a.1 ∈ cs b.L := by rw [h.c]; exact List.mem_map.mpr ⟨a, ha, rfl⟩
  have := h.l
  unfold isLetters at this
  simp only [Bool.and_eq_true] at this
  have w : isWord b.L = true := this.1
  unfold isWord at w
  exact of_decide_eq_true (List.all_eq_true.mp w _ hc)
theorem BD.Ok.num {b : BD} {m : Nat} (h : b.Ok m) : ∀ a ∈ b.ct, ∀ x ∈ a.2, 0 ≤ x ∧ x < 1000000 := fun a ha x hx => by
  have := h.bd a ha x hx
  have := h.m6
  omega
theorem BD.Ok.keys {b : BD} {m : Nat} (h : b.Ok m) {a : Lt1} (ha : a ∈ b.ct) : (∀ k ∈ boxKs a, keyOkS k = true) ∧ (boxKs a).length ≤ 7 ∧ ((boxKs a).map keyS).length ≤ 7 ∧ (((boxKs a).map keyS).map (·.length)).sum ≤ 43 := by
  have hl := h.len a ha
  have h6 := h.m6
  have hn := h.num a ha
  refine ⟨fun k hk => ?_, ?_, ?_, ?_⟩
  · rcases List.mem_cons.mp hk with e | hk
    · rw [e]
      have e1 : ∀ c ∈ cs lowers, c < 1114112 := by decide +kernel
      show PyData.strOk ⟨#[a.1]⟩ = true
      simp [PyData.strOk, e1 a.1 (h.low a ha)]
    · obtain ⟨j, hj, rfl⟩ := List.mem_map.mp hk
      exact decide_eq_true (dig_log (hn j hj).1 (hn j hj).2)
  · unfold boxKs; rw [List.length_cons, List.length_map]; omega
  · unfold boxKs; rw [List.length_map, List.length_cons, List.length_map]; omega
  · have := sum_digs hn
    unfold boxKs
    rw [List.map_cons, List.map_cons, List.sum_cons]
    have e1 : (keyS (.inr ⟨#[a.1]⟩)).length = 1 := rfl
    rw [e1]
    omega
theorem BD.Ok.rowLen {b : BD} {m : Nat} (h : b.Ok m) {a : Lt1} (ha : a ∈ b.ct) : (rowB a).length ≤ 100 := by
  obtain ⟨_, _, h3, h4⟩ := h.keys ha
  unfold rowB joinW
  rw [if_neg (by unfold boxKs; simp)]
  refine Nat.le_trans (join_len _ _) ?_
  have e1 : sp1.length = 1 := rfl
  rw [e1]
  omega
theorem BD.Ok.sum {b : BD} {m : Nat} (h : b.Ok m) : ((rowsB b m).map (·.length)).sum + (rowsB b m).length * nl1.length ≤ 1000 ∧ (rowsB b m).length ≤ 4 := by
  have cl := h.clen
  have l3 := h.len3
  have h6 := h.m6
  have h1 := headL_len (k := kBox) (L := b.L) (n := (m : Int)) (by decide) (by omega) (by omega) (by omega)
  have h2 := sum_le (l := b.ct) (f := fun t => (rowB t).length) (b := 100) fun t ht => h.rowLen ht
  have e1 : nl1.length = 1 := rfl
  unfold rowsB
  simp only [List.map_append, List.map_cons, List.map_nil, List.sum_append, List.sum_cons, List.sum_nil, List.length_append, List.length_cons, List.length_nil, List.length_map, List.map_map, e1]
  have h6 : (b.ct.map ((fun x => x.length) ∘ rowB)).sum ≤ b.ct.length * 100 := h2
  omega
theorem lookBL (b : BD) (u k p : V) : (boxF b u k p).lookup ("own_letters" : Str) = some (V.str b.L) := rfl
theorem lookBT (b : BD) (u k p : V) : (boxF b u k p).lookup ("own_turns" : Str) = some u := rfl
section
variable {P : Program} {w : World} {K : PySem.W.Frag} {mg : Str → Option Value} {base : Heap} {D : Dm} {σ : L2.St} {B H : Hp} {te ta tk : TE} {b : BD}
theorem nms_keys {ns : List Int} {v : V} {B : Hp} (h : nms_ K ns v B) : ∃ p xs, v = .ref p ∧ (SqT K B p xs ∨ SqL K B p xs) ∧ Paired (fun k v => pKey k v B) (ns.map Sum.inl) xs := by
  obtain ⟨p, xs, e, hx, px⟩ := h
  exact ⟨p, xs, e, .inl hx, paired_mapL (R := pKey) (f := Sum.inl) (Paired.mono (fun j v h => h) px)⟩
theorem ev_boxL (T : Tz K mg) (h : EvR D te σ B (pBox K b)) : EvR D (tFld K te "own_letters") σ B (pEq (.str b.L)) := ev_fld T.cl_Box T.na_Box_own_letters (h.imp fun v B2 _ ⟨a, dx, u, k, p, e1, ho, h3⟩ => ⟨a, dx, _, _, e1, ho, lookBL .., rfl⟩)
theorem ev_boxT (T : Tz K mg) (h : EvR D te σ B (pBox K b)) : EvR D (tFld K te "own_turns") σ B (tns K b.ct) := ev_fld T.cl_Box T.na_Box_own_turns (h.imp fun v B2 _ ⟨a, dx, u, k, p, e1, ho, h3⟩ => ⟨a, dx, _, u, e1, ho, lookBT .., h3⟩)
theorem in_Box (T : Tz K mg) : FnR P w K mg base (L2.CX P w) 5 (He.fAd K d_Box_init.at_) (spBoxI K) :=
  (fnr_dfl T.h_Box_init 3 1 (by decide) sc_Box_init rfl (fun _ _ _ _ _ _ _ us its h1 h2 => match us, its, h1, h2 with | [_, _, _], [_], _, _ => ⟨_, rfl, rfl⟩) (fun vs H Q E ⟨_, _, _, _, _, _, h, _, ⟨⟨_, h1, _⟩, _⟩, _⟩ => by subst h; subst h1; rfl) (bd_Box T)).imp fun vs H Q E h => by
    show spBoxI K (vs ++ []) H Q E
    rw [List.append_nil]; exact h
theorem sc_require_box : FnScope ["value"] ["value"] d_require_box.scope := ⟨rfl, rfl, rfl, by decide +kernel, rfl, by decide +kernel, by decide +kernel⟩
theorem fn_require_box (T : Tz K mg) : Fn P w K mg base 1 "require_box" (spReqB K) := by
  refine fn_of T.h_require_box T.g_require_box rfl sc_require_box (fun _ _ _ _ _ _ us hl => match us, hl with | [_], _ => rfl) (fun vs H Q E h => ?_) (BodyOk0.ok fun cdv A outer s H vs Q E hr h => ?_)
  · obtain ⟨_, _, _, _, p, _⟩ := h
    obtain ⟨⟨_, rfl, _⟩, _⟩ := p
    rfl
  refine ⟨_, pss_one (ps_if (pt_not (pt_val (pe_callB call_isi (by rfl) T.b_isinstance boot_isinstance (pa_cons (pv 0) (pa_cons (pe_glob (v := .ref (He.ga K "Box")) (by rfl) T.g_Box rfl) pa_nil))))) (pss_one ps_never) pss_nil), h.bodyN (N := ["value"]) fun D a B p => ?_⟩
  · obtain ⟨⟨x, rfl, hx⟩, _⟩ := p
    obtain ⟨c, dx, u, k, q, rfl, ho, _⟩ := hx
    exact (en_ifF ((et_not (et_B (ev_isi (b := true) (ev_varE rfl) (fun _ _ => ev_c) (.own _) (isI_ins T.cl_Box T.si_Box T.kz_Box ho)))).to rfl)).imp fun _ _ _ _ => rfl
theorem sc_write_box : FnScope ["box", "total", "lines", "letter"] ["box"] d_write_box.scope := ⟨rfl, rfl, rfl, by decide +kernel, rfl, by decide +kernel, by decide +kernel⟩
theorem fn_write_box (T : Tz K mg) : Fn P w K mg base 2 "write_box" (spWriteB K) := by
  refine fn_of T.h_write_box T.g_write_box rfl sc_write_box (fun _ _ _ _ _ _ us hl => match us, hl with | [_], _ => rfl) (fun vs H Q E h => ?_) (BodyOk0.ok fun cdv A outer s H vs Q E hr h => ?_)
  · obtain ⟨_, _, _, _, p, _⟩ := h
    obtain ⟨⟨_, rfl, _⟩, _⟩ := p
    rfl
  refine ⟨_, pss_cons (ps_expr (pe_fn (fn_require_box T) (hr.mono (by decide)) passL (pa_cons (pv 0) pa_nil)))
      (pss_cons (ps_set (i := 1) sc_write_box.nd rfl (Or.inl rfl) (pe_callB call_len (by rfl) T.b_len boot_len (pa_cons (pe_dget (hu_of hr) (pe_fld (pv 0) rfl) (pe_ix ix_str (pe_fld (pv 0) rfl) pe_int (fun _ _ => rfl)) (fun _ _ => rfl)) pa_nil)))
      (pss_cons (ps_set (i := 2) sc_write_box.nd rfl (Or.inl rfl) (pe_lst (pa_cons (pe_joined (.cons pe_str (.cons (pe_fmt (pe_fld (pv 0) rfl)) (.cons pe_str (.cons (pe_fmt (pv 1)) .nil))))) pa_nil)))
      (pss_one (ps_ret (pe_join pe_str (pe_lst (StX.pa_star (pv 2) (StX.pa_star (pe_lc (own := [("letter", 3)]) (g := gName 3) (tt := tYes) (by rfl) sc_write_box.nd (pi_str (pe_fld (pv 0) rfl)) (blkOk_by (N := ["box", "total", "lines", "letter"]) (sc := d_write_box.scope) (own := [("letter", 3)]) (by decide +kernel)) (fun _ _ _ _ _ => (pg_name (i := 3) sc_write_box.nd rfl (Or.inl rfl))) (fun _ _ _ _ _ => pts_nil) (fun _ _ _ _ _ => (pe_fn (fn_joined_words T) (hr.mono (by decide)) passL (pa_cons (pe_lst (pa_cons (pv 3) (show PA _ _ (StX.tStar K _ _) from StX.pa_star (pe_dget (hu_of hr) (pe_fldK (K := K) (by rfl) (pv 0) (by rfl)) (pv 3) (fun _ _ => rfl)) pa_nil))) pa_nil)))) pa_nil)))))))), h.body (N := ["box", "total", "lines", "letter"]) fun D a B p => ?_⟩
  · obtain ⟨⟨x, rfl, hx⟩, ok⟩ := p
    obtain ⟨b, m⟩ := a
    dsimp only at hx ok
    have l3 := ok.len3
    have cl := ok.clen
    have cc := ok.c
    have n1 := ok.m1
    have n6 := ok.m6
    have sm := ok.sum
    obtain ⟨a0, r0, ec⟩ : ∃ a0 r0, b.ct = a0 :: r0 := by
      cases h : b.ct with
      | nil => rw [h] at cl; simp at cl; omega
      | cons a r => exact ⟨a, r, rfl⟩
    have h0 : a0 ∈ b.ct := by rw [ec]; exact List.mem_cons_self
    have hm : ∀ {σ : L2.St} B2, Same B B2 → σ[0]? = some (some x) → EvR D (tVar 0) σ B2 (pBox K b) := fun B2 e h => ev_var h (Mo.mo e hx)
    refine es_seq (en_drop (ev_psp (Post := fun _ => pEq .non) b (ea_one (hm B (Same.refl B) rfl)) fun vs B2 _ ⟨v, e1, e2⟩ => ⟨⟨v, e1, e2⟩, trivial⟩)) fun σ2 B2 s2 e => ?_
    subst e
    refine es_set (P1 := pEq (.int (m : Nat))) ((ev_lenMT (R := num) (as := a0.2) (EvR.imp (ev_dget (key := bkey) (R := fun a => nms_ K a.2) (a := a0) (ev_boxT T (hm B2 s2 rfl)) ok.kd h0 fun B3 s3 => ?_) fun _ _ _ h => h)).to (by rw [ok.len a0 h0])) fun v B3 s3 hv => ?_
    · refine ev_ixS (c := a0.1) (z := b.L) (ev_boxL T (hm _ (s2.trans s3) rfl)) (fun _ _ => ev_c) (Nat.le_trans (Nat.le_trans l3.1 (by decide : (3:Nat) ≤ 100000)) (by decide)) (by decide) ?_
      show (cs b.L)[0]? = some a0.1
      rw [cc, ec] <;> rfl
    obtain rfl : v = _ := hv
    have s23 := s2.trans s3
    refine es_set (P1 := pLst K txt [headL kBox b.L (m : Int)]) (ev_lstS (zs := [headL kBox b.L (m : Int)]) (ea_oneE (ev_joined (.cons ev_c fun B4 s4 => .cons (ev_fmtS (ev_boxL T (hm _ (s23.trans s4) rfl)) (Nat.le_trans (Nat.le_trans l3.1 (by decide : (3:Nat) ≤ 100000)) (by decide))) fun B5 s5 => .cons ev_c fun B6 s6 => .cons (ev_fmtI (i := (m : Int)) (ev_varE rfl) (dig_log (by omega) (by omega))) fun _ _ => .nil) (by
      have := headL_len (k := kBox) (L := b.L) (n := (m : Int)) (by decide) (by omega) (by omega) (by omega)
      unfold headL at this
      rw [catS_len] at this
      have e3 : Str.empty.length = 0 := rfl
      rw [e3] at this
      exact Nat.le_trans (by simpa using this) (by decide : (200 : Nat) ≤ _)))) (by show 1 ≤ _; omega)) fun v4 B4 s4 hv4 => ?_
    have s24 := s23.trans s4
    refine es_ret ((ev_join (ys := rowsB b m) ev_c (fun B5 s5 => (ev_lstS (zs := rowsB b m) (ea_starS (ev_var rfl (Mo.mo s5 hv4)) fun B6 s6 => (ea_starS (zs := b.ct.map rowB) (ys := []) ((ev_lcL (as := b.ct) (R := fun a => sgn a.1) (R' := fun a => txt (rowB a)) ?_ (by omega) fun a y B7 ha s7 hy => ⟨_, by rfl, sets_name, fun B8 s8 => ?_⟩).imp fun v B7 _ h => pLst.fmap h) fun _ _ => ea_nil).imp fun vs B7 _ e => by rw [e, List.append_nil]) (by have := sm.2; omega)).imp fun v B6 _ h => pLst.map h) (Nat.le_trans sm.1 (by decide))).to rfl)
    · exact EvL.unmap (f := fun a : Lt1 => a.1) (R := sgn) (by rw [← cc]; exact el_str (ev_boxL T (hm _ ((s24.trans s5).trans s6) rfl)))
    · obtain rfl : y = _ := hy
      have kk := ok.keys ha
      have s28 := (((s24.trans s5).trans s6).trans s7).trans s8
      refine ev_psp (Post := fun ks => pEq (.str (joinW ks))) (boxKs a) (ea_one (P := pMap K pKey (boxKs a)) ((ev_lst (R := fun vs H => Paired (fun k v => pKey k v H) (boxKs a) vs) ((ea_cons (P := pKey (.inr ⟨#[a.1]⟩)) (ev_varE rfl) fun B9 s9 => ea_star (R := fun xs H => Paired (fun k v => pKey k v H) (a.2.map Sum.inl) xs) (R' := fun vs _ => vs = []) ((ev_dget (key := bkey) (R := fun a => nms_ K a.2) (a := a) (ev_boxT T (hm _ (s28.trans s9) rfl)) ok.kd ha fun B10 s10 => ev_varE rfl).imp fun v B10 _ h => nms_keys h) (fun xs H1 H2 e h => Paired.mono (fun k v h => h) h) fun _ _ => ea_nil).imp fun vs B9 _ ⟨v, r, e1, e2, xs, ys, e3, e4, e5⟩ => by
        rw [e1, e3, e5, List.append_nil]
        exact .cons e2 e4) (fun vs H p => by rw [← p.length]; have := kk.2.1; omega) fun xs H1 H2 e h => Paired.mono (fun k v h => h) h).imp fun v B9 _ ⟨p, xs, e1, e2, e3⟩ => ⟨p, xs, e1, SqL.of e2, e3⟩)) fun vs B9 _ ⟨v, e1, e2⟩ => ⟨⟨v, e1, e2⟩, kk.1, by have := kk.2.1; omega, ?_⟩
      have e1 : sp1.length = 1 := rfl
      rw [e1]
      have := kk.2.2
      omega
theorem sc_sized : FnScope ["turns", "total", "row"] ["turns", "total"] d_sized.scope := ⟨rfl, rfl, rfl, by decide +kernel, rfl, by decide +kernel, by decide +kernel⟩
theorem fn_sized (T : Tz K mg) : Fn P w K mg base 1 "sized" (spSized K) := by
  refine fn_of T.h_sized T.g_sized rfl sc_sized (fun _ _ _ _ _ _ us hl => match us, hl with | [_, _], _ => rfl) (fun vs H Q E h => ?_) (BodyOk0.ok fun cdv A outer s H vs Q E hr h => ?_)
  · obtain ⟨_, _, _, _, p, _⟩ := h
    obtain ⟨⟨_, rfl, _⟩, _⟩ := p
    rfl
  refine ⟨_, pss_one (ps_ret (pe_ifExp (pt_val (pe_callB (cr_all rfl) (by rfl) T.b_all boot_all (pa_cons (pe_lock (pe_lc (own := [("row", 2)]) (g := gName 2) (tt := tYes) (by rfl) sc_sized.nd (pi_values (pv 0)) (blkOk_by (N := ["turns", "total", "row"]) (sc := d_sized.scope) (own := [("row", 2)]) (by decide +kernel)) (fun _ _ _ _ _ => (pg_name (i := 2) sc_sized.nd rfl (Or.inl rfl))) (fun _ _ _ _ _ => pts_nil) (fun _ _ _ _ _ => (pe_cmpR op_eq (pe_callB (r := fun xs H Q => ∃ x n, xs = [x] ∧ LenV K x H n ∧ Q (.int n) H) call_len (by rfl) T.b_len boot_len (pa_cons (pv 2) pa_nil)) (pv 1) (nomark _))))) pa_nil))) (pv 0) pe_dnewK)), h.body (N := ["turns", "total", "row"]) fun D a B p => ?_⟩
  · obtain ⟨⟨x, rfl, hx⟩, ok⟩ := p
    refine es_ret (ev_if (Pb := is true) (et_B ((ev_all (as := a.1.ct) (f := fun _ => true) (ev_lock (key := bkey) (R := fun a => nms_ K a.2) hx fun d od kvs e hd pf => ev_lcL (R := fun a => nms_ K a.2) (el_values (ev_var rfl pf)) (by have := ok.clen; have := ok.len3; omega) fun c y B2 hc s2 hy => ⟨_, by rfl, sets_name, fun B3 s3 => ?_⟩)).to (by simp))) (fun _ B2 s2 => ev_var rfl (Mo.mo s2 hx)) fun z => nomatch z)
    refine (ev_eq (x := .int (c.2.length : Nat)) (y := .int (a.2 : Nat)) (ev_lenMT (R := num) (as := c.2) (ev_var rfl (Mo.mo s3 hy))) (fun _ _ => ev_varE rfl) rfl).to (by rw [ok.len c hc]; simp)
def turnD (a : Lt1) : PyData := .tuple (intsD a.2)
theorem sc_Box_eq : FnScope ["self", "value"] ["self", "value"] d_Box_eq.scope := ⟨rfl, rfl, rfl, by decide +kernel, rfl, by decide +kernel, by decide +kernel⟩
theorem mt_Box_eq (T : Tz K mg) : FnR P w K mg base (L2.CX P w) 2 (He.fAd K d_Box_eq.at_) (spBEq K) := by
  refine fnr_of T.h_Box_eq rfl sc_Box_eq (fun _ _ _ _ _ _ us hl => match us, hl with | [_, _], _ => rfl) (fun vs H Q E h => ?_) (BodyOk0.ok fun cdv A outer s H vs Q E hr h => ?_)
  · obtain ⟨_, _, _, _, p, _⟩ := h
    obtain ⟨⟨_, _, rfl, _⟩, _⟩ := p
    rfl
  refine ⟨_, pss_one (ps_ret (pe_and (pe_callB call_isi (by rfl) T.b_isinstance boot_isinstance (pa_cons (pv 1) (pa_cons (pe_glob (v := .ref (He.ga K "Box")) (by rfl) T.g_Box rfl) pa_nil))) (pe_and (pe_cmpR op_eq (pe_fld (pv 0) rfl) (pe_fld (pv 1) rfl) (nomark _)) (pe_one (pe_cmpR (op_eqDD hr.in1.units hr.units0) (pe_fld (pv 0) rfl) (pe_fld (pv 1) rfl) (nomark _)))))), ?_⟩
  refine h.body (N := ["self", "value"]) fun D a B p => ?_
  obtain ⟨⟨x, y, rfl, hx, hy⟩, ok⟩ := p
  have hX : ∀ {σ : L2.St} B2, Same B B2 → σ[0]? = some (some x) → EvR D (tVar 0) σ B2 (pBox K a.1) := fun B2 e h => ev_var h (Mo.mo e hx)
  have hY : ∀ {σ : L2.St} B2, Same B B2 → σ[1]? = some (some y) → EvR D (tVar 1) σ B2 (pBox K a.1) := fun B2 e h => ev_var h (Mo.mo e hy)
  have iy : IsI K B y (.ref (He.ga K "Box")) true := by
    obtain ⟨c, dx, u, k, q, rfl, ho, _⟩ := hy
    exact isI_ins T.cl_Box T.si_Box T.kz_Box ho
  refine es_ret (ev_andT (c := true) (ev_isi (b := true) (ev_varE rfl) (fun _ _ => ev_c) (.own _) iy) fun B2 s2 => ev_andT (c := true) ((ev_eqS (ev_boxL T (hX B2 s2 rfl)) fun B3 s3 => ev_boxL T (hY B3 (s2.trans s3) rfl)).to (by simp)) fun B3 s3 => ?_)
  exact ev_eqDic (K := K) (as := a.1.ct) (key := bkey) (R := fun a => nms_ K a.2) (dat := turnD) (fun a v B h => dp_en h) (ev_boxT T (hX B3 (s2.trans s3) rfl)) (fun B4 s4 => ev_boxT T (hY B4 ((s2.trans s3).trans s4) rfl)) ok.kd fun a _ => shaped_ints _
theorem sc_Box_turns : FnScope ["self"] ["self"] a_Box_turns.scope := ⟨rfl, rfl, rfl, by decide +kernel, rfl, by decide +kernel, by decide +kernel⟩
theorem pr_Box_turns (T : Tz K mg) : FnA P w K mg base 1 a_Box_turns ["self"] (spBTurns K) := by
  refine fna_of T.a_turns sc_Box_turns (fun _ _ _ _ _ _ us hl => match us, hl with | [_], _ => rfl) (fun vs H Q E h => ?_) (fun cdv A outer s H vs Q E hr h => ?_)
  · obtain ⟨_, _, _, _, p, _⟩ := h
    obtain ⟨⟨_, rfl, _⟩, _⟩ := p
    rfl
  refine ⟨_, pss_one (ps_ret (pe_callTy call_dictD (by rfl) T.b_dict boot_dict (pa_cons (pe_fld (pv 0) rfl) pa_nil))), ?_⟩
  refine h.body (N := ["self"]) fun D a B p => ?_
  obtain ⟨⟨x, rfl, hx⟩, _⟩ := p
  exact es_ret (ev_dictD (ev_boxT T (ev_var rfl hx)))
theorem sc_Machine_size : FnScope ["self"] ["self"] a_Machine_size.scope := ⟨rfl, rfl, rfl, by decide +kernel, rfl, by decide +kernel, by decide +kernel⟩
theorem pr_Machine_size (T : Tz K mg) : FnA P w K mg base 1 a_Machine_size ["self"] (spMSize K) := by
  refine fna_of T.a_size sc_Machine_size (fun _ _ _ _ _ _ us hl => match us, hl with | [_], _ => rfl) (fun vs H Q E h => ?_) (fun cdv A outer s H vs Q E hr h => ?_)
  · obtain ⟨_, _, _, _, p, _⟩ := h
    obtain ⟨⟨_, rfl, _⟩, _⟩ := p
    rfl
  refine ⟨_, pss_one (ps_ret (pe_fld (pv 0) rfl)), ?_⟩
  refine h.body (N := ["self"]) fun D a B p => ?_
  obtain ⟨⟨x, rfl, hx⟩, _⟩ := p
  exact es_ret (ev_macN T (ev_var rfl hx))
end
end CW
set_option Elab.async false
set_option linter.all false
set_option maxRecDepth 100000
set_option maxHeartbeats 4000000
/-! W23: read_box. -/
namespace CW
open PySem PySem.Spec PyProof.Rows L2 TL
/-- the words of a letter's row -/
def boxW (a : Lt1) : List Str := ⟨#[a.1]⟩ :: a.2.map dig
def spReadBox (K : PySem.W.Frag) : Sp := PSp (fun _ (a : BD × Nat) vs _ => vs = [.str (textB a.1 a.2)] ∧ a.1.Ok a.2) (fun a => pBox K a.1)
theorem rowB_join (a : Lt1) : rowB a = Txt.join sp1 (boxW a) := by
  unfold rowB joinW
  rw [if_neg (by unfold boxKs; simp)]
  unfold boxKs boxW
  rw [List.map_cons, List.map_map] <;> rfl
section
variable {b : BD} {m : Nat}
theorem boxW_plain (ok : b.Ok m) {a : Lt1} (ha : a ∈ b.ct) : ∀ z ∈ boxW a, plainS z := by
  intro z hz
  rcases List.mem_cons.mp hz with e | hz
  · rw [e]
    refine low_plain ?_
    show (decide (a.1 ∈ cs lowers) && true) = true
    rw [decide_eq_true (ok.low a ha)]
    rfl
  · obtain ⟨j, hj, rfl⟩ := List.mem_map.mp hz
    exact dig_plain (ok.num a ha j hj).1
theorem rowBx (ok : b.Ok m) {a : Lt1} (ha : a ∈ b.ct) : Txt.split (rowB a) sp1 = boxW a ∧ 10 ∉ cs (rowB a) := by
  rw [rowB_join]
  exact ⟨split_sp (boxW_plain ok ha) (by unfold boxW; simp), no_nl (boxW_plain ok ha)⟩
theorem rowBh (ok : b.Ok m) : Txt.split (headL kBox b.L (m : Int)) sp1 = [wBox, b.L, dig (m : Int)] ∧ 10 ∉ cs (headL kBox b.L (m : Int)) := by
  have hp : ∀ z ∈ [wBox, b.L, dig (m : Int)], plainS z := by
    intro z hz
    simp only [List.mem_cons, List.mem_nil_iff, or_false] at hz
    rcases hz with rfl | rfl | rfl
    · exact ⟨by decide +kernel, by decide +kernel⟩
    · exact low_plain (letters_word ok.l)
    · exact dig_plain (by omega)
  rw [head_join wBox kBox (by decide +kernel)]
  exact ⟨split_sp hp (by simp), no_nl hp⟩
theorem rowsB_split (ok : b.Ok m) : Txt.split (textB b m) nl1 = rowsB b m := by
  unfold textB
  refine split_nl (fun r hr => ?_) (by unfold rowsB; simp)
  unfold rowsB at hr
  rcases List.mem_append.mp hr with hr | hr
  · rw [List.mem_singleton.mp hr]; exact (rowBh ok).2
  · obtain ⟨t, ht, rfl⟩ := List.mem_map.mp hr
    exact (rowBx ok ht).2
theorem rowsB_len : (rowsB b m).length = 1 + b.ct.length := by
  unfold rowsB
  rw [List.length_append, List.length_map] <;> rfl
theorem rowsB_ok (ok : b.Ok m) : RowsOk (rowsB b m) := by
  have l3 := ok.len3
  have h6 := ok.m6
  refine ⟨by have := ok.sum; omega, fun r hr => ?_⟩
  unfold rowsB at hr
  rcases List.mem_append.mp hr with hr | hr
  · rw [List.mem_singleton.mp hr, (rowBh ok).1]
    exact ⟨Nat.le_trans (headL_len (by decide) (by omega) (by omega) (by omega)) (by decide), by simp⟩
  · obtain ⟨t, ht, rfl⟩ := List.mem_map.mp hr
    rw [(rowBx ok ht).1]
    exact ⟨Nat.le_trans (ok.rowLen ht) (by decide), by unfold boxW; simp⟩
theorem rowB_at {i : Nat} {a : Lt1} (h : b.ct[i]? = some a) : (rowsB b m)[1 + i]? = some (rowB a) := by
  unfold rowsB
  rw [Nat.add_comm]
  show (b.ct.map rowB)[i]? = _
  rw [List.getElem?_map, h] <;> rfl
theorem boxW_sok (ok : b.Ok m) {a : Lt1} (ha : a ∈ b.ct) : ∀ z ∈ boxW a, z.length ≤ 640 ∧ PyData.strOk z = true := by
  intro z hz
  rcases List.mem_cons.mp hz with e | hz
  · rw [e]
    have e1 : ∀ c ∈ cs lowers, c < 1114112 := by decide +kernel
    exact ⟨by show 1 ≤ 640; omega, by simp [PyData.strOk, e1 a.1 (ok.low a ha)]⟩
  · obtain ⟨j, hj, rfl⟩ := List.mem_map.mp hz
    have hn := ok.num a ha j hj
    exact ⟨Nat.le_trans (dig_len hn.1 hn.2) (by decide), by rw [dig_of hn.1]; exact dig_ok _⟩
theorem digs_nums (ok : b.Ok m) {a : Lt1} (ha : a ∈ b.ct) : areNums (a.2.map dig) = true := by
  have hl := ok.len a ha
  have h1 := ok.m1
  unfold areNums
  rw [decide_eq_false (by
    rw [List.map_eq_nil_iff]
    intro e
    rw [e] at hl
    simp at hl
    omega)]
  show (true && _) = true
  rw [Bool.true_and, List.all_map]
  exact List.all_eq_true.mpr fun j hj => isNum_digI (ok.num a ha j hj).1
end
section
variable {P : Program} {w : World} {K : PySem.W.Frag} {mg : Str → Option Value} {base : Heap} {D : Dm} {σ : L2.St} {B H : Hp} {te ta tv ty : TE} {L : LnD} {u : TS} {Ds : Ends}
theorem sh_goLi {i : Nat} (at_ : At D B H) (hd : Hd1 D B H L.x (lnO K L)) (h0 : σ[i]? = some (some (.ref L.x))) (k : ∀ B2 H2, At D B2 H2 → Hd1 D B2 H2 L.x (lnO K { L with i := L.i + 1 }) → (∀ as, L.x ∈ as → Chg D as B H B2 H2) → (∀ b o, Hd1 D B H b o → b ≠ L.x → Hd1 D B2 H2 b o) → Ds.nx σ H2) :
    tDrop (tMethR (lC K) "go_on" (spGo K) E0 (tVar i) tNil) Ds σ H :=
  ⟨_, h0, L.x, L.dx, lnF L.p (L.i : Nat), rfl, hd.ob, rfl, D, B, L, rfl, at_, hd, fun B2 H2 e => k B2 _ ((hd.stp e).at_ e.at2) (hd.stp e).put (fun as ha => (Chg.of at_.inv e).put ha) fun b o h hb => (h.stp e).off hb⟩
/-- d[k] = e, d hidden; the rest -/
theorem sh_dput {i : Nat} {l : Addr} {kvs : List (Key × V)} {kk : Key} {P : PV} [Mo P] (at_ : At D B H) (hl : Hd1 D B H l (.dK kvs)) (h0 : σ[i]? = some (some (.ref l))) (hx : kvs.length < 100000) (h : EvR D tv σ B P) (hk : ∀ B2, Same B B2 → EvR D ty σ B2 (pEq (kV kk)))
    (k : ∀ v B2 H2, Stp D B H B2 H2 → P v B2 → u Ds σ (upd H2 l (.dK (putK kvs kk v)))) : tSeq (sDPut (tVar i) ty tv) u Ds σ H :=
  h H at_ _ fun v B2 H2 e p => ⟨.ref l, h0, hk B2 e.bs H2 e.at2 _ fun y B3 H3 e3 hy => by
    rw [show y = kV kk from hy]
    exact ⟨l, _, rfl, DPut.k ((e.trans e3).x l _ hl.ob hl.nd) (Nat.lt_of_lt_of_le hx (by decide)), k v B3 H3 (e.trans e3) (Mo.mo e3.bs p)⟩⟩
theorem sc_read_box : FnScope ["text", "lines", "letters", "total", "turns", "letter", "words", "word"] ["text"] d_read_box.scope := ⟨rfl, rfl, rfl, by decide +kernel, rfl, by decide +kernel, by decide +kernel⟩
theorem fn_read_box (T : Tz K mg) : Fn P w K mg base 7 "read_box" (spReadBox K) := by
  refine fn_of T.h_read_box T.g_read_box rfl sc_read_box (fun _ _ _ _ _ _ us hl => match us, hl with | [_], _ => rfl) (fun vs H Q E h => ?_) (BodyOk0.ok fun cdv A outer s H vs Q E hr h => ?_)
  · obtain ⟨_, _, _, _, ⟨rfl, _⟩, _⟩ := h
    rfl
  refine ⟨_, pss_cons (ps_set (i := 1) sc_read_box.nd rfl (Or.inl rfl) (StX.pe_makeR T.mk_Lines (in_Lines T) (hr.mono (by decide)) (by rfl) T.g_Lines passL (pa_cons (pv 0) pa_nil)))
      (pss_cons (ps_asg (pe_fn (fn_head_of T) (hr.mono (by decide)) passL (pa_cons (pv 1) (pa_cons pe_str pa_nil))) (pg_tup (by rfl) (pgs_cons (pg_name (i := 2) sc_read_box.nd rfl (Or.inl rfl)) (pgs_cons (pg_name (i := 3) sc_read_box.nd rfl (Or.inl rfl)) pgs_nil))))
      (pss_cons (ps_set (i := 4) sc_read_box.nd rfl (Or.inl rfl) pe_dnewK)
      (pss_cons (ps_for PassesOwn.never (by rfl) (pi_str (pv 2)) (pg_name (i := 5) sc_read_box.nd rfl (Or.inl rfl)) (pss_cons (ps_set (i := 6) sc_read_box.nd rfl (Or.inl rfl) (pe_meR0 T.cl_Lines T.me_Lines_parts (mt_Lines_parts T) (hr.mono (by decide)) passL (pv 1)))
      (pss_cons (ps_if (PW.pt (pw_or (pt_cmpR op_ne (pe_ix ix_list (pv 6) pe_int (fun _ _ => rfl)) (pv 5) (nomark _)) (pw_or1 (pt_not (pt_val (pe_fn (fn_are_numbers T) (hr.mono (by decide)) passL (pa_cons (pe_slice sl_list (pv 6) (po_some pe_int) po_none) pa_nil))))))) (pss_one ps_never) pss_nil)
      (pss_cons (ps_dput (hu_of hr) (pv 4) (pv 5) (pe_callTy call_tuple_of (by rfl) T.b_tuple boot_tuple (pa_cons (pe_lc (own := [("word", 7)]) (g := gName 7) (tt := tYes) (by rfl) sc_read_box.nd (pi_list (pe_slice sl_list (pv 6) (po_some pe_int) po_none)) (blkOk_by (N := ["text", "lines", "letters", "total", "turns", "letter", "words", "word"]) (sc := d_read_box.scope) (own := [("word", 7)]) (by decide +kernel)) (fun _ _ _ _ _ => (pg_name (i := 7) sc_read_box.nd rfl (Or.inl rfl))) (fun _ _ _ _ _ => pts_nil) (fun _ _ _ _ _ => (pe_callTy call_int_str (by rfl) T.b_int boot_int (pa_cons (pv 7) pa_nil)))) pa_nil)) rfl)
      (pss_one (ps_expr (pe_meR0 T.cl_Lines T.me_Lines_go_on (mt_Lines_go_on T) (hr.mono (by decide)) passL (pv 1))))))))
      (pss_cons (ps_expr (pe_meR0 T.cl_Lines T.me_Lines_finish (mt_Lines_finish T) (hr.mono (by decide)) passL (pv 1)))
      (pss_one (ps_ret (StX.pe_makeR T.mk_Box (in_Box T) (hr.mono (by decide)) (by rfl) T.g_Box passL (pa_cons (pv 2) (pa_cons (pe_fn (fn_sized T) (hr.mono (by decide)) passL (pa_cons (pv 4) (pa_cons (pv 3) pa_nil))) pa_nil))))))))), ?_⟩
  obtain ⟨D, B, ⟨b, m⟩, at_, ⟨rfl, ok⟩, q⟩ := h
  dsimp only at ok q
  have sm := ok.sum
  have rok := rowsB_ok ok
  have l3 := ok.len3
  have cl := ok.clen
  have cc := ok.c
  have m6 := ok.m6
  have tlen : (textB b m).length + 2 ≤ sizeLine := by
    have := join_len nl1 (rowsB b m)
    exact Nat.le_trans (by unfold textB; omega) (by decide : 1002 ≤ sizeLine)
  refine sh_make (textB b m) (ea_oneE (ev_varE rfl)) at_ (fun vs B2 _ e => ⟨e, tlen⟩) fun x dx o d B2 H2 at2 hd2 c2 hx ⟨p, ho, _, hR⟩ => ?_
  rw [rowsB_split ok] at hR
  subst ho
  refine sh_fnM (Lx := HdD.L) (nx := fun a => a.L.i + 1) (⟨⟨x, dx, p, rowsB b m, 0⟩, wBox, b.L, m⟩ : HdD) at2 hd2 hR rok (ea_consE (ev_varE rfl) fun _ _ => ea_oneE ev_c) (fun vs B3 _ e => ⟨e, ⟨_, rfl, (rowBh ok).1⟩, ok.l, by show b.L.length ≤ 90000; omega, by show m < 1000000; omega⟩) fun v B3 H3 at3 hd3 c3 hv => ?_
  obtain ⟨vl, vn, h1, h2, hs⟩ := sets_pair (D := D) (K := K) (i := 2) (j := 3) (σ := start ["text", "lines", "letters", "total", "turns", "letter", "words", "word"] [.str (textB b m)] |>.set 1 (some (.ref x))) hv
  refine hs H3 at3 _ fun B4 H4 s4 => ?_
  obtain rfl : vl = _ := h1
  obtain rfl : vn = _ := h2
  have hd4 := hd3.stp s4
  have hR4 : pMap K txt (rowsB b m) (.ref p) B4 := Mo.mo (c3.bs.trans s4.bs) hR
  have c14 : Chg D [x] B H B4 H4 := ((c2 [x]).trans c3).stp at3.inv s4
  -- turns = {}
  refine fun t ht => ?_
  have at5 := (Stp.hid (o := .dK []) s4.at2 ht).at2
  have hd5 := hd4.past (o := .dK []) ht
  have ht5 : Hd1 D B4 (upd H4 t (.dK [])) t (.dK []) := Hd1.new s4.at2 ht
  have xt : x ≠ t := fun z => by rw [z] at hd4; exact absurd ht (by rw [hd4.ob]; exact Option.some_ne_none _)
  have tH : H t = none := by
    cases e : H t with
    | none => rfl
    | some o => exact absurd ht (c14.hv t (by rw [e]; exact Option.some_ne_none _))
  have c15 : Chg D [x, t] B H B4 (upd H4 t (.dK [])) := (c14.mono (bs := [x, t]) fun a h => by rw [List.mem_singleton.mp h]; simp).put (by simp)
  let Iv : Nat → L2.St → Hp → Hp → Prop := fun i σ1 Bi Hi => Hd1 D Bi Hi x (lnO K ⟨x, dx, p, rowsB b m, 1 + i⟩) ∧ (∃ kvs, Hd1 D Bi Hi t (.dK kvs) ∧ Paired (fun (a : Lt1) (kv : Key × V) => kv.1 = bkey a ∧ nms_ K a.2 kv.2 Bi) (b.ct.take i) kvs) ∧ Chg D [x, t] B H Bi Hi ∧
    σ1[1]? = some (some (.ref x)) ∧ σ1[2]? = some (some (.str b.L)) ∧ σ1[3]? = some (some (.int m)) ∧ σ1[4]? = some (some (.ref t)) ∧ σ1.length = 8
  have hEl : ∀ {σ : L2.St}, σ[2]? = some (some (.str b.L)) → EvL D (iStr (tVar 2)) σ B4 b.ct (fun a => sgn a.1) := fun h => EvL.unmap (f := fun a : Lt1 => a.1) (R := sgn) (by rw [← cc]; exact el_str (ev_varE h))
  refine for_ev (D := D) (hEl rfl) at5 Iv (fun B6 H6 s6 => ⟨hd5.stp s6, ⟨[], ht5.stp s6, .nil⟩, c15.stp at5.inv s6, rfl, rfl, rfl, rfl, rfl⟩) ?_ ?_
  · rintro B6 s46 i y σ1 Bi Hi B7 H7 hi s6i ati ⟨hxi, ⟨kvs, hti, pri⟩, ci, e1, e2, e3, e4, len⟩ s7 ⟨a, ha, hy⟩
    obtain rfl : y = _ := hy
    have ham : a ∈ b.ct := List.mem_of_getElem? ha
    have hR7 : pMap K txt (rowsB b m) (.ref p) B7 := Mo.mo (((s46.trans s6i)).trans s7.bs) hR4
    have hd7 := hxi.stp s7
    have ht7 := hti.stp s7
    have wsok := boxW_sok ok ham
    have klen : kvs.length = i := by
      have := pri.length
      rw [List.length_take] at this
      omega
    show (tSeq _ _ : TS) _ (σ1.set 5 (some (.str ⟨#[a.1]⟩))) H7
    have f1 : (σ1.set 5 (some (.str ⟨#[a.1]⟩)))[1]? = some (some (.ref x)) := by rw [List.getElem?_set_ne (by decide)]; exact e1
    refine sh_set (P := pLst K txt (boxW a)) (ev_parts (L := ⟨x, dx, p, rowsB b m, 1 + i⟩) (ev_varE f1) hd7.nd hR7 rok ⟨_, rowB_at ha, (rowBx ok ham).1⟩) s7.at2 (hd_os hd7) fun v B8 H8 s8 hv8 => ?_
    have g1 : ((σ1.set 5 (some (.str ⟨#[a.1]⟩))).set 6 (some v))[1]? = some (some (.ref x)) := by rw [List.getElem?_set_ne (by decide)]; exact f1
    have g2 : ((σ1.set 5 (some (.str ⟨#[a.1]⟩))).set 6 (some v))[2]? = some (some (.str b.L)) := by rw [List.getElem?_set_ne (by decide), List.getElem?_set_ne (by decide)]; exact e2
    have g3 : ((σ1.set 5 (some (.str ⟨#[a.1]⟩))).set 6 (some v))[3]? = some (some (.int m)) := by rw [List.getElem?_set_ne (by decide), List.getElem?_set_ne (by decide)]; exact e3
    have g4 : ((σ1.set 5 (some (.str ⟨#[a.1]⟩))).set 6 (some v))[4]? = some (some (.ref t)) := by rw [List.getElem?_set_ne (by decide), List.getElem?_set_ne (by decide)]; exact e4
    have g5 : ((σ1.set 5 (some (.str ⟨#[a.1]⟩))).set 6 (some v))[5]? = some (some (.str ⟨#[a.1]⟩)) := by rw [List.getElem?_set_ne (by decide)]; exact List.getElem?_set_self (by rw [len]; decide)
    have g6 : ((σ1.set 5 (some (.str ⟨#[a.1]⟩))).set 6 (some v))[6]? = some (some v) := List.getElem?_set_self (by rw [List.length_set, len]; decide)
    have lenG : ((σ1.set 5 (some (.str ⟨#[a.1]⟩))).set 6 (some v)).length = 8 := by rw [List.length_set, List.length_set, len]
    generalize ((σ1.set 5 (some (.str ⟨#[a.1]⟩))).set 6 (some v)) = σ2 at g1 g2 g3 g4 g5 g6 lenG ⊢
    have hw : ∀ {Dm : Dm} B9, Same B8 B9 → EvR Dm (tVar 6) σ2 B9 (pMap K txt (boxW a)) := fun B9 s => ev_var g6 (pLst.map (Mo.mo s hv8))
    have tail1 : ∀ {Dm : Dm} B9, Same B8 B9 → EvR Dm (tSl (rSlL K) (tVar 6) (tPart (tC (.int 1))) tNoPart) σ2 B9 (pLst K txt (a.2.map dig)) := fun B9 s => (ev_slL (hw B9 s) (fun _ _ => eo_some ev_c) (fun _ _ => eo_none)).imp fun v B10 _ h => by rw [cut1] at h; exact h
    have hok1 : ∀ r ∈ a.2.map dig, r.length ≤ 90000 ∧ PyData.strOk r = true := fun r hr => by
      have := wsok r (List.mem_cons_of_mem _ hr)
      exact ⟨Nat.le_trans this.1 (by decide), this.2⟩
    have hok2 : (a.2.map dig).length ≤ 90000 := by rw [List.length_map, ok.len a ham]; omega
    refine sh_if0 (D := D) (et_orF ((et_test (ev_neS (x := ⟨#[a.1]⟩) (y := ⟨#[a.1]⟩) (ev_ixL (R := txt) (a := ⟨#[a.1]⟩) (i := 0) (hw B8 (Same.refl _)) (fun _ _ => ev_c) (by decide) rfl) fun _ _ => ev_varE g5)).to (by simp)) fun B9 s9 => (et_not (et_B (ev_psp (Post := fun z => pEq (.bl (areNums z))) (a.2.map dig) (ea_one ((tail1 B9 s9).imp fun v B10 _ h => pLst.map h)) fun vs B10 _ ⟨v, q1, q2⟩ => ⟨⟨v, q1, q2⟩, hok1, hok2⟩))).to (by rw [digs_nums ok ham] <;> rfl)) s8.at2 fun B9 H9 s9 => ?_
    have s79 := s8.trans s9
    have ht9 := ht7.stp s79
    have hd9 := hd7.stp s79
    refine sh_dput (P := nms_ K a.2) (kk := bkey a) s9.at2 ht9 g4 (by omega) (ev_tupleOf (R := num) (as := a.2) ((ev_lcL (K := K) (R := txt) (R' := fun z => num (valS z)) (el_list ((tail1 B9 s9.bs).imp fun v B10 _ h => pLst.map h)) (by rw [List.length_map, ok.len a ham]; omega) fun z y B10 hz s10 hy => ⟨_, wipe_set, sets_name, fun B11 s11 => ?_⟩).imp fun v B10 _ h => ?_)) (fun _ _ => ev_varE g5) fun v10 B10 H10 s10 hv10 => ?_
    · obtain rfl : y = _ := hy
      obtain ⟨j, hj, rfl⟩ := List.mem_map.mp hz
      have hn := ok.num a ham j hj
      refine ev_intS (ev_varE (by exact List.getElem?_set_self (by rw [show (wipe σ2 [7]).length = 8 from by show (σ2.set 7 none).length = 8; rw [List.length_set, lenG]]; decide))) ?_ (Nat.le_trans (dig_len hn.1 hn.2) (by decide))
      unfold valS
      rw [dig_textI hn.1 hn.2] <;> rfl
    · have h2 := pLst.map (pLst.fmap (R := num) (f := valS) h)
      have e : (a.2.map dig).map valS = a.2 := by
        rw [List.map_map]
        conv => rhs; rw [← List.map_id a.2]
        refine List.map_congr_left fun j hj => ?_
        have hn := ok.num a ham j hj
        show valS (dig j) = j
        unfold valS
        rw [dig_textI hn.1 hn.2] <;> rfl
      rw [e] at h2
      exact h2
    have ht10 := (ht9.stp s10)
    have at10 := ht10.at_ (o' := .dK (putK kvs (bkey a) v10)) s10.at2
    have hd10 := (hd9.stp s10).off (o' := .dK (putK kvs (bkey a) v10)) xt
    have hnew : bkey a ∉ kvs.map (·.1) := by
      rw [dic_keys (R := fun (a : Lt1) v => nms_ K a.2 v Bi) pri]
      intro mm
      obtain ⟨u', hu', ek⟩ := List.mem_map.mp mm
      have h1 : b.ct.take (i + 1) = b.ct.take i ++ [a] := take_succ_get ha
      have h2 : ((b.ct.take (i + 1)).map bkey).Nodup := ok.kd.sublist ((List.take_sublist _ _).map bkey)
      rw [h1, List.map_append, List.map_cons, List.map_nil] at h2
      exact (List.nodup_append.mp h2).2.2 (bkey u') (List.mem_map.mpr ⟨u', hu', rfl⟩) (bkey a) (List.mem_singleton.mpr rfl) ek
    refine sh_goLi (i := 1) (L := ⟨x, dx, p, rowsB b m, 1 + i⟩) at10 hd10 g1 fun B11 H11 at11 hd11 c11 keep => ?_
    have s1011 : Same B10 B11 := (c11 [x, t] (by simp)).bs
    have sBi := (s7.bs.trans s79.bs).trans s10.bs
    refine ⟨B11, ((s6i.trans sBi)).trans s1011, at11, hd11, ⟨putK kvs (bkey a) v10, keep t _ ht10.put (Ne.symm xt), ?_⟩, ?_, g1, g2, g3, g4, lenG⟩
    · rw [take_succ_get ha, putK_new hnew]
      exact Paired.snoc (F := fun (a : Lt1) (kv : Key × V) => kv.1 = bkey a ∧ nms_ K a.2 kv.2 B11) ⟨rfl, Mo.mo (P := nms_ K a.2) s1011 hv10⟩ (Paired.mono (fun a kv h => ⟨h.1, Mo.mo (P := nms_ K a.2) (sBi.trans s1011) h.2⟩) pri)
    · exact (((ci.stp ati.inv s7).stp s7.at2.inv (s79.trans s10)).put (by simp)).trans (c11 [x, t] (by simp))
  · rintro σ1 Bi Hi s4i ati ⟨hxi, ⟨kvs, hti, pri⟩, ci, e1, e2, e3, e4, len⟩
    refine sh_fin (L := ⟨x, dx, p, rowsB b m, 1 + b.ct.length⟩) (i := 1) ati hxi e1 (Mo.mo s4i hR4) rowsB_len.symm fun B7 H7 s7 => ?_
    have ht7 := hti.stp s7
    have at8 := ht7.know s7.at2
    have n8 : Same B7 (upd B7 t (.dK kvs)) := Same.new ht7.nb
    have pt : tns K b.ct (.ref t) (upd B7 t (.dK kvs)) := ⟨t, kvs, rfl, upd_same, by
      rw [List.take_length] at pri
      show Paired (fun (a : Lt1) (kv : Key × V) => kv.1 = bkey a ∧ nms_ K a.2 kv.2 (upd B7 t (.dK kvs))) b.ct kvs
      exact Paired.mono (fun (a : Lt1) (kv : Key × V) h => ⟨h.1, Mo.mo (P := nms_ K a.2) (s7.bs.trans n8) h.2⟩) pri⟩
    refine (ev_make (D := D) (P := pBox K b) (R := fun vs H => ∃ d, vs = [.str b.L, d] ∧ tns K b.ct d H) (a := (b, m)) ((ea_cons (P := pEq (.str b.L)) (ev_varE e2) fun B9 s9 => ea_one (P := tns K b.ct) ((ev_psp (Post := fun a : BD × Nat => tns K a.1.ct) (b, m) ((ea_cons (P := tns K b.ct) (ev_var e4 (Mo.mo s9 pt)) fun B10 s10 => ea_one (P := pEq (.int (m : Nat))) (ev_varE e3)) : EvA _ _ _ _ _) fun vs B10 s10 ⟨v, r, q1, q2, v2, q3, q4⟩ => ⟨⟨v, by rw [q1, q3, show v2 = _ from q4], q2⟩, ok⟩).imp fun _ _ _ h => h)).imp fun vs B9 _ ⟨v, r, q1, q2, v2, q3, q4⟩ => ⟨v2, by rw [q1, q3, show v = _ from q2], q4⟩) (fun vs B9 s9 ⟨d, q1, q2⟩ => ⟨⟨d, q1, q2⟩, ok⟩) fun x dx o d B8 hx8 hd8 hn po => box_made hx8 hd8 hn po) H7 at8 _ fun v8 B8 H8 s8 hv8 => ?_
    have c8 : Chg D [x, t] B H B8 H8 := ((ci.stp ati.inv s7).know tH ht7.nb).stp s7.at2.inv s8
    refine q v8 B8 H8 (((c8.drop hx).drop tH).done s8.at2) hv8
end
end CW
set_option Elab.async false
set_option linter.all false
set_option maxRecDepth 100000
set_option maxHeartbeats 1000000
/-! HidR: hidden dicts and lists read and changed; written dicts. -/
namespace CW
open PySem PySem.Spec PyProof.Rows L2 TL
section
variable {D : Dm} {K : PySem.W.Frag} {σ : L2.St} {B H : Hp} {te ta tk tv ty : TE} {P : PV} {os : List (Addr × HO)} {u t : TS} {Ds : Ends} {l : Addr} {kvs : List (Key × V)} {k : Key} {v : V} {tt : TT}
theorem ev_dgetH [Mo P] (h : EvR (DH D os) te σ B (pEq (.ref l))) (hm : (l, HO.dK kvs) ∈ os) (hi : ∀ B2, Same B B2 → EvR (DH D os) tk σ B2 (pEq (kV k))) (hv : valV kvs k = some v) (hp : P v B) : EvR (DH D os) (tDGet te tk) σ B P := fun H at_ Q q =>
  h H at_ _ fun x B2 H2 e2 hx => hi B2 e2.bs H2 e2.at2 _ fun y B3 H3 e3 hy => ⟨l, v, hx, .inl ⟨kvs, k, .inl (e3.at2.inv.1 _ hm), hy, hv.symm⟩, q v B3 H3 (e2.trans e3) (Mo.mo (e2.bs.trans e3.bs) hp)⟩
theorem ev_dninH (hi : EvR (DH D os) tk σ B (pEq (kV k))) (h : ∀ B2, Same B B2 → EvR (DH D os) te σ B2 (pEq (.ref l))) (hm : (l, HO.dK kvs) ∈ os) (hv : valV kvs k = none) : EvR (DH D os) (tDNotIn tk te) σ B (pEq (.bl true)) := fun H at_ Q q =>
  hi H at_ _ fun y B2 H2 e2 hy => h B2 e2.bs H2 e2.at2 _ fun x B3 H3 e3 hx => ⟨l, none, hx, .inl ⟨kvs, k, .inl (e3.at2.inv.1 _ hm), hy, hv.symm⟩, q _ B3 H3 (e2.trans e3) rfl⟩
theorem ev_dlenH (h : EvR (DH D os) te σ B (pEq (.ref l))) (hm : (l, HO.dK kvs) ∈ os) : EvR (DH D os) (tCB (fun xs H Q => ∃ d kvs, xs = [.ref d] ∧ H d = some (.dK kvs) ∧ Q (.int kvs.length) H) (tCons te tNil)) σ B (pEq (.int (kvs.length : Nat))) := fun H at_ Q q =>
  ea_oneE h H at_ _ fun vs B2 H2 e2 r => ⟨l, kvs, r, e2.at2.inv.1 _ hm, q _ B2 H2 e2 rfl⟩
theorem sh_dputH {i : Nat} [Mo P] (at_ : At D B H) (hs : ∀ p ∈ os, Hd1 D B H p.1 p.2) (hm : (l, HO.dK kvs) ∈ os) (h0 : σ[i]? = some (some (.ref l))) (hx : kvs.length < 100000) (h : EvR (DH D os) tv σ B P) (hk : ∀ B2, Same B B2 → EvR (DH D os) ty σ B2 (pEq (kV k)))
    (kk : ∀ v B2 H2, Stp D B H B2 H2 → P v B2 → u Ds σ (upd H2 l (.dK (putK kvs k v)))) : tSeq (sDPut (tVar i) ty tv) u Ds σ H :=
  h H (at_DH at_ hs) _ fun v B2 H2 e p => ⟨.ref l, h0, hk B2 e.bs H2 e.at2 _ fun y B3 H3 e3 hy => by
    rw [show y = kV k from hy]
    exact ⟨l, _, rfl, DPut.k ((e.trans e3).at2.inv.1 _ hm) (Nat.lt_of_lt_of_le hx (by decide)), kk v B3 H3 (stp_DH hs (e.trans e3)) (Mo.mo e3.bs p)⟩⟩
/-- xs.append(e), hidden, the last -/
theorem sh_appendHL {i : Nat} {xs : List V} (at_ : At D B H) (hs : ∀ p ∈ os, Hd1 D B H p.1 p.2) (hm : (l, HO.lst xs) ∈ os) (h0 : σ[i]? = some (some (.ref l))) (hx : xs.length < 100000) (h : EvR (DH D os) te σ B P) (k : ∀ v B2 H2, Stp D B H B2 H2 → P v B2 → Ds.nx σ (upd H2 l (.lst (xs ++ [v])))) :
    tDrop (tBM K "list" rAppend (tVar i) (tCons te tNil)) Ds σ H :=
  ⟨.ref l, h0, .inl ⟨rfl, _, SqL.of (hs _ hm).ob⟩, h H (at_DH at_ hs) _ fun v B2 H2 e p => ⟨l, xs, v, rfl, rfl, e.at2.inv.1 _ hm, Nat.lt_of_lt_of_le hx (by decide), k v B2 H2 (stp_DH hs e) p⟩⟩
theorem sh_appendH {i : Nat} {xs : List V} (at_ : At D B H) (hs : ∀ p ∈ os, Hd1 D B H p.1 p.2) (hm : (l, HO.lst xs) ∈ os) (h0 : σ[i]? = some (some (.ref l))) (hx : xs.length < 100000) (h : EvR (DH D os) te σ B P) (k : ∀ v B2 H2, Stp D B H B2 H2 → P v B2 → u Ds σ (upd H2 l (.lst (xs ++ [v])))) :
    tSeq (tDrop (tBM K "list" rAppend (tVar i) (tCons te tNil))) u Ds σ H :=
  ⟨.ref l, h0, .inl ⟨rfl, _, SqL.of (hs _ hm).ob⟩, h H (at_DH at_ hs) _ fun v B2 H2 e p => ⟨l, xs, v, rfl, rfl, e.at2.inv.1 _ hm, Nat.lt_of_lt_of_le hx (by decide), k v B2 H2 (stp_DH hs e) p⟩⟩
/-- if c: ..; known to be so -/
theorem sh_ifTH (h : EvT (DH D os) tt σ B (is true)) (at_ : At D B H) (hs : ∀ p ∈ os, Hd1 D B H p.1 p.2) (k : ∀ B2 H2, Stp D B H B2 H2 → t Ds σ H2) : tIfS tt t u Ds σ H := h.hid at_ hs fun b B2 H2 e p => by
  subst p
  exact k B2 H2 e
/-! written dicts -/
inductive EvPs (D : Dm) (σ : L2.St) : List (TE × TE) → Hp → List (Key × PV) → Prop where
  | nil {B : Hp} : EvPs D σ [] B []
  | cons {tk tv : TE} {ts : List (TE × TE)} {B : Hp} {k : Key} {P : PV} {kps : List (Key × PV)} (mo : Mo P) (hk : EvR D tk σ B (pEq (kV k))) (hv : ∀ B2, Same B B2 → EvR D tv σ B2 P) (r : ∀ B2, Same B B2 → EvPs D σ ts B2 kps) : EvPs D σ ((tk, tv) :: ts) B ((k, P) :: kps)
theorem ev_pairs {ts : List (TE × TE)} : ∀ {kps : List (Key × PV)} {B : Hp}, EvPs D σ ts B kps → ∀ H, At D B H → ∀ Q : List (V × V) → Hp → Prop, (∀ kvs B2 H2, Stp D B H B2 H2 → Paired (fun (kp : Key × PV) (kv : Key × V) => kv.1 = kp.1 ∧ kp.2 kv.2 B2) kps kvs → Q (kvs.map fun kv => (kV kv.1, kv.2)) H2) → tPairs ts σ H Q := by
  induction ts with
  | nil => intro kps B h H a Q q; cases h; exact q [] B H (Stp.refl a) .nil
  | cons t ts ih =>
    intro kps B h H a Q q
    cases h with
    | @cons tk tv _ _ k P kps mo hk hv r =>
      refine hk H a _ fun x B2 H2 e2 hx => hv B2 e2.bs H2 e2.at2 _ fun y B3 H3 e3 hy => ih (r B3 (e2.bs.trans e3.bs)) H3 e3.at2 _ fun kvs B4 H4 e4 pr => ?_
      rw [show x = kV k from hx]
      exact q ((k, y) :: kvs) B4 H4 ((e2.trans e3).trans e4) (.cons ⟨rfl, Mo.mo e4.bs hy⟩ pr)
theorem mergeK_nodup : ∀ {more kvs : List (Key × V)}, ((kvs ++ more).map (·.1)).Nodup → mergeK kvs more = kvs ++ more
  | [], kvs, _ => by simp [mergeK]
  | kv :: more, kvs, h => by
    have h1 : kv.1 ∉ kvs.map (·.1) := by
      rw [List.map_append, List.map_cons] at h
      intro m
      exact (List.nodup_append.mp h).2.2 _ m kv.1 List.mem_cons_self rfl
    show mergeK (putK kvs kv.1 kv.2) more = _
    rw [putK_new h1, mergeK_nodup (by simpa using h)]
    simp
theorem ev_disp {ts : List (TE × TE)} {kps : List (Key × PV)} (h : EvPs D σ ts B kps) (hn : (kps.map (·.1)).Nodup) (hl : kps.length ≤ 15) (hmo : ∀ kp ∈ kps, Mo kp.2) : EvR D (tDisp ts) σ B (pDic (Prod.fst : Key × PV → Key) (fun kp => kp.2) kps) := fun H at_ Q q p hp => by
  have hd : Hd1 D B (upd H p (.dK [])) p (.dK []) := Hd1.new at_ hp
  have a1 := (Stp.hid (o := .dK []) at_ hp)
  refine ev_pairs h _ a1.at2 _ fun kvs B2 H2 e2 pr => ?_
  have hd2 := hd.stp e2
  have ek : kvs.map (·.1) = kps.map (·.1) := by
    clear q e2 hd2 h hn hl hmo
    induction pr with
    | nil => rfl
    | cons r _ ih => rw [List.map_cons, List.map_cons, ih, r.1]
  have em : mergeK [] kvs = kvs := by
    have := mergeK_nodup (kvs := []) (more := kvs) (by rw [List.nil_append, ek]; exact hn)
    simpa using this
  refine ⟨hd2.ob, kvs, rfl, by rw [← pr.length]; exact hl, ?_⟩
  rw [em]
  have hd3 := hd2.put (o' := .dK kvs)
  have n3 : Same B2 (upd B2 p (.dK kvs)) := Same.new hd2.nb
  refine q _ (upd B2 p (.dK kvs)) (upd H2 p (.dK kvs)) ⟨e2.bs.trans n3, hd3.know (hd2.at_ e2.at2), fun b o hb hn => ?_, fun b hb hB => ?_⟩ ⟨p, kvs, rfl, upd_same, ?_⟩
  · have hbp : b ≠ p := fun z => by rw [z, hp] at hb; cases hb
    rw [upd_ne hbp]
    exact e2.x b o (by rw [upd_ne hbp]; exact hb) hn
  · have hbp : b ≠ p := fun z => hb (by rw [z]; exact hp)
    rw [upd_ne hbp]
    exact e2.fr b (by rw [upd_ne hbp]; exact hb) hB
  · have gen : ∀ {kps : List (Key × PV)} {kvs' : List (Key × V)}, (∀ kp ∈ kps, Mo kp.2) → Paired (fun (kp : Key × PV) (kv : Key × V) => kv.1 = kp.1 ∧ kp.2 kv.2 B2) kps kvs' → Paired (fun (kp : Key × PV) (kv : Key × V) => kv.1 = kp.1 ∧ kp.2 kv.2 (upd B2 p (.dK kvs))) kps kvs' := by
      intro kps kvs' hmo pr
      induction pr with
      | nil => exact .nil
      | @cons a b l m r _ ih => exact .cons ⟨r.1, (hmo a List.mem_cons_self).mo n3 r.2⟩ (ih fun kp h => hmo kp (List.mem_cons_of_mem _ h))
    exact gen hmo pr
end
end CW
set_option Elab.async false
set_option linter.all false
set_option maxRecDepth 100000
set_option maxHeartbeats 4000000
/-! W24: words of a machine; Machine.of_words at the two words of the law. -/
namespace CW
open PySem PySem.Spec PyProof.Rows L2 TL
def spReqL : Sp := PSp (fun _ (z : Str) vs _ => vs = [.str z] ∧ z.length ≤ 90000 ∧ isLetters z = true) (fun _ => pEq .non)
structure LwOk (z L : Str) : Prop where
  w : isWord z = true
  n : z.length ≤ 6
  s : (cs z).all (fun c => decide (c ∈ cs L)) = true
def spListed : Sp := PSp (fun _ (a : Str × Str) vs _ => vs = [.str a.1, .str a.2] ∧ LwOk a.1 a.2) (fun _ => pEq (.bl true))
def spReqW (K : PySem.W.Frag) : Sp := PSp (fun _ (a : List Str × Str) vs B => (∃ x, vs = [x, .str a.2] ∧ pMapT K txt a.1 x B) ∧ a.1.length ≤ 6 ∧ ∀ z ∈ a.1, LwOk z a.2) (fun _ => pEq .non)
/-! the two words -/
def wa : Str := "aaaaaa"
def wb : Str := "bbbbbb"
def lab : Str := "ab"
def wd (i : Nat) : Str := if i = 0 then wa else wb
def ws2 : List Str := [wa, wb]
def pf (n : Nat) : Str := if n ≤ 6 then ⟨(List.replicate n 97).toArray⟩ else ⟨(List.replicate (n - 6) 98).toArray⟩
def plc (n : Nat) : List (Key × V) := (List.range (n + 1)).map fun k => (Sum.inr (pf k), V.int (k : Nat))
def srcN (n : Nat) : Int := if n = 6 then 0 else (n : Nat)
def sgC (n : Nat) : Nat := if n < 6 then 97 else 98
def stw (n : Nat) : Tri := (srcN n, ⟨#[sgC n]⟩, ((n + 1 : Nat) : Int))
def sts (n : Nat) : List Tri := (List.range n).map stw
def isIv (o : Option V) (k : Int) : Bool := match o with
  | some (.int j) => decide (j = k)
  | _ => false
theorem isIv_ok {o : Option V} {k : Int} (h : isIv o k = true) : o = some (.int k) := by
  unfold isIv at h
  split at h
  · rw [of_decide_eq_true h]
  · cases h
def chk (i e : Nat) : Bool := (valV (plc (6 * i + e)) (.inr (cutS (wd i) none (some (1 + (e : Int)))))).isNone && (isIv (valV (plc (6 * i + e + 1)) (.inr (cutS (wd i) none (some (1 + (e : Int) - 1))))) (srcN (6 * i + e)) && (isIv (valV (plc (6 * i + e + 1)) (.inr (cutS (wd i) none (some (1 + (e : Int)))))) ((6 * i + e + 1 : Nat) : Int) &&
  (decide (cutS (wd i) none (some (1 + (e : Int))) = pf (6 * i + e + 1)) && decide ((cs (wd i))[(1 + (e : Int) - 1).toNat]? = some (sgC (6 * i + e))))))
theorem chk_all : ∀ i < 2, ∀ e < 6, chk i e = true := by decide +kernel
theorem end_all : isIv (valV (plc 12) (.inr wa)) 6 = true ∧ isIv (valV (plc 12) (.inr wb)) 12 = true := by decide +kernel
theorem plc_succ (n : Nat) : plc (n + 1) = plc n ++ [(Sum.inr (pf (n + 1)), V.int ((n + 1 : Nat) : Int))] := by
  unfold plc
  rw [List.range_succ, List.map_append] <;> rfl
theorem plc_len (n : Nat) : (plc n).length = n + 1 := by unfold plc; rw [List.length_map, List.length_range]
theorem sts_succ (n : Nat) : sts (n + 1) = sts n ++ [stw n] := by
  unfold sts
  rw [List.range_succ, List.map_append] <;> rfl
theorem sts_len (n : Nat) : (sts n).length = n := by unfold sts; rw [List.length_map, List.length_range]
theorem val_none {kvs : List (Key × V)} {k : Key} (h : (valV kvs k).isNone = true) : k ∉ kvs.map (·.1) := valV_not (Option.isNone_iff_eq_none.mp h)
/-- the machine of the two words, before it is sorted -/
def wideM : MD := ⟨lab, 13, sts 12, [6, 12]⟩
def spTree (K : PySem.W.Frag) : Sp := PSp (fun _ (_ : Unit) vs B => ∃ x, vs = [.str lab, x] ∧ pMapT K txt ws2 x B) (fun _ => pEx (MSort wideM) (pMac K))
def spOfW (K : PySem.W.Frag) : Sp := PSp (fun _ (_ : Unit) vs B => ∃ c x, vs = [c, .str lab, x] ∧ pMapT K txt ws2 x B) (fun _ => pEx (MSort wideM) (pMac K))
theorem ok_wd : ∀ i < 2, LwOk (wd i) lab := by
  have e : ∀ i < 2, (isWord (wd i) && (decide ((wd i).length ≤ 6) && (cs (wd i)).all (fun c => decide (c ∈ cs lab)))) = true := by decide +kernel
  intro i hi
  have := e i hi
  simp only [Bool.and_eq_true] at this
  exact ⟨this.1, of_decide_eq_true this.2.1, this.2.2⟩
theorem ok_ws2 : ∀ z ∈ ws2, LwOk z lab := by
  intro z hz
  rcases List.mem_cons.mp hz with e | hz
  · rw [e]; exact ok_wd 0 (by decide)
  · rw [List.mem_singleton.mp hz]; exact ok_wd 1 (by decide)
section
variable {P : Program} {w : World} {K : PySem.W.Frag} {mg : Str → Option Value} {base : Heap} {D : Dm} {σ : L2.St} {B H : Hp} {te ta tv ty : TE} {u : TS} {Ds : Ends}
theorem sc_require_letters : FnScope ["value"] ["value"] d_require_letters.scope := ⟨rfl, rfl, rfl, by decide +kernel, rfl, by decide +kernel, by decide +kernel⟩
theorem fn_require_letters (T : Tz K mg) : Fn P w K mg base 3 "require_letters" spReqL := by
  refine fn_of T.h_require_letters T.g_require_letters rfl sc_require_letters (fun _ _ _ _ _ _ us hl => match us, hl with | [_], _ => rfl) (fun vs H Q E h => ?_) (BodyOk0.ok fun cdv A outer s H vs Q E hr h => ?_)
  · obtain ⟨_, _, _, _, p, _⟩ := h
    obtain ⟨rfl, _⟩ := p
    rfl
  refine ⟨_, pss_one (ps_if (pt_not (pt_val (pe_fn (fn_is_letters T) (hr.mono (by decide)) passL (pa_cons (pv 0) pa_nil)))) (pss_one ps_never) pss_nil), h.bodyN (N := ["value"]) fun D a B p => ?_⟩
  · obtain ⟨rfl, hz, hl⟩ := p
    exact (en_ifF ((et_not (et_B (ev_psp (Post := fun z => pEq (.bl (isLetters z))) a (ea_oneE (ev_varE rfl)) fun vs B2 _ r => ⟨r, hz⟩))).to (by rw [hl] <;> rfl))).imp fun _ _ _ _ => rfl
theorem sc_is_listed_word : FnScope ["value", "letters", "letter"] ["value", "letters"] d_is_listed_word.scope := ⟨rfl, rfl, rfl, by decide +kernel, rfl, by decide +kernel, by decide +kernel⟩
theorem fn_is_listed_word (T : Tz K mg) : Fn P w K mg base 3 "is_listed_word" spListed := by
  obtain ⟨_, g_MAX_WORDS⟩ := T.i_MAX_WORDS
  refine fn_of T.h_is_listed_word T.g_is_listed_word rfl sc_is_listed_word (fun _ _ _ _ _ _ us hl => match us, hl with | [_, _], _ => rfl) (fun vs H Q E h => ?_) (BodyOk0.ok fun cdv A outer s H vs Q E hr h => ?_)
  · obtain ⟨_, _, _, _, p, _⟩ := h
    obtain ⟨rfl, _⟩ := p
    rfl
  refine ⟨_, pss_one (ps_ret (pe_and (pe_fn (fn_is_word T) (hr.mono (by decide)) passL (pa_cons (pv 0) pa_nil)) (pe_and (pe_cmpR op_le (pe_callB call_len (by rfl) T.b_len boot_len (pa_cons (pv 0) pa_nil)) (pe_glob (v := .int 6) (by rfl) g_MAX_WORDS ⟨_, rfl⟩) (nomark _)) (pe_one (pe_callB (cr_all rfl) (by rfl) T.b_all boot_all (pa_cons (pe_lc (own := [("letter", 2)]) (g := gName 2) (tt := tYes) (by rfl) sc_is_listed_word.nd (pi_str (pv 0)) (blkOk_by (N := ["value", "letters", "letter"]) (sc := d_is_listed_word.scope) (own := [("letter", 2)]) (by decide +kernel)) (fun _ _ _ _ _ => (pg_name (i := 2) sc_is_listed_word.nd rfl (Or.inl rfl))) (fun _ _ _ _ _ => pts_nil) (fun _ _ _ _ _ => (pe_cmpR op_in_sign (pv 2) (pv 1) (by rfl)))) pa_nil)))))), h.body (N := ["value", "letters", "letter"]) fun D a B p => ?_⟩
  · obtain ⟨rfl, ok⟩ := p
    obtain ⟨z, L⟩ := a
    dsimp only at ok
    have hn := ok.n
    refine es_ret ((ev_andT (c := true) ((ev_word (z := z) (ea_oneE (ev_varE rfl)) (by omega)).to (by rw [ok.w])) fun B2 s2 => ev_andT (c := true) ((ev_I0 (i := (z.length : Nat)) (j := 6) (ev_lenS (ev_varE rfl) (by omega)) fun _ _ => ev_c).to (congrArg V.bl (decide_eq_true (by omega)))) fun B3 s3 => (ev_all (as := cs z) (f := fun c => decide (c ∈ cs L)) (ev_lc1 (el_str (ev_varE rfl)) (by rw [len_cs]; omega) (fun c x B4 _ _ hx => ?_) (fun _ _ _ _ _ h => h))).to (by rw [ok.s])).to rfl)
    obtain rfl : x = _ := hx
    exact ev_inSign (ev_varE rfl) fun _ _ => ev_varE rfl
theorem sc_require_words : FnScope ["words", "letters", "word"] ["words", "letters"] d_require_words.scope := ⟨rfl, rfl, rfl, by decide +kernel, rfl, by decide +kernel, by decide +kernel⟩
theorem fn_require_words (T : Tz K mg) : Fn P w K mg base 4 "require_words" (spReqW K) := by
  obtain ⟨_, g_MAX_WORDS⟩ := T.i_MAX_WORDS
  refine fn_of T.h_require_words T.g_require_words rfl sc_require_words (fun _ _ _ _ _ _ us hl => match us, hl with | [_, _], _ => rfl) (fun vs H Q E h => ?_) (BodyOk0.ok fun cdv A outer s H vs Q E hr h => ?_)
  · obtain ⟨_, _, _, _, p, _⟩ := h
    obtain ⟨⟨_, rfl, _⟩, _⟩ := p
    rfl
  refine ⟨_, pss_cons (ps_if (PW.pt (pw_or (pt_not (pt_val (pe_callB call_isi (by rfl) T.b_isinstance boot_isinstance (pa_cons (pv 0) (pa_cons (pe_bltn (v := .ty "tuple") (by rfl) T.b_tuple boot_tuple rfl) pa_nil))))) (pw_or1 (pt_cmpR op_gt (pe_callB call_len (by rfl) T.b_len boot_len (pa_cons (pv 0) pa_nil)) (pe_glob (v := .int 6) (by rfl) g_MAX_WORDS ⟨_, rfl⟩) (nomark _))))) (pss_one ps_never) pss_nil)
      (pss_one (ps_if (pt_not (pt_val (pe_callB (cr_all rfl) (by rfl) T.b_all boot_all (pa_cons (pe_lc (own := [("word", 2)]) (g := gName 2) (tt := tYes) (by rfl) sc_require_words.nd (pi_tup (pv 0)) (blkOk_by (N := ["words", "letters", "word"]) (sc := d_require_words.scope) (own := [("word", 2)]) (by decide +kernel)) (fun _ _ _ _ _ => (pg_name (i := 2) sc_require_words.nd rfl (Or.inl rfl))) (fun _ _ _ _ _ => pts_nil) (fun _ _ _ _ _ => (pe_fn (fn_is_listed_word T) (hr.mono (by decide)) passL (pa_cons (pv 2) (pa_cons (pv 1) pa_nil))))) pa_nil)))) (pss_one ps_never) pss_nil)), h.bodyN (N := ["words", "letters", "word"]) fun D a B p => ?_⟩
  · obtain ⟨⟨x, rfl, hx⟩, hl, ok⟩ := p
    have hv : ∀ {σ : L2.St} B2, Same B B2 → σ[0]? = some (some x) → EvR D (tVar 0) σ B2 (pMapT K txt a.1) := fun B2 s h => ev_var h (Mo.mo s hx)
    intro H at_ Ds q
    refine sh_if0 (D := D) (B := B) (et_orF ((et_not (et_B (ev_isi (b := true) (ev_varE rfl) (fun _ _ => ev_c) (.ty _) (isI_stp hx)))).to rfl) fun B2 s2 => (et_test (ev_I0 (i := (a.1.length : Nat)) (j := 6) (ev_lenMT (hv B2 s2 rfl)) fun _ _ => ev_c)).to (decide_eq_false (by omega))) at_ fun B2 H2 s2 => ?_
    refine en_ifF ((et_not (et_B (ev_all (as := a.1) (f := fun _ => true) (ev_lc1 (el_tup (hv B2 s2.bs rfl)) (by omega) (fun z y B3 hz s3 hy => ?_) (fun _ _ _ _ e h => h))))).to (by simp)) H2 s2.at2 _ fun σ3 B3 H3 s3 e => q σ3 B3 H3 (s2.trans s3) rfl
    obtain rfl : y = _ := hy
    exact ev_psp (Post := fun _ => pEq (.bl true)) (z, a.2) (ea_consE (ev_varE rfl) fun _ _ => ea_oneE (ev_varE rfl)) fun vs B4 _ r => ⟨r, ok z hz⟩
end
end CW
set_option Elab.async false
set_option linter.all false
set_option maxRecDepth 100000
set_option maxHeartbeats 4000000
/-! W25: tree_of, Machine.of_words, at the two words. -/
namespace CW
open PySem PySem.Spec PyProof.Rows L2 TL
theorem chk_at {i e : Nat} (hi : i < 2) (he : e < 6) : valV (plc (6 * i + e)) (.inr (cutS (wd i) none (some (1 + (e : Int))))) = none ∧ valV (plc (6 * i + e + 1)) (.inr (cutS (wd i) none (some (1 + (e : Int) - 1)))) = some (.int (srcN (6 * i + e))) ∧
    valV (plc (6 * i + e + 1)) (.inr (cutS (wd i) none (some (1 + (e : Int))))) = some (.int ((6 * i + e + 1 : Nat) : Int)) ∧ cutS (wd i) none (some (1 + (e : Int))) = pf (6 * i + e + 1) ∧ (cs (wd i))[(1 + (e : Int) - 1).toNat]? = some (sgC (6 * i + e)) := by
  have h := chk_all i hi e he
  unfold chk at h
  simp only [Bool.and_eq_true] at h
  exact ⟨Option.isNone_iff_eq_none.mp h.1, isIv_ok h.2.1, isIv_ok h.2.2.1, of_decide_eq_true h.2.2.2.1, of_decide_eq_true h.2.2.2.2⟩
theorem wd_len {i : Nat} (hi : i < 2) : (wd i).length = 6 := by
  have : ∀ i < 2, (wd i).length = 6 := by decide +kernel
  exact this i hi
theorem ws2_at {i : Nat} (hi : i < 2) : ws2[i]? = some (wd i) := by
  have : ∀ i < 2, ws2[i]? = some (wd i) := by decide +kernel
  exact this i hi
section
variable {P : Program} {w : World} {K : PySem.W.Frag} {mg : Str → Option Value} {base : Heap} {D : Dm} {σ : L2.St} {B H : Hp} {te ta tv ty : TE} {u : TS} {Ds : Ends}
theorem sc_tree_of : FnScope ["letters", "words", "places", "steps", "word", "end"] ["letters", "words"] d_tree_of.scope := ⟨rfl, rfl, rfl, by decide +kernel, rfl, by decide +kernel, by decide +kernel⟩
theorem fn_tree_of (T : Tz K mg) : Fn P w K mg base 7 "tree_of" (spTree K) := by
  refine fn_of T.h_tree_of T.g_tree_of rfl sc_tree_of (fun _ _ _ _ _ _ us hl => match us, hl with | [_, _], _ => rfl) (fun vs H Q E h => ?_) (BodyOk0.ok fun cdv A outer s H vs Q E hr h => ?_)
  · obtain ⟨_, _, _, _, p, _⟩ := h
    obtain ⟨_, rfl, _⟩ := p
    rfl
  refine ⟨_, pss_cons (ps_set (i := 2) sc_tree_of.nd rfl (Or.inr rfl) (pe_disp (pps_cons pe_str pe_int pps_nil) (by rfl) (by rfl) (fun z => by cases z) (by decide)))
      (pss_cons (ps_set (i := 3) sc_tree_of.nd rfl (Or.inl rfl) (pe_lst pa_nil))
      (pss_cons (ps_for PassesOwn.never (by rfl) (pi_tup (pv 1)) (pg_name (i := 4) sc_tree_of.nd rfl (Or.inl rfl)) (pss_one (ps_for PassesOwn.never (by rfl) (pi_range2 (by rfl) T.b_range (pa_cons pe_int (pa_cons (pe_op op_add (pe_callB call_len (by rfl) T.b_len boot_len (pa_cons (pv 4) pa_nil)) pe_int) pa_nil))) (pg_name (i := 5) sc_tree_of.nd rfl (Or.inl rfl)) (pss_one (ps_if (pt_cmp (pc_dnotin (hu_of hr) (pe_slice sl_str (pv 4) po_none (po_some (pv 5))) (pv 2))) (pss_cons (ps_dput (hu_of hr) (pv 2) (pe_slice sl_str (pv 4) po_none (po_some (pv 5))) (pe_callB call_lenD (by rfl) T.b_len boot_len (pa_cons (pv 2) pa_nil)) rfl)
      (pss_one (ps_expr (pe_bm PySem.F.plainAttrs_list PySem.F.slot_list_append PySem.F.type_list_append mt_append (pv 3) (pa_cons (pe_tup (pa_cons (pe_dget (hu_of hr) (pv 2) (pe_slice sl_str (pv 4) po_none (po_some (pe_op op_sub (pv 5) pe_int))) (fun _ _ => rfl)) (pa_cons (pe_ix ix_str (pv 4) (pe_op op_sub (pv 5) pe_int) (fun _ _ => rfl)) (pa_cons (pe_dget (hu_of hr) (pv 2) (pe_slice sl_str (pv 4) po_none (po_some (pv 5))) (fun _ _ => rfl)) pa_nil)))) pa_nil))))) pss_nil)))))
      (pss_one (ps_ret (pe_fn (fn_machine_in T) (hr.mono (by decide)) passL (pa_cons (pv 0) (pa_cons (pe_callB call_lenD (by rfl) T.b_len boot_len (pa_cons (pv 2) pa_nil)) (pa_cons (pv 3) (pa_cons (pe_lc (own := [("word", 4)]) (g := gName 4) (tt := tYes) (by rfl) sc_tree_of.nd (pi_tup (pv 1)) (blkOk_by (N := ["letters", "words", "places", "steps", "word", "end"]) (sc := d_tree_of.scope) (own := [("word", 4)]) (by decide +kernel)) (fun _ _ _ _ _ => (pg_name (i := 4) sc_tree_of.nd rfl (Or.inl rfl))) (fun _ _ _ _ _ => pts_nil) (fun _ _ _ _ _ => (pe_dget (hu_of hr) (pv 2) (pv 4) (fun _ _ => rfl)))) pa_nil))))))))), ?_⟩
  obtain ⟨D, B, _, at_, ⟨x, rfl, hx⟩, q⟩ := h
  -- places = {'': 0}
  refine fun l hl => ⟨upd_same, [(Sum.inr Str.empty, V.int 0)], rfl, by decide, ?_⟩
  have hl1 : Hd1 D B (upd (upd H l (.dK [])) l (.dK (plc 0))) l (.dK (plc 0)) := (Hd1.new at_ hl).put
  have at1 : At D B (upd (upd H l (.dK [])) l (.dK (plc 0))) := (Hd1.new (o := .dK []) at_ hl).at_ (Stp.hid at_ hl).at2
  have c1 : Chg D [l] B H B (upd (upd H l (.dK [])) l (.dK (plc 0))) := ((Chg.refl (D := D) (as := [l])).put (by simp)).put (by simp)
  show (tSeq _ _ : TS) _ _ (upd (upd H l (.dK [])) l (.dK (plc 0)))
  generalize upd (upd H l (.dK [])) l (.dK (plc 0)) = H1 at hl1 at1 c1 ⊢
  -- steps = []
  refine ⟨by show 0 ≤ _; decide, fun s hs => ?_⟩
  have hs1 : Hd1 D B (upd H1 s (.lst [])) s (.lst []) := Hd1.new at1 hs
  have at2 := (Stp.hid (o := .lst []) at1 hs).at2
  have hl2 := hl1.past (o := .lst []) hs
  have ls : l ≠ s := fun z => by rw [z] at hl1; exact absurd hs (by rw [hl1.ob]; exact Option.some_ne_none _)
  have c2 : Chg D [l, s] B H B (upd H1 s (.lst [])) := (c1.mono (bs := [l, s]) fun a h => by rw [List.mem_singleton.mp h]; simp).put (by simp)
  have sH : H s = none := by
    cases e : H s with
    | none => rfl
    | some o => exact absurd hs (c1.hv s (by rw [e]; exact Option.some_ne_none _))
  show (tSeq _ _ : TS) _ _ (upd H1 s (.lst []))
  generalize upd H1 s (.lst []) = H2 at hs1 at2 hl2 c2 ⊢
  let Hs : Nat → Hp → Hp → Prop := fun n Bi Hi => Hd1 D Bi Hi l (.dK (plc n)) ∧ (∃ xs, Hd1 D Bi Hi s (.lst xs) ∧ Paired (fun a v => tri K a v Bi) (sts n) xs) ∧ Chg D [l, s] B H Bi Hi
  let Sl : L2.St → Prop := fun σ1 => σ1[0]? = some (some (.str lab)) ∧ σ1[1]? = some (some x) ∧ σ1[2]? = some (some (.ref l)) ∧ σ1[3]? = some (some (.ref s)) ∧ σ1.length = 6
  refine for_ev (D := D) (B := B) (Ds := { nx := _, rt := _, bk := _, ct := _ }) (el_tup (R := txt) (as := ws2) (ev_var rfl hx)) at2 (fun i σ1 Bi Hi => Hs (6 * i) Bi Hi ∧ Sl σ1) (fun B3 H3 s3 => ⟨⟨hl2.stp s3, ⟨[], hs1.stp s3, .nil⟩, c2.stp at2.inv s3⟩, rfl, rfl, rfl, rfl, rfl⟩) ?_ ?_
  · rintro B3 s3 i y σ1 Bi Hi B4 H4 hi s3i ati ⟨⟨hli, ⟨xs, hsi, pri⟩, ci⟩, e0, e1, e2, e3, len⟩ s4 ⟨z, hz, hy⟩
    have hi2 : i < 2 := hi
    obtain rfl : y = _ := hy
    obtain rfl : wd i = z := by
      rw [ws2_at hi2] at hz
      exact Option.some.inj hz
    have wl := wd_len hi2
    show (tFor _ _ _ : TS) _ (σ1.set 4 (some (.str (wd i)))) H4
    have f0 : (σ1.set 4 (some (.str (wd i))))[0]? = some (some (.str lab)) := by rw [List.getElem?_set_ne (by decide)]; exact e0
    have f1 : (σ1.set 4 (some (.str (wd i))))[1]? = some (some x) := by rw [List.getElem?_set_ne (by decide)]; exact e1
    have f2 : (σ1.set 4 (some (.str (wd i))))[2]? = some (some (.ref l)) := by rw [List.getElem?_set_ne (by decide)]; exact e2
    have f3 : (σ1.set 4 (some (.str (wd i))))[3]? = some (some (.ref s)) := by rw [List.getElem?_set_ne (by decide)]; exact e3
    have f4 : (σ1.set 4 (some (.str (wd i))))[4]? = some (some (.str (wd i))) := List.getElem?_set_self (by rw [len]; decide)
    have lenF : (σ1.set 4 (some (.str (wd i)))).length = 6 := by rw [List.length_set, len]
    generalize σ1.set 4 (some (.str (wd i))) = σ2 at f0 f1 f2 f3 f4 lenF ⊢
    have hli4 := hli.stp s4
    have hsi4 := hsi.stp s4
    have ci4 := ci.stp ati.inv s4
    have pri4 : Paired (fun a v => tri K a v B4) (sts (6 * i)) xs := Paired.mono (fun a v h => Mo.mo s4.bs h) pri
    have six : ((1 + ((6 : Nat) : Int)) - 1).toNat = 6 := by decide
    refine for_ev (D := D) (B := B4) (n := 6) (PY := fun k x _ => x = .int (1 + (k : Nat))) (by
      have := ei_range2 (D := D) (σ := σ2) (B := B4) (i := 1) (j := ((wd i).length : Nat) + 1) (ea_consE ev_c fun B5 s5 => ea_oneE (ev_I0 (g := fun i j => .int (i + j)) (i := ((wd i).length : Nat)) (j := 1) (ev_lenS (K := K) (ev_varE f4) (by rw [wl]; decide)) fun _ _ => ev_c)) (by rw [wl]; decide)
      rw [wl] at this
      exact this) s4.at2 (fun e σ3 Bj Hj => Hs (6 * i + e) Bj Hj ∧ (Sl σ3 ∧ σ3[4]? = some (some (.str (wd i))))) (fun B5 H5 s5 => ⟨⟨hli4.stp s5, ⟨xs, hsi4.stp s5, Paired.mono (fun a v h => Mo.mo s5.bs h) pri4⟩, ci4.stp s4.at2.inv s5⟩, ⟨f0, f1, f2, f3, lenF⟩, f4⟩) ?_ ?_
    · rintro B5 s5 e y σ3 Bj Hj B6 H6 he s5j atj ⟨⟨hlj, ⟨ys, hsj, prj⟩, cj⟩, ⟨g0, g1, g2, g3, len3⟩, g4⟩ s6 hy
      obtain rfl : y = _ := hy
      obtain ⟨k1, k2, k3, k4, k5⟩ := chk_at hi2 he
      show (tIfS _ _ _ : TS) _ (σ3.set 5 (some (.int (1 + (e : Nat))))) H6
      have m0 : (σ3.set 5 (some (.int (1 + (e : Nat)))))[0]? = some (some (.str lab)) := by rw [List.getElem?_set_ne (by decide)]; exact g0
      have m1 : (σ3.set 5 (some (.int (1 + (e : Nat)))))[1]? = some (some x) := by rw [List.getElem?_set_ne (by decide)]; exact g1
      have m2 : (σ3.set 5 (some (.int (1 + (e : Nat)))))[2]? = some (some (.ref l)) := by rw [List.getElem?_set_ne (by decide)]; exact g2
      have m3 : (σ3.set 5 (some (.int (1 + (e : Nat)))))[3]? = some (some (.ref s)) := by rw [List.getElem?_set_ne (by decide)]; exact g3
      have m4 : (σ3.set 5 (some (.int (1 + (e : Nat)))))[4]? = some (some (.str (wd i))) := by rw [List.getElem?_set_ne (by decide)]; exact g4
      have m5 : (σ3.set 5 (some (.int (1 + (e : Nat)))))[5]? = some (some (.int (1 + (e : Nat)))) := List.getElem?_set_self (by rw [len3]; decide)
      have lenM : (σ3.set 5 (some (.int (1 + (e : Nat))))).length = 6 := by rw [List.length_set, len3]
      generalize σ3.set 5 (some (.int (1 + (e : Nat)))) = σ4 at m0 m1 m2 m3 m4 m5 lenM ⊢
      have wsz : (wd i).length ≤ sizeLine := by rw [wl]; decide
      have hl6 := hlj.stp s6
      have hs6 := hsj.stp s6
      have os6 : ∀ p ∈ [(l, HO.dK (plc (6 * i + e))), (s, HO.lst ys)], Hd1 D B6 H6 p.1 p.2 := fun p hp => by
        rcases List.mem_cons.mp hp with e | hp
        · rw [e]; exact hl6
        · rw [List.mem_singleton.mp hp]; exact hs6
      have hcut : ∀ {Dm : Dm} B7, EvR Dm (tSl rSlS (tVar 4) tNoPart (tPart (tVar 5))) σ4 B7 (pEq (.str (cutS (wd i) none (some (1 + (e : Int)))))) := fun B7 => ev_slS (ev_varE m4) (fun _ _ => eo_none) (fun _ _ => eo_some (ev_varE m5)) wsz
      have hcut1 : ∀ {Dm : Dm} B7, EvR Dm (tSl rSlS (tVar 4) tNoPart (tPart (tOp (rI0 fun i j => .int (i - j)) (tVar 5) (tC (.int 1))))) σ4 B7 (pEq (.str (cutS (wd i) none (some (1 + (e : Int) - 1))))) := fun B7 => ev_slS (ev_varE m4) (fun _ _ => eo_none) (fun _ _ => eo_some (ev_I0 (ev_varE m5) fun _ _ => ev_c)) wsz
      refine sh_ifTH (os := [(l, HO.dK (plc (6 * i + e))), (s, HO.lst ys)]) (et_test (ev_dninH (l := l) (kvs := plc (6 * i + e)) (k := .inr (cutS (wd i) none (some (1 + (e : Int))))) (hcut B6) (fun _ _ => ev_varE m2) (by simp) k1)) s6.at2 os6 fun B7 H7 s7 => ?_
      have hl7 := hl6.stp s7
      have hs7 := hs6.stp s7
      have os7 : ∀ p ∈ [(l, HO.dK (plc (6 * i + e))), (s, HO.lst ys)], Hd1 D B7 H7 p.1 p.2 := fun p hp => (os6 p hp).stp s7
      refine sh_dputH (l := l) (kvs := plc (6 * i + e)) (os := [(l, HO.dK (plc (6 * i + e))), (s, HO.lst ys)]) (P := pEq (.int ((plc (6 * i + e)).length : Nat))) (k := .inr (cutS (wd i) none (some (1 + (e : Int))))) s7.at2 os7 (by simp) m2 (by rw [plc_len]; omega) (ev_dlenH (l := l) (kvs := plc (6 * i + e)) (ev_varE m2) (by simp)) (fun B8 _ => hcut B8) fun v8 B8 H8 s8 hv8 => ?_
      obtain rfl : v8 = _ := hv8
      have hput : putK (plc (6 * i + e)) (.inr (cutS (wd i) none (some (1 + (e : Int))))) (.int ((plc (6 * i + e)).length : Nat)) = plc (6 * i + e + 1) := by
        rw [putK_new (valV_not k1), plc_succ, k4, plc_len]
      rw [hput]
      have hl8 := (hl7.stp s8).put (o' := .dK (plc (6 * i + e + 1)))
      have at8 := (hl7.stp s8).at_ (o' := .dK (plc (6 * i + e + 1))) s8.at2
      have hs8 := (hs7.stp s8).off (o' := .dK (plc (6 * i + e + 1))) (Ne.symm ls)
      have c8 : Chg D [l, s] B H B8 (upd H8 l (.dK (plc (6 * i + e + 1)))) := (((cj.stp atj.inv s6).stp s6.at2.inv s7).stp s7.at2.inv s8).put (by simp)
      generalize upd H8 l (.dK (plc (6 * i + e + 1))) = H9 at hl8 at8 hs8 c8 ⊢
      have os8 : ∀ p ∈ [(l, HO.dK (plc (6 * i + e + 1))), (s, HO.lst ys)], Hd1 D B8 H9 p.1 p.2 := fun p hp => by
        rcases List.mem_cons.mp hp with e | hp
        · rw [e]; exact hl8
        · rw [List.mem_singleton.mp hp]; exact hs8
      have ylen : ys.length = 6 * i + e := by rw [← prj.length, sts_len]
      refine sh_appendHL (l := s) (xs := ys) (os := [(l, HO.dK (plc (6 * i + e + 1))), (s, HO.lst ys)]) (P := tri K (stw (6 * i + e))) at8 os8 (by simp) m3 (by rw [ylen]; omega) (ev_tri (t := stw (6 * i + e)) (ev_dgetH (l := l) (kvs := plc (6 * i + e + 1)) (P := pEq (.int (srcN (6 * i + e)))) (k := .inr (cutS (wd i) none (some (1 + (e : Int) - 1)))) (ev_varE m2) (by simp) (fun B9 _ => hcut1 B9) k2 rfl) (fun B9 s9 => ev_ixS (c := sgC (6 * i + e)) (ev_varE m4) (fun _ _ => ev_I0 (ev_varE m5) fun _ _ => ev_c) wsz (by omega) k5) fun B9 s9 => ev_dgetH (l := l) (kvs := plc (6 * i + e + 1)) (P := pEq (.int ((6 * i + e + 1 : Nat) : Int))) (k := .inr (cutS (wd i) none (some (1 + (e : Int))))) (ev_varE m2) (by simp) (fun B10 _ => hcut B10) k3 rfl) fun v9 B9 H10 s9 hv9 => ?_
      have hl9 := (hl8.stp s9).off (o' := .lst (ys ++ [v9])) ls
      have hs9 := (hs8.stp s9).put (o' := .lst (ys ++ [v9]))
      have at9 := (hs8.stp s9).at_ (o' := .lst (ys ++ [v9])) s9.at2
      have sj9 : Same Bj B9 := ((s6.bs.trans s7.bs).trans s8.bs).trans s9.bs
      refine ⟨B9, s5j.trans sj9, at9, ⟨?_, ⟨ys ++ [v9], hs9, ?_⟩, (c8.stp at8.inv s9).put (by simp)⟩, ⟨m0, m1, m2, m3, lenM⟩, m4⟩
      · rw [show 6 * i + (e + 1) = 6 * i + e + 1 from by omega]; exact hl9
      · rw [show 6 * i + (e + 1) = 6 * i + e + 1 from by omega, sts_succ]
        exact Paired.snoc (F := fun a v => tri K a v B9) hv9 (Paired.mono (fun a v h => Mo.mo sj9 h) prj)
    · rintro σ3 Bj Hj s4j atj ⟨⟨hlj, ⟨ys, hsj, prj⟩, cj⟩, sl, _⟩
      refine ⟨Bj, (s3i.trans s4.bs).trans s4j, atj, ?_, sl⟩
      rw [show 6 * (i + 1) = 6 * i + 6 from by omega]
      exact ⟨hlj, ⟨ys, hsj, prj⟩, cj⟩
  · rintro σ1 Bi Hi s3i ati ⟨⟨hli, ⟨xs, hsi, pri⟩, ci⟩, e0, e1, e2, e3, len⟩
    have hli : Hd1 D Bi Hi l (.dK (plc 12)) := hli
    have pri : Paired (fun a v => tri K a v Bi) (sts 12) xs := pri
    have n1 : Same Bi (upd Bi s (.lst xs)) := Same.new hsi.nb
    have atk := hsi.know ati
    have hlk : Hd1 D (upd Bi s (.lst xs)) Hi l (.dK (plc 12)) := ⟨hli.ob, by rw [upd_ne ls]; exact hli.nb, hli.nd⟩
    have ps : pMap K (tri K) (sts 12) (.ref s) (upd Bi s (.lst xs)) := ⟨s, xs, rfl, SqL.of upd_same, Paired.mono (fun a v h => Mo.mo n1 h) pri⟩
    have hsk : ∀ p ∈ [(l, HO.dK (plc 12))], Hd1 D (upd Bi s (.lst xs)) Hi p.1 p.2 := fun p hp => by rw [List.mem_singleton.mp hp]; exact hlk
    refine (ev_fn (D := DH D [(l, HO.dK (plc 12))]) (P := pEx (MSort wideM) (pMac K)) (R := fun vs H => ∃ y, vs = [.str lab, .int 13, .ref s, y] ∧ pMap K num [6, 12] y H) ((ea_cons (P := pEq (.str lab)) (ev_varE e0) fun B5 s5 => ea_cons (P := pEq (.int ((plc 12).length : Nat))) (ev_dlenH (l := l) (kvs := plc 12) (ev_varE e2) (by simp)) fun B6 s6 => ea_cons (P := pEq (.ref s)) (ev_varE e3) fun B7 s7 => ea_one (P := pLst K num [6, 12]) ?_).imp fun vs B8 _ ⟨v1, r1, q1, q2, v2, r2, q3, q4, v3, r3, q5, q6, v4, q7, q8⟩ => ⟨v4, by
      rw [q1, q3, q5, q7, show v1 = _ from q2, show v2 = _ from q4, show v3 = _ from q6, plc_len] <;> rfl, pLst.map q8⟩) fun vs B8 s8 ⟨y, q1, q2⟩ => EvV.sp (a := wideM) ⟨⟨_, y, q1, Mo.mo s8 ps, q2⟩, by decide, by decide⟩).hid atk hsk fun v9 B9 H9 s9 hv9 => ?_
    · refine (ev_lcL (K := K) (as := ws2) (R := txt) (R' := fun z => num (if z = wa then 6 else 12)) (el_tup (ev_var e1 (Mo.mo (((s3i.trans n1).trans s5).trans (s6.trans s7)) hx))) (by decide) fun z y B8 hz s8 hy => ⟨_, wipe_set, sets_name, fun B9 s9 => ?_⟩).imp fun v B8 _ h => pLst.fmap (R := num) h
      obtain rfl : y = _ := hy
      have hv : valV (plc 12) (.inr z) = some (.int (if z = wa then 6 else 12)) := by
        rcases List.mem_cons.mp hz with e | hz
        · rw [e, if_pos rfl]; exact isIv_ok end_all.1
        · rw [List.mem_singleton.mp hz, if_neg (by decide)]; exact isIv_ok end_all.2
      refine ev_dgetH (l := l) (kvs := plc 12) (P := num (if z = wa then 6 else 12)) (k := .inr z) (ev_varE ?_) (by simp) (fun _ _ => ev_varE ?_) hv rfl
      · show ((σ1.set 4 none).set 4 _)[2]? = _
        rw [List.getElem?_set_ne (by decide), List.getElem?_set_ne (by decide)]
        exact e2
      · exact List.getElem?_set_self (by show 4 < (σ1.set 4 none).length; rw [List.length_set, len]; decide)
    · have c9 : Chg D [l, s] B H B9 H9 := (ci.know sH hsi.nb).stp atk.inv s9
      exact q v9 B9 H9 (((c9.drop hl).drop sH).done s9.at2) hv9
theorem sc_Machine_of_words : FnScope ["cls", "letters", "words"] ["cls", "letters", "words"] a_Machine_of_words.scope := ⟨rfl, rfl, rfl, by decide +kernel, rfl, by decide +kernel, by decide +kernel⟩
theorem cm_Machine_of_words (T : Tz K mg) : FnA P w K mg base 8 a_Machine_of_words ["cls", "letters", "words"] (spOfW K) := by
  refine fna_of T.a_of_words sc_Machine_of_words (fun _ _ _ _ _ _ us hl => match us, hl with | [_, _, _], _ => rfl) (fun vs H Q E h => ?_) (fun cdv A outer s H vs Q E hr h => ?_)
  · obtain ⟨_, _, _, _, p, _⟩ := h
    obtain ⟨_, _, rfl, _⟩ := p
    rfl
  refine ⟨_, pss_cons (ps_expr (pe_fn (fn_require_letters T) (hr.mono (by decide)) passL (pa_cons (pv 1) pa_nil)))
      (pss_cons (ps_expr (pe_fn (fn_require_words T) (hr.mono (by decide)) passL (pa_cons (pv 2) (pa_cons (pv 1) pa_nil))))
      (pss_one (ps_ret (pe_fn (fn_tree_of T) (hr.mono (by decide)) passL (pa_cons (pv 1) (pa_cons (pv 2) pa_nil)))))), ?_⟩
  refine h.body (N := ["cls", "letters", "words"]) fun D a B p => ?_
  obtain ⟨c, x, rfl, hx⟩ := p
  have hl : isLetters lab = true := by decide +kernel
  refine es_seq (en_drop (ev_psp (Post := fun _ => pEq .non) lab (ea_oneE (ev_varE rfl)) fun vs B2 _ e => ⟨e, by decide, hl⟩)) fun σ2 B2 s2 e => ?_
  subst e
  refine es_seq (en_drop (ev_psp (Post := fun _ => pEq .non) (ws2, lab) (ea_cons (P := pMapT K txt ws2) (ev_var rfl (Mo.mo s2 hx)) fun _ _ => ea_oneE (ev_varE rfl)) fun vs B3 _ ⟨v, r, e1, e2, e3⟩ => ⟨⟨v, by rw [e1, e3], e2⟩, by decide, ok_ws2⟩)) fun σ3 B3 s3 e => ?_
  subst e
  exact es_ret (ev_psp (Post := fun _ => pEx (MSort wideM) (pMac K)) () (ea_cons (P := pEq (.str lab)) (ev_varE rfl) fun B4 s4 => ea_one (P := pMapT K txt ws2) (ev_var rfl (Mo.mo ((s2.trans s3).trans s4) hx))) fun vs B4 _ ⟨v, r, e1, e2, v2, e3, e4⟩ => ⟨v2, by rw [e1, e3, show v = _ from e2], e4⟩)
end
end CW
set_option Elab.async false
set_option linter.all false
set_option maxRecDepth 100000
set_option maxHeartbeats 4000000
/-! W26: dice. -/
namespace CW
open PySem PySem.Spec PyProof.Rows L2 TL
/-- the demesne holds the dice at d: a list of three ints -/
structure IsDice (D : Dm) (d : Addr) : Prop where
  ds : D.ds d
  get : ∀ {H : Hp}, D.inv H → ∃ a b c : Int, H d = some (.lst [.int a, .int b, .int c])
  put : ∀ {H : Hp} {a b c : Int}, D.inv H → D.inv (upd H d (.lst [.int a, .int b, .int c]))
theorem IsDice.dh {D : Dm} {d : Addr} {os : List (Addr × HO)} (i : IsDice D d) (nd : ∀ p ∈ os, ¬ D.ds p.1) : IsDice (DH D os) d where
  ds := .inr i.ds
  get := fun h => i.get h.2
  put := fun h => ⟨fun p hp => by rw [upd_ne (fun z : p.1 = d => nd p hp (by rw [z]; exact i.ds))]; exact h.1 p hp, i.put h.2⟩
/-- just the dice -/
def Dd (d : Addr) : Dm := ⟨fun b => b = d, fun H => ∃ a b c : Int, H d = some (.lst [.int a, .int b, .int c]), fun {H H'} h ⟨a, b, c, e⟩ => ⟨a, b, c, by rw [h d rfl]; exact e⟩, fun {H b} ⟨a, b', c, e⟩ h => by rw [show b = d from h, e]; exact Option.some_ne_none _⟩
theorem dd_is (d : Addr) : IsDice (Dd d) d := ⟨rfl, fun h => h, fun _ => ⟨_, _, _, upd_same⟩⟩
def pInt (c : Int → Prop) : PV := fun x _ => ∃ k, c k ∧ x = .int k
instance {c : Int → Prop} : Mo (pInt c) := ⟨fun _ h => h⟩
abbrev anyI : Int → Prop := fun _ => True
section
variable {D : Dm} {K : PySem.W.Frag} {σ : L2.St} {B H : Hp} {te ta tb ti : TE} {P : PV} {os : List (Addr × HO)} {u t : TS} {Ds : Ends} {l d : Addr} {c c1 c2 c3 : Int → Prop} {g : Int → Int → Int} {C : Int → Int → Prop}
theorem ev_IX (ha : EvR D ta σ B (pInt c1)) (hb : ∀ B2, Same B B2 → EvR D tb σ B2 (pInt c2)) (h : ∀ i j, c1 i → c2 j → C i j ∧ c3 (g i j)) : EvR D (tOp (rI C fun i j => .int (g i j)) ta tb) σ B (pInt c3) :=
  ev_op ha hb fun x y B2 _ ⟨i, h1, e1⟩ ⟨j, h2, e2⟩ => EvV.now (v := .int (g i j)) (fun H Q s q => ⟨i, j, e1, e2, (h i j h1 h2).1, q⟩) ⟨_, (h i j h1 h2).2, rfl⟩
theorem ev_IX0 (ha : EvR D ta σ B (pInt c1)) (hb : ∀ B2, Same B B2 → EvR D tb σ B2 (pInt c2)) (h : ∀ i j, c1 i → c2 j → c3 (g i j)) : EvR D (tOp (rI0 fun i j => .int (g i j)) ta tb) σ B (pInt c3) :=
  ev_op ha hb fun x y B2 _ ⟨i, h1, e1⟩ ⟨j, h2, e2⟩ => EvV.now (v := .int (g i j)) (fun H Q s q => ⟨i, j, e1, e2, q⟩) ⟨_, h i j h1 h2, rfl⟩
theorem ev_cI {i : Int} (h : c i) : EvR D (tC (.int i)) σ B (pInt c) := ev_cP ⟨i, h, rfl⟩
theorem EvR.int {i : Int} (h : EvR D te σ B (pEq (.int i))) (hc : c i) : EvR D te σ B (pInt c) := h.imp fun v B2 _ e => ⟨i, hc, e⟩
/-- a comparison of ints, its answer open or not -/
def pBl (f : Bool → Prop) : PV := fun x _ => ∃ b, f b ∧ x = .bl b
instance {f : Bool → Prop} : Mo (pBl f) := ⟨fun _ h => h⟩
theorem ev_IXb {g : Int → Int → Bool} {f : Bool → Prop} (ha : EvR D ta σ B (pInt c1)) (hb : ∀ B2, Same B B2 → EvR D tb σ B2 (pInt c2)) (h : ∀ i j, c1 i → c2 j → f (g i j)) : EvR D (tOp (rI0 fun i j => .bl (g i j)) ta tb) σ B (pBl f) :=
  ev_op ha hb fun x y B2 _ ⟨i, h1, e1⟩ ⟨j, h2, e2⟩ => EvV.now (v := .bl (g i j)) (fun H Q s q => ⟨i, j, e1, e2, q⟩) ⟨_, h i j h1 h2, rfl⟩
theorem et_testX {f : Bool → Prop} (h : EvR D te σ B (pBl f)) : EvT D (tTest te) σ B f := fun H a Q q => h H a _ fun v B2 H2 e2 ⟨b, hb, p⟩ => ⟨b, p, q b B2 H2 e2 hb⟩
/-- dice[i] -/
theorem ev_dix {i : Int} (id : IsDice D d) (h : EvR D te σ B (pEq (.ref d))) (hi : ∀ B2, Same B B2 → EvR D ti σ B2 (pEq (.int i))) (h0 : 0 ≤ i) (h3 : i < 3) : EvR D (tOp (rIxL K) te ti) σ B (pInt anyI) := fun H at_ Q q =>
  h H at_ _ fun x B2 H2 e2 hx => hi B2 e2.bs H2 e2.at2 _ fun y B3 H3 e3 hy => by
    obtain ⟨a, b, c, hd⟩ := id.get e3.at2.inv
    obtain ⟨k, hk⟩ : ∃ k : Int, atI [V.int a, .int b, .int c] i = some (.int k) := by
      have h : i = 0 ∨ i = 1 ∨ i = 2 := by omega
      rcases h with rfl | rfl | rfl
      · exact ⟨a, rfl⟩
      · exact ⟨b, rfl⟩
      · exact ⟨c, rfl⟩
    exact ⟨d, _, i, _, hx, hy, SqL.of hd, hk, q _ B3 H3 (e2.trans e3) ⟨k, trivial, rfl⟩⟩
/-- dice[i] = e; the rest -/
theorem es_dset {i : Int} {n : Nat} (id : IsDice D d) (hv : EvR D te σ B (pInt anyI)) (ho : σ[n]? = some (some (.ref d))) (h0 : 0 ≤ i) (h3 : i < 3) (hr : ∀ B2, Same B B2 → EvS D u σ B2 P) : EvS D (tSeq (tAsg te (gSub (tVar n) (tC (.int i)) rSetL)) u) σ B P := fun H at_ Ds q =>
  hv H at_ _ fun v B2 H2 e2 ⟨k, _, hk⟩ => by
    obtain ⟨a, b, c, hd⟩ := id.get e2.at2.inv
    obtain ⟨j, hj, a', b', c', es⟩ : ∃ j, ixN 3 i = some j ∧ ∃ a' b' c' : Int, ([V.int a, .int b, .int c] : List V).set j (.int k) = [.int a', .int b', .int c'] := by
      have h : i = 0 ∨ i = 1 ∨ i = 2 := by omega
      rcases h with rfl | rfl | rfl
      · exact ⟨0, rfl, k, b, c, rfl⟩
      · exact ⟨1, rfl, a, k, c, rfl⟩
      · exact ⟨2, rfl, a, b, k, rfl⟩
    refine ⟨.ref d, ho, d, _, i, j, rfl, rfl, hd, hj, ?_⟩
    rw [hk, es]
    have at3 : At D B2 (upd H2 d (.lst [.int a', .int b', .int c'])) := ⟨e2.at2.off, fun b o hb => by rw [upd_ne (fun z : b = d => by rw [z, e2.at2.off d id.ds] at hb; cases hb)]; exact e2.at2.sm b o hb, id.put e2.at2.inv⟩
    have e3 : Stp D B2 H2 B2 (upd H2 d (.lst [.int a', .int b', .int c'])) := ⟨Same.refl _, at3, fun b o hb hn => by rw [upd_ne (fun z : b = d => hn (by rw [z]; exact id.ds))]; exact hb, fun _ _ h => h⟩
    exact hr B2 e2.bs _ at3 Ds fun w B4 H4 e4 p => q w B4 H4 ((e2.trans e3).trans e4) p
theorem ev_intOf (h : EvR D te σ B (pInt c)) : EvR D (tCB (fun xs H Q => (∃ i, xs = [.int i] ∧ Q (.int i) H) ∨ ∃ k, xs = [.bl k] ∧ Q (.int (if k then 1 else 0)) H) (tCons te tNil)) σ B (pInt c) :=
  ev_cb (ea_one h) fun vs B2 e ⟨v, e1, i, hi, e2⟩ => EvV.now (v := .int i) (fun H Q s q => .inl ⟨i, by rw [e1, e2], q⟩) ⟨i, hi, rfl⟩
theorem ev_intOfB {f : Bool → Prop} (h : EvR D te σ B (pBl f)) : EvR D (tCB (fun xs H Q => (∃ i, xs = [.int i] ∧ Q (.int i) H) ∨ ∃ k, xs = [.bl k] ∧ Q (.int (if k then 1 else 0)) H) (tCons te tNil)) σ B (pInt fun k => 0 ≤ k ∧ k ≤ 1) :=
  ev_cb (ea_one h) fun vs B2 e ⟨v, e1, b, hb, e2⟩ => EvV.now (v := .int (if b then 1 else 0)) (fun H Q s q => .inr ⟨b, by rw [e1, e2], q⟩) ⟨_, by cases b <;> decide, rfl⟩
theorem evI_var {n : Nat} {i : Int} (h : σ[n]? = some (some (.int i))) (hc : c i) : EvR D (tVar n) σ B (pInt c) := ev_var h ⟨i, hc, rfl⟩
theorem evI_varP {n : Nat} {v : V} (h : σ[n]? = some (some v)) (hc : pInt c v B) : EvR D (tVar n) σ B (pInt c) := ev_var h hc
end
def spRoll : Sp := PSp (fun D (n : Int) vs _ => (∃ d, vs = [.ref d, .int n] ∧ IsDice D d) ∧ 1 ≤ n ∧ n < 1000) (fun n => pInt fun k => 0 ≤ k ∧ k < n)
theorem mod_in {i j : Int} (h : 0 < j) : 0 ≤ i % j ∧ i % j < j := ⟨Int.emod_nonneg _ (by omega), Int.emod_lt_of_pos _ h⟩
theorem mul_ok {i j : Int} (h0 : 0 ≤ i) (h1 : i < 4611686018427387904) : CMul i j := .inl ⟨by omega, by omega⟩
section
variable {P : Program} {w : World} {K : PySem.W.Frag} {mg : Str → Option Value} {base : Heap} {D : Dm} {σ : L2.St} {B H : Hp} {te ta tv ty : TE} {u : TS} {Ds : Ends}
theorem sc__law_roll : FnScope ["_law_dice_here", "_law_total", "_law_number", "_law_drawn", "_law_one", "_law_two"] ["_law_dice_here", "_law_total"] d__law_roll.scope := ⟨rfl, rfl, rfl, by decide +kernel, rfl, by decide +kernel, by decide +kernel⟩
theorem fn_law_roll (T : Tz K mg) : Fn P w K mg base 1 "_law_roll" spRoll := by
  refine fn_of T.h__law_roll T.g__law_roll rfl sc__law_roll (fun _ _ _ _ _ _ us hl => match us, hl with | [_, _], _ => rfl) (fun vs H Q E h => ?_) (BodyOk0.ok fun cdv A outer s H vs Q E hr h => ?_)
  · obtain ⟨_, _, _, _, p, _⟩ := h
    obtain ⟨⟨_, rfl, _⟩, _⟩ := p
    rfl
  refine ⟨_, pss_cons (ps_set (i := 2) sc__law_roll.nd rfl (Or.inl rfl) (pe_callTy call_int1 (by rfl) T.b_int boot_int (pa_cons (pv 1) pa_nil)))
      (pss_cons (ps_if (pt_cmpR op_gt (pe_ix ix_list (pv 0) pe_int (fun _ _ => rfl)) pe_int (nomark _)) (pss_cons (ps_set (i := 3) sc__law_roll.nd rfl (Or.inl rfl) (pe_op op_mod (pe_ix ix_list (pv 0) pe_int (fun _ _ => rfl)) (pv 2)))
      (pss_cons (ps_asg (pe_op op_fdivW (pe_ix ix_list (pv 0) pe_int (fun _ _ => rfl)) (pv 2)) (pg_sub (pv 0) pe_int set_list))
      (pss_one (ps_ret (pe_callTy call_int1 (by rfl) T.b_int boot_int (pa_cons (pv 3) pa_nil)))))) pss_nil)
      (pss_cons (ps_asg (pe_op op_add (pe_ix ix_list (pv 0) pe_int (fun _ _ => rfl)) pe_int) (pg_sub (pv 0) pe_int set_list))
      (pss_cons (ps_set (i := 4) sc__law_roll.nd rfl (Or.inl rfl) (pe_op op_mod (pe_op op_add (pe_ix ix_list (pv 0) pe_int (fun _ _ => rfl)) (pe_op op_mul pe_int (pe_ix ix_list (pv 0) pe_int (fun _ _ => rfl)))) pe_int))
      (pss_cons (ps_set (i := 5) sc__law_roll.nd rfl (Or.inl rfl) (pe_op op_add (pe_op op_mul (pe_op op_mod (pe_op op_mul (pv 4) (pv 4)) pe_int) (pv 4)) (pe_op op_mul pe_int (pe_ix ix_list (pv 0) pe_int (fun _ _ => rfl)))))
      (pss_cons (ps_set (i := 5) sc__law_roll.nd rfl (Or.inl rfl) (pe_op op_mod (pv 5) pe_int))
      (pss_one (ps_ret (pe_callTy call_int1 (by rfl) T.b_int boot_int (pa_cons (pe_op op_mod (pe_op op_fdivW (pv 5) pe_int) (pv 2)) pa_nil))))))))), h.body (N := ["_law_dice_here", "_law_total", "_law_number", "_law_drawn", "_law_one", "_law_two"]) fun D a B p => ?_⟩
  · obtain ⟨⟨d, rfl, id⟩, h1, h2⟩ := p
    have cdiv : ∀ i j : Int, 1 ≤ j → j < 1000000 → CDivW i j := fun i j h1 h2 => wide_div (b := 20) (by omega) (by omega) (by decide) (by decide)
    refine es_set (P1 := pEq (.int a)) (ev_cbE (ea_oneE (ev_varE rfl)) fun _ _ => EvV.nowE fun _ _ _ q => .inl ⟨a, rfl, q⟩) fun v B2 s2 hv => ?_
    obtain rfl : v = _ := hv
    refine es_ifs (Pb := fun _ => True) (et_testX (ev_IXb (c2 := anyI) (ev_dix id (ev_varE rfl) (fun _ _ => ev_c) (by decide) (by decide)) (fun _ _ => ev_cI trivial) fun _ _ _ _ => trivial)) (fun _ B3 s3 => ?_) fun _ B3 s3 => ?_
    · refine es_set (P1 := pInt fun k => 0 ≤ k ∧ k < a) (ev_IX (c2 := fun j => j = a) (ev_dix id (ev_varE rfl) (fun _ _ => ev_c) (by decide) (by decide)) (fun _ _ => evI_var rfl rfl) fun i j _ e => ⟨by omega, by rw [e]; exact mod_in (by omega)⟩) fun v4 B4 s4 hv4 => ?_
      refine es_dset id (ev_IX (c2 := fun j => j = a) (ev_dix id (ev_varE rfl) (fun _ _ => ev_c) (by decide) (by decide)) (fun _ _ => evI_var rfl rfl) fun i j _ e => ⟨cdiv i j (by omega) (by omega), trivial⟩) rfl (by decide) (by decide) fun B5 s5 => ?_
      exact es_ret (ev_intOf (evI_varP rfl hv4))
    · have dx : ∀ {σ : L2.St} {B : Hp} (i : Int), σ[0]? = some (some (.ref d)) → 0 ≤ i → i < 3 → EvR D (tOp (rIxL K) (tVar 0) (tC (.int i))) σ B (pInt anyI) := fun i h h0 h3 => ev_dix id (ev_varE h) (fun _ _ => ev_c) h0 h3
      refine es_dset id (ev_IX0 (c2 := anyI) (dx 2 rfl (by decide) (by decide)) (fun _ _ => ev_cI trivial) fun _ _ _ _ => trivial) rfl (by decide) (by decide) fun B4 s4 => ?_
      refine es_set (P1 := pInt fun k => 0 ≤ k ∧ k < 2305843009213693951) (ev_IX (c1 := anyI) (c2 := fun j => j = 2305843009213693951) (ev_IX0 (dx 1 rfl (by decide) (by decide)) (fun _ _ => ev_IX (c1 := fun i => i = 1000183) (c3 := anyI) (ev_cI rfl) (fun _ _ => dx 2 rfl (by decide) (by decide)) fun i j e _ => ⟨mul_ok (by omega) (by omega), trivial⟩) fun _ _ _ _ => trivial) (fun _ _ => ev_cI rfl) fun i j _ e => ⟨by omega, by rw [e]; exact mod_in (by decide)⟩) fun v5 B5 s5 hv5 => ?_
      have one : ∀ {σ : L2.St} {B6 : Hp}, σ[4]? = some (some v5) → EvR D (tVar 4) σ B6 (pInt fun k => 0 ≤ k ∧ k < 2305843009213693951) := fun h => ev_var h hv5
      refine es_set (P1 := pInt anyI) (ev_IX0 (c1 := anyI) (c2 := anyI) (ev_IX (c1 := fun k => 0 ≤ k ∧ k < 2305843009213693921) (ev_IX (c1 := anyI) (c2 := fun j => j = 2305843009213693921) (ev_IX (one rfl) (fun _ _ => one rfl) fun i j h _ => ⟨mul_ok h.1 (by omega), trivial⟩) (fun _ _ => ev_cI rfl) fun i j _ e => ⟨by omega, by rw [e]; exact mod_in (by decide)⟩) (fun _ _ => one rfl) fun i j h _ => ⟨mul_ok h.1 (by omega), trivial⟩) (fun _ _ => ev_IX (c1 := fun i => i = 9241) (ev_cI rfl) (fun _ _ => dx 2 rfl (by decide) (by decide)) fun i j e _ => ⟨mul_ok (by omega) (by omega), trivial⟩) fun _ _ _ _ => trivial) fun v6 B6 s6 hv6 => ?_
      refine es_set (P1 := pInt anyI) (ev_IX (c1 := anyI) (c2 := fun j => j = 2305843009213693907) (ev_var rfl hv6) (fun _ _ => ev_cI rfl) fun i j _ e => ⟨by omega, trivial⟩) fun v7 B7 s7 hv7 => ?_
      exact es_ret (ev_intOf (ev_IX (c1 := anyI) (c2 := fun j => j = a) (ev_IX (c1 := anyI) (c2 := fun j => j = 4096) (ev_var rfl hv7) (fun _ _ => ev_cI rfl) fun i j _ e => ⟨cdiv i j (by omega) (by omega), trivial⟩) (fun _ _ => evI_var rfl rfl) fun i j _ e => ⟨by omega, by rw [e]; exact mod_in (by omega)⟩))
end
end CW
set_option Elab.async false
set_option linter.all false
set_option maxRecDepth 100000
set_option maxHeartbeats 4000000
/-! W27: drawn items, drawn orders, drawn letters. -/
namespace CW
open PySem PySem.Spec PyProof.Rows L2 TL
def spOneOf (K : PySem.W.Frag) : Sp := PSp (fun D (ks : List Key) vs B => (∃ d x, vs = [.ref d, x] ∧ IsDice D d ∧ pMap K pKey ks x B) ∧ 1 ≤ ks.length ∧ ks.length < 1000) (fun ks => pEx (fun k => k ∈ ks) pKey)
def spMixed (K : PySem.W.Frag) : Sp := PSp (fun D (ks : List Key) vs B => (∃ d x, vs = [.ref d, x] ∧ IsDice D d ∧ pMap K pKey ks x B) ∧ (∀ k ∈ ks, keyOkS k = true) ∧ ks.length ≤ 60) (fun ks => pEx (fun ms => ms.Perm ks) (fun ms => pLst K pKey ms))
theorem keys_of {H : Hp} : ∀ {ks : List Key} {xs : List V}, Paired (fun a v => pKey a v H) ks xs → xs = ks.map kV
  | _, _, .nil => rfl
  | _, _, .cons r t => by rw [List.map_cons, ← keys_of t, show _ = kV _ from r]
theorem keys_pr {H : Hp} : ∀ {ks : List Key}, Paired (fun a v => pKey a v H) ks (ks.map kV)
  | [] => .nil
  | k :: ks => .cons rfl keys_pr
theorem map_erase {α β : Type} (f : α → β) : ∀ (l : List α) (n : Nat), (l.map f).eraseIdx n = (l.eraseIdx n).map f
  | [], _ => rfl
  | a :: l, 0 => rfl
  | a :: l, n + 1 => by
    show f a :: (l.map f).eraseIdx n = f a :: (l.eraseIdx n).map f
    rw [map_erase f l n]
theorem erase_perm {α : Type} : ∀ {l : List α} {n : Nat} {a : α}, l[n]? = some a → (a :: l.eraseIdx n).Perm l
  | [], n, a, h => by simp at h
  | b :: l, 0, a, h => by
    have : b = a := by simpa using h
    rw [this]
    exact List.Perm.refl _
  | b :: l, n + 1, a, h => by
    have := erase_perm (l := l) (n := n) (by simpa using h)
    show (a :: b :: l.eraseIdx n).Perm (b :: l)
    exact (List.Perm.swap b a _).trans (this.cons b)
section
variable {P : Program} {w : World} {K : PySem.W.Frag} {mg : Str → Option Value} {base : Heap} {D : Dm} {σ : L2.St} {B H : Hp} {te ta tv ty : TE} {u : TS} {Ds : Ends} {os : List (Addr × HO)} {l : Addr} {xs : List V}
theorem ev_llenH (h : EvR (DH D os) te σ B (pEq (.ref l))) (hm : (l, HO.lst xs) ∈ os) : EvR (DH D os) (tCB (fun xs H Q => ∃ x n, xs = [x] ∧ LenV K x H n ∧ Q (.int n) H) (tCons te tNil)) σ B (pEq (.int (xs.length : Nat))) := fun H at_ Q q =>
  ea_oneE h H at_ _ fun vs B2 H2 e2 r => ⟨.ref l, xs.length, r, .inl ⟨xs, SqL.of (e2.at2.inv.1 _ hm), rfl⟩, q _ B2 H2 e2 rfl⟩
/-- a drawn number below n -/
theorem ev_roll {d : Addr} {n : Int} {t : TA} (id : IsDice D d) (h : EvA D t σ B (fun vs _ => vs = [.ref d, .int n])) (h1 : 1 ≤ n) (h2 : n < 1000) : EvR D (tFn spRoll E0 t) σ B (pInt fun k => 0 ≤ k ∧ k < n) :=
  ev_psp (Post := fun n : Int => pInt fun k => 0 ≤ k ∧ k < n) n h fun vs B2 _ e => ⟨⟨d, e, id⟩, h1, h2⟩
theorem sc__law_one_of : FnScope ["_law_dice_here", "_law_items"] ["_law_dice_here", "_law_items"] d__law_one_of.scope := ⟨rfl, rfl, rfl, by decide +kernel, rfl, by decide +kernel, by decide +kernel⟩
theorem fn_law_one_of (T : Tz K mg) : Fn P w K mg base 2 "_law_one_of" (spOneOf K) := by
  refine fn_of T.h__law_one_of T.g__law_one_of rfl sc__law_one_of (fun _ _ _ _ _ _ us hl => match us, hl with | [_, _], _ => rfl) (fun vs H Q E h => ?_) (BodyOk0.ok fun cdv A outer s H vs Q E hr h => ?_)
  · obtain ⟨_, _, _, _, p, _⟩ := h
    obtain ⟨⟨_, _, rfl, _⟩, _⟩ := p
    rfl
  refine ⟨_, pss_one (ps_ret (pe_ix ix_list (pv 1) (pe_fn (fn_law_roll T) (hr.mono (by decide)) passL (pa_cons (pv 0) (pa_cons (pe_callB call_len (by rfl) T.b_len boot_len (pa_cons (pv 1) pa_nil)) pa_nil))) (fun _ _ => rfl))), h.body (N := ["_law_dice_here", "_law_items"]) fun D a B p => ?_⟩
  · obtain ⟨⟨d, x, rfl, id, hx⟩, h1, h2⟩ := p
    refine es_ret (ev_op (P1 := pMap K pKey a) (P2 := pInt fun k => 0 ≤ k ∧ k < (a.length : Int)) (ev_var rfl hx) (fun B2 s2 => ev_roll id (ea_consE (ev_varE rfl) fun B3 s3 => ea_oneE (ev_lenM (ev_var rfl (Mo.mo (s2.trans s3) hx)))) (by omega) (by omega)) fun y z B2 s2 ⟨p, xs, e1, hp, pr⟩ ⟨k, ⟨k0, k1⟩, e2⟩ => ?_)
    have hk : k.toNat < a.length := by omega
    obtain ⟨v, hv, rv⟩ := paired_at pr (List.getElem?_eq_getElem hk)
    exact EvV.now (v := v) (fun H Q s q => ⟨p, xs, k, v, e1, e2, Same.lst s hp, atI_of hv k0, q⟩) ⟨_, List.getElem_mem hk, rv⟩
theorem sc__law_mixed : FnScope ["_law_dice_here", "_law_items", "_law_left", "_law_found"] ["_law_dice_here", "_law_items"] d__law_mixed.scope := ⟨rfl, rfl, rfl, by decide +kernel, rfl, by decide +kernel, by decide +kernel⟩
theorem fn_law_mixed (T : Tz K mg) : Fn P w K mg base 2 "_law_mixed" (spMixed K) := by
  refine fn_of T.h__law_mixed T.g__law_mixed rfl sc__law_mixed (fun _ _ _ _ _ _ us hl => match us, hl with | [_, _], _ => rfl) (fun vs H Q E h => ?_) (BodyOk0.ok fun cdv A outer s H vs Q E hr h => ?_)
  · obtain ⟨_, _, _, _, p, _⟩ := h
    obtain ⟨⟨_, _, rfl, _⟩, _⟩ := p
    rfl
  refine ⟨_, pss_cons (ps_par (i := 2) (j := 3) (by rfl) sc__law_mixed.nd rfl rfl (by decide) rfl rfl (pa_cons (pe_callTy call_list_of (by rfl) T.b_list boot_list (pa_cons (pv 1) pa_nil)) (pa_cons (pe_lst pa_nil) pa_nil)) (by rfl))
      (pss_cons (ps_while PassesOwn.never (pt_cmpR (op_neD hr.units) (pv 2) (pe_lst pa_nil) (nomark _)) (pss_one (ps_expr (pe_bm PySem.F.plainAttrs_list PySem.F.slot_list_append PySem.F.type_list_append mt_append (pv 3) (pa_cons (pe_bm PySem.F.plainAttrs_list PySem.F.slot_list_pop PySem.F.type_list_pop mt_popAt (pv 2) (pa_cons (pe_fn (fn_law_roll T) (hr.mono (by decide)) passL (pa_cons (pv 0) (pa_cons (pe_callB call_len (by rfl) T.b_len boot_len (pa_cons (pv 2) pa_nil)) pa_nil))) pa_nil)) pa_nil)))))
      (pss_one (ps_ret (pv 3)))), ?_⟩
  obtain ⟨D, B, ks, at_, ⟨⟨d, x, rfl, id, p, xs, rfl, hp, pr⟩, hk, h60⟩, q⟩ := h
  obtain rfl := keys_of pr
  refine ⟨_, rfl, p, ks.map kV, rfl, .inl (Same.lst at_.sm hp), fun l hl => ?_⟩
  have hl1 : Hd1 D B (upd H l (.lst (ks.map kV))) l (.lst (ks.map kV)) := Hd1.new at_ hl
  have at1 := (Stp.hid (o := .lst (ks.map kV)) at_ hl).at2
  have c1 : Chg D [l] B H B (upd H l (.lst (ks.map kV))) := (Chg.refl (D := D) (as := [l])).put (by simp)
  show (tCons _ _ : TA) _ (upd H l (.lst (ks.map kV))) _
  generalize upd H l (.lst (ks.map kV)) = H1 at hl1 at1 c1 ⊢
  refine ⟨by show 0 ≤ _; decide, fun f hf => ⟨_, _, rfl, ?_⟩⟩
  have hf1 : Hd1 D B (upd H1 f (.lst [])) f (.lst []) := Hd1.new at1 hf
  have at2 := (Stp.hid (o := .lst []) at1 hf).at2
  have hl2 := hl1.past (o := .lst []) hf
  have lf : l ≠ f := fun z => by rw [z] at hl1; exact absurd hf (by rw [hl1.ob]; exact Option.some_ne_none _)
  have c2 : Chg D [l, f] B H B (upd H1 f (.lst [])) := (c1.mono (bs := [l, f]) fun a h => by rw [List.mem_singleton.mp h]; simp).put (by simp)
  have fH : H f = none := by
    cases e : H f with
    | none => rfl
    | some o => exact absurd hf (c1.hv f (by rw [e]; exact Option.some_ne_none _))
  show (tSeq _ _ : TS) _ _ (upd H1 f (.lst []))
  generalize upd H1 f (.lst []) = H2 at hf1 at2 hl2 c2 ⊢
  let Iv : Nat → L2.St → Hp → Prop := fun m σ1 H1 => ∃ (B1 : Hp) (ls fs : List Key), m = ls.length ∧ At D B1 H1 ∧ Hd1 D B1 H1 l (.lst (ls.map kV)) ∧ Hd1 D B1 H1 f (.lst (fs.map kV)) ∧ (ls ++ fs).Perm ks ∧ Chg D [l, f] B H B1 H1 ∧
    σ1[0]? = some (some (.ref d)) ∧ σ1[2]? = some (some (.ref l)) ∧ σ1[3]? = some (some (.ref f))
  refine while_ev2 Iv ks.length ⟨B, ks, [], rfl, at2, hl2, hf1, by rw [List.append_nil], c2, rfl, rfl, rfl⟩ ?_
  rintro m σ1 H3 ⟨B1, ls, fs, rfl, at3, hl3, hf3, pm, c3, e0, e2, e3⟩
  have okl : ∀ k ∈ ls, keyOkS k = true := fun k h => hk k (pm.mem_iff.mp (List.mem_append_left _ h))
  have len := pm.length_eq
  rw [List.length_append] at len
  have n3 : Same B1 (upd B1 l (.lst (ls.map kV))) := Same.new hl3.nb
  refine (et_test (ev_neD (K := K) (d := .list (ls.map keyD)) (e := .list []) (ev_var e2 (.lst (SqL.of upd_same) (dp_keys keys_pr))) (fun B2 s2 => ev_lstD ea_nilD (by show 0 ≤ 100000; omega)) (shaped_keys okl) shaped_nil)).seen at3 hl3 fun b B4 H4 s4 hb => ?_
  rw [eqv_nil] at hb
  obtain rfl : b = _ := hb
  have hl4 := hl3.stp s4
  have hf4 := hf3.stp s4
  by_cases c : ls = []
  · rw [if_neg (by rw [decide_eq_true c]; exact Bool.false_ne_true)]
    have n5 : Same B4 (upd B4 f (.lst (fs.map kV))) := Same.new hf4.nb
    refine ⟨.ref f, e3, q _ (upd B4 f (.lst (fs.map kV))) H4 ((((c3.stp at3.inv s4).know fH hf4.nb).drop hl |>.drop fH).done (hf4.know s4.at2)) ⟨fs, by rw [c, List.nil_append] at pm; exact pm, f, _, rfl, upd_same, keys_pr⟩⟩
  · rw [if_pos (by rw [decide_eq_false c] <;> rfl)]
    refine ⟨Iv (ls.length - 1), fun σ' H' p => ⟨_, by have := List.length_pos_iff.mpr c; omega, p⟩, ?_⟩
    have lp := List.length_pos_iff.mpr c
    have hs4 : ∀ p ∈ [(l, HO.lst (ls.map kV)), (f, HO.lst (fs.map kV))], Hd1 D B4 H4 p.1 p.2 := fun p hp => by
      rcases List.mem_cons.mp hp with e | hp
      · rw [e]; exact hl4
      · rw [List.mem_singleton.mp hp]; exact hf4
    refine ⟨.ref f, e3, .inl ⟨rfl, _, SqL.of hf4.ob⟩, .ref l, e2, .inl ⟨rfl, _, SqL.of hl4.ob⟩, ?_⟩
    refine (ev_roll (D := DH D [(l, HO.lst (ls.map kV)), (f, HO.lst (fs.map kV))]) (n := ((ls.map kV).length : Nat)) (id.dh fun p hp => (hs4 p hp).nd) (ea_consE (ev_varE e0) fun _ _ => ea_oneE (ev_llenH (l := l) (xs := ls.map kV) (ev_varE e2) (by simp))) (by rw [List.length_map]; omega) (by rw [List.length_map]; omega)).hid s4.at2 hs4 fun v B5 H5 s5 ⟨k, ⟨k0, k1⟩, e⟩ => ?_
    rw [List.length_map] at k1
    have hk5 : k.toNat < ls.length := by omega
    have hl5 := hl4.stp s5
    have hf5 := hf4.stp s5
    refine ⟨l, _, k, k.toNat, kV ls[k.toNat], rfl, by rw [e], hl5.ob, by omega, by omega, seqIndex_of k0 (by rw [List.length_map]; exact k1), by rw [List.getElem?_map, List.getElem?_eq_getElem hk5] <;> rfl, ?_⟩
    rw [map_erase]
    have hf6 := hf5.off (o' := .lst ((ls.eraseIdx k.toNat).map kV)) (Ne.symm lf)
    have hl6 := hl5.put (o' := .lst ((ls.eraseIdx k.toNat).map kV))
    have at6 := hl5.at_ (o' := .lst ((ls.eraseIdx k.toNat).map kV)) s5.at2
    refine ⟨f, _, _, rfl, rfl, hf6.ob, Nat.lt_of_le_of_lt (by rw [List.length_map]; omega : (fs.map kV).length ≤ 60) (by decide), ?_⟩
    refine ⟨B5, ls.eraseIdx k.toNat, fs ++ [ls[k.toNat]], by rw [List.length_eraseIdx_of_lt hk5], hf6.at_ at6, hl6.off lf, by rw [List.map_append]; exact hf6.put, ?_, ((((c3.stp at3.inv s4).stp s4.at2.inv s5).put (by simp)).put (by simp)), e0, e2, e3⟩
    refine List.Perm.trans ?_ pm
    have h1 : (ls.eraseIdx k.toNat ++ (fs ++ [ls[k.toNat]])).Perm (ls.eraseIdx k.toNat ++ (ls[k.toNat] :: fs)) := List.Perm.append_left _ (List.perm_append_comm (l₁ := fs) (l₂ := [ls[k.toNat]]))
    refine h1.trans (List.perm_middle.trans ?_)
    exact (erase_perm (List.getElem?_eq_getElem hk5)).append_right fs
end
end CW
set_option Elab.async false
set_option linter.all false
set_option maxRecDepth 100000
set_option maxHeartbeats 1000000
/-! DLst: list(text); sorted texts; dict(pairs); joins and slices of what is drawn; statements that lead from state to state. -/
namespace CW
open PySem PySem.Spec PyProof.Rows L2 TL
theorem cr_listS {X : Cx} (hc : X.calm = true) : CallR X (.type "list") (fun xs H Q => ∃ z : Str, xs = [.str z] ∧ z.length ≤ sizeLine ∧ ∀ p, H p = none → Q (.ref p) (upd H p (.lst (z.cps.toList.map fun c => .str ⟨#[c]⟩)))) := by
  intro pins s σ H xs us Q I r q
  obtain ⟨z, rfl, hz, q⟩ := q
  obtain ⟨u, rfl, t, rfl⟩ := vals1 r
  refine call_list_str (I.ok.hd hc) z t (fun h' tk acc c' hk hD hacc => ?_) hz
  have hl : (z.cps.toList.map fun c => V.str ⟨#[c]⟩).length = z.length := by rw [List.length_map, Array.length_toList] <;> rfl
  have hv : Vals (z.cps.toList.map fun c => V.str ⟨#[c]⟩) acc.toList := vals_of_idx _ _ (by rw [Array.length_toList, hacc.1, hl] <;> rfl) fun j v e => by
    obtain ⟨c, t', h1, rfl⟩ := hacc.2 j v (by rw [← Array.getElem?_toList]; exact e)
    exact ⟨.str ⟨#[c]⟩, by rw [List.getElem?_map, Array.getElem?_toList, h1] <;> rfl, t', rfl⟩
  exact ⟨.ref s.heap.objs.size, upd H s.heap.objs.size (.lst (z.cps.toList.map fun c => V.str ⟨#[c]⟩)), I.laid (t' := tk) hk (Nat.le_refl _)
    (show ObjOk X.prog X.w _ _ _ (.lst (z.cps.toList.map fun c => V.str ⟨#[c]⟩)) from ⟨by rw [hl]; exact hz, acc.toList, c', hv, by rw [Array.toArray_toList]; exact hD⟩), rfl, q _ (I.hok.fresh (Nat.le_refl _))⟩
def sgs (z : Str) : List Key := (cs z).map fun c => .inr ⟨#[c]⟩
section
variable {D : Dm} {K : PySem.W.Frag} {σ : L2.St} {B H : Hp} {te ta tb : TE} {tA : TA} {P : PV} {os : List (Addr × HO)} {u t : TS} {Ds : Ends} {tt : TT}
theorem ev_listS {z : Str} (h : EvR D te σ B (pEq (.str z))) (hz : z.length ≤ 100000) : EvR D (tCB (fun xs H Q => ∃ z : Str, xs = [.str z] ∧ z.length ≤ sizeLine ∧ ∀ p, H p = none → Q (.ref p) (upd H p (.lst (z.cps.toList.map fun c => .str ⟨#[c]⟩)))) (tCons te tNil)) σ B (pLst K pKey (sgs z)) :=
  ev_cbE (ea_oneE h) fun B2 _ => EvV.new (o := .lst (z.cps.toList.map fun c => .str ⟨#[c]⟩)) (fun H Q s q => ⟨z, rfl, Nat.le_trans hz (by decide), q⟩) fun p hp => ⟨p, _, rfl, upd_same, by
    have e : (z.cps.toList.map fun c => V.str ⟨#[c]⟩) = (sgs z).map kV := by unfold sgs; rw [List.map_map] <;> rfl
    rw [e]
    exact keys_pr⟩
theorem ev_sortS {ys : List Str} (h : EvR D te σ B (pMap K txt ys)) (hl : ys.length < 64) : EvR D (tCB (rSortedS K) (tCons te tNil)) σ B (pEx (fun zs => zs.Perm ys ∧ sortedS zs = true) (fun zs => pLst K txt zs)) :=
  ev_cb (ea_one h) fun vs B2 e ⟨v, e1, p, xs, e2, hx, pr⟩ => fun H at_ Q q => ⟨p, ys, by rw [e1, e2], by rw [← paired_str pr]; exact Same.lst at_.sm hx, hl, fun zs r pm st hr => q _ _ _ (Stp.made at_ hr) ⟨zs, ⟨pm, st⟩, r, _, rfl, upd_same, txt_list⟩⟩
/-- sorted of a list that is one of several -/
theorem ev_sortSX {c c' : List Str → Prop} (h : EvR D te σ B (pEx c (fun ys => pMap K txt ys))) (hl : ∀ ys, c ys → ys.length < 64) (hc : ∀ ys zs, c ys → zs.Perm ys → sortedS zs = true → c' zs) : EvR D (tCB (rSortedS K) (tCons te tNil)) σ B (pEx c' (fun zs => pLst K txt zs)) :=
  ev_cb (ea_one h) fun vs B2 e ⟨v, e1, ys, cy, p, xs, e2, hx, pr⟩ => fun H at_ Q q => ⟨p, ys, by rw [e1, e2], by rw [← paired_str pr]; exact Same.lst at_.sm hx, hl ys cy, fun zs r pm st hr => q _ _ _ (Stp.made at_ hr) ⟨zs, hc ys zs cy pm st, r, _, rfl, upd_same, txt_list⟩⟩
theorem ev_slLX {α : Type} {R : α → PV} {tl th : TO} {lo hi : Option Int} {c c' : List α → Prop} [∀ a, Mo (R a)] (h : EvR D te σ B (pEx c (fun as => pMap K R as))) (hl : ∀ B2, Same B B2 → EvO D tl σ B2 lo) (hh : ∀ B2, Same B B2 → EvO D th σ B2 hi) (hc : ∀ as, c as → c' (cutA as lo hi)) : EvR D (tSl (rSlL K) te tl th) σ B (pEx c' (fun as => pLst K R as)) :=
  ev_sl h hl hh fun x B2 _ ⟨as, ca, p, xs, e1, hx, pr⟩ => EvV.new (o := .lst (cutV xs lo hi)) (fun H Q s q => ⟨p, xs, e1, Same.lst s hx, q⟩) fun q hq => ⟨cutA as lo hi, hc as ca, q, _, rfl, upd_same, paired_cut (Paired.mono (fun a v h => Mo.mo (Same.new hq) h) pr)⟩
theorem cutA_to {α : Type} {as : List α} {n : Nat} : cutA as none (some (n : Int)) = as.take n := by
  unfold cutA
  rw [show HT.sIx as.length as.length (some (n : Int)) = min n as.length from HT.sIx_nat _ _ n, HT.sIx_none, List.drop_zero, Nat.sub_zero]
  by_cases h : n ≤ as.length
  · rw [Nat.min_eq_left h]
  · rw [Nat.min_eq_right (by omega), List.take_of_length_le (Nat.le_refl _), List.take_of_length_le (by omega)]
/-- join of a list that is one of several -/
theorem ev_joinX {a : Str} {c : List Str → Prop} {c' : Str → Prop} (h : EvR D te σ B (pEq (.str a))) (h2 : ∀ B2, Same B B2 → EvR D ta σ B2 (pEx c (fun ys => pMap K txt ys))) (hl : ∀ ys, c ys → (ys.map (·.length)).sum + ys.length * a.length ≤ 16777216) (hc : ∀ ys, c ys → c' (Txt.join a ys)) :
    EvR D (tM1 (fun x xs H Q => ∃ a p, ∃ ys : List Str, x = .str a ∧ xs = [.ref p] ∧ (SqL K H p (ys.map V.str) ∨ SqT K H p (ys.map V.str)) ∧ (ys.map (·.length)).sum + ys.length * a.length ≤ 16777216 ∧ Q (.str (Txt.join a ys)) H) te ta) σ B (pEx c' (fun z => pEq (.str z))) := fun H at_ Q q =>
  h H at_ _ fun v B2 H2 e2 p2 => ⟨⟨a, p2⟩, h2 B2 e2.bs H2 e2.at2 _ fun w B3 H3 e3 ⟨ys, cy, p, xs, e1, hx, pr⟩ => ⟨a, p, ys, p2, by rw [e1], .inl (by rw [← paired_str pr]; exact Same.lst e3.at2.sm hx), hl ys cy, q _ B3 H3 (e2.trans e3) ⟨_, hc ys cy, rfl⟩⟩⟩
/-- dict([..pairs..]) -/
theorem ev_dictP {α : Type} {as : List α} {key : α → Key} {R : α → PV} [∀ a, Mo (R a)] (h : EvR D te σ B (pLst K (fun a => pPr (pEq (kV (key a))) (R a)) as)) (hk : (as.map key).Nodup) : EvR D (tCB (fun xs H Q => ∃ (a : Addr) (ps : List Addr) (kvs : List (Key × V)), xs = [.ref a] ∧ SqL K H a (ps.map V.ref) ∧ Paired (fun p kv => SqT K H p [kV kv.1, kv.2]) ps kvs ∧
    ∀ p, H p = none → Q (.ref p) (upd H p (.dK (mergeK [] kvs)))) (tCons te tNil)) σ B (pDic key R as) :=
  haveI : Mo (pLst K (fun a => pPr (pEq (kV (key a))) (R a)) as) := inferInstance
  ev_cb (ea_one h) fun vs B2 e ⟨v, e1, p, xs, e2, hx, pr⟩ => by
    have gen : ∀ {as : List α} {xs : List V}, Paired (fun a v => pPr (pEq (kV (key a))) (R a) v B2) as xs → ∃ (ps : List Addr) (kvs : List (Key × V)), xs = ps.map V.ref ∧ Paired (fun p (kv : Key × V) => SqT K B2 p [kV kv.1, kv.2]) ps kvs ∧ Paired (fun a (kv : Key × V) => kv.1 = key a ∧ R a kv.2 B2) as kvs := by
      intro as xs pr
      induction pr with
      | nil => exact ⟨[], [], rfl, .nil, .nil⟩
      | @cons a v as xs r _ ih =>
        obtain ⟨ps, kvs, h1, h2, h3⟩ := ih
        obtain ⟨T, x, y, rfl, hT, hx, hy⟩ := r
        refine ⟨T :: ps, (key a, y) :: kvs, by rw [h1] <;> rfl, .cons (SqT.of (by rw [hT, show x = kV (key a) from hx])) h2, .cons ⟨rfl, hy⟩ h3⟩
    obtain ⟨ps, kvs, h1, h2, h3⟩ := gen pr
    have ek : kvs.map (·.1) = as.map key := dic_keys (R := fun a v => R a v B2) h3
    have em : mergeK [] kvs = kvs := by
      have := mergeK_nodup (kvs := []) (more := kvs) (by rw [List.nil_append, ek]; exact hk)
      simpa using this
    refine EvV.new (o := .dK kvs) (fun H Q s q => ⟨p, ps, kvs, by rw [e1, e2], by rw [← h1]; exact SqL.of (s _ _ hx), Paired.mono (fun p kv h => Same.tup s h) h2, by rw [em]; exact q⟩) fun q hq => ⟨q, kvs, rfl, upd_same, Paired.mono (fun a kv h => ⟨h.1, Mo.mo (Same.new hq) h.2⟩) h3⟩
/-! from state to state -/
def Ld (S : L2.St → Hp → Hp → Prop) (t : TS) (S' : L2.St → Hp → Hp → Prop) : Prop := ∀ Ds : Ends, (∀ σ B H, S' σ B H → Ds.nx σ H) → ∀ σ B H, S σ B H → t Ds σ H
theorem Ld.seq {S S' S'' : L2.St → Hp → Hp → Prop} (h : Ld S t S') (h2 : Ld S' u S'') : Ld S (tSeq t u) S'' := fun Ds k σ B H s => h { Ds with nx := u Ds } (fun σ B H s => h2 Ds k σ B H s) σ B H s
theorem Ld.run {S S' : L2.St → Hp → Hp → Prop} (h : Ld S t S') (s : S σ B H) (k : ∀ σ B H, S' σ B H → Ds.nx σ H) : t Ds σ H := h Ds k σ B H s
/-- for x in range(e): e is evaluated first -/
theorem for_pre {g : TG} (h : te σ H fun v H1 => tFor (iRng1 (tCons (tC v) tNil)) g t Ds σ H1) : tFor (iRng1 (tCons te tNil)) g t Ds σ H := h
end
end CW
set_option Elab.async false
set_option linter.all false
set_option maxRecDepth 100000
set_option maxHeartbeats 4000000
/-! W28: drawn letters. -/
namespace CW
open PySem PySem.Spec PyProof.Rows L2 TL
def abc7 : Str := "abcknxz"
def sg1 (c : Nat) : Str := ⟨#[c]⟩
def spLets : Sp := PSp (fun D (t : Nat) vs _ => (∃ d, vs = [.ref d, .int (t : Nat)] ∧ IsDice D d) ∧ 1 ≤ t ∧ t ≤ 3) (fun _ => pEx (fun z => isLetters z = true) (fun z => pEq (.str z)))
/-- the code of a sign's key -/
def cdK : Key → Nat
  | .inr z => (cs z).headD 0
  | .inl _ => 0
theorem perm_sgs {ms : List Key} {z : Str} (h : ms.Perm (sgs z)) : ∃ ls : List Nat, ls.Perm (cs z) ∧ ms = ls.map fun c => .inr (sg1 c) := by
  refine ⟨ms.map cdK, ?_, ?_⟩
  · have := h.map cdK
    unfold sgs at this
    rw [List.map_map] at this
    have e : (cs z).map (cdK ∘ fun c => (Sum.inr ⟨#[c]⟩ : Key)) = cs z := by
      conv => rhs; rw [← List.map_id (cs z)]
      exact List.map_congr_left fun c _ => rfl
    rw [e] at this
    exact this
  · rw [List.map_map]
    conv => lhs; rw [← List.map_id ms]
    refine List.map_congr_left fun k hk => ?_
    obtain ⟨c, _, rfl⟩ := List.mem_map.mp (h.mem_iff.mp hk)
    rfl
theorem cutA_perm {ls : List Nat} {z : Str} (t : Nat) (h : ls.Perm (cs z)) (hn : (cs z).Nodup) : (ls.take t).Nodup ∧ ∀ c ∈ ls.take t, c ∈ cs z := ⟨(h.nodup_iff.mpr hn).sublist (List.take_sublist _ _), fun c hc => h.mem_iff.mp (List.mem_of_mem_take hc)⟩
theorem lt_sg1 {a b : Nat} : ltCps (sg1 a).cps.toList (sg1 b).cps.toList = decide (a < b) := by
  show ltCps [a] [b] = _
  simp [ltCps]
theorem rising_asc : ∀ {ls : List Nat} {p : Nat}, risingS (sg1 p) (ls.map sg1) = true → (p :: ls).Nodup → asc (p :: ls) = true
  | [], p, _, _ => rfl
  | x :: r, p, h, hn => by
    have h' : (!ltCps (sg1 x).cps.toList (sg1 p).cps.toList && risingS (sg1 x) (r.map sg1)) = true := h
    rw [lt_sg1, Bool.and_eq_true] at h'
    obtain ⟨n1, n2⟩ := List.nodup_cons.mp hn
    have hne : p ≠ x := fun e => n1 (by rw [e]; exact List.mem_cons_self)
    have hle : ¬ x < p := by
      intro c
      rw [decide_eq_true c] at h'
      exact absurd h'.1 (by decide)
    show (decide (p < x) && asc (x :: r)) = true
    rw [decide_eq_true (by omega), rising_asc h'.2 n2]
    rfl
theorem sorted_asc {ls : List Nat} (h : sortedS (ls.map sg1) = true) (hn : ls.Nodup) : asc ls = true := by
  cases ls with
  | nil => rfl
  | cons p r => exact rising_asc h hn
theorem join_sg1 (ls : List Nat) : cs (Txt.join Str.empty (ls.map sg1)) = ls := by
  rw [tl_joinT]
  have : ∀ ls : List Nat, joinL (cs Str.empty) ((ls.map sg1).map cs) = ls := by
    intro ls
    induction ls with
    | nil => rfl
    | cons a r ih =>
      cases r with
      | nil => rfl
      | cons b r =>
        show cs (sg1 a) ++ (cs Str.empty ++ joinL (cs Str.empty) (((b :: r).map sg1).map cs)) = _
        rw [ih] <;> rfl
  exact this ls
theorem low7 : (∀ c ∈ cs abc7, c ∈ cs lowers) ∧ (cs abc7).Nodup ∧ (cs abc7).length = 7 := by decide +kernel
theorem letters_ok {ls : List Nat} (hn : ls.Nodup) (hl : ∀ c ∈ ls, c ∈ cs abc7) (h1 : 1 ≤ ls.length) (h3 : ls.length ≤ 3) (hs : sortedS (ls.map sg1) = true) : isLetters (Txt.join Str.empty (ls.map sg1)) = true := by
  have e := join_sg1 ls
  have el : (Txt.join Str.empty (ls.map sg1)).length = ls.length := by rw [← len_cs, e]
  unfold isLetters isWord
  rw [e, el, sorted_asc hs hn, decide_eq_true h1, decide_eq_true h3]
  have : (ls.all fun c => decide (c ∈ cs lowers)) = true := List.all_eq_true.mpr fun c hc => decide_eq_true (low7.1 c (hl c hc))
  rw [this]
  rfl
theorem pmap_txt {K : PySem.W.Frag} {ls : List Nat} {x : V} {B : Hp} (h : pLst K pKey (ls.map fun c => .inr (sg1 c)) x B) : pMap K txt (ls.map sg1) x B := by
  obtain ⟨p, xs, e, hx, pr⟩ := h
  refine ⟨p, xs, e, SqL.of hx, ?_⟩
  have e2 := keys_of pr
  rw [e2, List.map_map]
  have : ∀ ls : List Nat, Paired (fun a v => txt a v B) (ls.map sg1) (ls.map (kV ∘ fun c => (Sum.inr (sg1 c) : Key))) := by
    intro ls
    induction ls with
    | nil => exact .nil
    | cons a r ih => exact .cons rfl ih
  exact this ls
section
variable {P : Program} {w : World} {K : PySem.W.Frag} {mg : Str → Option Value} {base : Heap} {D : Dm} {σ : L2.St} {B H : Hp} {te ta tv ty : TE} {u : TS} {Ds : Ends}
/-- a drawn order of a text's signs -/
theorem ev_mixS {d : Addr} {z : Str} {t : TA} (id : IsDice D d) (h : EvA D t σ B (fun vs H => ∃ x, vs = [.ref d, x] ∧ pLst K pKey (sgs z) x H)) (hz : z.length ≤ 60) (hs : ∀ c ∈ cs z, c < 1114112) : EvR D (tFn (spMixed K) E0 t) σ B (pEx (fun ls : List Nat => ls.Perm (cs z)) (fun ls : List Nat => pLst K pKey (ls.map fun c => .inr (sg1 c)))) :=
  EvR.imp (P := pEx (fun ms : List Key => ms.Perm (sgs z)) (fun ms : List Key => pLst K pKey ms)) (ev_psp (Post := fun ks : List Key => pEx (fun ms : List Key => ms.Perm ks) (fun ms : List Key => pLst K pKey ms)) (sgs z) h fun vs B2 _ ⟨x, e1, e2⟩ => ⟨⟨d, x, e1, id, pLst.map e2⟩, fun k hk => by
    obtain ⟨c, hc, rfl⟩ := List.mem_map.mp hk
    show PyData.strOk ⟨#[c]⟩ = true
    simp [PyData.strOk, hs c hc], by unfold sgs; rw [List.length_map, len_cs]; exact hz⟩) fun v B2 _ ⟨ms, pm, h⟩ => by
    obtain ⟨ls, pl, rfl⟩ := perm_sgs pm
    exact ⟨ls, pl, h⟩
theorem sc__law_letters : FnScope ["_law_dice_here", "_law_total"] ["_law_dice_here", "_law_total"] d__law_letters.scope := ⟨rfl, rfl, rfl, by decide +kernel, rfl, by decide +kernel, by decide +kernel⟩
theorem fn_law_letters (T : Tz K mg) : Fn P w K mg base 3 "_law_letters" spLets := by
  refine fn_of T.h__law_letters T.g__law_letters rfl sc__law_letters (fun _ _ _ _ _ _ us hl => match us, hl with | [_, _], _ => rfl) (fun vs H Q E h => ?_) (BodyOk0.ok fun cdv A outer s H vs Q E hr h => ?_)
  · obtain ⟨_, _, _, _, p, _⟩ := h
    obtain ⟨⟨_, rfl, _⟩, _⟩ := p
    rfl
  refine ⟨_, pss_one (ps_ret (pe_join pe_str (pe_callB cr_sortedS (by rfl) T.b_sorted boot_sorted (pa_cons (pe_slice sl_list (pe_fn (fn_law_mixed T) (hr.mono (by decide)) passL (pa_cons (pv 0) (pa_cons (pe_callTy (cr_listS rfl) (by rfl) T.b_list boot_list (pa_cons pe_str pa_nil)) pa_nil))) po_none (po_some (pv 1))) pa_nil)))), h.body (N := ["_law_dice_here", "_law_total"]) fun D a B p => ?_⟩
  · obtain ⟨⟨d, rfl, id⟩, h1, h3⟩ := p
    have s7 : ∀ c ∈ cs abc7, c < 1114112 := by decide +kernel
    refine es_ret (ev_joinX (c := fun ys => ∃ ls : List Nat, ys = ls.map sg1 ∧ ls.Nodup ∧ (∀ c ∈ ls, c ∈ cs abc7) ∧ ls.length = a ∧ sortedS ys = true) ev_c (fun B2 s2 => (ev_sortSX (c := fun ys => ∃ ls : List Nat, ys = ls.map sg1 ∧ ls.Nodup ∧ (∀ c ∈ ls, c ∈ cs abc7) ∧ ls.length = a) ?_ (fun ys ⟨ls, e, _, _, e2⟩ => by rw [e, List.length_map]; omega) ?_).imp fun v B3 _ ⟨ys, cy, h⟩ => ⟨ys, cy, pLst.map h⟩) ?_ ?_)
    · refine (ev_slLX (R := pKey) (lo := none) (hi := some (a : Int)) (c := fun ks => ∃ ls : List Nat, ks = ls.map (fun c => .inr (sg1 c)) ∧ ls.Perm (cs abc7)) (c' := fun ks => ∃ ls : List Nat, ks = ls.map (fun c => (.inr (sg1 c) : Key)) ∧ ls.Nodup ∧ (∀ c ∈ ls, c ∈ cs abc7) ∧ ls.length = a) ((ev_mixS (z := abc7) id ((ea_cons (P := pEq (.ref d)) (ev_varE rfl) fun B3 s3 => ea_one (ev_listS (K := K) (z := abc7) ev_c (by decide))).imp fun vs B3 _ ⟨v, r, e1, e2, v2, e3, e4⟩ => ⟨v2, by rw [e1, e3, show v = _ from e2], e4⟩) (by decide) s7).imp fun v B3 _ ⟨ls, pl, h⟩ => ⟨_, ⟨ls, rfl, pl⟩, pLst.map h⟩) (fun _ _ => eo_none) (fun _ _ => eo_some (ev_varE rfl)) ?_).imp fun v B3 _ ⟨ks, ⟨ls, e, c1, c2, c3⟩, h⟩ => ⟨ls.map sg1, ⟨ls, rfl, c1, c2, c3⟩, pmap_txt (by rw [← e]; exact h)⟩
      rintro ks ⟨ls, rfl, pl⟩
      rw [cutA_to, ← List.map_take]
      obtain ⟨n1, n2⟩ := cutA_perm a pl low7.2.1
      refine ⟨ls.take a, rfl, n1, n2, ?_⟩
      rw [List.length_take, pl.length_eq, low7.2.2]
      omega
    · rintro ys zs ⟨ls, rfl, n1, n2, n3⟩ pm st
      -- the sorted texts are signs too
      have e : zs = (zs.map fun z => (cs z).headD 0).map sg1 := by
        rw [List.map_map]
        conv => lhs; rw [← List.map_id zs]
        refine List.map_congr_left fun z hz => ?_
        obtain ⟨c, _, rfl⟩ := List.mem_map.mp (pm.mem_iff.mp hz)
        rfl
      have pl : (zs.map fun z => (cs z).headD 0).Perm ls := by
        have := pm.map fun z => (cs z).headD 0
        rw [List.map_map] at this
        have e2 : ls.map ((fun z => (cs z).headD 0) ∘ sg1) = ls := by
          conv => rhs; rw [← List.map_id ls]
          exact List.map_congr_left fun c _ => rfl
        rw [e2] at this
        exact this
      exact ⟨_, e, pl.nodup_iff.mpr n1, fun c hc => n2 c (pl.mem_iff.mp hc), by rw [pl.length_eq, n3], st⟩
    · rintro ys ⟨ls, rfl, _, _, n3, _⟩
      have : ((ls.map sg1).map (·.length)).sum ≤ ls.length * 1 := by
        rw [List.map_map]
        exact sum_le fun c _ => Nat.le_refl 1
      rw [List.length_map]
      have e0 : (Str.empty).length = 0 := rfl
      show _ + ls.length * (Str.empty).length ≤ _
      rw [e0]
      omega
    · rintro ys ⟨ls, rfl, n1, n2, n3, st⟩
      exact letters_ok n1 n2 (by omega) (by omega) st
end
end CW
set_option Elab.async false
set_option linter.all false
set_option maxRecDepth 100000
set_option maxHeartbeats 4000000
/-! W29: a drawn plain machine. -/
namespace CW
open PySem PySem.Spec PyProof.Rows L2 TL
def kLet : Key := .inr "letters"
def kSiz : Key := .inr "size"
def kSte : Key := .inr "steps"
def kEnd : Key := .inr "ends"
/-- a plain machine -/
def pPlain (K : PySem.W.Frag) (M : MD) : PV := fun x H => ∃ p s e, x = .ref p ∧ H p = some (.dK [(kLet, .str M.L), (kSiz, .int M.n), (kSte, s), (kEnd, e)]) ∧ pLst K (tri K) M.st s H ∧ pLst K num M.en e H
instance {K : PySem.W.Frag} {M : MD} : Mo (pPlain K M) := ⟨fun e ⟨p, s, en, h1, h2, h3, h4⟩ => ⟨p, s, en, h1, e _ _ h2, Mo.mo e h3, Mo.mo e h4⟩⟩
structure LmD where
  L : Str
  s : Int
  m : Int
def spLMach (K : PySem.W.Frag) : Sp := PSp (fun D (a : LmD) vs _ => (∃ d, vs = [.ref d, .str a.L, .int a.s, .int a.m] ∧ IsDice D d) ∧ isLetters a.L = true ∧ 1 ≤ a.s ∧ a.s ≤ 5 ∧ 0 ≤ a.m ∧ a.m ≤ 10) (fun a => pEx (fun M => M.Go ∧ M.L = a.L) (pPlain K))
theorem sgs_len (z : Str) : (sgs z).length = z.length := by unfold sgs; rw [List.length_map, len_cs]
theorem StepOk.st {L : Str} {n : Int} {t : Tri} (h : StepOk L n t) (hL : isLetters L = true) (hn : n ≤ 5) : StOk t where
  a0 := h.a0
  a1 := by have := h.a1; omega
  b0 := h.b0
  b1 := by have := h.b1; omega
  s := by
    obtain ⟨c, e, hc⟩ := h.s
    have w := letters_word hL
    unfold isWord at w
    exact ⟨c, e, of_decide_eq_true (List.all_eq_true.mp w c hc)⟩
section
variable {P : Program} {w : World} {K : PySem.W.Frag} {mg : Str → Option Value} {base : Heap} {D : Dm} {σ : L2.St} {B H : Hp} {te ta tb tc tv ty : TE} {u : TS} {Ds : Ends}
theorem ev_min {i j : Int} (h : EvR D ta σ B (pEq (.int i))) (h2 : ∀ B2, Same B B2 → EvR D tb σ B2 (pEq (.int j))) : EvR D (tCB (fun xs H Q => ∃ i j, xs = [.int i, .int j] ∧ Q (.int (if j < i then j else i)) H) (tCons ta (tCons tb tNil))) σ B (pEq (.int (if j < i then j else i))) :=
  ev_cbE (ea_consE h fun B2 s2 => ea_oneE (h2 B2 s2)) fun _ _ => EvV.nowE fun _ _ _ q => ⟨i, j, rfl, q⟩
theorem ev_max {i j : Int} (h : EvR D ta σ B (pEq (.int i))) (h2 : ∀ B2, Same B B2 → EvR D tb σ B2 (pEq (.int j))) : EvR D (tCB (fun xs H Q => ∃ i j, xs = [.int i, .int j] ∧ Q (.int (if j > i then j else i)) H) (tCons ta (tCons tb tNil))) σ B (pEq (.int (if j > i then j else i))) :=
  ev_cbE (ea_consE h fun B2 s2 => ea_oneE (h2 B2 s2)) fun _ _ => EvV.nowE fun _ _ _ q => ⟨i, j, rfl, q⟩
theorem ev_IXeq {c1 c2 : Int → Prop} (ha : EvR D ta σ B (pInt c1)) (hb : ∀ B2, Same B B2 → EvR D tb σ B2 (pInt c2)) : EvR D (tOp rEq ta tb) σ B (pBl fun _ => True) :=
  ev_op ha hb fun x y B2 _ ⟨i, _, e1⟩ ⟨j, _, e2⟩ => EvV.now (v := .bl (decide (x = y))) (fun H Q s q => ⟨by rw [e1, e2] <;> rfl, q⟩) ⟨_, trivial, rfl⟩
/-- x, y = e1, e2, the last -/
theorem sh_parL {i j : Nat} {P1 P2 : PV} [Mo P1] (h1 : EvR D ta σ B P1) (h2 : ∀ B2, Same B B2 → EvR D tb σ B2 P2) (at_ : At D B H) (k : ∀ v w B2 H2, Stp D B H B2 H2 → P1 v B2 → P2 w B2 → Ds.nx ((σ.set i (some v)).set j (some w)) H2) : tPar i j (tCons ta (tCons tb tNil)) Ds σ H :=
  h1 H at_ _ fun v B2 H2 e2 p => h2 B2 e2.bs H2 e2.at2 _ fun w B3 H3 e3 q => ⟨v, w, rfl, k v w B3 H3 (e2.trans e3) (Mo.mo e3.bs p) q⟩
theorem ev_catX {α : Type} {R : α → PV} [∀ a, Mo (R a)] {c1 c2 c : List α → Prop} (h : EvR D te σ B (pEx c1 (fun as => pLst K R as))) (h2 : ∀ B2, Same B B2 → EvR D ta σ B2 (pEx c2 (fun as => pLst K R as))) (hc : ∀ as bs, c1 as → c2 bs → as.length + bs.length ≤ 100000 ∧ c (as ++ bs)) : EvR D (tOp rCat te ta) σ B (pEx c (fun as => pLst K R as)) :=
  ev_op h h2 fun x y B2 _ ⟨as, ca, p, xs, e1, hx, px⟩ ⟨bs, cb, q, ys, e2, hy, py⟩ => EvV.new (o := .lst (xs ++ ys)) (fun H Q s k => ⟨p, q, xs, ys, e1, e2, s _ _ hx, s _ _ hy, by rw [← px.length, ← py.length]; exact Nat.le_trans (hc as bs ca cb).1 (by decide), k⟩) fun r hr => ⟨as ++ bs, (hc as bs ca cb).2, r, _, rfl, upd_same, by
    exact Paired.append (Paired.mono (fun a v h => Mo.mo (Same.new (o := .lst (xs ++ ys)) hr) h) px) (Paired.mono (fun a v h => Mo.mo (Same.new (o := .lst (xs ++ ys)) hr) h) py)⟩
/-- [i] * k, k 0 or 1 -/
theorem ev_rep1 {i : Int} (h : EvR D te σ B (pLst K num [i])) (h2 : ∀ B2, Same B B2 → EvR D ta σ B2 (pInt fun k => 0 ≤ k ∧ k ≤ 1)) : EvR D (tOp rRep te ta) σ B (pEx (fun ns : List Int => ns.length ≤ 1 ∧ ∀ j ∈ ns, j = i) (fun ns => pLst K num ns)) :=
  ev_op h h2 fun x y B2 _ ⟨p, xs, e1, hx, px⟩ ⟨k, ⟨k0, k1⟩, e2⟩ => by
    have ex := paired_num px
    subst ex
    have hk : k = 0 ∨ k = 1 := by omega
    rcases hk with rfl | rfl
    · exact EvV.new (o := .lst []) (fun H Q s q => ⟨p, 0, _, e1, e2, s _ _ hx, by decide, by decide, by show 1 * 0 ≤ _; decide, q⟩) fun r hr => ⟨[], ⟨by show 0 ≤ 1; omega, fun j hj => by cases hj⟩, r, [], rfl, upd_same, .nil⟩
    · exact EvV.new (o := .lst [V.int i]) (fun H Q s q => ⟨p, 1, _, e1, e2, s _ _ hx, by decide, by decide, by show 1 * 1 ≤ _; decide, q⟩) fun r hr => ⟨[i], ⟨by show 1 ≤ 1; omega, fun j hj => List.mem_singleton.mp hj⟩, r, [V.int i], rfl, upd_same, .cons rfl .nil⟩
/-- a list of one int -/
theorem ev_lst1 {i : Int} (h : EvR D te σ B (pEq (.int i))) : EvR D (tLst (tCons te tNil)) σ B (pLst K num [i]) :=
  (ev_lst (R := fun vs _ => vs = [V.int i]) (ea_oneE h) (fun vs _ e => by rw [e]; show 1 ≤ _; omega) fun _ _ _ _ h => h).imp fun v B2 _ ⟨p, vs, e1, e2, e3⟩ => ⟨p, vs, e1, e2, by rw [e3]; exact .cons rfl .nil⟩
/-- (h, a drawn letter, t) -/
theorem ev_stepX {L : Str} {n h t : Int} (h1 : EvR D ta σ B (pEq (.int h))) (h2 : ∀ B2, Same B B2 → EvR D tb σ B2 (pEx (fun k => k ∈ sgs L) pKey)) (h3 : ∀ B2, Same B B2 → EvR D tc σ B2 (pEq (.int t))) (bh : 0 ≤ h ∧ h ≤ n - 1) (bt : 0 ≤ t ∧ t ≤ n - 1) : EvR D (tTup (tCons ta (tCons tb (tCons tc tNil)))) σ B (pEx (StepOk L n) (tri K)) :=
  (ev_tup (R := fun vs _ => ∃ x : Tri, StepOk L n x ∧ vs = (tK x).map kV) ((ea_cons h1 fun B2 s2 => ea_cons (h2 B2 s2) fun B3 s3 => ea_one (P := pEq (.int t)) (h3 B3 (s2.trans s3))).imp fun vs B2 _ ⟨v1, r1, e1, p1, v2, r2, e2, ⟨k, hk, p2⟩, v3, e3, p3⟩ => by
    obtain ⟨c, hc, rfl⟩ := List.mem_map.mp hk
    exact ⟨(h, ⟨#[c]⟩, t), ⟨bh.1, bh.2, bt.1, bt.2, c, rfl, hc⟩, by rw [e1, e2, e3, show v1 = _ from p1, show v2 = _ from p2, show v3 = _ from p3] <;> rfl⟩) (fun vs H ⟨x, _, e⟩ => by rw [e]; show 3 ≤ _; omega) fun _ _ _ _ h => h).imp fun v B2 _ ⟨p, vs, e1, e2, x, ok, e3⟩ => ⟨x, ok, p, e1, SqT.of (by rw [e2, e3])⟩
theorem ev_oneOf {d : Addr} {ks : List Key} {t : TA} (id : IsDice D d) (h : EvA D t σ B (fun vs H => ∃ x, vs = [.ref d, x] ∧ pLst K pKey ks x H)) (h1 : 1 ≤ ks.length) (h2 : ks.length < 1000) : EvR D (tFn (spOneOf K) E0 t) σ B (pEx (fun k => k ∈ ks) pKey) :=
  EvR.imp (P := pEx (fun k => k ∈ ks) pKey) (ev_psp (Post := fun ks : List Key => pEx (fun k => k ∈ ks) pKey) ks h fun vs B2 _ ⟨x, e1, e2⟩ => ⟨⟨d, x, e1, id, pLst.map e2⟩, h1, h2⟩) fun _ _ _ h => h
theorem sc__law_machine : FnScope ["_law_dice_here", "_law_letters_here", "_law_states", "_law_most", "_law_size", "_law_kind_of", "_law_steps", "_law_turn", "_law_here", "_law_there", "_law_ends", "_law_state"] ["_law_dice_here", "_law_letters_here", "_law_states", "_law_most"] d__law_machine.scope := ⟨rfl, rfl, rfl, by decide +kernel, rfl, by decide +kernel, by decide +kernel⟩
theorem fn_law_machine (T : Tz K mg) : Fn P w K mg base 3 "_law_machine" (spLMach K) := by
  refine fn_of T.h__law_machine T.g__law_machine rfl sc__law_machine (fun _ _ _ _ _ _ us hl => match us, hl with | [_, _, _, _], _ => rfl) (fun vs H Q E h => ?_) (BodyOk0.ok fun cdv A outer s H vs Q E hr h => ?_)
  · obtain ⟨_, _, _, _, p, _⟩ := h
    obtain ⟨⟨_, rfl, _⟩, _⟩ := p
    rfl
  refine ⟨_, pss_cons (ps_par3 (i := 4) (j := 5) (l := 6) (by rfl) sc__law_machine.nd rfl rfl rfl (by decide) (by decide) (by decide) rfl rfl rfl (pa_cons (pe_op op_add pe_int (pe_fn (fn_law_roll T) (hr.mono (by decide)) passL (pa_cons (pv 0) (pa_cons (pv 2) pa_nil)))) (pa_cons (pe_fn (fn_law_roll T) (hr.mono (by decide)) passL (pa_cons (pv 0) (pa_cons pe_int pa_nil))) (pa_cons (pe_lst pa_nil) pa_nil))) (by rfl))
      (pss_cons (ps_for PassesOwn.never (by rfl) (pi_range1 (by rfl) T.b_range (pa_cons (pe_fn (fn_law_roll T) (hr.mono (by decide)) passL (pa_cons (pv 0) (pa_cons (pe_op op_add (pv 3) pe_int) pa_nil))) pa_nil)) (pg_name (i := 7) sc__law_machine.nd rfl (Or.inl rfl)) (pss_cons (ps_par (i := 8) (j := 9) (by rfl) sc__law_machine.nd rfl rfl (by decide) rfl rfl (pa_cons (pe_fn (fn_law_roll T) (hr.mono (by decide)) passL (pa_cons (pv 0) (pa_cons (pv 4) pa_nil))) (pa_cons (pe_fn (fn_law_roll T) (hr.mono (by decide)) passL (pa_cons (pv 0) (pa_cons (pv 4) pa_nil))) pa_nil)) (by rfl))
      (pss_cons (ps_if (pt_cmpR op_eq (pv 5) pe_int (nomark _)) (pss_one (ps_par (i := 8) (j := 9) (by rfl) sc__law_machine.nd rfl rfl (by decide) rfl rfl (pa_cons (pe_callB (call_min2 rfl) (by rfl) T.b_min boot_min (pa_cons (pv 8) (pa_cons (pv 9) pa_nil))) (pa_cons (pe_callB (call_max2 rfl) (by rfl) T.b_max boot_max (pa_cons (pv 8) (pa_cons (pv 9) pa_nil))) pa_nil)) (by rfl))) pss_nil)
      (pss_cons (ps_if (pt_cmpR op_eq (pv 5) pe_int (nomark _)) (pss_one (ps_set (i := 9) sc__law_machine.nd rfl (Or.inl rfl) (pe_op op_mod (pe_callTy call_int1 (by rfl) T.b_int boot_int (pa_cons (pe_op op_add (pe_op op_add (pv 8) pe_int) (pe_fn (fn_law_roll T) (hr.mono (by decide)) passL (pa_cons (pv 0) (pa_cons pe_int pa_nil)))) pa_nil)) (pv 4)))) pss_nil)
      (pss_cons (ps_if (PW.pt (pw_and (pt_cmpR op_eq (pv 5) pe_int (nomark _)) (pw_and1 (pt_cmpR op_eq (pv 8) (pv 9) (nomark _))))) (pss_one (ps_set (i := 9) sc__law_machine.nd rfl (Or.inl rfl) (pe_callB (call_min2 rfl) (by rfl) T.b_min boot_min (pa_cons (pe_op op_add (pv 8) pe_int) (pa_cons (pe_op op_sub (pv 4) pe_int) pa_nil))))) pss_nil)
      (pss_one (ps_expr (pe_bm PySem.F.plainAttrs_list PySem.F.slot_list_append PySem.F.type_list_append mt_append (pv 6) (pa_cons (pe_tup (pa_cons (pv 8) (pa_cons (pe_fn (fn_law_one_of T) (hr.mono (by decide)) passL (pa_cons (pv 0) (pa_cons (pe_callTy (cr_listS rfl) (by rfl) T.b_list boot_list (pa_cons (pv 1) pa_nil)) pa_nil))) (pa_cons (pv 9) pa_nil)))) pa_nil)))))))))
      (pss_cons (ps_set (i := 10) sc__law_machine.nd rfl (Or.inl rfl) (pe_op op_cat (pe_lc (own := [("_law_state", 11)]) (g := gName 11) (by rfl) sc__law_machine.nd (pi_range1 (by rfl) T.b_range (pa_cons (pv 4) pa_nil)) (blkOk_by (N := ["_law_dice_here", "_law_letters_here", "_law_states", "_law_most", "_law_size", "_law_kind_of", "_law_steps", "_law_turn", "_law_here", "_law_there", "_law_ends", "_law_state"]) (sc := d__law_machine.scope) (own := [("_law_state", 11)]) (by decide +kernel)) (fun _ _ _ _ _ => (pg_name (i := 11) sc__law_machine.nd rfl (Or.inl rfl))) (fun _ _ _ _ _ => (pts_one (pt_cmpR op_eq (pe_fn (fn_law_roll T) (hr.mono (by decide)) passL (pa_cons (pv 0) (pa_cons pe_int pa_nil))) pe_int (nomark _)))) (fun _ _ _ _ _ => (pv 11))) (pe_op op_rep (pe_lst (pa_cons (pe_op op_sub (pv 4) pe_int) pa_nil)) (pe_callTy call_int1 (by rfl) T.b_int boot_int (pa_cons (pe_cmpR op_gt (pe_fn (fn_law_roll T) (hr.mono (by decide)) passL (pa_cons (pv 0) (pa_cons pe_int pa_nil))) pe_int (nomark _)) pa_nil)))))
      (pss_one (ps_ret (pe_disp (pps_cons pe_str (pv 1) (pps_cons pe_str (pv 4) (pps_cons pe_str (pe_callB (cr_sortM rfl) (by rfl) T.b_sorted boot_sorted (pa_cons (pe_callTy (cr_setM rfl hr.units) (by rfl) T.b_set boot_set (pa_cons (pv 6) pa_nil)) pa_nil)) (pps_cons pe_str (pe_callB (cr_sortedSet rfl) (by rfl) T.b_sorted boot_sorted (pa_cons (pe_callTy (cr_setI rfl) (by rfl) T.b_set boot_set (pa_cons (pv 10) pa_nil)) pa_nil)) pps_nil)))) (by rfl) (by rfl) (fun z => by cases z) (by decide)))))), ?_⟩
  obtain ⟨D, B, ⟨L, s, m⟩, at_, ⟨⟨d, rfl, id⟩, hL, hs1, hs5, hm0, hm10⟩, q⟩ := h
  dsimp only at hL hs1 hs5 hm0 hm10 q
  have hLlen : 1 ≤ L.length ∧ L.length ≤ 3 := by
    unfold isLetters at hL
    simp only [Bool.and_eq_true, decide_eq_true_eq] at hL
    exact hL.2.1
  -- size, kind, steps
  refine (ev_IX0 (c1 := fun i => i = 1) (c3 := fun k => 1 ≤ k ∧ k ≤ s) (ev_cI rfl) (fun B2 s2 => ev_roll id (ea_consE (ev_varE rfl) fun _ _ => ea_oneE (ev_varE rfl)) hs1 (by omega)) fun i j e h => ⟨by omega, by omega⟩) H at_ _ fun v1 B1 H1 s1 hv1 => ?_
  obtain ⟨n, ⟨n1, n2⟩, rfl⟩ := hv1
  refine (ev_roll (D := D) (B := B1) (n := 5) id (ea_consE (ev_varE rfl) fun _ _ => ea_oneE ev_c) (by decide) (by decide)) H1 s1.at2 _ fun v2 B2 H2 s2 hv2 => ?_
  obtain ⟨kd, _, rfl⟩ := hv2
  refine ⟨by show 0 ≤ _; decide, fun st hst => ⟨_, _, _, rfl, ?_⟩⟩
  have s02 := s1.trans s2
  have hst1 : Hd1 D B2 (upd H2 st (.lst [])) st (.lst []) := Hd1.new s2.at2 hst
  have at3 := (Stp.hid (o := .lst []) s2.at2 hst).at2
  have c3 : Chg D [st] B H B2 (upd H2 st (.lst [])) := (Chg.of (as := [st]) at_.inv s02).put (by simp)
  have stH : H st = none := by
    cases e : H st with
    | none => rfl
    | some o =>
      exfalso
      by_cases z : D.ds st
      · exact absurd hst (D.there s2.at2.inv z)
      · rw [s02.x st o e z] at hst; cases hst
  show (tSeq _ _ : TS) _ _ (upd H2 st (.lst []))
  generalize upd H2 st (.lst []) = H3 at hst1 at3 c3 ⊢
  let Sl : L2.St → Prop := fun σ1 => σ1[0]? = some (some (.ref d)) ∧ σ1[1]? = some (some (.str L)) ∧ σ1[4]? = some (some (.int n)) ∧ σ1[5]? = some (some (.int kd)) ∧ σ1[6]? = some (some (.ref st)) ∧ σ1.length = 12
  have hs3 : ∀ p ∈ [(st, HO.lst [])], Hd1 D B2 H3 p.1 p.2 := fun p hp => by rw [List.mem_singleton.mp hp]; exact hst1
  -- the loop
  refine for_pre ((ev_roll (n := m + 1) id (ea_consE (ev_varE rfl) fun _ _ => ea_oneE (ev_I0 (ev_varE rfl) fun _ _ => ev_c)) (by omega) (by omega)) H3 at3 _ fun v4 B4 H4 s4 hv4 => ?_)
  obtain ⟨j, ⟨j0, j1⟩, rfl⟩ := hv4
  have hst4 := hst1.stp s4
  have c4 := c3.stp at3.inv s4
  refine for_ev (D := D) (B := B4) (n := j.toNat) (PY := fun i x _ => x = .int (i : Nat)) (ei_range1 (ea_oneE ev_c) ⟨by omega, by omega⟩) s4.at2 (fun i σ1 Bi Hi => (∃ ts xs, Hd1 D Bi Hi st (.lst xs) ∧ Paired (fun a v => tri K a v Bi) ts xs ∧ ts.length = i ∧ ∀ t ∈ ts, StepOk L n t) ∧ Chg D [st] B H Bi Hi ∧ Sl σ1)
    (fun B5 H5 s5 => ⟨⟨[], [], hst4.stp s5, .nil, rfl, fun t ht => by cases ht⟩, c4.stp s4.at2.inv s5, rfl, rfl, rfl, rfl, rfl, rfl⟩) ?_ ?_
  · rintro B5 s45 i y σ1 Bi Hi B6 H6 hi s5i ati ⟨⟨ts, xs, hsi, pri, lts, okts⟩, ci, e0, e1, e4, e5, e6, len⟩ s6 hy
    obtain rfl : y = _ := hy
    show (tSeq _ _ : TS) _ (σ1.set 7 (some (.int (i : Nat)))) H6
    have f0 : (σ1.set 7 (some (.int (i : Nat))))[0]? = some (some (.ref d)) := by rw [List.getElem?_set_ne (by decide)]; exact e0
    have f1 : (σ1.set 7 (some (.int (i : Nat))))[1]? = some (some (.str L)) := by rw [List.getElem?_set_ne (by decide)]; exact e1
    have f4 : (σ1.set 7 (some (.int (i : Nat))))[4]? = some (some (.int n)) := by rw [List.getElem?_set_ne (by decide)]; exact e4
    have f5 : (σ1.set 7 (some (.int (i : Nat))))[5]? = some (some (.int kd)) := by rw [List.getElem?_set_ne (by decide)]; exact e5
    have f6 : (σ1.set 7 (some (.int (i : Nat))))[6]? = some (some (.ref st)) := by rw [List.getElem?_set_ne (by decide)]; exact e6
    have lenF : (σ1.set 7 (some (.int (i : Nat)))).length = 12 := by rw [List.length_set, len]
    generalize σ1.set 7 (some (.int (i : Nat))) = σ2 at f0 f1 f4 f5 f6 lenF ⊢
    let S : L2.St → Hp → Hp → Prop := fun σ' B' H' => Same Bi B' ∧ At D B' H' ∧ Hd1 D B' H' st (.lst xs) ∧ Chg D [st] B H B' H' ∧ Sl σ' ∧ ∃ h t : Int, σ'[8]? = some (some (.int h)) ∧ σ'[9]? = some (some (.int t)) ∧ (0 ≤ h ∧ h < n) ∧ (0 ≤ t ∧ t < n)
    have setS : ∀ {σ' : L2.St} {B' H' : Hp} {h t : Int}, Same Bi B' → At D B' H' → Hd1 D B' H' st (.lst xs) → Chg D [st] B H B' H' → Sl σ' → (0 ≤ h ∧ h < n) → (0 ≤ t ∧ t < n) → S ((σ'.set 8 (some (.int h))).set 9 (some (.int t))) B' H' := fun {σ' B' H' h t} a1 a2 a3 a4 a5 a6 a7 => by
      obtain ⟨g0, g1, g4, g5, g6, gl⟩ := a5
      refine ⟨a1, a2, a3, a4, ⟨?_, ?_, ?_, ?_, ?_, ?_⟩, h, t, ?_, ?_, a6, a7⟩
      · rw [List.getElem?_set_ne (by decide), List.getElem?_set_ne (by decide)]; exact g0
      · rw [List.getElem?_set_ne (by decide), List.getElem?_set_ne (by decide)]; exact g1
      · rw [List.getElem?_set_ne (by decide), List.getElem?_set_ne (by decide)]; exact g4
      · rw [List.getElem?_set_ne (by decide), List.getElem?_set_ne (by decide)]; exact g5
      · rw [List.getElem?_set_ne (by decide), List.getElem?_set_ne (by decide)]; exact g6
      · rw [List.length_set, List.length_set, gl]
      · rw [List.getElem?_set_ne (by decide)]; exact List.getElem?_set_self (by rw [gl]; decide)
      · exact List.getElem?_set_self (by rw [List.length_set, gl]; decide)
    have set9 : ∀ {σ' : L2.St} {B' H' : Hp} {h t : Int}, Same Bi B' → At D B' H' → Hd1 D B' H' st (.lst xs) → Chg D [st] B H B' H' → Sl σ' → σ'[8]? = some (some (.int h)) → (0 ≤ h ∧ h < n) → (0 ≤ t ∧ t < n) → S (σ'.set 9 (some (.int t))) B' H' := fun {σ' B' H' h t} a1 a2 a3 a4 a5 e8 a6 a7 => by
      obtain ⟨g0, g1, g4, g5, g6, gl⟩ := a5
      refine ⟨a1, a2, a3, a4, ⟨?_, ?_, ?_, ?_, ?_, ?_⟩, h, t, ?_, ?_, a6, a7⟩
      · rw [List.getElem?_set_ne (by decide)]; exact g0
      · rw [List.getElem?_set_ne (by decide)]; exact g1
      · rw [List.getElem?_set_ne (by decide)]; exact g4
      · rw [List.getElem?_set_ne (by decide)]; exact g5
      · rw [List.getElem?_set_ne (by decide)]; exact g6
      · rw [List.length_set, gl]
      · rw [List.getElem?_set_ne (by decide)]; exact e8
      · exact List.getElem?_set_self (by rw [gl]; decide)
    have rollN : ∀ {B' : Hp}, EvR D (tFn spRoll E0 (tCons (tVar 0) (tCons (tVar 4) tNil))) σ2 B' (pInt fun k => 0 ≤ k ∧ k < n) := ev_roll id (ea_consE (ev_varE f0) fun _ _ => ea_oneE (ev_varE f4)) n1 (by omega)
    refine sh_par rollN (fun _ _ => rollN) s6.at2 fun v7 v8 B7 H7 s7 hv7 hv8 => ?_
    obtain ⟨h, bh, rfl⟩ := hv7
    obtain ⟨t, bt, rfl⟩ := hv8
    refine Ld.run (S := S) (S' := fun σ' B' H' => Same B5 B' ∧ At D B' H' ∧ ((∃ ts xs, Hd1 D B' H' st (.lst xs) ∧ Paired (fun a v => tri K a v B') ts xs ∧ ts.length = i + 1 ∧ ∀ t ∈ ts, StepOk L n t) ∧ Chg D [st] B H B' H' ∧ Sl σ')) (Ld.seq (S' := S) ?_ (Ld.seq (S' := S) ?_ (Ld.seq (S' := S) ?_ ?_))) (setS (s6.bs.trans s7.bs) s7.at2 (hsi.stp (s6.trans s7)) ((ci.stp ati.inv s6).stp s6.at2.inv s7) ⟨f0, f1, f4, f5, f6, lenF⟩ bh bt) fun σ' B' H' h => ⟨B', h⟩
    · -- if kind == 1
      intro Ds k σ' B' H' hS
      have hS0 := hS
      obtain ⟨a1, a2, a3, a4, ⟨g0, g1, g4, g5, g6, gl⟩, h, t, g8, g9, bh, bt⟩ := hS
      refine (et_test (ev_eq (x := .int kd) (y := .int 1) (ev_varE g5) (fun _ _ => ev_c) rfl)) H' a2 _ fun b B8 H8 s8 hb => ?_
      cases b with
      | true =>
        refine sh_parL (P1 := pEq (.int (if t < h then t else h))) (P2 := pEq (.int (if t > h then t else h))) (ev_min (ev_varE g8) fun _ _ => ev_varE g9) (fun _ _ => ev_max (ev_varE g8) fun _ _ => ev_varE g9) s8.at2 fun v9 v10 B9 H9 s9 hv9 hv10 => ?_
        obtain rfl : v9 = _ := hv9
        obtain rfl : v10 = _ := hv10
        exact k _ _ _ (setS ((a1.trans s8.bs).trans s9.bs) s9.at2 ((a3.stp s8).stp s9) ((a4.stp a2.inv s8).stp s8.at2.inv s9) ⟨g0, g1, g4, g5, g6, gl⟩ (by split <;> omega) (by split <;> omega))
      | false => exact k _ _ _ ⟨a1.trans s8.bs, s8.at2, a3.stp s8, a4.stp a2.inv s8, ⟨g0, g1, g4, g5, g6, gl⟩, h, t, g8, g9, bh, bt⟩
    · -- if kind == 2
      intro Ds k σ' B' H' hS
      obtain ⟨a1, a2, a3, a4, ⟨g0, g1, g4, g5, g6, gl⟩, h, t, g8, g9, bh, bt⟩ := hS
      refine (et_test (ev_eq (x := .int kd) (y := .int 2) (ev_varE g5) (fun _ _ => ev_c) rfl)) H' a2 _ fun b B8 H8 s8 hb => ?_
      cases b with
      | true =>
        refine (ev_IX (D := D) (B := B8) (c1 := anyI) (c2 := fun j => j = n) (c3 := fun k => 0 ≤ k ∧ k < n) (ev_intOf (ev_IX0 (c1 := anyI) (ev_IX0 (c1 := anyI) (c2 := anyI) (evI_var g8 trivial) (fun _ _ => ev_cI trivial) fun _ _ _ _ => trivial) (fun _ _ => ev_roll (n := 2) id (ea_consE (ev_varE g0) fun _ _ => ea_oneE ev_c) (by decide) (by decide)) fun _ _ _ _ => trivial)) (fun _ _ => evI_var g4 rfl) fun i j _ e => ⟨by omega, by rw [e]; exact mod_in (by omega)⟩) H8 s8.at2 _ fun v9 B9 H9 s9 hv9 => ?_
        obtain ⟨t', bt', rfl⟩ := hv9
        exact k _ _ _ (set9 ((a1.trans s8.bs).trans s9.bs) s9.at2 ((a3.stp s8).stp s9) ((a4.stp a2.inv s8).stp s8.at2.inv s9) ⟨g0, g1, g4, g5, g6, gl⟩ g8 bh bt')
      | false => exact k _ _ _ ⟨a1.trans s8.bs, s8.at2, a3.stp s8, a4.stp a2.inv s8, ⟨g0, g1, g4, g5, g6, gl⟩, h, t, g8, g9, bh, bt⟩
    · -- if kind == 3 and here == there
      intro Ds k σ' B' H' hS
      obtain ⟨a1, a2, a3, a4, ⟨g0, g1, g4, g5, g6, gl⟩, h, t, g8, g9, bh, bt⟩ := hS
      refine (et_and (et_test (ev_eq (x := .int kd) (y := .int 3) (ev_varE g5) (fun _ _ => ev_c) rfl)) fun _ _ _ => et_test (ev_eq (x := .int h) (y := .int t) (ev_varE g8) (fun _ _ => ev_varE g9) rfl)) H' a2 _ fun b B8 H8 s8 hb => ?_
      cases b with
      | true =>
        rw [if_pos rfl]
        refine (ev_min (D := D) (B := B8) (i := h + 1) (j := n - 1) (ev_I0 (g := fun i j => .int (i + j)) (i := h) (j := 1) (ev_varE g8) fun _ _ => ev_c) fun _ _ => ev_I0 (g := fun i j => .int (i - j)) (i := n) (j := 1) (ev_varE g4) fun _ _ => ev_c) H8 s8.at2 _ fun v9 B9 H9 s9 hv9 => ?_
        obtain rfl : v9 = _ := hv9
        exact k _ _ _ (set9 ((a1.trans s8.bs).trans s9.bs) s9.at2 ((a3.stp s8).stp s9) ((a4.stp a2.inv s8).stp s8.at2.inv s9) ⟨g0, g1, g4, g5, g6, gl⟩ g8 bh (by split <;> omega))
      | false => exact k _ _ _ ⟨a1.trans s8.bs, s8.at2, a3.stp s8, a4.stp a2.inv s8, ⟨g0, g1, g4, g5, g6, gl⟩, h, t, g8, g9, bh, bt⟩
    · -- steps.append(..)
      intro Ds k σ' B' H' hS
      obtain ⟨a1, a2, a3, a4, ⟨g0, g1, g4, g5, g6, gl⟩, h, t, g8, g9, bh, bt⟩ := hS
      have hs8 : ∀ p ∈ [(st, HO.lst xs)], Hd1 D B' H' p.1 p.2 := fun p hp => by rw [List.mem_singleton.mp hp]; exact a3
      have lx : xs.length = i := by rw [← pri.length, lts]
      refine sh_appendHL (l := st) (xs := xs) (os := [(st, HO.lst xs)]) (P := pEx (StepOk L n) (tri K)) a2 hs8 (by simp) g6 (by omega) (ev_stepX (L := L) (n := n) (ev_varE g8) (fun B9 s9 => ev_oneOf (ks := sgs L) (id.dh fun p hp => (hs8 p hp).nd) ((ea_cons (P := pEq (.ref d)) (ev_varE g0) fun B10 s10 => ea_one (ev_listS (K := K) (z := L) (ev_varE g1) (by omega))).imp fun vs B10 _ ⟨v, r, q1, q2, v2, q3, q4⟩ => ⟨v2, by rw [q1, q3, show v = _ from q2], q4⟩) (by rw [sgs_len]; exact hLlen.1) (by rw [sgs_len]; omega)) (fun _ _ => ev_varE g9) ⟨bh.1, by omega⟩ ⟨bt.1, by omega⟩) fun v9 B9 H9 s9 ⟨x, okx, hx⟩ => ?_
      have h9 := a3.stp s9
      refine k _ B9 _ ⟨(s5i.trans a1).trans s9.bs, h9.at_ s9.at2, ⟨ts ++ [x], xs ++ [v9], h9.put, Paired.snoc (F := fun a v => tri K a v B9) hx (Paired.mono (fun a v h => Mo.mo (a1.trans s9.bs) h) pri), by rw [List.length_append, lts] <;> rfl, fun t ht => ?_⟩, (a4.stp a2.inv s9).put (by simp), g0, g1, g4, g5, g6, gl⟩
      rcases List.mem_append.mp ht with ht | ht
      · exact okts t ht
      · rw [List.mem_singleton.mp ht]; exact okx
  · rintro σ1 Bi Hi s4i ati ⟨⟨ts, xs, hsi, pri, lts, okts⟩, ci, e0, e1, e4, e5, e6, len⟩
    have jn : j.toNat ≤ 10 := by omega
    -- ends = ..
    dsimp only
    refine sh_set0 (P := pEx (fun ns : List Int => ns.length ≤ 6 ∧ ∀ j ∈ ns, 0 ≤ j ∧ j ≤ n - 1) (fun ns => pLst K num ns)) (ev_catX (c1 := fun ns : List Int => ns.length ≤ 5 ∧ ∀ j ∈ ns, 0 ≤ j ∧ j ≤ n - 1) (c2 := fun ns : List Int => ns.length ≤ 1 ∧ ∀ j ∈ ns, j = n - 1) ?_ (fun B5 s5 => ev_rep1 (ev_lst1 (ev_I0 (g := fun i j => .int (i - j)) (i := n) (j := 1) (ev_varE e4) fun _ _ => ev_c)) fun B6 s6 => ev_intOfB (f := fun _ => True) (ev_IXb (g := fun i j => decide (j < i)) (c2 := anyI) (ev_roll (n := 4) id (ea_consE (ev_varE e0) fun _ _ => ea_oneE ev_c) (by decide) (by decide)) (fun _ _ => ev_cI (i := 0) trivial) fun _ _ _ _ => trivial)) ?_) ati fun v5 B5 H5 s5 hv5 => ?_
    · refine (ev_lcF (R := fun i => numN i) (Pb := fun _ _ => True) (ei_range1 (j := n) (ea_oneE (ev_varE e4)) ⟨by omega, by omega⟩) (by omega) fun i x B6 hi s6 hx => ⟨_, wipe_set, sets_name, fun B7 s7 => ⟨?_, fun _ B8 s8 => ?_⟩⟩).imp fun v B6 _ ⟨p, ys, f, q1, q2, q3, q4⟩ => ⟨((List.range n.toNat).filter f).map (fun i : Nat => (i : Int)), ⟨?_, ?_⟩, p, ys, q1, q2, paired_mapL (R := num) (f := fun i : Nat => (i : Int)) q4⟩
      · obtain rfl : x = _ := hx
        have z0 : (List.set (wipe σ1 [11]) 11 (some (.int (i : Nat))))[0]? = some (some (.ref d)) := by
          show ((σ1.set 11 none).set 11 _)[0]? = _
          rw [List.getElem?_set_ne (by decide), List.getElem?_set_ne (by decide)]
          exact e0
        exact et_testX (ev_IXeq (ev_roll (n := 3) id (ea_consE (ev_varE z0) fun _ _ => ea_oneE ev_c) (by decide) (by decide)) (fun _ _ => ev_cI (c := anyI) trivial))
      · obtain rfl : x = _ := hx
        exact ev_varE (List.getElem?_set_self (by show 11 < (σ1.set 11 none).length; rw [List.length_set, len]; decide))
      · rw [List.length_map]
        have := List.length_filter_le f (List.range n.toNat)
        rw [List.length_range] at this
        omega
      · intro j hj
        obtain ⟨i, hi, rfl⟩ := List.mem_map.mp hj
        have := List.mem_range.mp (List.mem_filter.mp hi).1
        omega
    · rintro as bs ⟨a1, a2⟩ ⟨b1, b2⟩
      refine ⟨by omega, by rw [List.length_append]; omega, fun j hj => ?_⟩
      rcases List.mem_append.mp hj with h | h
      · exact a2 j h
      · rw [b2 j h]; omega
    · obtain ⟨ns, ⟨nl, nb⟩, hns⟩ := hv5
      have hs5' := hsi.stp s5
      have n5 : Same B5 (upd B5 st (.lst xs)) := Same.new hs5'.nb
      have z1 : (σ1.set 10 (some v5))[1]? = some (some (.str L)) := by rw [List.getElem?_set_ne (by decide)]; exact e1
      have z4 : (σ1.set 10 (some v5))[4]? = some (some (.int n)) := by rw [List.getElem?_set_ne (by decide)]; exact e4
      have z6 : (σ1.set 10 (some v5))[6]? = some (some (.ref st)) := by rw [List.getElem?_set_ne (by decide)]; exact e6
      have z10 : (σ1.set 10 (some v5))[10]? = some (some v5) := List.getElem?_set_self (by rw [len]; decide)
      have pts : pMap K (tri K) ts (.ref st) (upd B5 st (.lst xs)) := ⟨st, xs, rfl, SqL.of upd_same, Paired.mono (fun a v h => Mo.mo (s5.bs.trans n5) h) pri⟩
      have pns : pMap K num ns v5 (upd B5 st (.lst xs)) := pLst.map (Mo.mo n5 hns)
      refine (ev_disp (D := D) (kps := [(kLet, pEq (.str L)), (kSiz, pEq (.int n)), (kSte, pEx (SortOf (fun a b => ltT a b = true) ts) (fun m => pLst K (tri K) m)), (kEnd, pEx (SortOf (fun a b => a < b) ns) (fun m => pLst K num m))]) (.cons inferInstance ev_c (fun _ _ => ev_varE z1) fun Bx sx => .cons inferInstance ev_c (fun _ _ => ev_varE z4) fun B6 s6 => .cons inferInstance ev_c (fun B7 s7 => ev_sortM (ev_var z6 (Mo.mo ((sx.trans s6).trans s7) pts)) (by omega)) fun B7 s7 => .cons inferInstance ev_c (fun B8 s8 => ev_sortI (ev_var z10 (Mo.mo (((sx.trans s6).trans s7).trans s8) pns)) (by omega)) fun _ _ => .nil) (by show ([kLet, kSiz, kSte, kEnd] : List Key).Nodup; decide) (by show 4 ≤ 15; decide) (fun kp hp => ?_)) H5 (hs5'.know s5.at2) _ fun v6 B6 H6 s6 hv6 => ?_
      · simp only [List.mem_cons, List.mem_nil_iff, or_false] at hp
        rcases hp with rfl | rfl | rfl | rfl <;> (dsimp only; infer_instance)
      · obtain ⟨p, kvs, rfl, hp, pr⟩ := hv6
        cases pr with
        | @cons _ k1 _ _ r1 pr => cases pr with
          | @cons _ k2 _ _ r2 pr => cases pr with
            | @cons _ k3 _ _ r3 pr => cases pr with
              | @cons _ k4 _ _ r4 pr =>
                cases pr
                obtain ⟨a1, b1⟩ := k1; obtain ⟨a2, b2⟩ := k2; obtain ⟨a3, b3⟩ := k3; obtain ⟨a4, b4⟩ := k4
                obtain ⟨q1, q2⟩ := r1; obtain ⟨q3, q4⟩ := r2; obtain ⟨q5, st', so, q6⟩ := r3; obtain ⟨q7, en', eo, q8⟩ := r4
                dsimp only at q1 q2 q3 q4 q5 q6 q7 q8
                subst q1; subst q3; subst q5; subst q7
                obtain rfl : b1 = _ := q2
                obtain rfl : b2 = _ := q4
                have okS : ∀ t ∈ st', StepOk L n t := fun t ht => okts t ((so.mem t).mp ht)
                have okE : ∀ j ∈ en', 0 ≤ j ∧ j ≤ n - 1 := fun j hj => nb j ((eo.mem j).mp hj)
                have lS := so.len
                have lE := eo.len
                refine q (.ref p) B6 H6 ((((ci.stp ati.inv s5).know stH hs5'.nb).stp (hs5'.know s5.at2).inv s6).drop stH |>.done s6.at2) ⟨⟨L, n, st', en'⟩, ⟨⟨⟨hL, n1, by show n ≤ 5; omega, by show st'.length ≤ 10; omega, okS, ascT_of so, okE, ascI_of eo, by show en'.length ≤ 90000; omega⟩, fun t ht => (okS t ht).st hL (by omega), fun j hj => ⟨(okE j hj).1, by have := (okE j hj).2; omega⟩, by show en'.length ≤ 100; omega⟩, rfl⟩, p, b3, b4, rfl, hp, q6, q8⟩
end
end CW
set_option Elab.async false
set_option linter.all false
set_option maxRecDepth 100000
set_option maxHeartbeats 4000000
/-! W30: the law's machine made, its text, a walk's text. -/
namespace CW
open PySem PySem.Spec PyProof.Rows L2 TL
def spMade (K : PySem.W.Frag) : Sp := PSp (fun _ (M : MD) vs B => (∃ x, vs = [x] ∧ pPlain K M x B) ∧ M.Go) (fun M => pMac K M)
def spMText (K : PySem.W.Frag) : Sp := PSp (fun _ (M : MD) vs B => (∃ x, vs = [x] ∧ pPlain K M x B) ∧ M.Go) (fun M => pEq (.str (textM M)))
theorem emp_app (a : Str) : Str.empty ++ a = a := by
  apply cps_inj
  rw [Str.cps_append, Array.toList_append] <;> rfl
theorem cat4 (a b c d : Str) : catS Str.empty [a, b, c, d] = ((a ++ b) ++ c) ++ d := by
  show (((Str.empty ++ a) ++ b) ++ c) ++ d = _
  rw [emp_app]
theorem cat6 (a b c d e f : Str) : catS Str.empty [a, b, c, d, e, f] = ((((a ++ b) ++ c) ++ d) ++ e) ++ f := by
  show (((((Str.empty ++ a) ++ b) ++ c) ++ d) ++ e) ++ f = _
  rw [emp_app]
theorem cat3 (a b c : Str) : catS Str.empty [a, b, c] = (a ++ b) ++ c := by
  show ((Str.empty ++ a) ++ b) ++ c = _
  rw [emp_app]
section
variable {P : Program} {w : World} {K : PySem.W.Frag} {mg : Str → Option Value} {base : Heap} {D : Dm} {σ : L2.St} {B H : Hp} {te ta tb tc tv ty : TE} {u : TS} {Ds : Ends} {M : MD}
theorem ev_plG {k : Key} {Pw : PV} (hk : ∀ s e B, pLst K (tri K) M.st s B → pLst K num M.en e B → ∃ v, valV [(kLet, .str M.L), (kSiz, .int M.n), (kSte, s), (kEnd, e)] k = some v ∧ Pw v B) (mo : Mo Pw) (h : EvR D te σ B (pPlain K M)) (hi : ∀ B2, Same B B2 → EvR D ta σ B2 (pEq (kV k))) : EvR D (tDGet te ta) σ B Pw := fun H at_ Q q =>
  h H at_ _ fun x B2 H2 e2 ⟨p, s, e, e1, hp, hs, he⟩ => hi B2 e2.bs H2 e2.at2 _ fun y B3 H3 e3 hy => by
    obtain ⟨v, h1, h2⟩ := hk s e B2 hs he
    exact ⟨p, v, e1, .inl ⟨_, k, .inl (e3.at2.sm _ _ (e3.bs _ _ hp)), hy, h1.symm⟩, q v B3 H3 (e2.trans e3) (mo.mo e3.bs h2)⟩
theorem ev_plL (h : EvR D te σ B (pPlain K M)) : EvR D (tDGet te (tC (.str "letters"))) σ B (pEq (.str M.L)) := ev_plG (k := kLet) (fun s e B _ _ => ⟨_, valV_pos rfl, rfl⟩) inferInstance h fun _ _ => ev_c
theorem ev_plN (h : EvR D te σ B (pPlain K M)) : EvR D (tDGet te (tC (.str "size"))) σ B (pEq (.int M.n)) := ev_plG (k := kSiz) (fun s e B _ _ => ⟨_, (valV_neg (by dsimp only; decide)).trans (valV_pos rfl), rfl⟩) inferInstance h fun _ _ => ev_c
theorem ev_plS (h : EvR D te σ B (pPlain K M)) : EvR D (tDGet te (tC (.str "steps"))) σ B (pLst K (tri K) M.st) := ev_plG (k := kSte) (fun s e B h _ => ⟨_, (valV_neg (by dsimp only; decide)).trans ((valV_neg (by dsimp only; decide)).trans (valV_pos rfl)), h⟩) inferInstance h fun _ _ => ev_c
theorem ev_plE (h : EvR D te σ B (pPlain K M)) : EvR D (tDGet te (tC (.str "ends"))) σ B (pLst K num M.en) := ev_plG (k := kEnd) (fun s e B _ h => ⟨_, (valV_neg (by dsimp only; decide)).trans ((valV_neg (by dsimp only; decide)).trans ((valV_neg (by dsimp only; decide)).trans (valV_pos rfl))), h⟩) inferInstance h fun _ _ => ev_c
theorem sc__law_made_machine : FnScope ["_law_plain"] ["_law_plain"] d__law_made_machine.scope := ⟨rfl, rfl, rfl, by decide +kernel, rfl, by decide +kernel, by decide +kernel⟩
theorem fn_law_made (T : Tz K mg) : Fn P w K mg base 6 "_law_made_machine" (spMade K) := by
  refine fn_of T.h__law_made_machine T.g__law_made_machine rfl sc__law_made_machine (fun _ _ _ _ _ _ us hl => match us, hl with | [_], _ => rfl) (fun vs H Q E h => ?_) (BodyOk0.ok fun cdv A outer s H vs Q E hr h => ?_)
  · obtain ⟨_, _, _, _, p, _⟩ := h
    obtain ⟨⟨_, rfl, _⟩, _⟩ := p
    rfl
  refine ⟨_, pss_one (ps_ret (StX.pe_makeR T.mk_Machine (in_Mac4 T) (hr.mono (by decide)) (by rfl) T.g_Machine passL (pa_cons (pe_dget (hu_of hr) (pv 0) pe_str (fun _ _ => rfl)) (pa_cons (pe_dget (hu_of hr) (pv 0) pe_str (fun _ _ => rfl)) (pa_cons (pe_callTy call_tuple_of (by rfl) T.b_tuple boot_tuple (pa_cons (pe_dget (hu_of hr) (pv 0) pe_str (fun _ _ => rfl)) pa_nil)) (pa_cons (pe_callTy call_tuple_of (by rfl) T.b_tuple boot_tuple (pa_cons (pe_dget (hu_of hr) (pv 0) pe_str (fun _ _ => rfl)) pa_nil)) pa_nil)))))), h.body (N := ["_law_plain"]) fun D a B p => ?_⟩
  · obtain ⟨⟨x, rfl, hx⟩, g⟩ := p
    have hv : ∀ {σ : L2.St} B2, Same B B2 → σ[0]? = some (some x) → EvR D (tVar 0) σ B2 (pPlain K a) := fun B2 s h => ev_var h (Mo.mo s hx)
    refine es_ret (ev_make (a := a) (R := fourArgs K a) ((ea_cons (P := pEq (.str a.L)) (ev_plL (hv B (Same.refl _) rfl)) fun B2 s2 => ea_cons (P := pEq (.int a.n)) (ev_plN (hv B2 s2 rfl)) fun B3 s3 => ea_cons (P := stp K a.st) (ev_tupleOf ((ev_plS (hv B3 (s2.trans s3) rfl)).imp fun v B4 _ h => pLst.map h)) fun B4 s4 => ea_one (P := nms_ K a.en) (ev_tupleOf ((ev_plE (hv B4 ((s2.trans s3).trans s4) rfl)).imp fun v B5 _ h => pLst.map h))).imp fun vs B5 _ ⟨v1, r1, e1, p1, v2, r2, e2, p2, v3, r3, e3, p3, v4, e4, p4⟩ => ⟨v3, v4, by rw [e1, e2, e3, e4, show v1 = _ from p1, show v2 = _ from p2], p3, p4⟩) (fun vs B2 _ r => ⟨r, g.ok⟩) fun x dx o d B8 hx8 hd8 hn po => mac_made hx8 hd8 hn po)
theorem pdat_num {ns : List Int} {x : V} (h : pMap K num ns x B) : pDat K (.list ((ns.map (Sum.inl : Int → Key)).map keyD)) x B := by
  obtain ⟨p, xs, rfl, hp, px⟩ := h
  exact .lst hp (dp_keys (paired_mapL (R := pKey) (f := Sum.inl) (Paired.mono (fun j v h => h) px)))
/-- x + ' ' + .. -/
theorem ev_add3 {a b c : Str} (h1 : EvR D ta σ B (pEq (.str a))) (h2 : ∀ B2, Same B B2 → EvR D tb σ B2 (pEq (.str b))) (h3 : ∀ B2, Same B B2 → EvR D tc σ B2 (pEq (.str c))) (hl : a.length + b.length + c.length ≤ 100000) :
    EvR D (tOp (fun x y H Q => ∃ i j, x = .str i ∧ y = .str j ∧ i.length + j.length ≤ sizeLine ∧ Q (.str (i ++ j)) H) (tOp (fun x y H Q => ∃ i j, x = .str i ∧ y = .str j ∧ i.length + j.length ≤ sizeLine ∧ Q (.str (i ++ j)) H) ta tb) tc) σ B (pEq (.str ((a ++ b) ++ c))) :=
  ev_addS (ev_addS h1 h2 (Nat.le_trans (by omega : a.length + b.length ≤ 100000) (by decide))) (fun B2 s2 => h3 B2 s2) (by rw [Str.length_append]; exact Nat.le_trans hl (by decide))
theorem sc__law_machine_text : FnScope ["_law_plain", "_law_lines", "_law_here", "_law_letter", "_law_there", "_law_ends", "_law_end"] ["_law_plain"] d__law_machine_text.scope := ⟨rfl, rfl, rfl, by decide +kernel, rfl, by decide +kernel, by decide +kernel⟩
theorem fn_law_mtext (T : Tz K mg) : Fn P w K mg base 1 "_law_machine_text" (spMText K) := by
  refine fn_of T.h__law_machine_text T.g__law_machine_text rfl sc__law_machine_text (fun _ _ _ _ _ _ us hl => match us, hl with | [_], _ => rfl) (fun vs H Q E h => ?_) (BodyOk0.ok fun cdv A outer s H vs Q E hr h => ?_)
  · obtain ⟨_, _, _, _, p, _⟩ := h
    obtain ⟨⟨_, rfl, _⟩, _⟩ := p
    rfl
  refine ⟨_, pss_cons (ps_set (i := 1) sc__law_machine_text.nd rfl (Or.inl rfl) (pe_lst (pa_cons (pe_op op_add_str (pe_op op_add_str (pe_op op_add_str pe_str (pe_dget (hu_of hr) (pv 0) pe_str (fun _ _ => rfl))) pe_str) (pe_callTy call_str_int (by rfl) T.b_str boot_str (pa_cons (pe_dget (hu_of hr) (pv 0) pe_str (fun _ _ => rfl)) pa_nil))) pa_nil)))
      (pss_cons (ps_set (i := 1) sc__law_machine_text.nd rfl (Or.inl rfl) (pe_op op_cat (pv 1) (pe_lc (own := [("_law_here", 2), ("_law_letter", 3), ("_law_there", 4)]) (g := gTup _ 3 (gCons (gName 2) (gCons (gName 3) (gCons (gName 4) gNil)))) (tt := tYes) (by rfl) sc__law_machine_text.nd (pi_list (pe_dget (hu_of hr) (pv 0) pe_str (fun _ _ => rfl))) (blkOk_by (N := ["_law_plain", "_law_lines", "_law_here", "_law_letter", "_law_there", "_law_ends", "_law_end"]) (sc := d__law_machine_text.scope) (own := [("_law_here", 2), ("_law_letter", 3), ("_law_there", 4)]) (by decide +kernel)) (fun _ _ _ _ _ => (pg_tup (by rfl) (pgs_cons (pg_name (i := 2) sc__law_machine_text.nd rfl (Or.inl rfl)) (pgs_cons (pg_name (i := 3) sc__law_machine_text.nd rfl (Or.inl rfl)) (pgs_cons (pg_name (i := 4) sc__law_machine_text.nd rfl (Or.inl rfl)) pgs_nil))))) (fun _ _ _ _ _ => pts_nil) (fun _ _ _ _ _ => (pe_op op_add_str (pe_op op_add_str (pe_op op_add_str (pe_op op_add_str (pe_op op_add_str pe_str (pe_callTy call_str_int (by rfl) T.b_str boot_str (pa_cons (pv 2) pa_nil))) pe_str) (pv 3)) pe_str) (pe_callTy call_str_int (by rfl) T.b_str boot_str (pa_cons (pv 4) pa_nil)))))))
      (pss_cons (ps_set (i := 5) sc__law_machine_text.nd rfl (Or.inl rfl) (pe_ifExp (pt_cmpR (op_neD hr.units) (pe_dget (hu_of hr) (pv 0) pe_str (fun _ _ => rfl)) (pe_lst pa_nil) (nomark _)) (pe_join pe_str (pe_lc (own := [("_law_end", 6)]) (g := gName 6) (tt := tYes) (by rfl) sc__law_machine_text.nd (pi_list (pe_dget (hu_of hr) (pv 0) pe_str (fun _ _ => rfl))) (blkOk_by (N := ["_law_plain", "_law_lines", "_law_here", "_law_letter", "_law_there", "_law_ends", "_law_end"]) (sc := d__law_machine_text.scope) (own := [("_law_end", 6)]) (by decide +kernel)) (fun _ _ _ _ _ => (pg_name (i := 6) sc__law_machine_text.nd rfl (Or.inl rfl))) (fun _ _ _ _ _ => pts_nil) (fun _ _ _ _ _ => (pe_callTy call_str_int (by rfl) T.b_str boot_str (pa_cons (pv 6) pa_nil))))) pe_str))
      (pss_one (ps_ret (pe_join pe_str (pe_op op_cat (pv 1) (pe_lst (pa_cons (pe_op op_add_str pe_str (pv 5)) pa_nil)))))))), h.body (N := ["_law_plain", "_law_lines", "_law_here", "_law_letter", "_law_there", "_law_ends", "_law_end"]) fun D a B p => ?_⟩
  · obtain ⟨⟨x, rfl, hx⟩, g⟩ := p
    have sm := g.sm
    have hv : ∀ {σ : L2.St} B2, Same B B2 → σ[0]? = some (some x) → EvR D (tVar 0) σ B2 (pPlain K a) := fun B2 s h => ev_var h (Mo.mo s hx)
    have lN := dig_log sm.n0 sm.n1
    have dN := dig_len sm.n0 sm.n1
    have lL := sm.l
    have e1 : sp1.length = 1 := rfl
    have e2 : kMach.length = 8 := rfl
    have e3 : kStep.length = 5 := rfl
    have e4 : kEnds.length = 5 := rfl
    refine es_set (P1 := pLst K txt [headL kMach a.L a.n]) (ev_lstS (zs := [headL kMach a.L a.n]) (ea_oneE ((ev_add3 (a := kMach ++ a.L) (b := sp1) (c := dig a.n) (ev_addS (x := kMach) (y := a.L) ev_c (fun B2 s2 => ev_plL (hv B2 s2 rfl)) (Nat.le_trans (by omega : kMach.length + a.L.length ≤ 1000) (by decide))) (fun _ _ => ev_c) (fun B2 s2 => ev_strI (ev_plN (hv B2 s2 rfl)) lN) (by rw [Str.length_append]; omega)).to (by unfold headL; rw [cat4]))) (by show 1 ≤ _; omega)) fun v B2 s2 hv2 => ?_
    refine es_set (P1 := pLst K txt ([headL kMach a.L a.n] ++ a.st.map stepL)) (ev_cat (ev_var rfl hv2) (fun B3 s3 => (ev_lcL (R := tri K) (R' := fun t => txt (stepL t)) (el_list ((ev_plS (hv _ (s2.trans s3) rfl)).imp fun v B4 _ h => pLst.map h)) (by have := sm.k; omega) fun t y B5 ht s5 hy => ⟨_, by rfl, sets_tri hy, fun B6 s6 => ?_⟩).imp fun v B5 _ h => pLst.fmap h) (by
      rw [List.length_map]
      have := sm.k
      show 1 + _ ≤ _
      exact Nat.le_trans (by omega : 1 + a.st.length ≤ 200) (by decide))) fun v3 B3 s3 hv3 => ?_
    · have ok := sm.s t ht
      have d1 := dig_len ok.1.1 ok.1.2
      have d2 := dig_len ok.2.1.1 ok.2.1.2
      have d3 := ok.2.2
      refine (ev_add3 (a := ((kStep ++ dig t.1) ++ sp1) ++ t.2.1) (b := sp1) (c := dig t.2.2) (ev_add3 (a := kStep ++ dig t.1) (b := sp1) (c := t.2.1) (ev_addS (x := kStep) (y := dig t.1) ev_c (fun _ _ => ev_strI (ev_varE rfl) (dig_log ok.1.1 ok.1.2)) (Nat.le_trans (by omega : kStep.length + (dig t.1).length ≤ 1000) (by decide))) (fun _ _ => ev_c) (fun _ _ => ev_varE rfl) (by rw [Str.length_append]; omega)) (fun _ _ => ev_c) (fun _ _ => ev_strI (ev_varE rfl) (dig_log ok.2.1.1 ok.2.1.2)) (by rw [Str.length_append, Str.length_append, Str.length_append]; omega)).to (by unfold stepL; rw [cat6])
    have s23 := s2.trans s3
    have okK : ∀ k ∈ a.en.map (Sum.inl : Int → Key), keyOkS k = true := fun k hk => by
      obtain ⟨j, hj, rfl⟩ := List.mem_map.mp hk
      exact decide_eq_true (dig_log (sm.e j hj).1 (sm.e j hj).2)
    have okJ : ((a.en.map dig).map (·.length)).sum + (a.en.map dig).length * sp1.length ≤ 16777216 := by
      rw [List.length_map, e1, List.map_map]
      have := sum_le (l := a.en) (f := (fun x : Str => x.length) ∘ dig) (b := 6) fun j hj => dig_len (sm.e j hj).1 (sm.e j hj).2
      have := sm.ek
      omega
    have jl := joinW_len sm.e
    have ek := sm.ek
    refine es_set (P1 := pEq (.str (joinW (a.en.map .inl)))) (ev_if (Pb := is (!decide (a.en.map (Sum.inl : Int → Key) = []))) ((et_test (ev_neD (K := K) (d := .list ((a.en.map (Sum.inl : Int → Key)).map keyD)) (e := .list []) ((ev_plE (hv B3 s23 rfl)).imp fun v B4 _ h => pdat_num (pLst.map h)) (fun B4 s4 => ev_lstD ea_nilD (by show 0 ≤ 100000; omega)) (shaped_keys okK) shaped_nil)).to (by rw [eqv_nil])) (fun z B4 s4 => ?_) fun z B4 s4 => ?_) fun v4 B4 s4 hv4 => ?_
    · have ne : a.en.map (Sum.inl : Int → Key) ≠ [] := by
        have z' : true = !decide (a.en.map (Sum.inl : Int → Key) = []) := z
        intro e
        rw [decide_eq_true e] at z'
        cases z'
      refine (ev_join (ys := a.en.map dig) ev_c (fun B5 s5 => (ev_lcL (R := num) (R' := fun j => txt (dig j)) (el_list ((ev_plE (hv _ ((s23.trans s4).trans s5) rfl)).imp fun v B6 _ h => pLst.map h)) (by omega) fun j y B6 hj s6 hy => ⟨_, by rfl, sets_name, fun B7 s7 => ?_⟩).imp fun v B6 _ h => pLst.map (pLst.fmap h)) okJ).to (by
        unfold joinW
        rw [if_neg ne, List.map_map] <;> rfl)
      obtain rfl : y = _ := hy
      exact ev_strI (ev_varE rfl) (dig_log (sm.e j hj).1 (sm.e j hj).2)
    · have e : a.en.map (Sum.inl : Int → Key) = [] := by
        have z' : false = !decide (a.en.map (Sum.inl : Int → Key) = []) := z
        by_cases c : a.en.map (Sum.inl : Int → Key) = []
        · exact c
        · rw [decide_eq_false c] at z'; cases z'
      exact ev_c.to (by unfold joinW; rw [if_pos e] <;> rfl)
    · obtain rfl : v4 = _ := hv4
      have okT := Nat.le_trans (rows_small sm) (by decide : 100000 ≤ 16777216)
      refine es_ret ((ev_join (ys := rowsL a) ev_c (fun B5 s5 => (ev_cat (as := [headL kMach a.L a.n] ++ a.st.map stepL) (as2 := [endsL a.en]) (ev_var rfl (Mo.mo (s4.trans s5) hv3)) (fun B6 s6 => ev_lstS (zs := [endsL a.en]) (ea_oneE (ev_addS (x := kEnds) (y := joinW (a.en.map .inl)) ev_c (fun _ _ => ev_varE rfl) (Nat.le_trans (by omega : kEnds.length + (joinW (a.en.map .inl)).length ≤ 1000) (by decide)))) (by show 1 ≤ _; omega)) (by
        rw [List.length_append, List.length_map]
        have := sm.k
        exact Nat.le_trans (by show 1 + _ + 1 ≤ 1000; omega : _ ≤ 1000) (by decide))).imp fun v B6 _ h => pLst.map h) okT).to rfl)
theorem sc__law_walk_text : FnScope ["_law_walk", "_law_here", "_law_sign", "_law_there"] ["_law_walk"] d__law_walk_text.scope := ⟨rfl, rfl, rfl, by decide +kernel, rfl, by decide +kernel, by decide +kernel⟩
theorem fn_law_wtext (T : Tz K mg) : Fn P w K mg base 1 "_law_walk_text" (spWalkT K) := by
  refine fn_of T.h__law_walk_text T.g__law_walk_text rfl sc__law_walk_text (fun _ _ _ _ _ _ us hl => match us, hl with | [_], _ => rfl) (fun vs H Q E h => ?_) (BodyOk0.ok fun cdv A outer s H vs Q E hr h => ?_)
  · obtain ⟨_, _, _, _, p, _⟩ := h
    obtain ⟨⟨_, rfl, _⟩, _⟩ := p
    rfl
  refine ⟨_, pss_cons (ps_if (pt_cmpR (op_eqD hr.units) (pv 0) (pe_tup pa_nil) (nomark _)) (pss_one (ps_ret pe_str)) pss_nil)
      (pss_one (ps_ret (pe_join pe_str (pe_op op_cat (pe_lst (pa_cons (pe_callTy call_str_int (by rfl) T.b_str boot_str (pa_cons (pe_ix ix_tup (pe_ix ix_tup (pv 0) pe_int (fun _ _ => rfl)) pe_int (fun _ _ => rfl)) pa_nil)) pa_nil)) (pe_lc (own := [("_law_here", 1), ("_law_sign", 2), ("_law_there", 3)]) (g := gTup _ 3 (gCons (gName 1) (gCons (gName 2) (gCons (gName 3) gNil)))) (tt := tYes) (by rfl) sc__law_walk_text.nd (pi_tup (pv 0)) (blkOk_by (N := ["_law_walk", "_law_here", "_law_sign", "_law_there"]) (sc := d__law_walk_text.scope) (own := [("_law_here", 1), ("_law_sign", 2), ("_law_there", 3)]) (by decide +kernel)) (fun _ _ _ _ _ => (pg_tup (by rfl) (pgs_cons (pg_name (i := 1) sc__law_walk_text.nd rfl (Or.inl rfl)) (pgs_cons (pg_name (i := 2) sc__law_walk_text.nd rfl (Or.inl rfl)) (pgs_cons (pg_name (i := 3) sc__law_walk_text.nd rfl (Or.inl rfl)) pgs_nil))))) (fun _ _ _ _ _ => pts_nil) (fun _ _ _ _ _ => (pe_op op_add_str (pe_op op_add_str (pv 2) pe_str) (pe_callTy call_str_int (by rfl) T.b_str boot_str (pa_cons (pv 3) pa_nil))))))))), h.body (N := ["_law_walk", "_law_here", "_law_sign", "_law_there"]) fun D a B p => ?_⟩
  · obtain ⟨⟨x, rfl, hx⟩, ok⟩ := p
    have hl := ok.len
    have e1 : sp1.length = 1 := rfl
    have hv : ∀ {σ : L2.St} B2, Same B B2 → σ[0]? = some (some x) → EvR D (tVar 0) σ B2 (stp K a) := fun B2 s h => ev_var h (Mo.mo s hx)
    have t1 : ∀ {σ : L2.St}, σ[0]? = some (some x) → EvT D (tTest (tOp (rEqD K) (tVar 0) (tTup tNil))) σ B (is (decide (a = []))) := fun h => (et_test (ev_eqD (K := K) ((hv B (Same.refl _) h).imp fun v B3 _ h => dp_st h) (fun B3 s3 => ev_tupD ea_nilD (by show 0 ≤ 100000; omega)) (shaped_trisT fun t ht => (ok.s t ht).sok) (shaped_trisT (st := []) fun t ht => by cases ht))).to (eqv_nilTT a)
    cases a with
    | nil => exact es_ifT ((t1 rfl).to (by simp)) fun B2 s2 => es_ret ev_c
    | cons t wk =>
      have ht := ok.s t List.mem_cons_self
      refine es_ifF ((t1 rfl).to (by simp)) fun B2 s2 => es_ret (ev_join (ys := wkParts (t :: wk)) ev_c (fun B3 s3 => (ev_cat (as := [dig t.1]) (as2 := (t :: wk).map pairS) (ev_lstS (zs := [dig t.1]) (ea_oneE (ev_strI (ev_triA (ev_ixT (R := tri K) (a := t) (i := 0) (hv B3 (s2.trans s3) rfl) (fun _ _ => ev_c) (by decide) rfl) fun _ _ => ev_c) (dig_log ht.a0 ht.a1))) (by show 1 ≤ _; omega)) (fun B4 s4 => ?_) ?_).imp fun v B5 _ h => pLst.map h) (Nat.le_trans (parts_sum ok) (by decide)))
      · refine (ev_lcL (as := t :: wk) (R := tri K) (R' := fun t => txt (pairS t)) (el_tup (hv B4 ((s2.trans s3).trans s4) rfl)) (by omega) fun u y B5 hu s5 hy => ⟨_, by rfl, sets_tri hy, fun B6 s6 => ?_⟩).imp fun v B5 _ h => pLst.fmap h
        have oku := ok.s u hu
        have l1 := oku.one
        have d2 := dig_len oku.b0 oku.b1
        exact (ev_add3 (a := u.2.1) (b := sp1) (c := dig u.2.2) (ev_varE rfl) (fun _ _ => ev_c) (fun _ _ => ev_strI (ev_varE rfl) (dig_log oku.b0 oku.b1)) (by omega)).to (by unfold pairS; rw [cat3])
      · rw [List.length_map]
        exact Nat.le_trans (by show 1 + _ ≤ 1000; omega : _ ≤ 1000) (by decide)
end
end CW
set_option Elab.async false
set_option linter.all false
set_option maxRecDepth 100000
set_option maxHeartbeats 4000000
/-! W31: drawn boxes, a box's text, drawn walks. -/
namespace CW
open PySem PySem.Spec PyProof.Rows L2 TL
def spLBox (K : PySem.W.Frag) : Sp := PSp (fun D (a : Str × Int) vs _ => (∃ d, vs = [.ref d, .str a.1, .int a.2] ∧ IsDice D d) ∧ isLetters a.1 = true ∧ 1 ≤ a.2 ∧ a.2 ≤ 6) (fun a => pEx (fun b : BD × Nat => b.1.Ok b.2 ∧ b.1.L = a.1) (fun b => tns K b.1.ct))
def spBText (K : PySem.W.Frag) : Sp := PSp (fun _ (b : BD × Nat) vs B => (∃ x, vs = [.str b.1.L, x] ∧ tns K b.1.ct x B) ∧ b.1.Ok b.2) (fun b => pEq (.str (textB b.1 b.2)))
def spChain (K : PySem.W.Frag) : Sp := PSp (fun D (m : Int) vs _ => (∃ d, vs = [.ref d, .int m] ∧ IsDice D d) ∧ 0 ≤ m ∧ m ≤ 10) (fun _ => pEx WkOk (fun wk => stp K wk))
theorem asc_nodup : ∀ {ls : List Nat}, asc ls = true → ls.Pairwise (· < ·)
  | [], _ => .nil
  | [a], _ => List.pairwise_singleton _ _
  | a :: b :: ls, h => by
    have h' : (decide (a < b) && asc (b :: ls)) = true := h
    rw [Bool.and_eq_true] at h'
    have h1 := of_decide_eq_true h'.1
    have ih := asc_nodup h'.2
    refine List.pairwise_cons.mpr ⟨fun x hx => ?_, ih⟩
    rcases List.mem_cons.mp hx with e | hx
    · rw [e]; exact h1
    · have := (List.pairwise_cons.mp ih).1 x hx
      omega
theorem letters_nodup {L : Str} (h : isLetters L = true) : (cs L).Nodup := by
  unfold isLetters at h
  simp only [Bool.and_eq_true] at h
  exact (asc_nodup h.2.2).imp fun h e => by omega
/-- ints drawn into an order -/
theorem perm_ints {ms : List Key} {n : Nat} (h : ms.Perm ((List.range n).map fun i : Nat => (Sum.inl (i : Int) : Key))) : ∃ ns : List Int, ms = ns.map Sum.inl ∧ ns.length = n ∧ ns.Nodup ∧ ∀ x ∈ ns, 0 ≤ x ∧ x ≤ (n : Int) - 1 := by
  let g : Key → Int := fun k => match k with | .inl i => i | .inr _ => 0
  have e : ms = (ms.map g).map Sum.inl := by
    rw [List.map_map]
    conv => lhs; rw [← List.map_id ms]
    refine List.map_congr_left fun k hk => ?_
    obtain ⟨i, _, rfl⟩ := List.mem_map.mp (h.mem_iff.mp hk)
    rfl
  have p : (ms.map g).Perm ((List.range n).map fun i : Nat => (i : Int)) := by
    have := h.map g
    rw [List.map_map] at this
    exact this
  refine ⟨ms.map g, e, by rw [p.length_eq, List.length_map, List.length_range], p.nodup_iff.mpr ?_, fun x hx => ?_⟩
  · exact List.pairwise_map.mpr (List.nodup_range.imp fun h e => h (by omega))
  · obtain ⟨i, hi, rfl⟩ := List.mem_map.mp (p.mem_iff.mp hx)
    have := List.mem_range.mp hi
    omega
section
variable {P : Program} {w : World} {K : PySem.W.Frag} {mg : Str → Option Value} {base : Heap} {D : Dm} {σ : L2.St} {B H : Hp} {te ta tb tc tv ty : TE} {u : TS} {Ds : Ends} {M : MD}
theorem ev_dictPX {α : Type} {c : List α → Prop} {key : α → Key} {R : α → PV} [∀ a, Mo (R a)] (h : EvR D te σ B (pEx c (fun as => pLst K (fun a => pPr (pEq (kV (key a))) (R a)) as))) (hk : ∀ as, c as → (as.map key).Nodup) : EvR D (tCB (fun xs H Q => ∃ (a : Addr) (ps : List Addr) (kvs : List (Key × V)), xs = [.ref a] ∧ SqL K H a (ps.map V.ref) ∧ Paired (fun p kv => SqT K H p [kV kv.1, kv.2]) ps kvs ∧
    ∀ p, H p = none → Q (.ref p) (upd H p (.dK (mergeK [] kvs)))) (tCons te tNil)) σ B (pEx c (fun as => pDic key R as)) := fun H at_ Q q =>
  h H at_ _ fun v B2 H2 e2 ⟨as, ca, hv⟩ => ev_dictP (D := D) (σ := σ) (te := tC v) (key := key) (R := R) (ev_cP hv) (hk as ca) H2 e2.at2 _ fun v3 B3 H3 e3 h3 => q v3 B3 H3 (e2.trans e3) ⟨as, ca, h3⟩
/-- one of each -/
theorem pr_choose {α β : Type} {F : α → β → V → Prop} {c : α → β → Prop} : ∀ {as : List α} {xs : List V}, Paired (fun a v => ∃ b, c a b ∧ F a b v) as xs → ∃ ps : List (α × β), ps.map Prod.fst = as ∧ (∀ p ∈ ps, c p.1 p.2) ∧ Paired (fun p v => F p.1 p.2 v) ps xs
  | _, _, .nil => ⟨[], rfl, (fun p hp => by cases hp), .nil⟩
  | _, _, .cons ⟨b, h1, h2⟩ t => by
    obtain ⟨ps, e, h3, h4⟩ := pr_choose t
    refine ⟨(_, b) :: ps, by rw [List.map_cons, e], fun p hp => ?_, .cons h2 h4⟩
    rcases List.mem_cons.mp hp with e | hp
    · rw [e]; exact h1
    · exact h3 p hp
theorem sc__law_box : FnScope ["_law_dice_here", "_law_letters_here", "_law_most", "_law_size", "_law_letter"] ["_law_dice_here", "_law_letters_here", "_law_most"] d__law_box.scope := ⟨rfl, rfl, rfl, by decide +kernel, rfl, by decide +kernel, by decide +kernel⟩
theorem fn_law_box (T : Tz K mg) : Fn P w K mg base 3 "_law_box" (spLBox K) := by
  refine fn_of T.h__law_box T.g__law_box rfl sc__law_box (fun _ _ _ _ _ _ us hl => match us, hl with | [_, _, _], _ => rfl) (fun vs H Q E h => ?_) (BodyOk0.ok fun cdv A outer s H vs Q E hr h => ?_)
  · obtain ⟨_, _, _, _, p, _⟩ := h
    obtain ⟨⟨_, rfl, _⟩, _⟩ := p
    rfl
  refine ⟨_, pss_cons (ps_set (i := 3) sc__law_box.nd rfl (Or.inr rfl) (pe_op op_add pe_int (pe_fn (fn_law_roll T) (hr.mono (by decide)) passL (pa_cons (pv 0) (pa_cons (pv 2) pa_nil)))))
      (pss_one (ps_ret (pe_callTy (call_dictP rfl) (by rfl) T.b_dict boot_dict (pa_cons (pe_lc (own := [("_law_letter", 4)]) (g := gName 4) (tt := tYes) (by rfl) sc__law_box.nd (pi_str (pv 1)) (blkOk_by (N := ["_law_dice_here", "_law_letters_here", "_law_most", "_law_size", "_law_letter"]) (sc := d__law_box.scope) (own := [("_law_letter", 4)]) (by decide +kernel)) (fun _ _ _ _ _ => (pg_name (i := 4) sc__law_box.nd rfl (Or.inl rfl))) (fun _ _ _ _ _ => pts_nil) (fun _ _ _ _ _ => (pe_tup (pa_cons (pv 4) (pa_cons (pe_callTy (r := fun xs H Q => ∃ p ys, xs = [.ref p] ∧ ((SqL K H p ys ∧ ∀ l, H l = none → Q (.ref l) (upd H l (.tup ys))) ∨ (SqT K H p ys ∧ Q (.ref p) H))) call_tuple_of (by rfl) T.b_tuple boot_tuple (pa_cons (pe_fn (fn_law_mixed T) (hr.mono (by decide)) passL (pa_cons (pv 0) (pa_cons (pe_listRg (by rfl) (by rfl) T.b_list (prg_1 (by rfl) T.b_range (pv 3))) pa_nil))) pa_nil)) pa_nil))))) pa_nil)))), h.body (N := ["_law_dice_here", "_law_letters_here", "_law_most", "_law_size", "_law_letter"]) fun D a B p => ?_⟩
  · obtain ⟨⟨d, rfl, id⟩, hL, h1, h6⟩ := p
    obtain ⟨L, m⟩ := a
    dsimp only at hL h1 h6
    have hLn := letters_nodup hL
    have hLl : 1 ≤ L.length ∧ L.length ≤ 3 := by
      unfold isLetters at hL
      simp only [Bool.and_eq_true, decide_eq_true_eq] at hL
      exact hL.2.1
    refine es_set (P1 := pInt fun k => 1 ≤ k ∧ k ≤ m) (ev_IX0 (c1 := fun i => i = 1) (ev_cI rfl) (fun B2 s2 => ev_roll id (ea_consE (ev_varE rfl) fun _ _ => ea_oneE (ev_varE rfl)) h1 (by omega)) fun i j e h => ⟨by omega, by omega⟩) fun v B2 s2 hv => ?_
    obtain ⟨n, ⟨n1, n2⟩, rfl⟩ := hv
    obtain ⟨k, rfl⟩ : ∃ k : Nat, n = k := ⟨n.toNat, by omega⟩
    refine es_ret ((ev_dictPX (key := bkey) (R := fun a : Lt1 => nms_ K a.2) (c := fun ct : List Lt1 => ct.map Prod.fst = cs L ∧ ∀ a ∈ ct, a.2.length = k ∧ a.2.Nodup ∧ ∀ x ∈ a.2, 0 ≤ x ∧ x ≤ (k : Int) - 1) ((ev_lcL (K := K) (R := sgn) (R' := fun c => pPr (pEq (.str ⟨#[c]⟩)) (pEx (fun ns : List Int => ns.length = k ∧ ns.Nodup ∧ ∀ x ∈ ns, 0 ≤ x ∧ x ≤ (k : Int) - 1) (fun ns => nms_ K ns))) (el_str (z := L) (ev_varE rfl)) (by rw [len_cs]; omega) fun c y B3 hc s3 hy => ⟨_, by rfl, sets_name, fun B4 s4 => ?_⟩).imp fun v B3 _ ⟨p, xs, e1, hp, pr⟩ => ?_) fun ct ⟨h, _⟩ => ?_).imp fun v B3 _ ⟨ct, ⟨h1, h2⟩, h⟩ => ⟨(⟨L, ct⟩, k), ⟨⟨hL, h1.symm, by omega, by omega, fun a ha => (h2 a ha).1, fun a ha => (h2 a ha).2.1, fun a ha => (h2 a ha).2.2, ?_⟩, rfl⟩, h⟩)
    · obtain rfl : y = _ := hy
      refine ev_pr (ev_varE rfl) fun B5 s5 => ev_tupleEx ?_
      refine EvR.imp (P := pEx (fun ms : List Key => ms.Perm ((List.range k).map fun i : Nat => (Sum.inl (i : Int) : Key))) (fun ms : List Key => pLst K pKey ms)) (ev_psp (Post := fun ks : List Key => pEx (fun ms : List Key => ms.Perm ks) (fun ms : List Key => pLst K pKey ms)) ((List.range k).map fun i : Nat => (Sum.inl (i : Int) : Key)) ((ea_cons (P := pEq (.ref d)) (ev_varE rfl) fun B6 s6 => ea_one (ev_listRg (K := K) (n := k) (ev_varE rfl) (by omega))) : EvA _ _ _ _ _) fun vs B6 _ ⟨v1, r1, q1, q2, v2, q3, q4⟩ => ⟨⟨d, v2, by rw [q1, q3, show v1 = _ from q2], id, pLst.map (pLst.fmap (R := pKey) (f := fun i : Nat => (Sum.inl (i : Int) : Key)) ?_)⟩, ?_, ?_⟩) fun v B6 _ ⟨ms, pm, h⟩ => ?_
      · obtain ⟨p, xs, e1, e2, e3⟩ := q4
        exact ⟨p, xs, e1, e2, Paired.mono (fun i v h => h) e3⟩
      · intro kk hk
        obtain ⟨i, hi, rfl⟩ := List.mem_map.mp hk
        have := List.mem_range.mp hi
        exact decide_eq_true (dig_log (by omega) (by omega))
      · rw [List.length_map, List.length_range]; omega
      · obtain ⟨ns, rfl, a1, a2, a3⟩ := perm_ints pm
        obtain ⟨p, xs, e1, e2, e3⟩ := h
        refine ⟨ns, ⟨a1, a2, a3⟩, p, xs, e1, e2, ?_⟩
        have e4 := keys_of e3
        rw [e4, List.map_map]
        exact num_list
    · have pr' : Paired (fun c v => ∃ ns : List Int, (ns.length = k ∧ ns.Nodup ∧ ∀ x ∈ ns, 0 ≤ x ∧ x ≤ (k : Int) - 1) ∧ pPr (pEq (.str ⟨#[c]⟩)) (nms_ K ns) v B3) (cs L) xs := Paired.mono (fun c v ⟨T, x, y, q1, q2, q3, ns, q4, q5⟩ => ⟨ns, q4, T, x, y, q1, q2, q3, q5⟩) pr
      obtain ⟨ps, e2, h3, h4⟩ := pr_choose pr'
      exact ⟨ps, ⟨e2, h3⟩, p, xs, e1, hp, h4⟩
    · have e : ct.map bkey = (ct.map Prod.fst).map fun c => (.inr ⟨#[c]⟩ : Key) := by rw [List.map_map] <;> rfl
      rw [e, h]
      exact List.pairwise_map.mpr (hLn.imp fun h e => h (by injection e with e; injection e with e; injection e with e; injection e))
    · have e : ct.map bkey = (ct.map Prod.fst).map fun c => (.inr ⟨#[c]⟩ : Key) := by rw [List.map_map] <;> rfl
      rw [e, h1]
      exact List.pairwise_map.mpr (hLn.imp fun h e => h (by injection e with e; injection e with e; injection e with e; injection e))
end
end CW
set_option Elab.async false
set_option linter.all false
set_option maxRecDepth 100000
set_option maxHeartbeats 4000000
/-! W32: a box's text, drawn walks. -/
namespace CW
open PySem PySem.Spec PyProof.Rows L2 TL
def abz8 : Str := "abzABZqQ"
def ks7 : List Key := [.inl 0, .inl 1, .inl 2, .inl 9, .inl 10, .inl 123, .inl 4096]
def chainOk (wk : List Tri) : Prop := (wk.zip wk.tail).all (fun p => decide (p.1.2.2 = p.2.1)) = true
theorem chain_snoc : ∀ {wk : List Tri} {t : Tri}, chainOk wk → (∀ l, wk.getLast? = some l → l.2.2 = t.1) → chainOk (wk ++ [t])
  | [], t, _, _ => rfl
  | [a], t, _, h => by
    have := h a rfl
    show (decide (a.2.2 = t.1) && true) = true
    rw [decide_eq_true this]
    rfl
  | a :: b :: wk, t, h, hl => by
    have h' : (decide (a.2.2 = b.1) && ((b :: wk).zip wk).all fun p => decide (p.1.2.2 = p.2.1)) = true := h
    rw [Bool.and_eq_true] at h'
    have ih : chainOk (b :: wk ++ [t]) := chain_snoc (wk := b :: wk) h'.2 fun l e => hl l (by rw [List.getLast?_cons_cons]; exact e)
    show (decide (a.2.2 = b.1) && ((b :: (wk ++ [t])).zip (wk ++ [t])).all fun p => decide (p.1.2.2 = p.2.1)) = true
    rw [h'.1]
    exact ih
theorem abz_ok : ∀ c ∈ cs abz8, c ∈ cs lowers ∨ c ∈ cs uppers := by decide +kernel
section
variable {P : Program} {w : World} {K : PySem.W.Frag} {mg : Str → Option Value} {base : Heap} {D : Dm} {σ : L2.St} {B H : Hp} {te ta tb tc tv ty : TE} {tA : TA} {u : TS} {Ds : Ends} {M : MD}
theorem ev_lstK {ks : List Key} (h : EvA D tA σ B (fun vs _ => vs = ks.map kV)) (hl : ks.length ≤ 100000) : EvR D (tLst tA) σ B (pLst K pKey ks) :=
  (ev_lst (R := fun vs _ => vs = ks.map kV) h (fun vs _ e => by rw [e, List.length_map]; exact hl) fun _ _ _ _ h => h).imp fun v B2 _ ⟨p, vs, e1, e2, e3⟩ => ⟨p, vs, e1, e2, by rw [e3]; exact keys_pr⟩
/-- (s, a drawn sign, l) -/
theorem ev_signX {z : Str} {h t : Int} (h1 : EvR D ta σ B (pEq (.int h))) (h2 : ∀ B2, Same B B2 → EvR D tb σ B2 (pEx (fun k => k ∈ sgs z) pKey)) (h3 : ∀ B2, Same B B2 → EvR D tc σ B2 (pEq (.int t))) : EvR D (tTup (tCons ta (tCons tb (tCons tc tNil)))) σ B (pEx (fun x : Tri => x.1 = h ∧ x.2.2 = t ∧ ∃ c, x.2.1 = ⟨#[c]⟩ ∧ c ∈ cs z) (tri K)) :=
  (ev_tup (R := fun vs _ => ∃ x : Tri, (x.1 = h ∧ x.2.2 = t ∧ ∃ c, x.2.1 = ⟨#[c]⟩ ∧ c ∈ cs z) ∧ vs = (tK x).map kV) ((ea_cons h1 fun B2 s2 => ea_cons (h2 B2 s2) fun B3 s3 => ea_one (P := pEq (.int t)) (h3 B3 (s2.trans s3))).imp fun vs B2 _ ⟨v1, r1, e1, p1, v2, r2, e2, ⟨k, hk, p2⟩, v3, e3, p3⟩ => by
    obtain ⟨c, hc, rfl⟩ := List.mem_map.mp hk
    exact ⟨(h, ⟨#[c]⟩, t), ⟨rfl, rfl, c, rfl, hc⟩, by rw [e1, e2, e3, show v1 = _ from p1, show v2 = _ from p2, show v3 = _ from p3] <;> rfl⟩) (fun vs H ⟨x, _, e⟩ => by rw [e]; show 3 ≤ _; omega) fun _ _ _ _ h => h).imp fun v B2 _ ⟨p, vs, e1, e2, x, ok, e3⟩ => ⟨x, ok, p, e1, SqT.of (by rw [e2, e3])⟩
theorem sc__law_box_text : FnScope ["_law_letters_here", "_law_turns", "_law_lines", "_law_letter", "_law_place"] ["_law_letters_here", "_law_turns"] d__law_box_text.scope := ⟨rfl, rfl, rfl, by decide +kernel, rfl, by decide +kernel, by decide +kernel⟩
theorem fn_law_btext (T : Tz K mg) : Fn P w K mg base 1 "_law_box_text" (spBText K) := by
  refine fn_of T.h__law_box_text T.g__law_box_text rfl sc__law_box_text (fun _ _ _ _ _ _ us hl => match us, hl with | [_, _], _ => rfl) (fun vs H Q E h => ?_) (BodyOk0.ok fun cdv A outer s H vs Q E hr h => ?_)
  · obtain ⟨_, _, _, _, p, _⟩ := h
    obtain ⟨⟨_, rfl, _⟩, _⟩ := p
    rfl
  refine ⟨_, pss_cons (ps_set (i := 2) sc__law_box_text.nd rfl (Or.inl rfl) (pe_lst (pa_cons (pe_op op_add_str (pe_op op_add_str (pe_op op_add_str pe_str (pv 0)) pe_str) (pe_callTy call_str_int (by rfl) T.b_str boot_str (pa_cons (pe_callB call_len (by rfl) T.b_len boot_len (pa_cons (pe_dget (hu_of hr) (pv 1) (pe_ix ix_str (pv 0) pe_int (fun _ _ => rfl)) (fun _ _ => rfl)) pa_nil)) pa_nil))) pa_nil)))
      (pss_cons (ps_for PassesOwn.never (by rfl) (pi_str (pv 0)) (pg_name (i := 3) sc__law_box_text.nd rfl (Or.inl rfl)) (pss_one (ps_expr (pe_bm PySem.F.plainAttrs_list PySem.F.slot_list_append PySem.F.type_list_append mt_append (pv 2) (pa_cons (pe_join pe_str (pe_op op_cat (pe_lst (pa_cons (pv 3) pa_nil)) (pe_lc (own := [("_law_place", 4)]) (g := gName 4) (tt := tYes) (by rfl) sc__law_box_text.nd (pi_tup (pe_dget (hu_of hr) (pv 1) (pv 3) (fun _ _ => rfl))) (blkOk_by (N := ["_law_letters_here", "_law_turns", "_law_lines", "_law_letter", "_law_place"]) (sc := d__law_box_text.scope) (own := [("_law_place", 4)]) (by decide +kernel)) (fun _ _ _ _ _ => (pg_name (i := 4) sc__law_box_text.nd rfl (Or.inl rfl))) (fun _ _ _ _ _ => pts_nil) (fun _ _ _ _ _ => (pe_callTy call_str_int (by rfl) T.b_str boot_str (pa_cons (pv 4) pa_nil)))))) pa_nil)))))
      (pss_one (ps_ret (pe_join pe_str (pv 2))))), ?_⟩
  obtain ⟨D, B, ⟨b, m⟩, at_, ⟨⟨x, rfl, hx⟩, ok⟩, q⟩ := h
  dsimp only at hx ok q
  have l3 := ok.len3
  have cl := ok.clen
  have cc := ok.c
  have n1 := ok.m1
  have n6 := ok.m6
  have sm := ok.sum
  have e1 : sp1.length = 1 := rfl
  have e2 : kBox.length = 4 := rfl
  have dm := dig_len (i := (m : Int)) (by omega) (by omega)
  obtain ⟨a0, r0, ec⟩ : ∃ a0 r0, b.ct = a0 :: r0 := by
    cases h : b.ct with
    | nil => rw [h] at cl; simp at cl; omega
    | cons a r => exact ⟨a, r, rfl⟩
  have h0 : a0 ∈ b.ct := by rw [ec]; exact List.mem_cons_self
  have hT : ∀ {Dm : Dm} {σ : L2.St} B2, Same B B2 → σ[1]? = some (some x) → EvR Dm (tVar 1) σ B2 (tns K b.ct) := fun B2 s h => ev_var h (Mo.mo s hx)
  refine sh_lst (os := []) (D := D) (R := fun vs _ => vs = [V.str (headL kBox b.L (m : Int))]) (ea_oneE ((ev_add3 (a := kBox ++ b.L) (b := sp1) (c := dig (m : Int)) (ev_addS (x := kBox) (y := b.L) ev_c (fun _ _ => ev_varE rfl) (Nat.le_trans (by omega : kBox.length + b.L.length ≤ 1000) (by decide))) (fun _ _ => ev_c) (fun B2 s2 => ev_strI ((ev_lenMT (R := num) (as := a0.2) (EvR.imp (ev_dget (key := bkey) (R := fun a => nms_ K a.2) (a := a0) (hT B2 s2 rfl) ok.kd h0 fun B3 s3 => ev_ixS (c := a0.1) (z := b.L) (ev_varE rfl) (fun _ _ => ev_c) (Nat.le_trans (Nat.le_trans l3.1 (by decide : (3:Nat) ≤ 100000)) (by decide)) (by decide) (by
    show (cs b.L)[0]? = some a0.1
    rw [cc, ec] <;> rfl)) fun _ _ _ h => h)).to (by rw [ok.len a0 h0])) (dig_log (by omega) (by omega))) (by rw [Str.length_append]; omega)).to (by unfold headL; rw [cat4]))) (fun vs H e => by rw [e]; show 1 ≤ _; omega) at_ (fun p hp => by cases hp) fun l vs B2 H2 s2 ev hl => ?_
  subst ev
  have hl1 : Hd1 D B2 (upd H2 l (.lst [V.str (headL kBox b.L (m : Int))])) l (.lst [V.str (headL kBox b.L (m : Int))]) := Hd1.new s2.at2 hl
  have at1 := (Stp.hid (o := .lst [V.str (headL kBox b.L (m : Int))]) s2.at2 hl).at2
  have c1 : Chg D [l] B H B2 (upd H2 l (.lst [V.str (headL kBox b.L (m : Int))])) := (Chg.of (as := [l]) at_.inv s2).put (by simp)
  have lH : H l = none := by
    cases e : H l with
    | none => rfl
    | some o =>
      exfalso
      by_cases z : D.ds l
      · exact absurd hl (D.there s2.at2.inv z)
      · rw [s2.x l o e z] at hl; cases hl
  generalize upd H2 l (.lst [V.str (headL kBox b.L (m : Int))]) = H1 at hl1 at1 c1 ⊢
  let Rs : Nat → List V := fun i => ([headL kBox b.L (m : Int)] ++ (b.ct.take i).map rowB).map V.str
  have hEl : ∀ {σ : L2.St}, σ[0]? = some (some (.str b.L)) → EvL D (iStr (tVar 0)) σ B2 b.ct (fun a => sgn a.1) := fun h => EvL.unmap (f := fun a : Lt1 => a.1) (R := sgn) (by rw [← cc]; exact el_str (ev_varE h))
  refine for_ev (D := D) (hEl rfl) at1 (fun i σ1 Bi Hi => Hd1 D Bi Hi l (.lst (Rs i)) ∧ Chg D [l] B H Bi Hi ∧ σ1[0]? = some (some (.str b.L)) ∧ σ1[1]? = some (some x) ∧ σ1[2]? = some (some (.ref l)) ∧ σ1.length = 5) (fun B3 H3 s3 => ⟨hl1.stp s3, c1.stp at1.inv s3, rfl, rfl, rfl, rfl⟩) ?_ ?_
  · rintro B3 s23 i y σ1 Bi Hi B4 H4 hi s3i ati ⟨hli, ci, f0, f1, f2, len⟩ s4 ⟨a, ha, hy⟩
    obtain rfl : y = _ := hy
    have ham : a ∈ b.ct := List.mem_of_getElem? ha
    have kk := ok.keys ham
    dsimp only [gName]
    have g0 : (σ1.set 3 (some (.str ⟨#[a.1]⟩)))[0]? = some (some (.str b.L)) := by rw [List.getElem?_set_ne (by decide)]; exact f0
    have g1 : (σ1.set 3 (some (.str ⟨#[a.1]⟩)))[1]? = some (some x) := by rw [List.getElem?_set_ne (by decide)]; exact f1
    have g2 : (σ1.set 3 (some (.str ⟨#[a.1]⟩)))[2]? = some (some (.ref l)) := by rw [List.getElem?_set_ne (by decide)]; exact f2
    have g3 : (σ1.set 3 (some (.str ⟨#[a.1]⟩)))[3]? = some (some (.str ⟨#[a.1]⟩)) := List.getElem?_set_self (by rw [len]; decide)
    have lenG : (σ1.set 3 (some (.str ⟨#[a.1]⟩))).length = 5 := by rw [List.length_set, len]
    generalize σ1.set 3 (some (.str ⟨#[a.1]⟩)) = σ2 at g0 g1 g2 g3 lenG ⊢
    have hli4 := hli.stp s4
    have sB4 : Same B B4 := ((s2.bs.trans s23).trans s3i).trans s4.bs
    have lz : (Rs i).length ≤ 10 := by
      show (([headL kBox b.L (m : Int)] ++ (b.ct.take i).map rowB).map V.str).length ≤ 10
      rw [List.length_map, List.length_append, List.length_map, List.length_take]
      show 1 + _ ≤ 10
      omega
    refine sh_appendHL (l := l) (xs := Rs i) (os := [(l, HO.lst (Rs i))]) (P := pEq (.str (rowB a))) s4.at2 (fun p hp => by rw [List.mem_singleton.mp hp]; exact hli4) (by simp) g2 (by omega) ((ev_join (ys := boxW a) ev_c (fun B5 s5 => (ev_cat (as := [(⟨#[a.1]⟩ : Str)]) (as2 := a.2.map dig) (ev_lstS (zs := [(⟨#[a.1]⟩ : Str)]) (ea_oneE (ev_varE g3)) (by show 1 ≤ _; omega)) (fun B6 s6 => (ev_lcL (K := K) (R := num) (R' := fun j => txt (dig j)) (el_tup (EvR.imp (ev_dget (key := bkey) (R := fun a => nms_ K a.2) (a := a) (hT _ (sB4.trans (s5.trans s6)) g1) ok.kd ham fun B7 s7 => ev_varE g3) fun _ _ _ h => h)) (by rw [ok.len a ham]; omega) fun j y B7 hj s7 hy => ⟨_, wipe_set, sets_name, fun B8 s8 => ?_⟩).imp fun v B7 _ h => pLst.fmap h) (by rw [List.length_map, ok.len a ham]; exact Nat.le_trans (by show 1 + _ ≤ 100; omega : _ ≤ 100) (by decide))).imp fun v B6 _ h => pLst.map h) ?_).to (by rw [rowB_join] <;> rfl)) fun v5 B5 H5 s5 hv5 => ?_
    · obtain rfl : y = _ := hy
      have hn := ok.num a ham j hj
      exact ev_strI (ev_varE (List.getElem?_set_self (by show 4 < (σ2.set 4 none).length; rw [List.length_set, lenG]; decide))) (dig_log hn.1 hn.2)
    · have e : boxW a = (boxKs a).map keyS := by unfold boxW boxKs; rw [List.map_cons, List.map_map] <;> rfl
      rw [e]
      have e1' : (Str.ofString " ").length = 1 := rfl
      rw [e1']
      have := kk.2.2
      omega
    · obtain rfl : v5 = _ := hv5
      have h5 := hli4.stp s5
      have er : Rs i ++ [V.str (rowB a)] = Rs (i + 1) := by
        show ([headL kBox b.L (m : Int)] ++ (b.ct.take i).map rowB).map V.str ++ [V.str (rowB a)] = ([headL kBox b.L (m : Int)] ++ (b.ct.take (i + 1)).map rowB).map V.str
        rw [take_succ_get ha]
        simp
      rw [er]
      exact ⟨B5, (s3i.trans s4.bs).trans s5.bs, h5.at_ s5.at2, h5.put, ((ci.stp ati.inv s4).stp s4.at2.inv s5).put (by simp), g0, g1, g2, lenG⟩
  · rintro σ1 Bi Hi s2i ati ⟨hli, ci, f0, f1, f2, len⟩
    have er : Rs b.ct.length = (rowsB b m).map V.str := by
      show ([headL kBox b.L (m : Int)] ++ (b.ct.take b.ct.length).map rowB).map V.str = _
      rw [List.take_length] <;> rfl
    rw [er] at hli
    refine (ev_join (D := D) (K := K) (ys := rowsB b m) ev_c (fun B5 s5 => ev_var f2 (Mo.mo (P := pMap K txt (rowsB b m)) s5 ⟨l, _, rfl, SqL.of upd_same, txt_list⟩)) (Nat.le_trans sm.1 (by decide))) Hi (hli.know ati) _ fun v5 B5 H5 s5 hv5 => q v5 B5 H5 (((ci.know lH hli.nb).stp (hli.know ati).inv s5).drop lH |>.done s5.at2) hv5
theorem sc__law_chain : FnScope ["_law_dice_here", "_law_most", "_law_state", "_law_found", "_law_turn", "_law_later"] ["_law_dice_here", "_law_most"] d__law_chain.scope := ⟨rfl, rfl, rfl, by decide +kernel, rfl, by decide +kernel, by decide +kernel⟩
theorem fn_law_chain (T : Tz K mg) : Fn P w K mg base 3 "_law_chain" (spChain K) := by
  refine fn_of T.h__law_chain T.g__law_chain rfl sc__law_chain (fun _ _ _ _ _ _ us hl => match us, hl with | [_, _], _ => rfl) (fun vs H Q E h => ?_) (BodyOk0.ok fun cdv A outer s H vs Q E hr h => ?_)
  · obtain ⟨_, _, _, _, p, _⟩ := h
    obtain ⟨⟨_, rfl, _⟩, _⟩ := p
    rfl
  refine ⟨_, pss_cons (ps_par (i := 2) (j := 3) (by rfl) sc__law_chain.nd rfl rfl (by decide) rfl rfl (pa_cons (pe_fn (fn_law_roll T) (hr.mono (by decide)) passL (pa_cons (pv 0) (pa_cons pe_int pa_nil))) (pa_cons (pe_lst pa_nil) pa_nil)) (by rfl))
      (pss_cons (ps_for PassesOwn.never (by rfl) (pi_range1 (by rfl) T.b_range (pa_cons (pe_fn (fn_law_roll T) (hr.mono (by decide)) passL (pa_cons (pv 0) (pa_cons (pe_op op_add (pv 1) pe_int) pa_nil))) pa_nil)) (pg_name (i := 4) sc__law_chain.nd rfl (Or.inl rfl)) (pss_cons (ps_set (i := 5) sc__law_chain.nd rfl (Or.inl rfl) (pe_fn (fn_law_one_of T) (hr.mono (by decide)) passL (pa_cons (pv 0) (pa_cons (pe_lst (pa_cons pe_int (pa_cons pe_int (pa_cons pe_int (pa_cons pe_int (pa_cons pe_int (pa_cons pe_int (pa_cons pe_int pa_nil)))))))) pa_nil))))
      (pss_cons (ps_expr (pe_bm PySem.F.plainAttrs_list PySem.F.slot_list_append PySem.F.type_list_append mt_append (pv 3) (pa_cons (pe_tup (pa_cons (pv 2) (pa_cons (pe_fn (fn_law_one_of T) (hr.mono (by decide)) passL (pa_cons (pv 0) (pa_cons (pe_callTy (cr_listS rfl) (by rfl) T.b_list boot_list (pa_cons pe_str pa_nil)) pa_nil))) (pa_cons (pv 5) pa_nil)))) pa_nil)))
      (pss_one (ps_set (i := 2) sc__law_chain.nd rfl (Or.inl rfl) (pv 5))))))
      (pss_one (ps_ret (pe_callTy call_tuple_of (by rfl) T.b_tuple boot_tuple (pa_cons (pv 3) pa_nil))))), ?_⟩
  obtain ⟨D, B, m, at_, ⟨⟨d, rfl, id⟩, m0, m10⟩, q⟩ := h
  refine (ev_roll (D := D) (B := B) (n := 12) id (ea_consE (ev_varE rfl) fun _ _ => ea_oneE ev_c) (by decide) (by decide)) H at_ _ fun v1 B1 H1 s1 hv1 => ?_
  obtain ⟨st0, ⟨a0, a1⟩, rfl⟩ := hv1
  refine ⟨by show 0 ≤ _; decide, fun f hf => ⟨_, _, rfl, ?_⟩⟩
  have hf1 : Hd1 D B1 (upd H1 f (.lst [])) f (.lst []) := Hd1.new s1.at2 hf
  have at2 := (Stp.hid (o := .lst []) s1.at2 hf).at2
  have c2 : Chg D [f] B H B1 (upd H1 f (.lst [])) := (Chg.of (as := [f]) at_.inv s1).put (by simp)
  have fH : H f = none := by
    cases e : H f with
    | none => rfl
    | some o =>
      exfalso
      by_cases z : D.ds f
      · exact absurd hf (D.there s1.at2.inv z)
      · rw [s1.x f o e z] at hf; cases hf
  show (tSeq _ _ : TS) _ _ (upd H1 f (.lst []))
  generalize upd H1 f (.lst []) = H2 at hf1 at2 c2 ⊢
  refine for_pre ((ev_roll (n := m + 1) id (ea_consE (ev_varE rfl) fun _ _ => ea_oneE (ev_I0 (ev_varE rfl) fun _ _ => ev_c)) (by omega) (by omega)) H2 at2 _ fun v3 B3 H3 s3 hv3 => ?_)
  obtain ⟨j, ⟨j0, j1⟩, rfl⟩ := hv3
  refine for_ev (D := D) (B := B3) (n := j.toNat) (PY := fun i x _ => x = .int (i : Nat)) (ei_range1 (ea_oneE ev_c) ⟨by omega, by omega⟩) s3.at2 (fun i σ1 Bi Hi => (∃ (wk : List Tri) (xs : List V) (s : Int), Hd1 D Bi Hi f (.lst xs) ∧ Paired (fun a v => tri K a v Bi) wk xs ∧ wk.length = i ∧ (∀ t ∈ wk, WsOk t) ∧ chainOk wk ∧ (∀ l, wk.getLast? = some l → l.2.2 = s) ∧ (0 ≤ s ∧ s < 1000000) ∧ σ1[2]? = some (some (.int s))) ∧ Chg D [f] B H Bi Hi ∧ σ1[0]? = some (some (.ref d)) ∧ σ1[3]? = some (some (.ref f)) ∧ σ1.length = 6)
    (fun B4 H4 s4 => ⟨⟨[], [], st0, (hf1.stp s3).stp s4, .nil, rfl, (fun t ht => by cases ht), rfl, (fun l hl => by cases hl), ⟨a0, by omega⟩, rfl⟩, (c2.stp at2.inv s3).stp s3.at2.inv s4, rfl, rfl, rfl⟩) ?_ ?_
  · rintro B4 s34 i y σ1 Bi Hi B5 H5 hi s4i ati ⟨⟨wk, xs, s, hfi, pri, lwk, okw, ch, hlast, ⟨b0, b1⟩, e2⟩, ci, e0, e3, len⟩ s5 hy
    obtain rfl : y = _ := hy
    dsimp only [gName]
    have g0 : (σ1.set 4 (some (.int (i : Nat))))[0]? = some (some (.ref d)) := by rw [List.getElem?_set_ne (by decide)]; exact e0
    have g2 : (σ1.set 4 (some (.int (i : Nat))))[2]? = some (some (.int s)) := by rw [List.getElem?_set_ne (by decide)]; exact e2
    have g3 : (σ1.set 4 (some (.int (i : Nat))))[3]? = some (some (.ref f)) := by rw [List.getElem?_set_ne (by decide)]; exact e3
    have lenG : (σ1.set 4 (some (.int (i : Nat)))).length = 6 := by rw [List.length_set, len]
    generalize σ1.set 4 (some (.int (i : Nat))) = σ2 at g0 g2 g3 lenG ⊢
    refine sh_set0 (P := pEx (fun k => k ∈ ks7) pKey) (ev_oneOf (ks := ks7) id ((ea_cons (P := pEq (.ref d)) (ev_varE g0) fun B6 s6 => ea_one (ev_lstK (K := K) (ks := ks7) (ea_consE ev_c fun _ _ => ea_consE ev_c fun _ _ => ea_consE ev_c fun _ _ => ea_consE ev_c fun _ _ => ea_consE ev_c fun _ _ => ea_consE ev_c fun _ _ => ea_oneE ev_c) (by decide))).imp fun vs B6 _ ⟨v, r, q1, q2, v2, q3, q4⟩ => ⟨v2, by rw [q1, q3, show v = _ from q2], q4⟩) (by decide) (by decide)) s5.at2 fun v6 B6 H6 s6 hv6 => ?_
    obtain ⟨k, hk, hv6⟩ := hv6
    obtain ⟨l6, rfl, l0, l1⟩ : ∃ l6 : Int, k = .inl l6 ∧ 0 ≤ l6 ∧ l6 < 1000000 := by
      unfold ks7 at hk
      simp only [List.mem_cons, List.mem_nil_iff, or_false] at hk
      rcases hk with rfl | rfl | rfl | rfl | rfl | rfl | rfl <;> exact ⟨_, rfl, by decide, by decide⟩
    obtain rfl : v6 = V.int l6 := hv6
    have h0 : (σ2.set 5 (some (.int l6)))[0]? = some (some (.ref d)) := by rw [List.getElem?_set_ne (by decide)]; exact g0
    have h2 : (σ2.set 5 (some (.int l6)))[2]? = some (some (.int s)) := by rw [List.getElem?_set_ne (by decide)]; exact g2
    have h3 : (σ2.set 5 (some (.int l6)))[3]? = some (some (.ref f)) := by rw [List.getElem?_set_ne (by decide)]; exact g3
    have h5 : (σ2.set 5 (some (.int l6)))[5]? = some (some (.int l6)) := List.getElem?_set_self (by rw [lenG]; decide)
    have lenH : (σ2.set 5 (some (.int l6))).length = 6 := by rw [List.length_set, lenG]
    generalize σ2.set 5 (some (.int l6)) = σ3 at h0 h2 h3 h5 lenH ⊢
    have hf6 := (hfi.stp s5).stp s6
    have hs6 : ∀ p ∈ [(f, HO.lst xs)], Hd1 D B6 H6 p.1 p.2 := fun p hp => by rw [List.mem_singleton.mp hp]; exact hf6
    have lx : xs.length = i := by rw [← pri.length, lwk]
    refine sh_appendH (l := f) (xs := xs) (os := [(f, HO.lst xs)]) (P := pEx (fun x : Tri => x.1 = s ∧ x.2.2 = l6 ∧ ∃ c, x.2.1 = ⟨#[c]⟩ ∧ c ∈ cs abz8) (tri K)) s6.at2 hs6 (by simp) h3 (by omega) (ev_signX (z := abz8) (ev_varE h2) (fun B7 s7 => ev_oneOf (ks := sgs abz8) (id.dh fun p hp => (hs6 p hp).nd) ((ea_cons (P := pEq (.ref d)) (ev_varE h0) fun B8 s8 => ea_one (ev_listS (K := K) (z := abz8) ev_c (by decide))).imp fun vs B8 _ ⟨v, r, q1, q2, v2, q3, q4⟩ => ⟨v2, by rw [q1, q3, show v = _ from q2], q4⟩) (by decide) (by decide)) fun _ _ => ev_varE h5) fun v7 B7 H7 s7 ⟨x, ⟨x1, x2, c, x3, x4⟩, hx⟩ => ?_
    have hf7 := hf6.stp s7
    have h5' : (σ3.set 2 (some (.int l6)))[2]? = some (some (.int l6)) := List.getElem?_set_self (by rw [lenH]; decide)
    refine ⟨_, h5, B7, (((s4i.trans s5.bs).trans s6.bs).trans s7.bs), hf7.at_ s7.at2, ⟨wk ++ [x], xs ++ [v7], l6, hf7.put, Paired.snoc (F := fun a v => tri K a v B7) hx (Paired.mono (fun a v h => Mo.mo ((s5.bs.trans s6.bs).trans s7.bs) h) pri), by rw [List.length_append, lwk] <;> rfl, fun t ht => ?_, chain_snoc ch fun l hl => (hlast l hl).trans x1.symm, fun l hl => ?_, ⟨l0, l1⟩, h5'⟩, (((ci.stp ati.inv s5).stp s5.at2.inv s6).stp s6.at2.inv s7).put (by simp), ?_, ?_, ?_⟩
    · rcases List.mem_append.mp ht with ht | ht
      · exact okw t ht
      · rw [List.mem_singleton.mp ht]
        exact ⟨by rw [x1]; exact b0, by rw [x1]; exact b1, by rw [x2]; exact l0, by rw [x2]; exact l1, c, x3, abz_ok c x4⟩
    · rw [List.getLast?_append] at hl
      have : x = l := by simpa using hl
      rw [← this, x2]
    · rw [List.getElem?_set_ne (by decide)]; exact h0
    · rw [List.getElem?_set_ne (by decide)]; exact h3
    · rw [List.length_set, lenH]
  · rintro σ1 Bi Hi s3i ati ⟨⟨wk, xs, s, hfi, pri, lwk, okw, ch, _, _, _⟩, ci, e0, e3, len⟩
    have n5 : Same Bi (upd Bi f (.lst xs)) := Same.new hfi.nb
    refine (ev_tupleOf (D := D) (R := tri K) (as := wk) (ev_var e3 ⟨f, xs, rfl, SqL.of upd_same, Paired.mono (fun a v h => Mo.mo n5 h) pri⟩)) Hi (hfi.know ati) _ fun v5 B5 H5 s5 hv5 => q v5 B5 H5 (((ci.know fH hfi.nb).stp (hfi.know ati).inv s5).drop fH |>.done s5.at2) ⟨wk, ⟨okw, ch, by omega⟩, hv5⟩
end
end CW
set_option Elab.async false
set_option linter.all false
set_option maxRecDepth 100000
set_option maxHeartbeats 8000000
/-! W33: the dice made; whether drawn things are written and read rightly. -/
namespace CW
open PySem PySem.Spec PyProof.Rows L2 TL
/-- new dice, hidden -/
def spDice (K : PySem.W.Frag) : Sp := fun vs H Q _ => ∃ (D : Dm) (B : Hp) (ns : List Int) (at_ : Nat) (x : V), vs = [x, .int (at_ : Nat)] ∧ At D B H ∧ pMap K num ns x B ∧ ns.length ≤ 100 ∧ at_ ≤ 100 ∧
  ∀ l B2 H2 a b c, Stp D B H B2 H2 → H2 l = none → Q (.ref l) (upd H2 l (.lst [V.int a, .int b, .int c]))
section
variable {P : Program} {w : World} {K : PySem.W.Frag} {mg : Str → Option Value} {base : Heap} {D : Dm} {σ : L2.St} {B H : Hp} {te ta tb tc tv ty : TE} {tA : TA} {u t : TS} {Ds : Ends} {M : MD}
theorem Ld.then {S S' : L2.St → Hp → Hp → Prop} (h : Ld S t S') (s : S σ B H) (k : ∀ σ B H, S' σ B H → u Ds σ H) : tSeq t u Ds σ H := h { Ds with nx := u Ds } k σ B H s
theorem ev_absX (h : EvR D te σ B (pInt anyI)) : EvR D (tCB (fun xs H Q => ∃ i, xs = [.int i] ∧ Q (.int (if i < 0 then -i else i)) H) (tCons te tNil)) σ B (pInt fun k => 0 ≤ k) :=
  ev_cb (ea_one h) fun vs B2 e ⟨v, e1, i, _, e2⟩ => EvV.now (v := .int (if i < 0 then -i else i)) (fun H Q s q => ⟨i, by rw [e1, e2], q⟩) ⟨_, by split <;> omega, rfl⟩
theorem ev_itemX {ns : List Int} {i : Nat} (h : EvR D te σ B (pMap K num ns)) (hi : ∀ B2, Same B B2 → EvR D ta σ B2 (pEq (.int (i : Nat)))) (hl : i < ns.length) : EvR D (tOp (rIxL K) te ta) σ B (pInt anyI) :=
  (ev_ixL (R := num) (a := ns[i]) h hi (by omega) (by rw [Int.toNat_natCast]; exact List.getElem?_eq_getElem hl)).imp fun v B2 _ e => ⟨_, trivial, e⟩
theorem sc__law_dice : FnScope ["_law_script", "_law_at", "_law_cell", "_law_great", "_law_left", "_law_mixed_here"] ["_law_script", "_law_at"] d__law_dice.scope := ⟨rfl, rfl, rfl, by decide +kernel, rfl, by decide +kernel, by decide +kernel⟩
theorem fn_law_dice (T : Tz K mg) : Fn P w K mg base 1 "_law_dice" (spDice K) := by
  refine fn_of T.h__law_dice T.g__law_dice rfl sc__law_dice (fun _ _ _ _ _ _ us hl => match us, hl with | [_, _], _ => rfl) (fun vs H Q E h => ?_) (BodyOk0.ok fun cdv A outer s H vs Q E hr h => ?_)
  · obtain ⟨_, _, _, _, _, rfl, _⟩ := h
    rfl
  refine ⟨_, pss_cons (ps_set (i := 2) sc__law_dice.nd rfl (Or.inl rfl) (pe_op op_add (pe_op op_mul pe_int (pv 1)) pe_int))
      (pss_cons (ps_if (pt_cmpR op_lt (pv 1) (pe_callB call_len (by rfl) T.b_len boot_len (pa_cons (pv 0) pa_nil)) (nomark _)) (pss_one (ps_set (i := 2) sc__law_dice.nd rfl (Or.inl rfl) (pe_ix ix_list (pv 0) (pv 1) (fun _ _ => rfl)))) pss_nil)
      (pss_cons (ps_set (i := 3) sc__law_dice.nd rfl (Or.inl rfl) (pe_op op_mod (pe_callTy call_int1 (by rfl) T.b_int boot_int (pa_cons (pe_callB call_abs (by rfl) T.b_abs boot_abs (pa_cons (pv 2) pa_nil)) pa_nil)) (pe_op op_powW (pe_op op_powW pe_int pe_int) pe_int)))
      (pss_cons (ps_set (i := 4) sc__law_dice.nd rfl (Or.inl rfl) (pe_op op_fdivW (pv 3) (pe_op op_powW pe_int pe_int)))
      (pss_cons (ps_set (i := 5) sc__law_dice.nd rfl (Or.inl rfl) (pe_op op_add (pe_op op_add (pe_op op_add (pe_op op_mul (pe_op op_mod (pv 3) pe_int) pe_int) (pe_op op_mul pe_int (pv 1))) (pe_op op_mul pe_int (pe_callTy call_int1 (by rfl) T.b_int boot_int (pa_cons (pe_cmpR op_lt (pv 2) pe_int (nomark _)) pa_nil)))) pe_int))
      (pss_one (ps_ret (pe_lst (pa_cons (pv 4) (pa_cons (pe_op op_mod (pv 5) pe_int) (pa_cons pe_int pa_nil)))))))))), ?_⟩
  obtain ⟨D, B, ns, at1, x, rfl, at_, hx, hn, ha, q⟩ := h
  have h0 : EvR D (tOp (rI0 fun i j => .int (i + j)) (tOp (rI CMul fun i j => .int (i * j)) (tC (.int 59)) (tVar 1)) (tC (.int 31))) (start ["_law_script", "_law_at", "_law_cell", "_law_great", "_law_left", "_law_mixed_here"] [x, .int (at1 : Nat)]) B (pInt anyI) := ev_IX0 (c1 := anyI) (c2 := anyI) (ev_IX (c1 := fun i => i = 59) (c2 := anyI) (ev_cI rfl) (fun _ _ => evI_var rfl trivial) fun i j e _ => ⟨mul_ok (by omega) (by omega), trivial⟩) (fun _ _ => ev_cI trivial) fun _ _ _ _ => trivial
  refine sh_set0 h0 at_ fun v B2 H2 s2 hv => ?_
  let S : L2.St → Hp → Hp → Prop := fun σ' B' H' => Stp D B H B' H' ∧ σ'[0]? = some (some x) ∧ σ'[1]? = some (some (.int (at1 : Nat))) ∧ (∃ k : Int, σ'[2]? = some (some (.int k))) ∧ σ'.length = 6
  have hS : S ((start ["_law_script", "_law_at", "_law_cell", "_law_great", "_law_left", "_law_mixed_here"] [x, .int (at1 : Nat)]).set 2 (some v)) B2 H2 := by
    obtain ⟨k, _, rfl⟩ := hv
    exact ⟨s2, rfl, rfl, ⟨k, rfl⟩, rfl⟩
  refine Ld.then (S := S) (S' := S) ?_ hS fun σ' B' H' ⟨s', e0, e1, ⟨j, e2⟩, len⟩ => ?_
  · intro Ds k σ' B' H' ⟨s', e0, e1, ⟨j, e2⟩, len⟩
    refine (et_test (ev_I0 (g := fun i j => .bl (decide (i < j))) (i := (at1 : Nat)) (j := (ns.length : Nat)) (ev_varE e1) fun B3 s3 => ev_lenM (K := K) (R := num) (as := ns) (ev_var e0 (Mo.mo (s'.bs.trans s3) hx)))) H' s'.at2 _ fun b B3 H3 s3 hb => ?_
    cases b with
    | true =>
      rw [if_pos rfl]
      have hlt : at1 < ns.length := by
        have : true = decide ((at1 : Int) < (ns.length : Nat)) := hb
        have := of_decide_eq_true this.symm
        omega
      refine (ev_itemX (K := K) (ns := ns) (i := at1) (ev_var e0 (Mo.mo (s'.bs.trans s3.bs) hx)) (fun _ _ => ev_varE e1) hlt) H3 s3.at2 _ fun v4 B4 H4 s4 hv4 => ?_
      obtain ⟨k4, _, rfl⟩ := hv4
      refine k _ B4 H4 ⟨(s'.trans s3).trans s4, ?_, ?_, ⟨k4, List.getElem?_set_self (by rw [len]; decide)⟩, by rw [List.length_set, len]⟩
      · rw [List.getElem?_set_ne (by decide)]; exact e0
      · rw [List.getElem?_set_ne (by decide)]; exact e1
    | false => exact k _ B3 H3 ⟨s'.trans s3, e0, e1, ⟨j, e2⟩, len⟩
  · have pw : ∀ {σ : L2.St} {B : Hp} (n : Int), 0 ≤ n → n ≤ 100 → EvR D (tOp (rI CPowW fun i j => .int (i ^ j.toNat)) (tC (.int 10)) (tC (.int n))) σ B (pInt fun k => k = 10 ^ n.toNat) := fun n h0 h1 => ev_IX (c1 := fun i => i = 10) (c2 := fun j => j = n) (ev_cI rfl) (fun _ _ => ev_cI rfl) fun i j e1 e2 => ⟨⟨by omega, by
      rw [e1, e2]
      have : Builtin.Int.intBits 10 = 4 := by decide +kernel
      rw [this]
      omega⟩, by rw [e1, e2]⟩
    refine sh_set0 (P := pInt anyI) (ev_IX (c1 := anyI) (c2 := fun k => 0 < k) (c3 := anyI) (ev_intOf (c := anyI) ((ev_absX (evI_var e2 trivial)).imp fun v B3 _ ⟨i, _, e⟩ => ⟨i, trivial, e⟩)) (fun _ _ => ev_IX (c1 := fun k => k = 10 ^ (60 : Int).toNat) (c2 := fun j => j = 10) (pw 60 (by decide) (by decide)) (fun _ _ => ev_cI rfl) fun i j e1 e2 => ⟨⟨by omega, by
      rw [e1, e2]
      decide +kernel⟩, by rw [e1, e2]; decide +kernel⟩) fun i j _ h => ⟨h, trivial⟩) s'.at2 fun v3 B3 H3 s3 hv3 => ?_
    obtain ⟨gr, _, rfl⟩ := hv3
    have f1 : (σ'.set 3 (some (.int gr)))[1]? = some (some (.int (at1 : Nat))) := by rw [List.getElem?_set_ne (by decide)]; exact e1
    have f2 : (σ'.set 3 (some (.int gr)))[2]? = some (some (.int j)) := by rw [List.getElem?_set_ne (by decide)]; exact e2
    have f3 : (σ'.set 3 (some (.int gr)))[3]? = some (some (.int gr)) := List.getElem?_set_self (by rw [len]; decide)
    have lenF : (σ'.set 3 (some (.int gr))).length = 6 := by rw [List.length_set, len]
    generalize σ'.set 3 (some (.int gr)) = σ2 at f1 f2 f3 lenF ⊢
    refine sh_set0 (P := pInt anyI) (ev_IX (c1 := anyI) (c2 := fun k => k = 10 ^ (18 : Int).toNat) (c3 := anyI) (evI_var f3 trivial) (fun _ _ => pw 18 (by decide) (by decide)) fun i j _ e => ⟨by rw [e]; exact wide_div (b := 100) (by decide) (by decide) (by decide) (by decide), trivial⟩) s3.at2 fun v4 B4 H4 s4 hv4 => ?_
    obtain ⟨lf, _, rfl⟩ := hv4
    have g1 : (σ2.set 4 (some (.int lf)))[1]? = some (some (.int (at1 : Nat))) := by rw [List.getElem?_set_ne (by decide)]; exact f1
    have g2 : (σ2.set 4 (some (.int lf)))[2]? = some (some (.int j)) := by rw [List.getElem?_set_ne (by decide)]; exact f2
    have g3 : (σ2.set 4 (some (.int lf)))[3]? = some (some (.int gr)) := by rw [List.getElem?_set_ne (by decide)]; exact f3
    have g4 : (σ2.set 4 (some (.int lf)))[4]? = some (some (.int lf)) := List.getElem?_set_self (by rw [lenF]; decide)
    have lenG : (σ2.set 4 (some (.int lf))).length = 6 := by rw [List.length_set, lenF]
    generalize σ2.set 4 (some (.int lf)) = σ3 at g1 g2 g3 g4 lenG ⊢
    refine sh_set0 (P := pInt anyI) (ev_IX0 (c1 := anyI) (c2 := anyI) (ev_IX0 (c1 := anyI) (c2 := anyI) (ev_IX0 (c1 := anyI) (c2 := anyI) (ev_IX (c1 := fun k => 0 ≤ k ∧ k < 2147483249) (c2 := anyI) (ev_IX (c1 := anyI) (c2 := fun k => k = 2147483249) (evI_var g3 trivial) (fun _ _ => ev_cI rfl) fun i j _ e => ⟨by omega, by rw [e]; exact mod_in (by decide)⟩) (fun _ _ => ev_cI trivial) fun i j h _ => ⟨mul_ok h.1 (by omega), trivial⟩) (fun _ _ => ev_IX (c1 := fun k => k = 2909) (c2 := anyI) (ev_cI rfl) (fun _ _ => evI_var g1 trivial) fun i j e _ => ⟨mul_ok (by omega) (by omega), trivial⟩) fun _ _ _ _ => trivial) (fun _ _ => ev_IX (c1 := fun k => k = 43) (c2 := fun k => 0 ≤ k ∧ k ≤ 1) (ev_cI rfl) (fun _ _ => ev_intOfB (f := fun _ => True) (ev_IXb (g := fun i j => decide (i < j)) (c1 := anyI) (c2 := anyI) (evI_var g2 trivial) (fun _ _ => ev_cI (i := 0) trivial) fun _ _ _ _ => trivial)) fun i j e _ => ⟨mul_ok (by omega) (by omega), trivial⟩) fun _ _ _ _ => trivial) (fun _ _ => ev_cI trivial) fun _ _ _ _ => trivial) s4.at2 fun v5 B5 H5 s5 hv5 => ?_
    obtain ⟨mx, _, rfl⟩ := hv5
    have h4 : (σ3.set 5 (some (.int mx)))[4]? = some (some (.int lf)) := by rw [List.getElem?_set_ne (by decide)]; exact g4
    have h5 : (σ3.set 5 (some (.int mx)))[5]? = some (some (.int mx)) := List.getElem?_set_self (by rw [lenG]; decide)
    refine ⟨_, h4, ?_⟩
    refine (ev_IX (D := D) (B := B5) (c1 := anyI) (c2 := fun k => k = 2147483237) (c3 := anyI) (evI_var h5 trivial) (fun _ _ => ev_cI rfl) fun i j _ e => ⟨by omega, trivial⟩) H5 s5.at2 _ fun v6 B6 H6 s6 hv6 => ?_
    obtain ⟨m6, _, rfl⟩ := hv6
    exact ⟨by show 3 ≤ sizeLine; decide, fun l hl => q l B6 H6 lf m6 0 ((((s'.trans s3).trans s4).trans s5).trans s6) hl⟩
end
end CW
set_option Elab.async false
set_option linter.all false
set_option maxRecDepth 100000
set_option maxHeartbeats 8000000
/-! W34: whether drawn things are written and read rightly. -/
namespace CW
open PySem PySem.Spec PyProof.Rows L2 TL
def spRight : Sp := PSp (fun D (_ : Unit) vs _ => ∃ d, vs = [.ref d] ∧ IsDice D d) (fun _ => pEq (.bl true))
def blurD (w1 w2 : List Tri) : PyData := .tuple [.tuple (w1.map triD), .tuple (w2.map triD)]
theorem shaped_blur {w1 w2 : List Tri} (h1 : ∀ t ∈ w1, PyData.strOk t.2.1 = true) (h2 : ∀ t ∈ w2, PyData.strOk t.2.1 = true) : SeqAt.shaped (blurD w1 w2) = true := by
  have d1 := dep_tris w1
  have d2 := dep_tris w2
  have c1 := can_tris h1
  have c2 := can_tris h2
  unfold SeqAt.shaped blurD
  rw [Bool.and_eq_true, decide_eq_true_eq]
  refine ⟨by simp [PyData.canLay0, PyData.canLayAll0, c1, c2], ?_⟩
  simp only [PyData.depth, PyData.depthAll]
  omega
section
variable {P : Program} {w : World} {K : PySem.W.Frag} {mg : Str → Option Value} {base : Heap} {D : Dm} {σ : L2.St} {B H : Hp} {te ta tb tc tv ty : TE} {tA : TA} {u t : TS} {Ds : Ends} {M : MD} {Pw P1 P2 P3 : PV} {wi : TI}
theorem ev_pspX {α : Type} {Pre : Dm → α → List V → Hp → Prop} {Post : α → PV} {t : TA} {E : XK} {R : List V → Hp → Prop} {c : α → Prop} (h : EvA D t σ B R) (hp : ∀ vs B2, Same B B2 → R vs B2 → ∃ a, c a ∧ Pre D a vs B2) (hq : ∀ a v B2, c a → Post a v B2 → Pw v B2) : EvR D (tFn (PSp Pre Post) E t) σ B Pw := fun H at_ Q q =>
  h H at_ _ fun vs B2 H2 e2 r => by
    obtain ⟨a, ca, pa⟩ := hp vs B2 e2.bs r
    exact ⟨D, B2, a, e2.at2, pa, fun v B3 H3 e3 p => q v B3 H3 (e2.trans e3) (hq a v B3 ca p)⟩
theorem es_par {i j : Nat} [Mo P1] (h1 : EvR D ta σ B P1) (h2 : ∀ B2, Same B B2 → EvR D tb σ B2 P2) (hr : ∀ v w B2, Same B B2 → P1 v B2 → P2 w B2 → EvS D u ((σ.set i (some v)).set j (some w)) B2 Pw) : EvS D (tSeq (tPar i j (tCons ta (tCons tb tNil))) u) σ B Pw := fun H at_ Ds q =>
  h1 H at_ _ fun v B2 H2 e2 p => h2 B2 e2.bs H2 e2.at2 _ fun w B3 H3 e3 r => ⟨v, w, rfl, hr v w B3 (e2.bs.trans e3.bs) (Mo.mo e3.bs p) r H3 e3.at2 Ds fun z B4 H4 e4 p4 => q z B4 H4 ((e2.trans e3).trans e4) p4⟩
theorem es_par3 {i j k : Nat} [Mo P1] [Mo P2] (h1 : EvR D ta σ B P1) (h2 : ∀ B2, Same B B2 → EvR D tb σ B2 P2) (h3 : ∀ B2, Same B B2 → EvR D tc σ B2 P3) (hr : ∀ v w z B2, Same B B2 → P1 v B2 → P2 w B2 → P3 z B2 → EvS D u (((σ.set i (some v)).set j (some w)).set k (some z)) B2 Pw) : EvS D (tSeq (tPar3 i j k (tCons ta (tCons tb (tCons tc tNil)))) u) σ B Pw := fun H at_ Ds q =>
  h1 H at_ _ fun v B2 H2 e2 p => h2 B2 e2.bs H2 e2.at2 _ fun w B3 H3 e3 r => h3 B3 (e2.bs.trans e3.bs) H3 e3.at2 _ fun z B4 H4 e4 s => ⟨v, w, z, rfl, hr v w z B4 ((e2.bs.trans e3.bs).trans e4.bs) (Mo.mo (e3.bs.trans e4.bs) p) (Mo.mo e4.bs r) s H4 e4.at2 Ds fun y B5 H5 e5 p5 => q y B5 H5 (((e2.trans e3).trans e4).trans e5) p5⟩
/-- for x in ..: checks alone; the rest -/
theorem es_forN {α : Type} {as : List α} {R : α → PV} {j : Nat} (hi : EvL D wi σ B as R) (S : L2.St → Prop) (h0 : S σ) (hs : ∀ a x B2 σ1, a ∈ as → Same B B2 → R a x B2 → S σ1 → EvN D t (σ1.set j (some x)) B2 (fun σ2 _ => S σ2)) (hr : ∀ σ1 B2, Same B B2 → S σ1 → EvS D u σ1 B2 Pw) : EvS D (tSeq (tFor wi (gName j) t) u) σ B Pw := fun H at_ Ds q => by
  refine for_ev (D := D) (Ds := { Ds with nx := u Ds }) hi at_ (fun i σ1 Bi Hi => S σ1 ∧ Stp D B H Bi Hi) (fun B2 H2 s2 => ⟨h0, s2⟩) ?_ ?_
  · rintro B2 s2 i x σ1 Bi Hi B3 H3 hi s2i ati ⟨hS, ei⟩ s3 ⟨a, ha, hx⟩
    exact hs a x B3 σ1 (List.mem_of_getElem? ha) (ei.bs.trans s3.bs) hx hS H3 s3.at2 _ fun σ2 B4 H4 s4 hS2 => ⟨B4, (s2i.trans s3.bs).trans s4.bs, s4.at2, hS2, (ei.trans s3).trans s4⟩
  · rintro σ1 Bi Hi s2i ati ⟨hS, ei⟩
    exact hr σ1 Bi ei.bs hS Hi ati Ds fun v B3 H3 e3 p => q v B3 H3 (ei.trans e3) p
theorem dp_blur {w1 w2 : List Tri} {x : V} (h : pMapT K (stp K) [w1, w2] x B) : pDat K (blurD w1 w2) x B := by
  obtain ⟨p, xs, rfl, hp, px⟩ := h
  cases px with
  | cons r1 px => cases px with
    | cons r2 px =>
      cases px
      exact .tup hp (.cons (dp_st r1) (.cons (dp_st r2) .nil))
theorem mac_ins {x : V} {H : Hp} (h : pMac K M x H) : ∃ a dx fs, x = .ref a ∧ H a = some (.ins (mC K) dx fs) := by
  obtain ⟨a, dx, s, e, h1, h2, _⟩ := h
  exact ⟨a, dx, _, h1, h2⟩
theorem box_ins {b : BD} {x : V} {H : Hp} (h : pBox K b x H) : ∃ a dx fs, x = .ref a ∧ H a = some (.ins (bC K) dx fs) := by
  obtain ⟨a, dx, u, k, p, h1, h2, _⟩ := h
  exact ⟨a, dx, _, h1, h2⟩
theorem WkOk.sok {wk : List Tri} (h : WkOk wk) : ∀ t ∈ wk, PyData.strOk t.2.1 = true := fun t ht => (h.s t ht).sok
theorem WkOk.small {wk : List Tri} (h : WkOk wk) : (walkT wk).length ≤ 2000 := walkT_len h
theorem MD.Go.sok {M : MD} (g : M.Go) : ∀ t ∈ M.st, PyData.strOk t.2.1 = true := fun t ht => low_ok (g.st t ht).s
theorem sc__law_right : FnScope ["_law_dice_here", "_law_letters_here", "_law_plain", "_law_turns", "_law_made", "_law_box_here", "_law_text", "_law_walks", "_law_turn", "_law_walk"] ["_law_dice_here"] d__law_right.scope := ⟨rfl, rfl, rfl, by decide +kernel, rfl, by decide +kernel, by decide +kernel⟩
theorem fn_law_right (T : Tz K mg) : Fn P w K mg base 8 "_law_right" spRight := by
  refine fn_of T.h__law_right T.g__law_right rfl sc__law_right (fun _ _ _ _ _ _ us hl => match us, hl with | [_], _ => rfl) (fun vs H Q E h => ?_) (BodyOk0.ok fun cdv A outer s H vs Q E hr h => ?_)
  · obtain ⟨_, _, _, _, p, _⟩ := h
    obtain ⟨_, rfl, _⟩ := p
    rfl
  refine ⟨_, pss_cons (ps_set (i := 1) sc__law_right.nd rfl (Or.inl rfl) (pe_fn (fn_law_letters T) (hr.mono (by decide)) passL (pa_cons (pv 0) (pa_cons (pe_op op_add pe_int (pe_fn (fn_law_roll T) (hr.mono (by decide)) passL (pa_cons (pv 0) (pa_cons pe_int pa_nil)))) pa_nil))))
      (pss_cons (ps_par (i := 2) (j := 3) (by rfl) sc__law_right.nd rfl rfl (by decide) rfl rfl (pa_cons (pe_fn (fn_law_machine T) (hr.mono (by decide)) passL (pa_cons (pv 0) (pa_cons (pv 1) (pa_cons pe_int (pa_cons pe_int pa_nil))))) (pa_cons (pe_fn (fn_law_box T) (hr.mono (by decide)) passL (pa_cons (pv 0) (pa_cons (pv 1) (pa_cons pe_int pa_nil)))) pa_nil)) (by rfl))
      (pss_cons (ps_par3 (i := 4) (j := 5) (l := 6) (by rfl) sc__law_right.nd rfl rfl rfl (by decide) (by decide) (by decide) rfl rfl rfl (pa_cons (pe_fn (fn_law_made T) (hr.mono (by decide)) passL (pa_cons (pv 2) pa_nil)) (pa_cons (StX.pe_makeR T.mk_Box (in_Box T) (hr.mono (by decide)) (by rfl) T.g_Box passL (pa_cons (pv 1) (pa_cons (pv 3) pa_nil))) (pa_cons (pe_fn (fn_law_mtext T) (hr.mono (by decide)) passL (pa_cons (pv 2) pa_nil)) pa_nil))) (by rfl))
      (pss_cons (ps_if (PW.pt (pw_or (pt_cmpR op_ne (pe_fn (fn_write_machine T) (hr.mono (by decide)) passL (pa_cons (pv 4) pa_nil)) (pv 6) (nomark _)) (pw_or1 (pt_cmpR (op_ownNe T.e_Machine.1 T.e_Machine.2.1 T.e_Machine.2.2.1 T.e_Machine.2.2.2 (mt_Mac_eq T) (hr.mono (by decide)) passL) (pe_fn (fn_read_machine T) (hr.mono (by decide)) passL (pa_cons (pv 6) pa_nil)) (pv 4) (nomark _))))) (pss_one (ps_ret pe_bl)) pss_nil)
      (pss_cons (ps_set (i := 6) sc__law_right.nd rfl (Or.inl rfl) (pe_fn (fn_law_btext T) (hr.mono (by decide)) passL (pa_cons (pv 1) (pa_cons (pv 3) pa_nil))))
      (pss_cons (ps_if (PW.pt (pw_or (pt_cmpR op_ne (pe_fn (fn_write_box T) (hr.mono (by decide)) passL (pa_cons (pv 5) pa_nil)) (pv 6) (nomark _)) (pw_or (pt_cmpR (op_ownNe T.e_Box.1 T.e_Box.2.1 T.e_Box.2.2.1 T.e_Box.2.2.2 (mt_Box_eq T) (hr.mono (by decide)) passL) (pe_fn (fn_read_box T) (hr.mono (by decide)) passL (pa_cons (pv 6) pa_nil)) (pv 5) (nomark _)) (pw_or1 (pt_cmpR (op_neDD hr.in1.units hr.units0) (pe_propA (d := a_Box_turns) T.cl_Box T.p_Box_turns (pr_Box_turns T) (hr.mono (by decide)) passL (pe_fn (fn_read_box T) (hr.mono (by decide)) passL (pa_cons (pv 6) pa_nil))) (pv 3) (nomark _)))))) (pss_one (ps_ret pe_bl)) pss_nil)
      (pss_cons (ps_setLc (i := 7) (own := [("_law_turn", 8)]) (g := gName 8) (tt := tYes) (by rfl) sc__law_right.nd rfl rfl (sw_true rfl rfl rfl (by decide +kernel)) (pi_range1 (by rfl) T.b_range (pa_cons pe_int pa_nil)) (blkOk_by (N := ["_law_dice_here", "_law_letters_here", "_law_plain", "_law_turns", "_law_made", "_law_box_here", "_law_text", "_law_walks", "_law_turn", "_law_walk"]) (sc := d__law_right.scope) (own := [("_law_turn", 8)]) (by decide +kernel)) (fun _ _ _ _ _ => (pg_name (i := 8) sc__law_right.nd rfl (Or.inl rfl))) (fun _ _ _ _ _ => pts_nil) (fun _ _ _ _ _ => (pe_fn (fn_law_chain T) (hr.mono (by decide)) passL (pa_cons (pv 0) (pa_cons pe_int pa_nil)))))
      (pss_cons (ps_for PassesOwn.never (by rfl) (pi_list (pv 7)) (pg_name (i := 9) sc__law_right.nd rfl (Or.inl rfl)) (pss_one (ps_if (PW.pt (pw_or (pt_cmpR op_ne (pe_fn (fn_write_walk T) (hr.mono (by decide)) passL (pa_cons (pv 9) pa_nil)) (pe_fn (fn_law_wtext T) (hr.mono (by decide)) passL (pa_cons (pv 9) pa_nil)) (nomark _)) (pw_or1 (pt_cmpR (op_neD hr.units) (pe_fn (fn_read_walk T) (hr.mono (by decide)) passL (pa_cons (pe_fn (fn_law_wtext T) (hr.mono (by decide)) passL (pa_cons (pv 9) pa_nil)) pa_nil)) (pv 9) (nomark _))))) (pss_one (ps_ret pe_bl)) pss_nil)))
      (pss_cons (ps_set (i := 6) sc__law_right.nd rfl (Or.inl rfl) (pe_op op_add_str (pe_op op_add_str (pe_fn (fn_law_wtext T) (hr.mono (by decide)) passL (pa_cons (pe_ix ix_list (pv 7) pe_int (fun _ _ => rfl)) pa_nil)) pe_str) (pe_fn (fn_law_wtext T) (hr.mono (by decide)) passL (pa_cons (pe_ix ix_list (pv 7) pe_int (fun _ _ => rfl)) pa_nil))))
      (pss_one (ps_ret (pe_and (pe_cmpR op_eq (pe_fn (fn_write_blur T) (hr.mono (by decide)) passL (pa_cons (pe_callTy call_tuple_of (by rfl) T.b_tuple boot_tuple (pa_cons (pv 7) pa_nil)) pa_nil)) (pv 6) (nomark _)) (pe_one (pe_cmpR (op_eqD hr.units) (pe_fn (fn_read_blur T) (hr.mono (by decide)) passL (pa_cons (pv 6) pa_nil)) (pe_callTy call_tuple_of (by rfl) T.b_tuple boot_tuple (pa_cons (pv 7) pa_nil)) (nomark _)))))))))))))), h.body (N := ["_law_dice_here", "_law_letters_here", "_law_plain", "_law_turns", "_law_made", "_law_box_here", "_law_text", "_law_walks", "_law_turn", "_law_walk"]) fun D a B p => ?_⟩
  · obtain ⟨d, rfl, id⟩ := p
    -- letters
    refine es_set (P1 := pEx (fun z => isLetters z = true) (fun z => pEq (.str z))) (ev_pspX (c := fun t : Nat => 1 ≤ t ∧ t ≤ 3) (ea_cons (P := pEq (.ref d)) (ev_varE rfl) fun B2 s2 => ea_one (P := pInt fun k => 1 ≤ k ∧ k ≤ 3) (ev_IX0 (c1 := fun i => i = 1) (ev_cI rfl) (fun B3 s3 => ev_roll (n := 3) id (ea_consE (ev_varE rfl) fun _ _ => ea_oneE ev_c) (by decide) (by decide)) fun i j e h => ⟨by omega, by omega⟩)) (fun vs B2 _ ⟨v, r, e1, e2, v2, e3, k, ⟨k1, k3⟩, e4⟩ => ⟨k.toNat, ⟨by omega, by omega⟩, ⟨d, by rw [e1, e3, show v = _ from e2, e4, Int.toNat_of_nonneg (by omega)], id⟩, by omega, by omega⟩) fun a v B2 _ h => h) fun v1 B1 s1 hv1 => ?_
    obtain ⟨L, hL, hv1⟩ := hv1
    obtain rfl : v1 = _ := hv1
    -- plain, turns
    refine es_par (P1 := pEx (fun M => M.Go ∧ M.L = L) (pPlain K)) (P2 := pEx (fun b : BD × Nat => b.1.Ok b.2 ∧ b.1.L = L) (fun b => tns K b.1.ct)) (EvR.imp (P := pEx (fun M => M.Go ∧ M.L = L) (pPlain K)) (ev_psp (Post := fun a : LmD => pEx (fun M => M.Go ∧ M.L = a.L) (pPlain K)) ⟨L, 5, 10⟩ (ea_consE (ev_varE rfl) fun _ _ => ea_consE (ev_varE rfl) fun _ _ => ea_consE ev_c fun _ _ => ea_oneE ev_c) fun vs B2 _ e => ⟨⟨d, e, id⟩, hL, by dsimp only; decide, by dsimp only; decide, by dsimp only; decide, by dsimp only; decide⟩) fun _ _ _ h => h) (fun B2 s2 => EvR.imp (P := pEx (fun b : BD × Nat => b.1.Ok b.2 ∧ b.1.L = L) (fun b => tns K b.1.ct)) (ev_psp (Post := fun a : Str × Int => pEx (fun b : BD × Nat => b.1.Ok b.2 ∧ b.1.L = a.1) (fun b => tns K b.1.ct)) (L, 6) (ea_consE (ev_varE rfl) fun _ _ => ea_consE (ev_varE rfl) fun _ _ => ea_oneE ev_c) fun vs B2 _ e => ⟨⟨d, e, id⟩, hL, by dsimp only; decide, by dsimp only; decide⟩) fun _ _ _ h => h) fun v2 v3 B2 s2 hv2 hv3 => ?_
    obtain ⟨M, ⟨g, rfl⟩, hv2⟩ := hv2
    obtain ⟨⟨b, m⟩, ⟨ok, eL⟩, hv3⟩ := hv3
    dsimp only at ok eL hv3
    -- made, box, text
    refine es_par3 (P1 := pMac K M) (P2 := pBox K b) (P3 := pEq (.str (textM M))) (ev_psp (Post := fun M => pMac K M) M (ea_one (P := pPlain K M) (ev_var rfl hv2)) fun vs B3 _ ⟨v, e1, e2⟩ => ⟨⟨v, e1, e2⟩, g⟩) (fun B3 s3 => ev_make (P := pBox K b) (a := (b, m)) (R := fun vs H => ∃ x, vs = [.str b.L, x] ∧ tns K b.ct x H) ((ea_cons (P := pEq (.str b.L)) (ev_varE (by rw [eL] <;> rfl)) fun B4 s4 => ea_one (P := tns K b.ct) (ev_var rfl (Mo.mo (s3.trans s4) hv3))).imp fun vs B4 _ ⟨v, r, e1, e2, v2, e3, e4⟩ => ⟨v2, by rw [e1, e3, show v = _ from e2], e4⟩) (fun vs B4 _ ⟨x, e1, e2⟩ => ⟨⟨x, e1, e2⟩, ok⟩) fun x dx o d B8 hx8 hd8 hn po => box_made hx8 hd8 hn po) (fun B3 s3 => ev_psp (Post := fun M => pEq (.str (textM M))) M (ea_one (P := pPlain K M) (ev_var rfl (Mo.mo s3 hv2))) fun vs B4 _ ⟨v, e1, e2⟩ => ⟨⟨v, e1, e2⟩, g⟩) fun v4 v5 v6 B3 s3 hv4 hv5 hv6 => ?_
    obtain rfl : v6 = _ := hv6
    have sm := g.sm
    -- write_machine, read_machine
    refine es_ifF (et_orF ((et_test (ev_neS (x := textM M) (y := textM M) (ev_psp (Post := fun M => pEq (.str (textM M))) M (ea_one (P := pMac K M) (ev_var rfl hv4)) fun vs B4 _ ⟨v, e1, e2⟩ => ⟨⟨v, e1, e2⟩, sm⟩) fun _ _ => ev_varE rfl)).to (by simp)) fun B4 s4 => (et_test (ev_own (P1 := pMac K M) (P2 := pMac K M) (k := true) (ev_psp (Post := fun M => pMac K M) M (ea_oneE (ev_varE rfl)) fun vs B5 _ e => ⟨e, g⟩) (fun B5 s5 => ev_var rfl (Mo.mo (s4.trans s5) hv4)) (fun x H h => mac_ins h) (fun x H h => mac_ins h) fun x y B5 s5 hx hy => EvV.sp (a := M) ⟨⟨x, y, rfl, hx, hy⟩, g.sok⟩)).to rfl) fun B4 s4 => ?_
    -- the box
    refine es_set (P1 := pEq (.str (textB b m))) (ev_psp (Post := fun b : BD × Nat => pEq (.str (textB b.1 b.2))) (b, m) ((ea_cons (P := pEq (.str b.L)) (ev_varE (by rw [eL] <;> rfl)) fun B5 s5 => ea_one (P := tns K b.ct) (ev_var rfl (Mo.mo ((s3.trans s4).trans s5) hv3))) : EvA _ _ _ _ _) fun vs B5 _ ⟨v, r, e1, e2, v2, e3, e4⟩ => ⟨⟨v2, by rw [e1, e3, show v = _ from e2], e4⟩, ok⟩) fun v7 B5 s5 hv7 => ?_
    obtain rfl : v7 = _ := hv7
    have s35 := s4.trans s5
    have rdB : ∀ {σ : L2.St} {B6 : Hp}, σ[6]? = some (some (.str (textB b m))) → EvR D (tFn (spReadBox K) E0 (tCons (tVar 6) tNil)) σ B6 (pBox K b) := fun h => ev_psp (Post := fun a : BD × Nat => pBox K a.1) (b, m) (ea_oneE (ev_varE h)) fun vs B7 _ e => ⟨e, ok⟩
    refine es_ifF (et_orF ((et_test (ev_neS (x := textB b m) (y := textB b m) (ev_psp (Post := fun b : BD × Nat => pEq (.str (textB b.1 b.2))) (b, m) (ea_one (P := pBox K b) (ev_var rfl (Mo.mo s35 hv5))) fun vs B6 _ ⟨v, e1, e2⟩ => ⟨⟨v, e1, e2⟩, ok⟩) fun _ _ => ev_varE rfl)).to (by simp)) fun B6 s6 => et_orF ((et_test (ev_own (P1 := pBox K b) (P2 := pBox K b) (k := true) (rdB rfl) (fun B7 s7 => ev_var rfl (Mo.mo ((s35.trans s6).trans s7) hv5)) (fun x H h => box_ins h) (fun x H h => box_ins h) fun x y B7 s7 hx hy => EvV.sp (a := (b, m)) ⟨⟨x, y, rfl, hx, hy⟩, ok⟩)).to rfl) fun B7 s7 => et_test (ev_neDic (key := bkey) (R := fun a => nms_ K a.2) (as := b.ct) (dat := turnD) (fun a v B h => dp_en h) (ev_prop (P1 := pBox K b) (P := tns K b.ct) (rdB rfl) (fun x H h => box_ins h) fun x B8 s8 hx => EvV.sp (a := b) (Post := fun b : BD => tns K b.ct) ⟨⟨x, rfl, hx⟩, trivial⟩) (fun B8 s8 => ev_var rfl (Mo.mo ((((s3.trans s35).trans s6).trans s7).trans s8) hv3)) ok.kd fun a _ => shaped_ints _)) fun B6 s6 => ?_
    -- walks
    refine es_set (P1 := pLst K (fun _ : Nat => pEx WkOk (fun wk => stp K wk)) (List.range 2)) (ev_lc1 (R := numN) (R' := fun _ : Nat => pEx WkOk (fun wk => stp K wk)) (el_range1 (j := 2) (ea_oneE ev_c) (by decide) (by decide)) (by decide) (fun i y B7 hi s7 hy => ?_) (fun _ _ _ _ _ h => h)) fun v8 B7 s7 hv8 => ?_
    · exact EvR.imp (P := pEx WkOk (fun wk => stp K wk)) (ev_psp (Post := fun _ : Int => pEx WkOk (fun wk => stp K wk)) 6 (ea_consE (ev_varE rfl) fun _ _ => ea_oneE ev_c) fun vs B8 _ e => ⟨⟨d, e, id⟩, by decide, by decide⟩) fun _ _ _ h => h
    obtain ⟨w1, w2, ok1, ok2, hv8⟩ : ∃ w1 w2, WkOk w1 ∧ WkOk w2 ∧ pLst K (stp K) [w1, w2] v8 B7 := by
      obtain ⟨p, xs, e1, hp, px⟩ := hv8
      have er : List.range 2 = [0, 1] := rfl
      rw [er] at px
      cases px with
      | cons r1 px => cases px with
        | cons r2 px =>
          cases px
          obtain ⟨w1, k1, h1⟩ := r1
          obtain ⟨w2, k2, h2⟩ := r2
          exact ⟨w1, w2, k1, k2, p, _, e1, hp, .cons h1 (.cons h2 .nil)⟩
    have okA : ∀ wk ∈ [w1, w2], WkOk wk := fun wk h => by
      rcases List.mem_cons.mp h with e | h
      · rw [e]; exact ok1
      · rw [List.mem_singleton.mp h]; exact ok2
    have wtx : ∀ {σ : L2.St} {B8 : Hp} {wk : List Tri} {te : TE}, WkOk wk → EvR D te σ B8 (stp K wk) → EvR D (tFn (spWalkT K) E0 (tCons te tNil)) σ B8 (pEq (.str (walkT wk))) := fun {σ B8 wk te} ok h => ev_psp (Post := fun wk => pEq (.str (walkT wk))) wk (ea_one h) fun vs B9 _ ⟨v, e1, e2⟩ => ⟨⟨v, e1, e2⟩, ok⟩
    refine es_forN (as := [w1, w2]) (R := stp K) (el_list (ev_var rfl (pLst.map hv8))) (fun σ1 => σ1[7]? = some (some v8) ∧ σ1.length = 10) ⟨rfl, rfl⟩ (fun wk x B8 σ1 hw s8 hx ⟨e7, len⟩ => ?_) fun σ1 B8 s8 ⟨e7, len⟩ => ?_
    · have okw := okA wk hw
      have f7 : (σ1.set 9 (some x))[7]? = some (some v8) := by rw [List.getElem?_set_ne (by decide)]; exact e7
      have f9 : (σ1.set 9 (some x))[9]? = some (some x) := List.getElem?_set_self (by rw [len]; decide)
      have hw9 : ∀ {B9 : Hp}, Same B8 B9 → EvR D (tVar 9) (σ1.set 9 (some x)) B9 (stp K wk) := fun s => ev_var f9 (Mo.mo s hx)
      refine (en_ifF (et_orF ((et_test (ev_neS (x := walkT wk) (y := walkT wk) (wtx okw (hw9 (Same.refl _))) fun B9 s9 => wtx okw (hw9 s9))).to (by simp)) fun B9 s9 => (et_test (ev_neD (K := K) (d := .tuple (wk.map triD)) (e := .tuple (wk.map triD)) ((ev_psp (Post := fun wk => stp K wk) wk (ea_oneE (wtx okw (hw9 s9))) fun vs B10 _ e => ⟨e, okw⟩).imp fun v B10 _ h => dp_st h) (fun B10 s10 => (hw9 (s9.trans s10)).imp fun v B11 _ h => dp_st h) (shaped_trisT okw.sok) (shaped_trisT okw.sok))).to (by rw [SeqAt.eqv_refl _ (SeqAt.canLay_of_shaped (shaped_trisT okw.sok))] <;> rfl))).imp fun σ2 B9 _ e => ?_
      rw [e]
      exact ⟨f7, by rw [List.length_set, len]⟩
    · have hW : ∀ {σ : L2.St} {B9 : Hp}, Same B8 B9 → σ[7]? = some (some v8) → EvR D (tVar 7) σ B9 (pMap K (stp K) [w1, w2]) := fun s h => ev_var h (pLst.map (Mo.mo (s8.trans s) hv8))
      have l1 := ok1.small
      have l2 := ok2.small
      have e1 : nl1.length = 1 := rfl
      refine es_set (P1 := pEq (.str (blurT w1 w2))) ((ev_add3 (a := walkT w1) (b := nl1) (c := walkT w2) (wtx ok1 (ev_ixL (R := stp K) (a := w1) (i := 0) (hW (Same.refl _) e7) (fun _ _ => ev_c) (by decide) rfl)) (fun _ _ => ev_c) (fun B9 s9 => wtx ok2 (ev_ixL (R := stp K) (a := w2) (i := 1) (hW s9 e7) (fun _ _ => ev_c) (by decide) rfl)) (by omega)).to rfl) fun v9 B9 s9 hv9 => ?_
      obtain rfl : v9 = _ := hv9
      have g6 : (σ1.set 6 (some (.str (blurT w1 w2))))[6]? = some (some (.str (blurT w1 w2))) := List.getElem?_set_self (by rw [len]; decide)
      have g7 : (σ1.set 6 (some (.str (blurT w1 w2))))[7]? = some (some v8) := by rw [List.getElem?_set_ne (by decide)]; exact e7
      have shB := shaped_blur ok1.sok ok2.sok
      refine es_ret (ev_andT (c := true) ((ev_eqS (x := blurT w1 w2) (y := blurT w1 w2) (ev_psp (Post := fun a : List Tri × List Tri => pEq (.str (blurT a.1 a.2))) (w1, w2) (ea_one (P := pMapT K (stp K) [w1, w2]) (ev_tupleOf (hW s9 g7))) fun vs B10 _ ⟨v, e1, e2⟩ => ⟨⟨v, e1, e2⟩, ok1, ok2⟩) fun _ _ => ev_varE g6).to (by simp)) fun B10 s10 => (ev_eqD (K := K) (d := blurD w1 w2) (e := blurD w1 w2) ((ev_psp (Post := fun a : List Tri × List Tri => pMapT K (stp K) [a.1, a.2]) (w1, w2) (ea_oneE (ev_varE g6)) fun vs B11 _ e => ⟨e, ok1, ok2⟩).imp fun v B11 _ h => dp_blur h) (fun B11 s11 => (ev_tupleOf (hW (s9.trans (s10.trans s11)) g7)).imp fun v B12 _ h => dp_blur h) shB shB).to (by rw [SeqAt.eqv_refl _ (SeqAt.canLay_of_shaped shB)]))
end
end CW
set_option Elab.async false
set_option linter.all false
set_option maxRecDepth 100000
set_option maxHeartbeats 8000000
/-! W35: the law. -/
namespace CW
open PySem PySem.Spec PyProof.Rows L2 TL
def spLaw (K : PySem.W.Frag) : Sp := fun vs H Q _ => ∃ (B : Hp) (ns : List Int) (x : V), vs = [x] ∧ At D0 B H ∧ pMap K num ns x B ∧ ns.length ≤ 63 ∧ ∀ H', Q (.bl true) H'
/-! the written things -/
def lz : Str := "z"
def lk : Str := "k"
def M0 : MD := ⟨lz, 1, [], []⟩
def b1 : BD := ⟨lk, [(107, [0])]⟩
def tx1 : Str := "machine z 1\nends -"
def tx2 : Str := "box k 1\nk 0"
def tx3 : Str := "-\n-"
def kab : Str := "machine ab "
theorem tx_ok : textM M0 = tx1 ∧ textB b1 1 = tx2 ∧ blurT [] [] = tx3 ∧ headL kMach lab 13 = kab ++ dig 13 := by decide +kernel
theorem M0_go : M0.Go where
  ok := ⟨by decide +kernel, by decide, by decide, by decide, (fun t ht => by cases ht), rfl, (fun j hj => by cases hj), rfl, by decide⟩
  st := fun t ht => by cases ht
  en := fun j hj => by cases hj
  ek := by decide
theorem b1_ok : b1.Ok 1 where
  l := by decide +kernel
  c := by decide +kernel
  m1 := by decide
  m6 := by decide
  len := fun a ha => by rw [List.mem_singleton.mp ha] <;> rfl
  nd := fun a ha => by rw [List.mem_singleton.mp ha]; decide
  bd := fun a ha x hx => by
    rw [List.mem_singleton.mp ha] at hx
    rw [List.mem_singleton.mp hx]
    decide
  kd := by decide
theorem wk0 : WkOk [] := ⟨(fun t ht => by cases ht), rfl, by decide⟩
theorem lk_key : (Sum.inr lk : Key) = bkey (107, [0]) := by decide +kernel
theorem sts_ok : ∀ t ∈ sts 12, (0 ≤ t.1 ∧ t.1 < 1000000) ∧ (0 ≤ t.2.2 ∧ t.2.2 < 1000000) ∧ t.2.1.length ≤ 10 ∧ ∃ c, t.2.1 = ⟨#[c]⟩ ∧ c ∈ cs lowers := by
  have h1 : ∀ n < 12, (0 ≤ srcN n ∧ srcN n < 1000000) ∧ sgC n ∈ cs lowers := by decide +kernel
  intro t ht
  obtain ⟨n, hn, rfl⟩ := List.mem_map.mp ht
  have hn := List.mem_range.mp hn
  obtain ⟨a, b⟩ := h1 n hn
  refine ⟨a, ⟨?_, ?_⟩, by show 1 ≤ 10; decide, sgC n, rfl, b⟩
  · show 0 ≤ ((n + 1 : Nat) : Int); omega
  · show ((n + 1 : Nat) : Int) < 1000000; omega
section
variable {M' : MD}
theorem wide_st (h : MSort wideM M') : ∀ t ∈ M'.st, StOk t := fun t ht => by
  obtain ⟨a, b, _, d⟩ := sts_ok t ((h.s.mem t).mp ht)
  exact ⟨a.1, a.2, b.1, b.2, d⟩
theorem wide_en (h : MSort wideM M') : ∀ j ∈ M'.en, 0 ≤ j ∧ j < 1000000 := fun j hj => by
  have := (h.e.mem j).mp hj
  have e : j = 6 ∨ j = 12 := by simpa [wideM] using this
  rcases e with rfl | rfl <;> decide
theorem wide_sm (h : MSort wideM M') : M'.Sm where
  l := by rw [h.l]; decide
  n0 := by rw [h.n]; decide
  n1 := by rw [h.n]; decide
  k := by have := h.s.len; have e : wideM.st.length = 12 := by decide +kernel
          omega
  s := fun t ht => by
    obtain ⟨a, b, c, _⟩ := sts_ok t ((h.s.mem t).mp ht)
    exact ⟨a, b, c⟩
  ek := by have := h.e.len; have e : wideM.en.length = 2 := rfl
           omega
  e := wide_en h
theorem wide_split (h : MSort wideM M') : Txt.split (textM M') nl1 = rowsL M' := by
  unfold textM
  refine split_nl (fun r hr => ?_) (by unfold rowsL; simp)
  unfold rowsL at hr
  rcases List.mem_append.mp hr with hr | hr
  · rcases List.mem_append.mp hr with hr | hr
    · rw [List.mem_singleton.mp hr, h.l, h.n]
      decide +kernel
    · obtain ⟨t, ht, rfl⟩ := List.mem_map.mp hr
      exact (rowS (wide_st h t ht)).2
  · rw [List.mem_singleton.mp hr, ends_join]
    exact no_nl (endsW_plain (wide_en h))
end
section
variable {P : Program} {w : World} {K : PySem.W.Frag} {mg : Str → Option Value} {base : Heap} {D : Dm} {σ : L2.St} {B H : Hp} {te ta tb tc tv ty : TE} {tA : TA} {u t : TS} {Ds : Ends} {M : MD} {Pw P1 P2 P3 : PV} {wi : TI}
theorem ev_cmeth {C : Addr} {sp : Sp} {E : XK} {R : List V → Hp → Prop} (h : EvR D ta σ B (pEq (.ref C))) (ht : ∀ B2, Same B B2 → EvA D tA σ B2 R) (hs : ∀ vs B2, Same B B2 → R vs B2 → EvV D (fun H Q => sp (.ref C :: vs) H Q E) B2 Pw) : EvR D (ClX.tCMeth C sp E ta tA) σ B Pw := fun H at_ Q q =>
  h H at_ _ fun x B2 H2 e2 hx => ⟨hx, ht B2 e2.bs H2 e2.at2 _ fun vs B3 H3 e3 r => hs vs B3 (e2.bs.trans e3.bs) r H3 e3.at2 Q fun v B4 H4 e4 p => q v B4 H4 ((e2.trans e3).trans e4) p⟩
/-- Machine by three arguments -/
theorem in_Mac3' (T : Tz K mg) : FnR P w K mg base (L2.CX P w) 4 (He.fAd K d_Machine_init.at_) (ISp (insO (mC K)) ownO (fun (M : MD) ws B => (∃ s, ws = [.str M.L, .int M.n, s] ∧ stp K M.st s B) ∧ M.en = [] ∧ M.Ok) (macPost K)) :=
  (in_Mac3 T).imp fun vs H Q E ⟨D, B, x, dx, M, ws, h, m, ⟨⟨s, h1, hs⟩, he, ok⟩, q⟩ => ⟨D, B, x, dx, M, ws ++ [.ref (He.dflAt ("Machine", some "__init__") 2 K)], by subst h; rfl, m, ⟨⟨s, _, by subst h1; rfl, hs, _, [], rfl, T.n_ends B, by rw [he]; exact .nil⟩, ok⟩, q⟩
theorem ev_tup0 {α : Type} {R : α → PV} : EvR D (tTup tNil) σ B (pMapT K R []) :=
  (ev_tup (R := fun vs _ => vs = []) ea_nil (fun vs _ e => by rw [e]; show 0 ≤ _; omega) fun _ _ _ _ h => h).imp fun v B2 _ ⟨p, vs, e1, e2, e3⟩ => ⟨p, vs, e1, SqT.of e2, by rw [e3]; exact .nil⟩
theorem at_Dd {l : Addr} {a b c : Int} (at_ : At D0 B H) (hl : H l = none) : At (Dd l) B (upd H l (.lst [V.int a, .int b, .int c])) := ⟨fun d e => by rw [show d = l from e]; exact at_.sm.free hl, fun b' o e => by rw [upd_ne (ne_of_none (at_.sm b' o e) hl)]; exact at_.sm b' o e, ⟨a, b, c, upd_same⟩⟩
theorem at_D0 {D : Dm} (at_ : At D B H) : At D0 B H := ⟨fun _ z => z.elim, at_.sm, trivial⟩
theorem sc_law : FnScope ["_law_script", "_law_at", "_law_dice_here", "_law_turn", "_law_none", "_law_one", "_law_wide", "_law_told"] ["_law_script"] d_law.scope := ⟨rfl, rfl, rfl, by decide +kernel, rfl, by decide +kernel, by decide +kernel⟩
theorem bd_law (T : Tz K mg) : BodyOk0 P w K mg base ["_law_script", "_law_at", "_law_dice_here", "_law_turn", "_law_none", "_law_one", "_law_wide", "_law_told"] d_law 8 (spLaw K) := by
  refine fun cdv A outer s H vs Q E hr h => ?_
  refine ⟨_, pss_cons (ps_for PassesOwn.never (by rfl) (pi_range1 (by rfl) T.b_range (pa_cons (pe_callB (call_max2 rfl) (by rfl) T.b_max boot_max (pa_cons pe_int (pa_cons (pe_callB (call_min2 rfl) (by rfl) T.b_min boot_min (pa_cons pe_int (pa_cons (pe_callB call_len (by rfl) T.b_len boot_len (pa_cons (pv 0) pa_nil)) pa_nil))) pa_nil))) pa_nil)) (pg_name (i := 1) sc_law.nd rfl (Or.inl rfl)) (pss_cons (ps_set (i := 2) sc_law.nd rfl (Or.inl rfl) (pe_fn (fn_law_dice T) (hr.mono (by decide)) passL (pa_cons (pv 0) (pa_cons (pv 1) pa_nil))))
      (pss_one (ps_for PassesOwn.never (by rfl) (pi_range1 (by rfl) T.b_range (pa_cons pe_int pa_nil)) (pg_name (i := 3) sc_law.nd rfl (Or.inl rfl)) (pss_one (ps_if (pt_not (pt_val (pe_fn (fn_law_right T) (hr.mono (by decide)) passL (pa_cons (pv 2) pa_nil)))) (pss_one (ps_ret pe_bl)) pss_nil))))))
      (pss_cons (ps_par (i := 4) (j := 5) (by rfl) sc_law.nd rfl rfl (by decide) rfl rfl (pa_cons (StX.pe_makeR T.mk_Machine (in_Mac3' T) (hr.mono (by decide)) (by rfl) T.g_Machine passL (pa_cons pe_str (pa_cons pe_int (pa_cons (pe_tup pa_nil) pa_nil)))) (pa_cons (StX.pe_makeR T.mk_Box (in_Box T) (hr.mono (by decide)) (by rfl) T.g_Box passL (pa_cons pe_str (pa_cons (pe_disp (pps_cons pe_str (pe_tup (pa_cons pe_int pa_nil)) pps_nil) (by rfl) (by rfl) (fun z => by cases z) (by decide)) pa_nil))) pa_nil)) (by rfl))
      (pss_cons (ps_set (i := 6) sc_law.nd rfl (Or.inl rfl) (ClX.pe_cmeth (pe_glob (v := .ref (He.ga K "Machine")) (by rfl) T.g_Machine rfl) T.c_of_words.1 T.c_of_words.2 (FnA.fnr (cm_Machine_of_words T)) (hr.mono (by decide)) passL (pa_cons pe_str (pa_cons (pe_tup (pa_cons pe_str (pa_cons pe_str pa_nil))) pa_nil))))
      (pss_cons (ps_set (i := 7) sc_law.nd rfl (Or.inl rfl) (pe_lst (pa_cons (pe_fn (fn_write_machine T) (hr.mono (by decide)) passL (pa_cons (pv 4) pa_nil)) (pa_cons (pe_fn (fn_write_box T) (hr.mono (by decide)) passL (pa_cons (pv 5) pa_nil)) (pa_cons (pe_fn (fn_write_blur T) (hr.mono (by decide)) passL (pa_cons (pe_tup (pa_cons (pe_tup pa_nil) (pa_cons (pe_tup pa_nil) pa_nil))) pa_nil)) (pa_cons (pe_cmpR (op_ownEq T.e_Machine.1 T.e_Machine.2.1 (mt_Mac_eq T) (hr.mono (by decide)) passL) (pe_fn (fn_read_machine T) (hr.mono (by decide)) passL (pa_cons pe_str pa_nil)) (pv 4) (nomark _)) pa_nil))))))
      (pss_cons (ps_expr (pe_bm PySem.F.plainAttrs_list PySem.F.slot_list_append PySem.F.type_list_append mt_append (pv 7) (pa_cons (pe_cmpR op_eq (pe_ix ix_list (pe_split (pe_fn (fn_write_machine T) (hr.mono (by decide)) passL (pa_cons (pv 6) pa_nil)) pe_str) pe_int (fun _ _ => rfl)) (pe_op op_add_str pe_str (pe_callTy call_str_int (by rfl) T.b_str boot_str (pa_cons (pe_propA (d := a_Machine_size) T.cl_Machine T.p_Machine_size (pr_Machine_size T) (hr.mono (by decide)) passL (pv 6)) pa_nil))) (nomark _)) pa_nil)))
      (pss_one (ps_ret (pe_cmpR (op_eqD hr.units) (pv 7) (pe_lst (pa_cons pe_str (pa_cons pe_str (pa_cons pe_str (pa_cons pe_bl (pa_cons pe_bl pa_nil)))))) (nomark _)))))))), ?_⟩
  obtain ⟨B, ns, x, rfl, at_, hx, hn, q⟩ := h
  -- the cells
  refine for_ev (D := D0) (ei_range1 (j := (if (if ((ns.length : Nat) : Int) < 8 then ((ns.length : Nat) : Int) else 8) > 1 then (if ((ns.length : Nat) : Int) < 8 then ((ns.length : Nat) : Int) else 8) else 1)) (ea_oneE (ev_max ev_c fun B2 s2 => ev_min ev_c fun B3 s3 => ev_lenM (K := K) (R := num) (as := ns) (ev_var rfl (Mo.mo (s2.trans s3) hx)))) ⟨by split <;> split <;> omega, by split <;> split <;> omega⟩) at_ (fun i σ1 Bi Hi => σ1[0]? = some (some x) ∧ σ1.length = 8) (fun B2 H2 s2 => ⟨rfl, rfl⟩) ?_ ?_
  · rintro B2 s2 i y σ1 Bi Hi B3 H3 hi s2i ati ⟨e0, len⟩ s3 hy
    obtain rfl : y = _ := hy
    dsimp only [gName]
    have f0 : (σ1.set 1 (some (.int (i : Nat))))[0]? = some (some x) := by rw [List.getElem?_set_ne (by decide)]; exact e0
    have f1 : (σ1.set 1 (some (.int (i : Nat))))[1]? = some (some (.int (i : Nat))) := List.getElem?_set_self (by rw [len]; decide)
    have lenF : (σ1.set 1 (some (.int (i : Nat)))).length = 8 := by rw [List.length_set, len]
    generalize σ1.set 1 (some (.int (i : Nat))) = σ2 at f0 f1 lenF ⊢
    have sB3 : Same B B3 := (s2.trans s2i).trans s3.bs
    have i8 : i ≤ 8 := by
      revert hi
      split <;> split <;> omega
    refine ⟨_, f0, _, f1, D0, B3, ns, i, x, rfl, s3.at2, Mo.mo sB3 hx, by omega, by omega, fun l B4 H4 a b c s4 hl => ?_⟩
    have atD := at_Dd (a := a) (b := b) (c := c) s4.at2 hl
    dsimp only [gName]
    have g2 : (σ2.set 2 (some (.ref l)))[2]? = some (some (.ref l)) := List.getElem?_set_self (by rw [lenF]; decide)
    have g0 : (σ2.set 2 (some (.ref l)))[0]? = some (some x) := by rw [List.getElem?_set_ne (by decide)]; exact f0
    have lenG : (σ2.set 2 (some (.ref l))).length = 8 := by rw [List.length_set, lenF]
    generalize σ2.set 2 (some (.ref l)) = σ3 at g0 g2 lenG ⊢
    refine for_ev (D := Dd l) (B := B4) (ei_range1 (j := 3) (ea_oneE ev_c) (by decide)) atD (fun i σ1 Bi Hi => σ1[0]? = some (some x) ∧ σ1[2]? = some (some (.ref l)) ∧ σ1.length = 8) (fun B5 H5 s5 => ⟨g0, g2, lenG⟩) ?_ ?_
    · rintro B5 s5 j y σ4 Bj Hj B6 H6 hj s5j atj ⟨h0, h2, len4⟩ s6 hy
      obtain rfl : y = _ := hy
      dsimp only [gName]
      have k0 : (σ4.set 3 (some (.int (j : Nat))))[0]? = some (some x) := by rw [List.getElem?_set_ne (by decide)]; exact h0
      have k2 : (σ4.set 3 (some (.int (j : Nat))))[2]? = some (some (.ref l)) := by rw [List.getElem?_set_ne (by decide)]; exact h2
      refine (en_ifF (D := Dd l) (B := B6) ((et_not (et_B (ev_psp (Post := fun _ : Unit => pEq (.bl true)) () (ea_oneE (ev_varE k2)) fun vs B7 _ e => ⟨l, e, dd_is l⟩))).to rfl)) H6 s6.at2 _ fun σ5 B7 H7 s7 e => ?_
      rw [e]
      exact ⟨B7, (s5j.trans s6.bs).trans s7.bs, s7.at2, k0, k2, by rw [List.length_set, len4]⟩
    · rintro σ4 Bj Hj s4j atj ⟨h0, h2, len4⟩
      exact ⟨Bj, ((s2i.trans s3.bs).trans s4.bs).trans s4j, at_D0 atj, h0, len4⟩
  · rintro σ1 Bi Hi sBi ati ⟨e0, len⟩
    -- the least texts
    dsimp only
    refine sh_par (D := D0) (P1 := pMac K M0) (P2 := pBox K b1) (ev_make (a := M0) (P := pMac K M0) (R := fun vs H => ∃ s, vs = [.str lz, .int 1, s] ∧ stp K [] s H) ((ea_cons (P := pEq (.str lz)) ev_c fun B3 s3 => ea_cons (P := pEq (.int 1)) ev_c fun B4 s4 => ea_one (P := stp K []) ev_tup0).imp fun vs B4 _ ⟨v1, r1, a1, p1, v2, r2, a2, p2, v3, a3, p3⟩ => ⟨v3, by rw [a1, a2, a3, show v1 = _ from p1, show v2 = _ from p2], p3⟩) (fun vs B4 _ ⟨s, a1, a2⟩ => ⟨⟨s, a1, a2⟩, rfl, M0_go.ok⟩) fun x dx o d B8 hx8 hd8 hn po => mac_made hx8 hd8 hn po) (fun B3 s3 => ev_make (a := (b1, 1)) (P := pBox K b1) (R := fun vs H => ∃ d, vs = [.str lk, d] ∧ tns K b1.ct d H) ((ea_cons (P := pEq (.str lk)) ev_c fun B4 s4 => ea_one (P := tns K b1.ct) ((ev_disp (kps := [(Sum.inr lk, nms_ K [0])]) (.cons inferInstance ev_c (fun B5 s5 => ?_) fun _ _ => .nil) (by show ([Sum.inr lk] : List Key).Nodup; decide) (by show 1 ≤ 15; decide) fun kp hp => by rw [List.mem_singleton.mp hp]; dsimp only; infer_instance).imp fun v B5 _ ⟨p, kvs, a1, hp, pr⟩ => ⟨p, kvs, a1, hp, ?_⟩)).imp fun vs B4 _ ⟨v1, r1, a1, p1, v2, a2, p2⟩ => ⟨v2, by rw [a1, a2, show v1 = _ from p1], p2⟩) (fun vs B4 _ ⟨d, a1, a2⟩ => ⟨⟨d, a1, a2⟩, b1_ok⟩) fun x dx o d B8 hx8 hd8 hn po => box_made hx8 hd8 hn po) ati fun v3 v4 B3 H3 s3 hv3 hv4 => ?_
    · exact (ev_tup (R := fun vs _ => vs = [V.int 0]) (ea_oneE ev_c) (fun vs _ e => by rw [e]; show 1 ≤ _; omega) fun _ _ _ _ h => h).imp fun v B6 _ ⟨p, vs, e1, e2, e3⟩ => ⟨p, vs, e1, SqT.of e2, by rw [e3]; exact .cons rfl .nil⟩
    · cases pr with
      | cons r pr =>
        cases pr
        exact .cons ⟨r.1.trans lk_key, r.2⟩ .nil
    have f4 : ((σ1.set 4 (some v3)).set 5 (some v4))[4]? = some (some v3) := by rw [List.getElem?_set_ne (by decide)]; exact List.getElem?_set_self (by rw [len]; decide)
    have f5 : ((σ1.set 4 (some v3)).set 5 (some v4))[5]? = some (some v4) := List.getElem?_set_self (by rw [List.length_set, len]; decide)
    have lenF : ((σ1.set 4 (some v3)).set 5 (some v4)).length = 8 := by rw [List.length_set, List.length_set, len]
    generalize (σ1.set 4 (some v3)).set 5 (some v4) = σ2 at f4 f5 lenF ⊢
    -- Machine.of_words
    have ews : ws2 = [wa, wb] := rfl
    refine sh_set0 (P := pEx (MSort wideM) (pMac K)) (ev_cmeth (R := fun vs H => ∃ x, vs = [.str lab, x] ∧ pMapT K txt ws2 x H) ev_c (fun B4 s4 => (ea_cons (P := pEq (.str lab)) ev_c fun B5 s5 => ea_one (P := pMapT K txt ws2) ((ev_tup (R := fun vs _ => vs = ws2.map V.str) (ea_consE ev_c fun _ _ => ea_oneE ev_c) (fun vs _ e => by rw [e]; show 2 ≤ _; omega) fun _ _ _ _ h => h).imp fun v B6 _ ⟨p, vs, e1, e2, e3⟩ => ⟨p, vs, e1, SqT.of e2, by rw [e3]; exact txt_list⟩)).imp fun vs B5 _ ⟨v1, r1, a1, p1, v2, a2, p2⟩ => ⟨v2, by rw [a1, a2, show v1 = _ from p1], p2⟩) fun vs B4 s4 ⟨x, a1, a2⟩ => EvV.sp (a := ()) ⟨.ref (He.ga K "Machine"), x, by rw [a1], a2⟩) s3.at2 fun v6 B6 H6 s6 hv6 => ?_
    obtain ⟨M', ms, hv6⟩ := hv6
    have g4 : (σ2.set 6 (some v6))[4]? = some (some v3) := by rw [List.getElem?_set_ne (by decide)]; exact f4
    have g5 : (σ2.set 6 (some v6))[5]? = some (some v4) := by rw [List.getElem?_set_ne (by decide)]; exact f5
    have g6 : (σ2.set 6 (some v6))[6]? = some (some v6) := List.getElem?_set_self (by rw [lenF]; decide)
    have lenG : (σ2.set 6 (some v6)).length = 8 := by rw [List.length_set, lenF]
    generalize σ2.set 6 (some v6) = σ3 at g4 g5 g6 lenG ⊢
    -- told = [..]
    refine sh_lst (os := []) (D := D0) (R := fun vs _ => vs = [V.str tx1, .str tx2, .str tx3, .bl true]) (ea_consE ((ev_psp (D := DH D0 []) (Post := fun M => pEq (.str (textM M))) M0 (ea_one (P := pMac K M0) (ev_var g4 (Mo.mo s6.bs hv3))) fun vs B7 _ ⟨v, e1, e2⟩ => ⟨⟨v, e1, e2⟩, M0_go.sm⟩).to (by rw [tx_ok.1])) fun B7 s7 => ea_consE ((ev_psp (Post := fun b : BD × Nat => pEq (.str (textB b.1 b.2))) (b1, 1) (ea_one (P := pBox K b1) (ev_var g5 (Mo.mo (s6.bs.trans s7) hv4))) fun vs B8 _ ⟨v, e1, e2⟩ => ⟨⟨v, e1, e2⟩, b1_ok⟩).to (by rw [tx_ok.2.1])) fun B8 s8 => ea_consE ((ev_psp (Post := fun a : List Tri × List Tri => pEq (.str (blurT a.1 a.2))) ([], []) (ea_one (P := pMapT K (stp K) [[], []]) ((ev_tup (R := fun vs H => ∃ x y, vs = [x, y] ∧ stp K [] x H ∧ stp K [] y H) ((ea_cons (P := stp K []) ev_tup0 fun B9 s9 => ea_one (P := stp K []) ev_tup0).imp fun vs B9 _ ⟨v, r, e1, p1, v2, e2, p2⟩ => ⟨v, v2, by rw [e1, e2], p1, p2⟩) (fun vs H ⟨x, y, e, _⟩ => by rw [e]; show 2 ≤ _; omega) fun xs H1 H2 e ⟨x, y, e1, p1, p2⟩ => ⟨x, y, e1, Mo.mo e p1, Mo.mo e p2⟩).imp fun v B9 _ ⟨p, vs, e1, e2, x, y, e3, p1, p2⟩ => ⟨p, vs, e1, SqT.of e2, by rw [e3]; exact .cons p1 (.cons p2 .nil)⟩)) fun vs B9 _ ⟨v, e1, e2⟩ => ⟨⟨v, e1, e2⟩, wk0, wk0⟩).to (by rw [tx_ok.2.2.1])) fun B9 s9 => ea_oneE ((ev_own (P1 := pMac K M0) (P2 := pMac K M0) (k := true) (ev_psp (Post := fun M => pMac K M) M0 (ea_oneE ev_c) fun vs B10 _ e => ⟨by rw [e, tx_ok.1] <;> rfl, M0_go⟩) (fun B10 s10 => ev_var g4 (Mo.mo ((((s6.bs.trans s7).trans s8).trans s9).trans s10) hv3)) (fun x H h => mac_ins h) (fun x H h => mac_ins h) fun x y B10 s10 hx hy => EvV.sp (a := M0) ⟨⟨x, y, rfl, hx, hy⟩, fun t ht => by cases ht⟩).to rfl)) (fun vs H e => by rw [e]; show 4 ≤ _; omega) s6.at2 (fun p hp => by cases hp) fun l vs B7 H7 s7 ev hl => ?_
    subst ev
    have hl1 : Hd1 D0 B7 (upd H7 l (.lst [V.str tx1, .str tx2, .str tx3, .bl true])) l (.lst [V.str tx1, .str tx2, .str tx3, .bl true]) := Hd1.new s7.at2 hl
    have at8 := (Stp.hid (o := .lst [V.str tx1, .str tx2, .str tx3, .bl true]) s7.at2 hl).at2
    generalize upd H7 l (.lst [V.str tx1, .str tx2, .str tx3, .bl true]) = H8 at hl1 at8 ⊢
    have h6 : (σ3.set 7 (some (.ref l)))[6]? = some (some v6) := by rw [List.getElem?_set_ne (by decide)]; exact g6
    have h7 : (σ3.set 7 (some (.ref l)))[7]? = some (some (.ref l)) := List.getElem?_set_self (by rw [lenG]; decide)
    generalize σ3.set 7 (some (.ref l)) = σ4 at h6 h7 ⊢
    -- told.append(..)
    have wsm := wide_sm ms
    have hM : ∀ {B9 : Hp}, Same B7 B9 → EvR D0 (tVar 6) σ4 B9 (pMac K M') := fun s => ev_var h6 (Mo.mo (s7.bs.trans s) hv6)
    have lt : (textM M').length + 2 ≤ sizeLine := by
      have := join_len nl1 (rowsL M')
      have := rows_small wsm
      exact Nat.le_trans (by unfold textM; omega) (by decide : 100002 ≤ sizeLine)
    have lr : (rowsL M')[0]? = some (headL kMach M'.L M'.n) := rfl
    have eh : headL kMach M'.L M'.n = kab ++ dig M'.n := by rw [ms.l, ms.n]; exact tx_ok.2.2.2
    have dn := dig_len wsm.n0 wsm.n1
    have lkd : kab.length + (dig M'.n).length ≤ 1000 := by
      have e : kab.length = 11 := rfl
      omega
    refine sh_append (P := pEq (.bl true)) at8 hl1 h7 (by show 4 < 100000; decide) ((ev_eqS (x := headL kMach M'.L M'.n) (y := kab ++ dig M'.n) (ev_ixL (R := txt) (as := rowsL M') (i := 0) (a := headL kMach M'.L M'.n) (EvR.imp (P := pLst K txt (Txt.split (textM M') nl1)) (ev_split (a := textM M') (b := nl1) (ev_psp (Post := fun M => pEq (.str (textM M))) M' (ea_one (P := pMac K M') (hM (Same.refl _))) fun vs B9 _ ⟨v, e1, e2⟩ => ⟨⟨v, e1, e2⟩, wsm⟩) (fun _ _ => ev_c) (by decide) lt) fun v B9 _ h => by rw [wide_split ms] at h; exact pLst.map h) (fun _ _ => ev_c) (by decide) lr) fun B9 s9 => ev_addS (x := kab) (y := dig M'.n) ev_c (fun B10 s10 => ev_strI (ev_prop (P1 := pMac K M') (P := pEq (.int M'.n)) (hM (s9.trans s10)) (fun x H h => mac_ins h) fun x B11 s11 hx => EvV.sp (a := M') (Post := fun M : MD => pEq (.int M.n)) ⟨⟨x, rfl, hx⟩, trivial⟩) (dig_log wsm.n0 wsm.n1)) (Nat.le_trans lkd (by decide))).to (by rw [eh]; simp)) fun v9 B9 H9 s9 hv9 => ?_
    obtain rfl : v9 = _ := hv9
    have hl9 := (hl1.stp s9).put (o' := .lst ([V.str tx1, .str tx2, .str tx3, .bl true] ++ [.bl true]))
    have at9 := (hl1.stp s9).at_ (o' := .lst ([V.str tx1, .str tx2, .str tx3, .bl true] ++ [.bl true])) s9.at2
    generalize upd H9 l (.lst ([V.str tx1, .str tx2, .str tx3, .bl true] ++ [.bl true])) = H10 at hl9 at9 ⊢
    -- told == [..]
    have sh : SeqAt.shaped (.list [.str tx1, .str tx2, .str tx3, .bool true, .bool true]) = true := by decide +kernel
    refine (ev_eqD (D := D0) (K := K) (d := .list [.str tx1, .str tx2, .str tx3, .bool true, .bool true]) (e := .list [.str tx1, .str tx2, .str tx3, .bool true, .bool true]) (ev_var h7 (.lst (SqL.of upd_same) (.cons (.str _) (.cons (.str _) (.cons (.str _) (.cons (.bl _) (.cons (.bl _) .nil))))))) (fun B11 s11 => ev_lstD (ea_consD (ev_strD ev_c) fun _ _ => ea_consD (ev_strD ev_c) fun _ _ => ea_consD (ev_strD ev_c) fun _ _ => ea_consD (ev_cP (.bl true)) fun _ _ => ea_consD (ev_cP (.bl true)) fun _ _ => ea_nilD) (by show 5 ≤ 100000; omega)) sh sh) H10 (hl9.know at9) _ fun v11 B11 H11 s11 hv11 => ?_
    rw [show v11 = _ from hv11, SeqAt.eqv_refl _ (SeqAt.canLay_of_shaped sh)]
    exact q H11
end
end CW
set_option Elab.async false
set_option linter.all false
set_option maxRecDepth 100000
set_option maxHeartbeats 0
/-! End: the law holds. -/
namespace CW
open PySem PySem.Spec PyProof.Rows L2
theorem law_facts {P : Program} {w : World} {K : PySem.W.Frag} {h : Heap} {mg : Str → Option Value} {f : Addr} (X : K.In h) (G : h.Ns mainGlobals mg) (hfa : mg ("law" : Str) = some (.ref f)) (c : obsX K = valX) :
    ∃ fd : FuncData, (∀ (s : Shared) (v : Value), BindsTo s fd ⟨[v], []⟩ [("_law_script", v)]) ∧ ∀ base : Heap, K.In base → base.Ns mainGlobals mg → FnOk P w K mg base CX0 9 f fd ["_law_script"] (spLaw K) := by
  have T : Tz K mg := tz_of X G c
  obtain ⟨fd, F⟩ := T.h_law
  have e := hfa.symm.trans T.g_law
  cases e
  have F' : FunD K d_law.name d_law.qual d_law.params d_law.body d_law.scope [] (d_law.kws K) (He.fAd K d_law.at_) fd := by
    have e : d_law.dvs K = [] := rfl
    rw [← e]; exact F
  have b := FunD.bindsA (ps := ["_law_script"]) F' fun _ _ _ _ _ _ us hl => match us, hl with | [_], _ => rfl
  refine ⟨fd, fun s v => b s [v] rfl, fun base _ _ => F'.ok sc_law (fun vs H Q E h => ?_) fun cdv A outer s H vs Q E hr h => ?_⟩
  · obtain ⟨_, _, _, rfl, _⟩ := h
    rfl
  · obtain ⟨t, a, b⟩ := bd_law (P := P) (w := w) (mg := mg) (base := base) T cdv A outer s H vs Q E hr h
    exact ⟨t, PSs.nox a, b⟩
end CW
open PySem PySem.W PySem.Calls PyProof.Rows
set_option maxRecDepth 100000 in
set_option maxHeartbeats 0 in
theorem PySem.Challenge.cw_cancelwalks_k56_texts_written_and_read_holds : PySem.Challenge.rw_cancelwalks_k56_texts_written_and_read.Holds := by
  w_on; o_law
  refine HandSHeadRun.head_any (r := OpenLaw.row CW.LW) (q := CW.qv) (H := CW.hkX) (ob := CW.obX) (M := 20000) (loose := CW.nms) (d := HandSHeadRun.topDef (OpenLaw.row CW.LW).prog CW.lawAt) (kwd := []) CW.obX_eq
    (by kernel_rfl) (fun s => by kernel_rfl) CW.runX (by kernel_rfl) (by kernel_rfl) (by kernel_rfl) (by rfl) (by first | assumption | decide +kernel) (by decide +kernel) ⟨rfl, rfl, rfl, rfl, rfl, by decide +kernel⟩ ?hw ?hc
  case hw => w_witness2
  case hc =>
    refine L2.walk_ofE (l := CW.LW) (n := 63) (k := 9) (x := "_law_script") (CX := L2.CX0) rfl (by decide) (by kernel_rfl) ⟨rfl, by decide, by decide⟩ ?F (fun _ _ _ _ z => z)
    intro w mg fa h Y G hmg0
    obtain ⟨K, KX, c⟩ := Y
    have hmg : mg ("law" : PySem.Str) = some (.ref fa) := by
      have e : (HandSHeadRun.topDef (OpenLaw.row CW.LW).prog CW.lawAt).name = ("law" : PySem.Str) := by kernel_rfl
      rw [← e]
      exact hmg0
    obtain ⟨fd, hb, hF⟩ := CW.law_facts (P := (CW.LW).prog) (w := w) KX G hmg c
    exact ⟨K, fd, CW.spLaw K, KX, hb, fun H a ns hl _ hS => ⟨H, ns, .ref a, rfl, ⟨fun _ z => z.elim, fun _ _ h => h, trivial⟩, ⟨a, _, rfl, hS, CW.num_list⟩, hl, fun _ => rfl⟩, hF⟩
