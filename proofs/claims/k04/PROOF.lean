import PyProof.Rows.All
import Wide.All
import OpenK.AllK
import Wide.FinOn
import HandS.ForMost
import HandS.ForExc
import HandS.Evl
import HandS.IsInst
import HandS.SortInts
import HandS.SortKw
import HandS.RevRange
import HandS.Style
import HandS.Flow
import HandS.Zip
import HandS.Lambda
import HandS.EndTab
import KE.SortKeyHeap
import KE.DatumOrd
import HandS.SetFor
import HandS.Strs
import KE.KNestM
import PySem.Challenge.RW_evenhand_k04_sums_and_marks
set_option Elab.async false
set_option linter.all false
set_option maxRecDepth 100000
set_option maxHeartbeats 4000000
/-! Wk: readings as evaluations over a known heap (Sv, EvP, ..), own layer over Evl. -/
namespace Wk
open PySem PySem.Spec PyProof.Rows L2 Evl

/-! ### statements over a known heap -/
def Sv (t : TS) (D : Ends) (s : L2.St) (H : Hp) : Prop := ∀ H1, Ex H H1 → t D s H1
/-- as a def's body wants it -/
theorem Sv.go {t : TS} {D : Ends} {s : L2.St} {H : Hp} (h : Sv t D s H) : t D s H := h H (Ex.refl H)
theorem Sv.mono {t : TS} {D : Ends} {s : L2.St} {H H' : Hp} (h : Sv t D s H) (e : Ex H H') : Sv t D s H' := fun H1 e1 => h H1 (e.trans e1)

class MonoP (P : V → Hp → Prop) : Prop where
  mono : ∀ {x : V} {H H' : Hp}, Ex H H' → P x H → P x H'
def Is (v : V) : V → Hp → Prop := fun x _ => x = v
def IsL (xs : List V) : V → Hp → Prop := fun x H => ∃ p, x = .ref p ∧ H p = some (.lst xs)
def IsU (xs : List V) : V → Hp → Prop := fun x H => ∃ p, x = .ref p ∧ H p = some (.tup xs)
instance {v : V} : MonoP (Is v) := ⟨fun _ h => h⟩
instance {xs : List V} : MonoP (IsL xs) := ⟨fun e ⟨p, a, b⟩ => ⟨p, a, e _ _ b⟩⟩
instance {xs : List V} : MonoP (IsU xs) := ⟨fun e ⟨p, a, b⟩ => ⟨p, a, e _ _ b⟩⟩

def EvP (te : TE) (s : L2.St) (H : Hp) (P : V → Hp → Prop) : Prop := ∀ H1, Ex H H1 → ∀ Q : VK, (∀ v H2, Ex H1 H2 → P v H2 → Q v H2) → te s H1 Q
def EvAP (ta : TA) (s : L2.St) (H : Hp) (P : List V → Hp → Prop) : Prop := ∀ H1, Ex H H1 → ∀ Q : List V → Hp → Prop, (∀ v H2, Ex H1 H2 → P v H2 → Q v H2) → ta s H1 Q

section
variable {K : PySem.W.Frag} {s : L2.St} {H H' : Hp} {ta tb te tx tc : TE} {t u : TT} {x y z v : V} {r : R2} {P R : V → Hp → Prop} {D : Ends} {tu tw tz : TS} {g : TG}

theorem _root_.Evl.Ev.p (h : Ev te s H v) : EvP te s H (Is v) := fun H1 e Q q => h H1 e Q fun H2 e2 => q v H2 e2 rfl
theorem _root_.Evl.EvL.p {xs : List V} (h : EvL te s H xs) : EvP te s H (IsL xs) := fun H1 e Q q => h H1 e Q fun p H2 _ e2 hp => q _ H2 e2 ⟨p, rfl, hp⟩
theorem evU_p {xs : List V} (h : EvU te s H xs) : EvP te s H (IsU xs) := fun H1 e Q q => h H1 e Q fun p H2 _ e2 hp => q _ H2 e2 ⟨p, rfl, hp⟩
theorem EvP.mono (e : Ex H H') (h : EvP te s H P) : EvP te s H' P := fun H1 a Q q => h H1 (e.trans a) Q q
theorem EvP.imp (h : EvP te s H P) (k : ∀ v H1, Ex H H1 → P v H1 → R v H1) : EvP te s H R := fun H1 e Q q => h H1 e Q fun v H2 e2 p => q v H2 e2 (k v H2 (e.trans e2) p)
theorem evp_is (h : EvP te s H (Is v)) : Ev te s H v := fun H1 e Q q => h H1 e Q fun w H2 e2 p => by cases p; exact q H2 e2

/-! arguments -/
theorem ap_nil : EvAP tNil s H (fun vs _ => vs = []) := fun H1 _ _ q => q _ H1 (Ex.refl H1) rfl
theorem ap_cons {tr : TA} {R : List V → Hp → Prop} [MonoP P] (h : EvP te s H P) (hr : EvAP tr s H R) : EvAP (tCons te tr) s H (fun vs H => ∃ v r, vs = v :: r ∧ P v H ∧ R r H) := fun H1 e Q q =>
  h H1 e _ fun v H2 e2 p => hr H2 (e.trans e2) _ fun vs H3 e3 p3 => q _ H3 (e2.trans e3) ⟨v, vs, rfl, MonoP.mono e3 p, p3⟩
theorem ap_one (h : EvP te s H P) : EvAP (tCons te tNil) s H (fun vs H => ∃ v, vs = [v] ∧ P v H) := fun H1 e Q q =>
  h H1 e _ fun v H2 e2 p => q _ H2 e2 ⟨v, rfl, p⟩
theorem ap_two [MonoP P] (h : EvP ta s H P) (h2 : EvP tb s H R) : EvAP (tCons ta (tCons tb tNil)) s H (fun vs H => ∃ v w, vs = [v, w] ∧ P v H ∧ R w H) := fun H1 e Q q =>
  h H1 e _ fun v H2 e2 p => h2 H2 (e.trans e2) _ fun w H3 e3 p3 => q _ H3 (e2.trans e3) ⟨v, w, rfl, MonoP.mono e3 p, p3⟩
theorem ap_three {S : V → Hp → Prop} [MonoP P] [MonoP R] (h : EvP ta s H P) (h2 : EvP tb s H R) (h3 : EvP tc s H S) : EvAP (tCons ta (tCons tb (tCons tc tNil))) s H (fun vs H => ∃ v w x, vs = [v, w, x] ∧ P v H ∧ R w H ∧ S x H) := fun H1 e Q q =>
  h H1 e _ fun v H2 e2 p => h2 H2 (e.trans e2) _ fun w H3 e3 p3 => h3 H3 ((e.trans e2).trans e3) _ fun x H4 e4 p4 => q _ H4 ((e2.trans e3).trans e4) ⟨v, w, x, rfl, MonoP.mono (e3.trans e4) p, MonoP.mono e4 p3, p4⟩

/-! operators, calls of built-ins and of own defs, with described operands -/
theorem ev_opP [MonoP P] (ha : EvP ta s H P) (hb : EvP tb s H R) (hr : ∀ a b H1, Ex H H1 → P a H1 → R b H1 → RV r a b H1 z) : Ev (tOp r ta tb) s H z := fun H1 e Q q =>
  ha H1 e _ fun a H2 e2 p => hb H2 (e.trans e2) _ fun b H3 e3 p3 => hr a b H3 ((e.trans e2).trans e3) (MonoP.mono e3 p) p3 H3 (Ex.refl H3) Q fun H4 e4 => q H4 ((e2.trans e3).trans e4)
theorem ev_cbP {r : List V → Hp → VK → Prop} {ta : TA} {P : List V → Hp → Prop} (h : EvAP ta s H P) (hr : ∀ vs H1, Ex H H1 → P vs H1 → RC r vs H1 z) : Ev (tCB r ta) s H z := fun H1 e Q q =>
  h H1 e _ fun vs H2 e2 p => hr vs H2 (e.trans e2) p H2 (Ex.refl H2) Q fun H3 e3 => q H3 (e2.trans e3)
theorem el_cbP {r : List V → Hp → VK → Prop} {ta : TA} {P : List V → Hp → Prop} {xs : List V} (h : EvAP ta s H P) (hr : ∀ vs H1, Ex H H1 → P vs H1 → RCL r vs H1 xs) : EvL (tCB r ta) s H xs := fun H1 e Q q =>
  h H1 e _ fun vs H2 e2 p => hr vs H2 (e.trans e2) p H2 (Ex.refl H2) Q fun l H3 hl e3 h3 => q l H3 (fresh_back e2 hl) (e2.trans e3) h3
theorem ev_callP {sp : Sp} {E : XK} {ta : TA} {P : List V → Hp → Prop} (h : EvAP ta s H P) (hs : ∀ vs H1, Ex H H1 → P vs H1 → ∀ Q : VK, (∀ H2, Ex H1 H2 → Q z H2) → sp vs H1 Q E) : Ev (tCall sp [] E ta) s H z := fun H1 e Q q =>
  h H1 e _ fun vs H2 e2 p => by
    rw [List.append_nil]
    exact hs vs H2 (e.trans e2) p Q fun H3 e3 => q H3 (e2.trans e3)
theorem el_callP {sp : Sp} {E : XK} {ta : TA} {P : List V → Hp → Prop} {xs : List V} (h : EvAP ta s H P) (hs : ∀ vs H1, Ex H H1 → P vs H1 → ∀ Q : VK, (∀ p H2, H1 p = none → Ex H1 H2 → H2 p = some (.lst xs) → Q (.ref p) H2) → sp vs H1 Q E) : EvL (tCall sp [] E ta) s H xs := fun H1 e Q q =>
  h H1 e _ fun vs H2 e2 p => by
    rw [List.append_nil]
    exact hs vs H2 (e.trans e2) p Q fun l H3 hl e3 h3 => q l H3 (fresh_back e2 hl) (e2.trans e3) h3
theorem evp_callP {sp : Sp} {E : XK} {ta : TA} {P : List V → Hp → Prop} {R : V → Hp → Prop} (h : EvAP ta s H P) (hs : ∀ vs H1, Ex H H1 → P vs H1 → ∀ Q : VK, (∀ v H2, Ex H1 H2 → R v H2 → Q v H2) → sp vs H1 Q E) : EvP (tCall sp [] E ta) s H R := fun H1 e Q q =>
  h H1 e _ fun vs H2 e2 p => by
    rw [List.append_nil]
    exact hs vs H2 (e.trans e2) p Q fun v H3 e3 h3 => q v H3 (e2.trans e3) h3

theorem ev_chain {r r' : R2} {a b : Bool} (ha : Ev ta s H x) (hb : Ev tb s H y) (hr : RV r x y H (.bl a)) (h2 : a = true → Ev tc s H z ∧ RV r' y z H (.bl b)) : Ev (tChain r r' ta tb tc) s H (.bl (a && b)) := fun H1 e Q q =>
  ha H1 e _ fun H2 e2 => hb H2 (e.trans e2) _ fun H3 e3 => hr H3 ((e.trans e2).trans e3) _ fun H4 e4 => ⟨a, rfl, by
    cases a with
    | true =>
      obtain ⟨k1, k2⟩ := h2 rfl
      show tc s H4 fun w' H5 => r' y w' H5 Q
      exact k1 H4 (((e.trans e2).trans e3).trans e4) _ fun H5 e5 => k2 H5 ((((e.trans e2).trans e3).trans e4).trans e5) Q fun H6 e6 => q H6 ((((e2.trans e3).trans e4).trans e5).trans e6)
    | false =>
      show Q (.bl false) H4
      exact q H4 ((e2.trans e3).trans e4)⟩
/-- an int of which something is known -/
def IsI (p : Int → Prop) : V → Hp → Prop := fun x _ => ∃ i, x = .int i ∧ p i
instance {p : Int → Prop} : MonoP (IsI p) := ⟨fun _ h => h⟩
def RVP (r : R2) (x y : V) (H : Hp) (S : V → Hp → Prop) : Prop := ∀ H1, Ex H H1 → ∀ Q : VK, (∀ z H2, Ex H1 H2 → S z H2 → Q z H2) → r x y H1 Q
theorem evp_op {S : V → Hp → Prop} [MonoP P] (ha : EvP ta s H P) (hb : EvP tb s H R) (hr : ∀ a b H1, Ex H H1 → P a H1 → R b H1 → RVP r a b H1 S) : EvP (tOp r ta tb) s H S := fun H1 e Q q =>
  ha H1 e _ fun a H2 e2 p => hb H2 (e.trans e2) _ fun b H3 e3 p3 => hr a b H3 ((e.trans e2).trans e3) (MonoP.mono e3 p) p3 H3 (Ex.refl H3) Q fun z H4 e4 sz => q z H4 ((e2.trans e3).trans e4) sz
theorem evp_int {g : Int → Int → Int} {p q w : Int → Prop} (ha : EvP ta s H (IsI p)) (hb : EvP tb s H (IsI q)) (h : ∀ i j, p i → q j → w (g i j)) : EvP (tOp (rI0 fun i j => .int (g i j)) ta tb) s H (IsI w) :=
  evp_op ha hb fun a b H1 _ ⟨i, ea, pi⟩ ⟨j, eb, pj⟩ H2 _ Q k => ⟨i, j, ea, eb, k _ H2 (Ex.refl H2) ⟨_, rfl, h i j pi pj⟩⟩
theorem evp_intC {C : Int → Int → Prop} {g : Int → Int → Int} {p q w : Int → Prop} (ha : EvP ta s H (IsI p)) (hb : EvP tb s H (IsI q)) (hc : ∀ i j, p i → q j → C i j) (h : ∀ i j, p i → q j → w (g i j)) : EvP (tOp (rI C fun i j => .int (g i j)) ta tb) s H (IsI w) :=
  evp_op ha hb fun a b H1 _ ⟨i, ea, pi⟩ ⟨j, eb, pj⟩ H2 _ Q k => ⟨i, j, ea, eb, hc i j pi pj, k _ H2 (Ex.refl H2) ⟨_, rfl, h i j pi pj⟩⟩
theorem evp_neg {p w : Int → Prop} (ha : EvP ta s H (IsI p)) (h : ∀ i, p i → w (-i)) : EvP (tUn (rU fun i => .int (-i)) ta) s H (IsI w) := fun H1 e Q k =>
  ha H1 e _ fun a H2 e2 ⟨i, ea, pi⟩ => ⟨i, ea, k _ H2 e2 ⟨_, rfl, h i pi⟩⟩
theorem ev_i {i : Int} {p : Int → Prop} (h : Ev te s H (.int i)) (hp : p i) : EvP te s H (IsI p) := fun H1 e Q q => h H1 e Q fun H2 e2 => q _ H2 e2 ⟨i, rfl, hp⟩
theorem evp_ii {p q : Int → Prop} (h : EvP te s H (IsI p)) (k : ∀ i, p i → q i) : EvP te s H (IsI q) := h.imp fun v H1 _ ⟨i, e, pi⟩ => ⟨i, e, k i pi⟩
theorem EvAP.imp {ta : TA} {P R : List V → Hp → Prop} (h : EvAP ta s H P) (k : ∀ v H1, Ex H H1 → P v H1 → R v H1) : EvAP ta s H R := fun H1 e Q q => h H1 e Q fun v H2 e2 p => q v H2 e2 (k v H2 (e.trans e2) p)
/-- a list display of which little is known -/
theorem evp_lst {ta : TA} {P : List V → Prop} (h : EvAP ta s H (fun vs _ => P vs)) (hz : ∀ vs, P vs → vs.length ≤ 100000) : EvP (tLst ta) s H (fun x H2 => ∃ p vs, x = .ref p ∧ H p = none ∧ H2 p = some (.lst vs) ∧ P vs) := fun H1 e Q q =>
  h H1 e _ fun vs H2 e2 pv => ⟨sz_of (hz vs pv), fun p hp => q _ _ (e2.trans (Ex.new hp)) ⟨p, vs, rfl, fresh_back (e.trans e2) hp, upd_same, pv⟩⟩
/-- a test of which it isn't known how it ends -/
theorem w_if2 (h : ∀ H1, Ex H H1 → ∀ Q : Bool → Hp → Prop, (∀ b H2, Ex H1 H2 → Q b H2) → t s H1 Q) (h1 : Sv tu { D with nx := tz D } s H) (h2 : Sv tw { D with nx := tz D } s H) : Sv (tSeq (tIfS t tu tw) tz) D s H := fun H1 e1 =>
  h H1 e1 _ fun b H2 e2 => by
    cases b with
    | true => exact h1 H2 (e1.trans e2)
    | false => exact h2 H2 (e1.trans e2)
/-- a conditional whose test isn't told -/
theorem evp_if2 {S : V → Hp → Prop} (h : ∀ H1, Ex H H1 → ∀ Q : Bool → Hp → Prop, (∀ b H2, Ex H1 H2 → Q b H2) → t s H1 Q) (h1 : EvP ta s H S) (h2 : EvP tb s H S) : EvP (tIf t ta tb) s H S := fun H1 e Q q =>
  h H1 e _ fun b H2 e2 => by
    cases b with
    | true => exact h1 H2 (e.trans e2) Q fun v H3 e3 p => q v H3 (e2.trans e3) p
    | false => exact h2 H2 (e.trans e2) Q fun v H3 e3 p => q v H3 (e2.trans e3) p
/-- a def that hands back its argument, a new list -/
theorem el_through {sp : Sp} {E : XK} {xs : List V} (h : EvL te s H xs) (hs : ∀ p H1, Ex H H1 → H1 p = some (.lst xs) → ∀ Q : VK, (∀ H2, Ex H1 H2 → Q (.ref p) H2) → sp [.ref p] H1 Q E) : EvL (tCall sp [] E (tCons te tNil)) s H xs := fun H1 e Q q =>
  h H1 e _ fun p H2 hp e2 h2 => by
    show sp [V.ref p] H2 Q E
    exact hs p H2 (e.trans e2) h2 Q fun H3 e3 => q p H3 hp (e2.trans e3) (e3 _ _ h2)

/-! ### statements -/
theorem w_asg {i : Nat} (h : Ev te s H v) (k : Sv tz D (s.set i (some v)) H) : Sv (tSeq (tAsg te (gName i)) tz) D s H := fun H1 e1 => q_asg (h.mono e1) fun H2 e2 => k H2 (e1.trans e2)
theorem w_asgP {i : Nat} (h : EvP te s H P) (k : ∀ v H1, Ex H H1 → P v H1 → Sv tz D (s.set i (some v)) H1) : Sv (tSeq (tAsg te (gName i)) tz) D s H := fun H1 e1 =>
  h H1 e1 _ fun v H2 e2 p => k v H2 (e1.trans e2) p H2 (Ex.refl H2)
theorem w_asgL {i : Nat} {xs : List V} (h : EvL te s H xs) (k : ∀ p H1, H p = none → Ex H H1 → H1 p = some (.lst xs) → Sv tz D (s.set i (some (.ref p))) H1) : Sv (tSeq (tAsg te (gName i)) tz) D s H := fun H1 e1 =>
  h H1 e1 _ fun p H2 hp e2 h2 => k p H2 (fresh_back e1 hp) (e1.trans e2) h2 H2 (Ex.refl H2)
theorem w_asgU {i : Nat} {xs : List V} (h : EvU te s H xs) (k : ∀ p H1, H p = none → Ex H H1 → H1 p = some (.tup xs) → Sv tz D (s.set i (some (.ref p))) H1) : Sv (tSeq (tAsg te (gName i)) tz) D s H := fun H1 e1 =>
  h H1 e1 _ fun p H2 hp e2 h2 => k p H2 (fresh_back e1 hp) (e1.trans e2) h2 H2 (Ex.refl H2)
theorem w_if {b : Bool} (h : EvT t s H b) (h1 : b = true → Sv tu { D with nx := tz D } s H) (h2 : b = false → Sv tw { D with nx := tz D } s H) : Sv (tSeq (tIfS t tu tw) tz) D s H := fun H1 e1 =>
  q_if (h.mono e1) (fun hb H2 e2 => h1 hb H2 (e1.trans e2)) (fun hb H2 e2 => h2 hb H2 (e1.trans e2))
theorem w_when {b : Bool} (h : EvT t s H b) (h1 : b = true → Sv tu { D with nx := tz D } s H) (h2 : b = false → Sv tz D s H) : Sv (tSeq (tIfS t tu tNext) tz) D s H := w_if h h1 h2
/-- an if that is never taken -/
theorem w_skip (h : EvT t s H false) (h2 : Sv tz D s H) : Sv (tSeq (tIfS t tu tNext) tz) D s H := w_if h (fun h => nomatch h) fun _ => h2
theorem w_ret (h : Ev te s H v) (k : ∀ H1, Ex H H1 → D.rt v H1) : Sv (tSeq (tRet te) tz) D s H := fun H1 e1 => h H1 e1 _ fun H2 e2 => k H2 (e1.trans e2)
theorem w_retP (h : EvP te s H P) (k : ∀ v H1, Ex H H1 → P v H1 → D.rt v H1) : Sv (tSeq (tRet te) tz) D s H := fun H1 e1 => h H1 e1 _ fun v H2 e2 p => k v H2 (e1.trans e2) p
theorem w_retL {xs : List V} (h : EvL te s H xs) (k : ∀ p H1, H p = none → Ex H H1 → H1 p = some (.lst xs) → D.rt (.ref p) H1) : Sv (tSeq (tRet te) tz) D s H := fun H1 e1 => h H1 e1 _ fun p H2 hp e2 h2 => k p H2 (fresh_back e1 hp) (e1.trans e2) h2
theorem w_nx (k : ∀ H1, Ex H H1 → D.nx s H1) : Sv tNext D s H := k
theorem w_aug {i : Nat} {f : Int → Int → Int} {a b : Int} (hx : s[i]? = some (some (.int a))) (h : Ev te s H (.int b)) (k : Sv tz D (s.set i (some (.int (f a b)))) H) : Sv (tSeq (tAug i te (ipI f)) tz) D s H := fun H1 e1 =>
  q_aug hx (h.mono e1) fun H2 e2 => k H2 (e1.trans e2)
theorem w_drop (h : Ev te s H v) (k : Sv tz D s H) : Sv (tSeq (tDrop te) tz) D s H := fun H1 e1 => q_drop (h.mono e1) fun H2 e2 => k H2 (e1.trans e2)
/-- a call whose value is dropped -/
theorem w_dropP (h : EvP te s H P) (k : Sv tz D s H) : Sv (tSeq (tDrop te) tz) D s H := fun H1 e1 => h H1 e1 _ fun v H2 e2 _ => k H2 (e1.trans e2)
/-- H', which is H with another list at l -/
structure Put (l : Addr) (o : HO) (H H' : Hp) : Prop where
  new : H' l = some o
  old : ∀ a u, a ≠ l → H a = some u → H' a = some u
theorem Put.ex {l : Addr} {o : HO} {H0 H H' : Hp} (p : Put l o H H') (e : Ex H0 H) (h : H0 l = none) : Ex H0 H' := fun a u ha => p.old a u (ne_of_none ha h) (e a u ha)
theorem put_upd {l : Addr} {o : HO} {H H1 : Hp} (e : Ex H H1) : Put l o H (upd H1 l o) := ⟨upd_same, fun a u n h => by rw [upd_ne n]; exact e a u h⟩
theorem w_app {l : Addr} {xs : List V} (hl : H l = some (.lst xs)) (ha : Ev ta s H (.ref l)) (h : Ev te s H v) (hz : xs.length < 100000) (k : ∀ H1, Put l (.lst (xs ++ [v])) H H1 → Sv tz D s H1) :
    Sv (tSeq (tDrop (tBM K "list" rAppend ta (tCons te tNil))) tz) D s H := fun H1 e1 =>
  q_app (e1 l _ hl) (ha.mono e1) (h.mono e1) hz fun H2 e2 => k _ (put_upd (e1.trans e2)) _ (Ex.refl _)
theorem w_appP {l : Addr} {xs : List V} (hl : H l = some (.lst xs)) (ha : Ev ta s H (.ref l)) (h : EvP te s H P) (hz : xs.length < 100000) (k : ∀ v H1, P v H1 → Put l (.lst (xs ++ [v])) H H1 → Sv tz D s H1) [MonoP P] (hm : ∀ v H1 o, P v H1 → P v (upd H1 l o)) :
    Sv (tSeq (tDrop (tBM K "list" rAppend ta (tCons te tNil))) tz) D s H := fun H1 e1 =>
  ha H1 e1 _ fun H2 e2 => ⟨Or.inl ⟨rfl, xs, sq_of (e2 _ _ (e1 _ _ hl))⟩, h H2 (e1.trans e2) _ fun v H3 e3 p => ⟨l, xs, v, rfl, rfl, e3 _ _ (e2 _ _ (e1 _ _ hl)), sz_lt hz, k v _ (hm v H3 _ p) ⟨upd_same, fun a u n ha => by rw [upd_ne n]; exact e3 _ _ (e2 _ _ (e1 _ _ ha))⟩ _ (Ex.refl _)⟩⟩
theorem w_appU {l : Addr} {xs ys : List V} (hl : H l = some (.lst xs)) (ha : Ev ta s H (.ref l)) (h : EvU te s H ys) (hz : xs.length < 100000) (k : ∀ p H1, H p = none → H1 p = some (.tup ys) → Put l (.lst (xs ++ [.ref p])) H H1 → Sv tz D s H1) :
    Sv (tSeq (tDrop (tBM K "list" rAppend ta (tCons te tNil))) tz) D s H := fun H1 e1 =>
  q_appU (e1 l _ hl) (ha.mono e1) (fun H2 e2 Q q => h H2 (e1.trans e2) Q q) hz fun p H2 hp e2 h2 => k p _ (fresh_back e1 hp) (by rw [upd_ne (fun z => by rw [z, e1 l _ hl] at hp; cases hp)]; exact h2) (put_upd (e1.trans e2)) _ (Ex.refl _)
theorem w_setL {l : Addr} {xs : List V} {j : Nat} (hl : H l = some (.lst xs)) (h : Ev te s H v) (ho : Ev ta s H (.ref l)) (hi : Ev tb s H (.int (j : Int))) (hj : j < xs.length) (k : ∀ H1, Put l (.lst (xs.set j v)) H H1 → Sv tz D s H1) :
    Sv (tSeq (tAsg te (gSub ta tb rSetL)) tz) D s H := fun H1 e1 =>
  q_setL (e1 l _ hl) (h.mono e1) (ho.mono e1) (hi.mono e1) hj fun H2 e2 => k _ (put_upd (e1.trans e2)) _ (Ex.refl _)
theorem w_par {i j : Nat} {x y : V} {ta : TA} (h : EvA ta s H [x, y]) (k : Sv tz D ((s.set i (some x)).set j (some y)) H) : Sv (tSeq (tPar i j ta) tz) D s H := fun H1 e1 =>
  h H1 e1 _ fun H2 e2 => ⟨x, y, rfl, k H2 (e1.trans e2)⟩
theorem w_parP {i j : Nat} {ta : TA} {P : List V → Hp → Prop} (h : EvAP ta s H P) (k : ∀ vs H1, Ex H H1 → P vs H1 → ∃ x y, vs = [x, y] ∧ Sv tz D ((s.set i (some x)).set j (some y)) H1) : Sv (tSeq (tPar i j ta) tz) D s H := fun H1 e1 =>
  h H1 e1 _ fun vs H2 e2 p => by
    obtain ⟨x, y, e, q⟩ := k vs H2 (e1.trans e2) p
    exact ⟨x, y, e, q H2 (Ex.refl H2)⟩

/-- if c: x = e, told by the value that x has behind it -/
theorem w_ifAsg {b : Bool} {i : Nat} (h : EvT t s H b) (h1 : b = true → Ev te s H v) (h2 : b = false → s.set i (some v) = s) (k : Sv tz D (s.set i (some v)) H) : Sv (tSeq (tIfS t (tSeq (tAsg te (gName i)) tNext) tNext) tz) D s H :=
  w_when h (fun hb => w_asg (h1 hb) (fun H1 e1 => k H1 e1)) (fun hb => by
    have g := k
    rw [h2 hb] at g
    exact g)

/-! ### loops -/
theorem w_forL {a : Addr} {xs : List V} {tl : TE} {j : Nat} (h : Ev tl s H (.ref a)) (hx : SqL K H a xs) (Pv : Nat → L2.St → Hp → Prop) (h0 : ∀ H1, Ex H H1 → Pv 0 s H1) (hl : ∀ i s' H', i ≤ xs.length → Pv i s' H' → SqL K H' a xs)
    (hs : ∀ i x s' H', xs[i]? = some x → Pv i s' H' → Sv tu { D with nx := Pv (i + 1), ct := Pv (i + 1), bk := tz D } (s'.set j (some x)) H') (hd : ∀ s' H', Pv xs.length s' H' → Sv tz D s' H') : Sv (tSeq (tFor (iList K tl) (gName j) tu) tz) D s H := fun H1 e1 =>
  q_forLn (h.mono e1) (ex_l e1 hx) Pv (fun H2 e2 => h0 H2 (e1.trans e2)) hl (fun i x s' H' hi p => (hs i x s' H' hi p).go) (fun s' H' p => (hd s' H' p).go)
/-- a loop over a new list -/
theorem w_forNL {xs : List V} {tl : TE} {j : Nat} (h : EvL tl s H xs) (Pv : Addr → Nat → L2.St → Hp → Prop) (h0 : ∀ p H1, H p = none → Ex H H1 → H1 p = some (.lst xs) → Pv p 0 s H1) (hl : ∀ p i s' H', i ≤ xs.length → Pv p i s' H' → SqL K H' p xs)
    (hs : ∀ p i x s' H', xs[i]? = some x → Pv p i s' H' → Sv tu { D with nx := Pv p (i + 1), ct := Pv p (i + 1), bk := tz D } (s'.set j (some x)) H') (hd : ∀ p s' H', Pv p xs.length s' H' → Sv tz D s' H') : Sv (tSeq (tFor (iList K tl) (gName j) tu) tz) D s H := fun H1 e1 =>
  q_forNLn (h.mono e1) Pv (fun p H2 hp e2 h2 => h0 p H2 (fresh_back e1 hp) (e1.trans e2) h2) hl (fun p i x s' H' hi q => (hs p i x s' H' hi q).go) (fun p s' H' q => (hd p s' H' q).go)
theorem w_forR1 {ta : TA} {j : Nat} {n : Int} (h : EvA ta s H [.int n]) (hn : 0 ≤ n ∧ n ≤ 100000) (Pv : Nat → L2.St → Hp → Prop) (h0 : ∀ H1, Ex H H1 → Pv 0 s H1)
    (hs : ∀ (i : Nat) s' H', (i : Int) < n → Pv i s' H' → Sv tu { D with nx := Pv (i + 1), ct := Pv (i + 1), bk := tz D } (s'.set j (some (.int (i : Int)))) H') (hd : ∀ s' H', Pv n.toNat s' H' → Sv tz D s' H') : Sv (tSeq (tFor (iRng1 ta) (gName j) tu) tz) D s H := fun H1 e1 =>
  q_forR1 (h.mono e1) hn Pv (fun H2 e2 => h0 H2 (e1.trans e2)) (fun i s' H' hi p => (hs i s' H' hi p).go) (fun s' H' p => (hd s' H' p).go)

/-- for k in reversed(range(n)) -/
theorem w_forRev {te : TE} {j : Nat} {n : Nat} (h : Ev te s H (.int (n : Int))) (hn : n ≤ 100000) (Pv : Nat → L2.St → Hp → Prop) (h0 : ∀ H1, Ex H H1 → Pv 0 s H1)
    (hs : ∀ (i k : Nat) s' H', i + k + 1 = n → Pv i s' H' → Sv tu { D with nx := Pv (i + 1), ct := Pv (i + 1), bk := tz D } (s'.set j (some (.int (k : Int)))) H') (hd : ∀ s' H', Pv n s' H' → Sv tz D s' H') : Sv (tSeq (tFor (iRevR (tRg1 te)) (gName j) tu) tz) D s H := fun H1 e1 =>
  h H1 e1 _ fun H2 e2 => ⟨(n : Int), rfl, by omega, by omega, by omega, by omega, by
    have e0 : ((n : Int) - 0).toNat = n := by omega
    rw [e0]
    refine for_rangeC (D := { D with nx := tz D }) Pv (h0 H2 (e1.trans e2)) (fun i s' H' hi p => ?_) (fun s' H' p => (hd s' H' p).go)
    have hk : (0 : Int) + (n : Int) - 1 + (i : Nat) * (-1) = ((n - 1 - i : Nat) : Int) := by omega
    show tu _ (s'.set j (some (.int ((0 : Int) + (n : Int) - 1 + (i : Nat) * (-1))))) H'
    rw [hk]
    exact (hs i (n - 1 - i) s' H' (by omega) p).go⟩

/-! ### built-ins -/
theorem tyx_mono {x : V} {t : Value} (e : Ex H H') (h : TyX K H x t) : TyX K H' x t := by
  cases h with
  | base b =>
    cases b with
    | non => exact .base .non
    | bl y => exact .base (.bl y)
    | int i => exact .base (.int i)
    | str y => exact .base (.str y)
    | flt y => exact .base (.flt y)
    | lst ea => exact .base (.lst (e _ _ ea))
    | frz ea => exact .base (.frz (e _ _ ea))
    | tup ea => exact .base (.tup (e _ _ ea))
    | dK ea => exact .base (.dK (e _ _ ea))
    | dT ea => exact .base (.dT (e _ _ ea))
    | ins ea cl ha hn htk hm => exact .base (.ins (e _ _ ea) cl ha hn htk hm)
  | byt y => exact .byt y
  | set ea => exact .set (e _ _ ea)
  | kList ea c => exact .kList ea c
  | kTuple ea c => exact .kTuple ea c
  | kDict ea c => exact .kDict ea c
  | fTuple ea => exact .fTuple (e _ _ ea)
  | fDict ea => exact .fDict (e _ _ ea)
theorem ev_isi {x c : V} {t u : Value} {b : Bool} (ha : Ev ta s H x) (hc : Ev tc s H c) (hv : ClsV c u) (ty : TyX K H x t) (hk : PySem.W.kitOne K t u = some b) : Ev (tCB (rIsi K) (tCons ta (tCons tc tNil))) s H (.bl b) :=
  ev_cbP (ap_two ha.p hc.p) fun vs H1 e1 ⟨v, w, ev, pv, pw⟩ H2 e2 Q q => ⟨x, c, t, u, b, by rw [ev, pv, pw], hv, tyx_mono (e1.trans e2) ty, hk, q H2 (Ex.refl H2)⟩
theorem ev_all {bs : List Bool} (h : EvP te s H (IsL (bs.map V.bl))) : Ev (tCB (rAll K) (tCons te tNil)) s H (.bl (bs.all id)) :=
  ev_cbP (ap_one h) fun vs H1 _ ⟨v, ev, p, pv, hp⟩ H2 e2 Q q => ⟨p, bs, by rw [ev, pv], sq_of (e2 _ _ hp), q H2 (Ex.refl H2)⟩
theorem ev_any {bs : List Bool} (h : EvP te s H (IsL (bs.map V.bl))) : Ev (tCB (rAny K) (tCons te tNil)) s H (.bl (bs.any id)) :=
  ev_cbP (ap_one h) fun vs H1 _ ⟨v, ev, p, pv, hp⟩ H2 e2 Q q => ⟨p, bs, by rw [ev, pv], sq_of (e2 _ _ hp), q H2 (Ex.refl H2)⟩
theorem ev_sum {ns : List Int} (h : EvP te s H (IsL (ns.map V.int))) : Ev (tCB (rSum K) (tCons te tNil)) s H (.int ns.sum) :=
  ev_cbP (ap_one h) fun vs H1 _ ⟨v, ev, p, pv, hp⟩ H2 e2 Q q => ⟨p, ns, by rw [ev, pv], sq_of (e2 _ _ hp), q H2 (Ex.refl H2)⟩
/-- the greatest, the least of a list -/
def mx : List Int → Int
  | [] => 0
  | [a] => a
  | a :: b :: r => if mx (b :: r) ≤ a then a else mx (b :: r)
def mn : List Int → Int
  | [] => 0
  | [a] => a
  | a :: b :: r => if a ≤ mn (b :: r) then a else mn (b :: r)
theorem mx_mem : ∀ {l : List Int}, l ≠ [] → mx l ∈ l
  | [], h => absurd rfl h
  | [a], _ => by simp [mx]
  | a :: b :: r, _ => by
    have ih := mx_mem (l := b :: r) (by simp)
    unfold mx
    split
    · exact List.mem_cons_self
    · exact List.mem_cons_of_mem _ ih
theorem mx_ge : ∀ {l : List Int} {x : Int}, x ∈ l → x ≤ mx l
  | [], x, h => by cases h
  | [a], x, h => by
    have : x = a := by simpa using h
    rw [this]; exact Int.le_refl _
  | a :: b :: r, x, h => by
    have ih := fun y => mx_ge (l := b :: r) (x := y)
    unfold mx
    rcases List.mem_cons.mp h with rfl | h
    · split <;> omega
    · have := ih x h
      split <;> omega
theorem mx_eq {l : List Int} {m : Int} (h : m ∈ l) (hm : ∀ y ∈ l, y ≤ m) : m = mx l := by
  have h1 := mx_ge h
  have h2 := hm _ (mx_mem (l := l) (by intro e; rw [e] at h; cases h))
  omega
theorem mn_mem : ∀ {l : List Int}, l ≠ [] → mn l ∈ l
  | [], h => absurd rfl h
  | [a], _ => by simp [mn]
  | a :: b :: r, _ => by
    have ih := mn_mem (l := b :: r) (by simp)
    unfold mn
    split
    · exact List.mem_cons_self
    · exact List.mem_cons_of_mem _ ih
theorem mn_le : ∀ {l : List Int} {x : Int}, x ∈ l → mn l ≤ x
  | [], x, h => by cases h
  | [a], x, h => by
    have : x = a := by simpa using h
    rw [this]; exact Int.le_refl _
  | a :: b :: r, x, h => by
    have ih := fun y => mn_le (l := b :: r) (x := y)
    unfold mn
    rcases List.mem_cons.mp h with rfl | h
    · split <;> omega
    · have := ih x h
      split <;> omega
theorem mn_eq {l : List Int} {m : Int} (h : m ∈ l) (hm : ∀ y ∈ l, m ≤ y) : m = mn l := by
  have h1 := mn_le h
  have h2 := hm _ (mn_mem (l := l) (by intro e; rw [e] at h; cases h))
  omega
theorem ev_max {ns : List Int} (h : EvP te s H (IsL (ns.map V.int))) (hn : ns ≠ []) : Ev (tCB (rMax K) (tCons te tNil)) s H (.int (mx ns)) :=
  ev_cbP (ap_one h) fun vs H1 _ ⟨v, ev, p, pv, hp⟩ H2 e2 Q q => ⟨p, ns, by rw [ev, pv], sq_of (e2 _ _ hp), List.length_pos_iff.mpr hn, fun m hm hle => by
    rw [mx_eq hm hle]
    exact q H2 (Ex.refl H2)⟩
theorem ev_min {ns : List Int} (h : EvP te s H (IsL (ns.map V.int))) (hn : ns ≠ []) : Ev (tCB (rMin K) (tCons te tNil)) s H (.int (mn ns)) :=
  ev_cbP (ap_one h) fun vs H1 _ ⟨v, ev, p, pv, hp⟩ H2 e2 Q q => ⟨p, ns, by rw [ev, pv], sq_of (e2 _ _ hp), List.length_pos_iff.mpr hn, fun m hm hle => by
    rw [mn_eq hm hle]
    exact q H2 (Ex.refl H2)⟩
theorem ev_lenL {xs : List V} (h : EvP te s H (IsL xs)) : Ev (tCB (rLenS K) (tCons te tNil)) s H (.int (xs.length : Int)) :=
  ev_cbP (ap_one h) fun vs H1 _ ⟨v, ev, p, pv, hp⟩ H2 e2 Q q => ⟨p, xs, by rw [ev, pv], .inl (sq_of (e2 _ _ hp)), q H2 (Ex.refl H2)⟩
theorem el_listL {xs : List V} (h : EvP te s H (IsL xs)) : EvL (tCB (rListS K) (tCons te tNil)) s H xs :=
  el_cbP (ap_one h) fun vs H1 _ ⟨v, ev, p, pv, hp⟩ H2 e2 Q q => ⟨p, xs, by rw [ev, pv], .inl (sq_of (e2 _ _ hp)), fun l hl => q l _ hl (Ex.new hl) upd_same⟩

/-- the sorted list -/
def srt (l : List Int) : List Int := l.mergeSort (fun a b => decide (a ≤ b))
theorem srt_perm (l : List Int) : (srt l).Perm l := List.mergeSort_perm l _
theorem srt_le (l : List Int) : (srt l).Pairwise (· ≤ ·) := by
  have h := List.pairwise_mergeSort (le := fun a b : Int => decide (a ≤ b)) (fun a b c h1 h2 => by
    simp only [decide_eq_true_eq] at *
    omega) (fun a b => by
    by_cases h : a ≤ b
    · simp [h]
    · have : b ≤ a := by omega
      simp [this]) l
  exact h.imp fun h => by simpa using h
theorem sorted_unique : ∀ {l l' : List Int}, l.Perm l' → l.Pairwise (· ≤ ·) → l'.Pairwise (· ≤ ·) → l = l'
  | [], l', p, _, _ => (List.nil_perm.mp p).symm
  | a :: l, [], p, _, _ => absurd p (List.not_perm_cons_nil)
  | a :: l, b :: l', p, h, h' => by
    have h1 := List.pairwise_cons.mp h
    have h2 := List.pairwise_cons.mp h'
    have e : a = b := by
      have hb : b ∈ a :: l := p.mem_iff.mpr List.mem_cons_self
      have ha : a ∈ b :: l' := p.mem_iff.mp List.mem_cons_self
      rcases List.mem_cons.mp hb with e | hb
      · exact e.symm
      · rcases List.mem_cons.mp ha with e | ha
        · exact e
        · have := h1.1 b hb
          have := h2.1 a ha
          omega
    subst e
    rw [sorted_unique (List.Perm.cons_inv p) h1.2 h2.2]
theorem srt_eq {l l' : List Int} (p : l'.Perm l) (h : l'.Pairwise (· ≤ ·)) : l' = srt l := sorted_unique (p.trans (srt_perm l).symm) h (srt_le l)
theorem srt_len (l : List Int) : (srt l).length = l.length := (srt_perm l).length_eq
def srtD (l : List Int) : List Int := (srt l).reverse
theorem srtD_perm (l : List Int) : (srtD l).Perm l := (List.reverse_perm _).trans (srt_perm l)
theorem srtD_ge (l : List Int) : (srtD l).Pairwise (· ≥ ·) := List.pairwise_reverse.mpr (srt_le l)
theorem srtD_eq {l l' : List Int} (p : l'.Perm l) (h : l'.Pairwise (· ≥ ·)) : l' = srtD l := by
  have h2 : l'.reverse.Pairwise (· ≤ ·) := List.pairwise_reverse.mpr h
  have e := srt_eq ((List.reverse_perm l').trans p) h2
  rw [← List.reverse_reverse l', e]
  rfl
theorem srtD_len (l : List Int) : (srtD l).length = l.length := (srtD_perm l).length_eq
theorem el_sorted {ns : List Int} (h : EvP te s H (IsL (ns.map V.int))) : EvL (tCB (rSortedI K) (tCons te tNil)) s H ((srt ns).map V.int) :=
  el_cbP (ap_one h) fun vs H1 _ ⟨v, ev, p, pv, hp⟩ H2 e2 Q q => ⟨p, ns, by rw [ev, pv], sq_of (e2 _ _ hp), fun ns' l h1 h2 hl => by
    rw [srt_eq h1 h2]
    exact q l _ hl (Ex.new hl) upd_same⟩
theorem el_sortedRev {ns : List Int} {tk : TA} (h : EvP te s H (IsL (ns.map V.int))) (hk : ∀ s H Q, Q [V.bl true] H → tk s H Q) : EvL (tCKw (rSortedKw K true [.bl true]) (tCons te tNil) tk) s H ((srtD ns).map V.int) := fun H1 e Q q =>
  h H1 e _ fun v H2 e2 ⟨p, pv, hp⟩ => hk _ _ _ ⟨p, ns, by rw [pv], rfl, sq_of hp, fun ns' l h1 h2 hl => by
    rw [srtD_eq h1 (by simpa [OrdB] using h2)]
    exact q l _ (fresh_back e2 hl) (e2.trans (Ex.new hl)) upd_same⟩

/-! ### comprehensions -/
def Cx2 {α : Type} (H : Hp) (l : List α) (f : α → Bool) (w : α → V) (Dl : Addr) (i : Nat) (H' : Hp) : Prop := H Dl = none ∧ Ex H H' ∧ H' Dl = some (.lst (((l.take i).filter f).map w))
theorem cx_turn {α : Type} {l : List α} {f : α → Bool} {w : α → V} {Dl : Addr} {i : Nat} {a : α} {s2 : L2.St} (p : Cx2 H l f w Dl i H') (ha : l[i]? = some a) (hz : l.length ≤ 100000) (ht : EvT t s2 H (f a)) (he : f a = true → Ev te s2 H (w a)) :
    t s2 H' fun b H3 => if b = true then te s2 H3 fun y H4 => ∃ acc, H4 Dl = some (.lst acc) ∧ acc.length < sizeLine ∧ Cx2 H l f w Dl (i + 1) (upd H4 Dl (.lst (acc ++ [y]))) else Cx2 H l f w Dl (i + 1) H3 := by
  obtain ⟨p1, p2, p3⟩ := p
  have hlt : i < l.length := (List.getElem?_eq_some_iff.mp ha).1
  have et : l.take (i + 1) = l.take i ++ [a] := by rw [List.take_add_one, ha]; rfl
  refine ht H' p2 _ fun H3 e3 => ?_
  cases hf : f a with
  | true =>
    show te s2 H3 fun y H4 => ∃ acc, H4 Dl = some (.lst acc) ∧ acc.length < sizeLine ∧ Cx2 H l f w Dl (i + 1) (upd H4 Dl (.lst (acc ++ [y])))
    refine he hf H3 (p2.trans e3) _ fun H4 e4 => ⟨_, e4 Dl _ (e3 Dl _ p3), ?_, p1, Ex.mut ((p2.trans e3).trans e4) p1, ?_⟩
    · have h1 := List.length_filter_le f (l.take i)
      rw [List.length_take] at h1
      refine sz_lt ?_
      rw [List.length_map]
      omega
    · rw [et, List.filter_append, List.map_append, List.filter_cons, if_pos hf]
      exact upd_same
  | false =>
    show Cx2 H l f w Dl (i + 1) H3
    refine ⟨p1, p2.trans e3, ?_⟩
    rw [et, List.filter_append, List.map_append, List.filter_cons, if_neg (by rw [hf]; decide)]
    show H3 Dl = some (.lst (((l.take i).filter f).map w ++ []))
    rw [List.append_nil]
    exact e3 Dl _ p3
/-- [e for x in xs if t], xs at an address -/
theorem el_comp {α : Type} {a : Addr} {tl : TE} {j : Nat} {vs : List Nat} (l : List α) (c : α → V) (f : α → Bool) (w : α → V) (h : Ev tl s H (.ref a)) (hx : SqL K H a (l.map c)) (hz : l.length ≤ 100000) (hw : ∀ x, wipe ((wipe s vs).set j (some x)) vs = wipe s vs)
    (ht : ∀ x ∈ l, EvT t ((wipe s vs).set j (some (c x))) H (f x)) (he : ∀ x ∈ l, f x = true → Ev te ((wipe s vs).set j (some (c x))) H (w x)) :
    EvL (tLc (iList K tl) (gName j) t te vs) s H ((l.filter f).map w) := fun H0 e Q q => h H0 e _ fun H1 e1 => ⟨a, rfl, ⟨_, ex_l (e.trans e1) hx⟩, fun Dl hD =>
  lc_list (xs := l.map c) (Cx2 H1 l f w Dl) ⟨hD, Ex.new hD, by rw [List.take_zero]; exact upd_same⟩ (fun i H' _ p => ex_l ((e.trans e1).trans p.2.1) hx) (fun i x H' hi p => by
    rw [List.getElem?_map] at hi
    cases ha : l[i]? with
    | none => rw [ha] at hi; cases hi
    | some b =>
      rw [ha] at hi
      obtain rfl : c b = x := Option.some.inj hi
      have hm : b ∈ l := List.mem_of_getElem? ha
      exact ⟨hw _, cx_turn p ha hz ((ht b hm).mono (e.trans e1)) (fun hf => (he b hm hf).mono (e.trans e1))⟩)
    (fun H' p => by
      have p3 := p.2.2
      rw [List.length_map, List.take_length] at p3
      exact q Dl H' (fresh_back e1 p.1) (e1.trans p.2.1) p3)⟩
theorem et_yes : EvT tYes s H true := fun H1 _ Q q => q H1 (Ex.refl H1)
theorem filter_yes {α : Type} (l : List α) : l.filter (fun _ => true) = l := by simp
/-- [e for x in xs] -/
theorem el_map {α : Type} {a : Addr} {tl : TE} {j : Nat} {vs : List Nat} (l : List α) (c : α → V) (w : α → V) (h : Ev tl s H (.ref a)) (hx : SqL K H a (l.map c)) (hz : l.length ≤ 100000) (hw : ∀ x, wipe ((wipe s vs).set j (some x)) vs = wipe s vs)
    (he : ∀ x ∈ l, Ev te ((wipe s vs).set j (some (c x))) H (w x)) : EvL (tLc (iList K tl) (gName j) tYes te vs) s H (l.map w) := by
  have h2 := el_comp l c (fun _ => true) w h hx hz hw (fun _ _ => et_yes) (fun x hx _ => he x hx)
  rw [filter_yes] at h2
  exact h2
/-- [e for k in range(n)] -/
theorem el_mapR {ta : TA} {j : Nat} {vs : List Nat} {n : Int} (w : Nat → V) (h : EvA ta s H [.int n]) (hn : 0 ≤ n ∧ n ≤ 40000) (hw : ∀ x, wipe ((wipe s vs).set j (some x)) vs = wipe s vs)
    (he : ∀ (i : Nat), (i : Int) < n → Ev te ((wipe s vs).set j (some (.int (i : Int)))) H (w i)) : EvL (tLc (iRng1 ta) (gName j) tYes te vs) s H ((List.range n.toNat).map w) := by
  have h2 := el_lcR1 (fun _ => true) w h hn hw (fun i H1 _ _ => et_yes) (fun i H1 e hi _ => (he i hi).mono e)
  have e : given n.toNat (fun _ => true) w = (List.range n.toNat).map w := by
    unfold given
    rw [filter_yes]
  rw [e] at h2
  exact h2
/-- [e for x in a new list] -/
theorem el_mapN {α : Type} {tl : TE} {j : Nat} {vs : List Nat} (l : List α) (c : α → V) (w : α → V) (h : EvP tl s H (IsL (l.map c))) (hz : l.length ≤ 100000) (hw : ∀ x, wipe ((wipe s vs).set j (some x)) vs = wipe s vs)
    (he : ∀ x ∈ l, Ev te ((wipe s vs).set j (some (c x))) H (w x)) : EvL (tLc (iList K tl) (gName j) tYes te vs) s H (l.map w) := fun H0 e Q q => h H0 e _ fun v H1 e1 ⟨a, ev, hx⟩ => ⟨a, ev, ⟨_, sq_of hx⟩, fun Dl hD =>
  lc_list (xs := l.map c) (Cx2 H1 l (fun _ => true) w Dl) ⟨hD, Ex.new hD, by rw [List.take_zero]; exact upd_same⟩ (fun i H' _ p => sq_of (p.2.1 _ _ hx)) (fun i x H' hi p => by
    rw [List.getElem?_map] at hi
    cases ha : l[i]? with
    | none => rw [ha] at hi; cases hi
    | some b =>
      rw [ha] at hi
      obtain rfl : c b = x := Option.some.inj hi
      have hm : b ∈ l := List.mem_of_getElem? ha
      exact ⟨hw _, cx_turn p ha hz et_yes (fun _ => (he b hm).mono (e.trans e1))⟩)
    (fun H' p => by
      have p3 := p.2.2
      rw [List.length_map, List.take_length, filter_yes] at p3
      exact q Dl H' (fresh_back e1 p.1) (e1.trans p.2.1) p3)⟩

/-! ### subscripts, slices, == of lists of ints -/
theorem ev_ixL {xs : List V} {i : Int} (ha : EvP ta s H (IsL xs)) (hb : Ev tb s H (.int i)) (hv : atI xs i = some v) : Ev (tOp (rIxL K) ta tb) s H v :=
  ev_opP ha hb.p fun a b H1 _ ⟨p, pa, hp⟩ pb => by
    subst pa; cases pb
    exact rv_ixL (sq_of hp) hv
theorem ev_ixU {xs : List V} {i : Int} (ha : EvP ta s H (IsU xs)) (hb : Ev tb s H (.int i)) (hv : atI xs i = some v) : Ev (tOp (rIxT K) ta tb) s H v :=
  ev_opP ha hb.p fun a b H1 _ ⟨p, pa, hp⟩ pb => by
    subst pa; cases pb
    exact rv_ixT (st_of hp) hv
/-- for x, y in zip(xs, ys) -/
theorem w_forZip {a b : Addr} {xs ys : List V} {j1 j2 : Nat} (ha : Ev ta s H (.ref a)) (hb : Ev tb s H (.ref b)) (hx : SqL K H a xs) (hy : SqL K H b ys) (hl : xs.length = ys.length) (Pv : Nat → L2.St → Hp → Prop) (h0 : ∀ H1, Ex H H1 → Pv 0 s H1) (hq : ∀ i s' H', Pv i s' H' → Ex H H')
    (hs : ∀ i x y s' H', xs[i]? = some x → ys[i]? = some y → Pv i s' H' → Sv tu { D with nx := Pv (i + 1), ct := Pv (i + 1), bk := tz D } ((s'.set j1 (some x)).set j2 (some y)) H') (hd : ∀ s' H', Pv xs.length s' H' → Sv tz D s' H') :
    Sv (tSeq (tFor (iZip K (tCons ta (tCons tb tNil))) (gTup K 2 (gCons (gName j1) (gCons (gName j2) gNil))) tu) tz) D s H := fun H1 e1 =>
  ha H1 e1 _ fun H2 e2 => hb H2 (e1.trans e2) _ fun H3 e3 => ⟨a, b, xs, ys, rfl, ex_l ((e1.trans e2).trans e3) hx, ex_l ((e1.trans e2).trans e3) hy,
    RZ.for_zipL (D := { D with nx := tz D }) hl Pv (h0 H3 ((e1.trans e2).trans e3)) (fun i s' H' p => ⟨ex_l (hq i s' H' p) hx, ex_l (hq i s' H' p) hy⟩) (fun i x y T s' H' h1 h2 p hT =>
      ⟨T, [x, y], rfl, st_of upd_same, rfl, x, [y], rfl, y, [], rfl, rfl, hs i x y s' H' h1 h2 p _ (Ex.new hT)⟩) (fun s' H' p => (hd s' H' p).go)⟩
theorem el_cat {xs ys : List V} (ha : EvP ta s H (IsL xs)) (hb : EvP tb s H (IsL ys)) (hz : xs.length + ys.length ≤ 100000) : EvL (tOp rCat ta tb) s H (xs ++ ys) := fun H1 e Q q =>
  ha H1 e _ fun a H2 e2 ⟨p, pa, hp⟩ => hb H2 (e.trans e2) _ fun b H3 e3 ⟨p2, pb, hp2⟩ => ⟨p, p2, xs, ys, pa, pb, e3 _ _ hp, hp2, sz_of hz, fun l hl => q l _ (fresh_back (e2.trans e3) hl) ((e2.trans e3).trans (Ex.new hl)) upd_same⟩
theorem el_rep {xs : List V} {k : Int} (ha : EvP ta s H (IsL xs)) (hb : Ev tb s H (.int k)) (h0 : 0 ≤ k) (h1 : k ≤ 100000) (hz : xs.length * k.toNat ≤ 100000) : EvL (tOp rRep ta tb) s H (List.replicate k.toNat xs).flatten := fun H1 e Q q =>
  ha H1 e _ fun a H2 e2 ⟨p, pa, hp⟩ => hb H2 (e.trans e2) _ fun H3 e3 => ⟨p, k, xs, pa, rfl, e3 _ _ hp, by omega, by omega, sz_of hz, fun l hl => q l _ (fresh_back (e2.trans e3) hl) ((e2.trans e3).trans (Ex.new hl)) upd_same⟩
/-- xs.index(y), y in the list of ints xs -/
theorem ev_index {ns : List Int} {j : Nat} {m : Int} {p : Addr} (ha : Ev ta s H (.ref p)) (hp : H p = some (.lst (ns.map V.int))) (hb : Ev tb s H (.int m)) (hj : ns[j]? = some m) (hf : ∀ (k : Nat) (z : Int), k < j → ns[k]? = some z → z ≠ m) :
    Ev (tBM K "list" (rIndex K) ta (tCons tb tNil)) s H (.int (j : Int)) := fun H1 e Q q =>
  ha H1 e _ fun H2 e2 => ⟨Or.inl ⟨rfl, _, sq_of ((e.trans e2) _ _ hp)⟩, hb H2 (e.trans e2) _ fun H3 e3 => ⟨p, ns.map V.int, .int m, j, .int m, rfl, rfl, sq_of (((e.trans e2).trans e3) _ _ hp), rfl, by simp [List.all_eq_true, flatV], by rw [List.getElem?_map, hj]; rfl, by simp [eqV], fun k z' hk hz => by
    rw [List.getElem?_map] at hz
    cases h : ns[k]? with
    | none => rw [h] at hz; cases hz
    | some z =>
      rw [h] at hz
      obtain rfl : V.int z = z' := Option.some.inj hz
      simpa [eqV] using hf k z hk h, q H3 (e2.trans e3)⟩⟩

/-! data -/
mutual
theorem dp_mono (e : Ex H H') : ∀ (d : PyData) (v : V), Dp K H v d → Dp K H' v d
  | .none, _, h => by cases h; exact .non
  | .bool b, _, h => by cases h; exact .bl b
  | .int i, _, h => by cases h; exact .int i
  | .str x, _, h => by cases h; exact .str x
  | .list ds, _, h => by
    cases h with
    | lst hs ha => exact .lst (ex_l e hs) (dpa_mono e ds _ ha)
  | .tuple ds, _, h => by
    cases h with
    | tup hs ha => exact .tup (ex_t e hs) (dpa_mono e ds _ ha)
  | .dict _, _, h => by cases h
theorem dpa_mono (e : Ex H H') : ∀ (ds : List PyData) (vs : List V), DpAll K H vs ds → DpAll K H' vs ds
  | [], _, h => by cases h; exact .nil
  | d :: ds, _, h => by
    cases h with
    | cons h1 h2 => exact .cons (dp_mono e d _ h1) (dpa_mono e ds _ h2)
end
def IsD (K : PySem.W.Frag) (d : PyData) : V → Hp → Prop := fun x H => Dp K H x d
instance {d : PyData} : MonoP (IsD K d) := ⟨fun e h => dp_mono e d _ h⟩
theorem ints_dp : ∀ ns : List Int, DpAll K H (ns.map V.int) (ns.map PyData.int)
  | [] => .nil
  | n :: r => .cons (.int n) (ints_dp r)
/-- a list of ints, as data -/
def dI (ns : List Int) : PyData := .list (ns.map PyData.int)
theorem isL_d {ns : List Int} : IsL (ns.map V.int) x H → IsD K (dI ns) x H := fun ⟨p, e, hp⟩ => by
  subst e
  exact .lst (sq_of hp) (ints_dp ns)
theorem evp_d {ns : List Int} (h : EvP te s H (IsL (ns.map V.int))) : EvP te s H (IsD K (dI ns)) := h.imp fun _ _ _ p => isL_d p
theorem dI_lay0 : ∀ ns : List Int, PyData.canLayAll0 (ns.map PyData.int) = true
  | [] => by simp [PyData.canLayAll0]
  | n :: r => by simp [PyData.canLayAll0, PyData.canLay0, dI_lay0 r]
theorem dI_depth : ∀ ns : List Int, PyData.depthAll (ns.map PyData.int) = 0
  | [] => by simp [PyData.depthAll]
  | n :: r => by simp [PyData.depthAll, PyData.depth, dI_depth r]
theorem dI_shaped (ns : List Int) : SeqAt.shaped (dI ns) = true := by
  simp [SeqAt.shaped, dI, PyData.canLay0, PyData.depth, dI_lay0, dI_depth]
theorem dI_eqvAll : ∀ a b : List Int, PyData.eqvAll (a.map PyData.int) (b.map PyData.int) = decide (a = b)
  | [], [] => by simp [PyData.eqvAll]
  | [], y :: b => by simp [PyData.eqvAll]
  | x :: a, [] => by simp [PyData.eqvAll]
  | x :: a, y :: b => by
    show PyData.eqvAll (.int x :: a.map PyData.int) (.int y :: b.map PyData.int) = _
    rw [PyData.eqvAll, dI_eqvAll a b, PyData.eqv]
    by_cases h : x = y <;> simp [h]
theorem dI_eqv (a b : List Int) : PyData.eqv (dI a) (dI b) = decide (a = b) := by
  show PyData.eqv (.list _) (.list _) = _
  rw [PyData.eqv, dI_eqvAll]
theorem ev_eqD {d e : PyData} (ha : EvP ta s H (IsD K d)) (hb : EvP tb s H (IsD K e)) (h1 : SeqAt.shaped d = true) (h2 : SeqAt.shaped e = true) : Ev (tOp (rEqD K) ta tb) s H (.bl (PyData.eqv d e)) :=
  ev_opP ha hb fun a b H1 _ pa pb H2 e2 Q q => ⟨d, e, dp_mono e2 d _ pa, dp_mono e2 e _ pb, h1, h2, q H2 (Ex.refl H2)⟩
theorem ev_neD {d e : PyData} (ha : EvP ta s H (IsD K d)) (hb : EvP tb s H (IsD K e)) (h1 : SeqAt.shaped d = true) (h2 : SeqAt.shaped e = true) : Ev (tOp (rNeD K) ta tb) s H (.bl (!PyData.eqv d e)) :=
  ev_opP ha hb fun a b H1 _ pa pb H2 e2 Q q => ⟨d, e, dp_mono e2 d _ pa, dp_mono e2 e _ pb, h1, h2, q H2 (Ex.refl H2)⟩
theorem ev_eqL {a b : List Int} (ha : EvP ta s H (IsL (a.map V.int))) (hb : EvP tb s H (IsL (b.map V.int))) : Ev (tOp (rEqD K) ta tb) s H (.bl (decide (a = b))) := by
  rw [← dI_eqv]
  exact ev_eqD (evp_d ha) (evp_d hb) (dI_shaped a) (dI_shaped b)
theorem ev_neL {a b : List Int} (ha : EvP ta s H (IsL (a.map V.int))) (hb : EvP tb s H (IsL (b.map V.int))) : Ev (tOp (rNeD K) ta tb) s H (.bl (!decide (a = b))) := by
  rw [← dI_eqv]
  exact ev_neD (evp_d ha) (evp_d hb) (dI_shaped a) (dI_shaped b)

/-! slices, +, reversal -/
theorem el_sliceL {tl th : TO} {xs : List V} {lo hi : Option Int} (h : EvP te s H (IsL xs)) (h1 : EvO tl s H lo) (h2 : EvO th s H hi) : EvL (tSl (rSlL K) te tl th) s H (cutV xs lo hi) := fun H1 e Q q =>
  h H1 e _ fun v H2 e2 ⟨a, ev, hp⟩ => h1 H2 (e.trans e2) _ fun H3 e3 => h2 H3 ((e.trans e2).trans e3) _ fun H4 e4 =>
    ⟨a, xs, ev, sq_of (e4 _ _ (e3 _ _ hp)), fun p hp => q p _ (fresh_back ((e2.trans e3).trans e4) hp) (((e2.trans e3).trans e4).trans (Ex.new hp)) upd_same⟩
theorem el_revL {xs : List V} (h : EvP te s H (IsL xs)) : EvL (tRevL K te) s H xs.reverse := fun H1 e Q q =>
  h H1 e _ fun v H2 e2 ⟨a, ev, hp⟩ => ⟨a, xs, ev, sq_of hp, fun p hp => q p _ (fresh_back e2 hp) (e2.trans (Ex.new hp)) upd_same⟩
theorem cut_to {xs : List V} {k : Nat} : cutV xs none (some (k : Int)) = xs.take k := by
  unfold cutV
  rw [HT.sIx_nat, HT.sIx_none, List.drop_zero, Nat.sub_zero]
  by_cases h : k ≤ xs.length
  · rw [Nat.min_eq_left h]
  · rw [Nat.min_eq_right (by omega), List.take_length, List.take_of_length_le (by omega)]
theorem cut_from {xs : List V} {k : Nat} : cutV xs (some (k : Int)) none = xs.drop k := by
  unfold cutV
  rw [HT.sIx_nat, HT.sIx_none]
  by_cases h : k ≤ xs.length
  · rw [Nat.min_eq_left h, List.take_of_length_le (by rw [List.length_drop]; omega)]
  · rw [Nat.min_eq_right (by omega), List.drop_length, List.drop_of_length_le (by omega), List.take_nil]
theorem ev_var' {i : Nat} {p : Addr} {xs : List V} (h : s[i]? = some (some (.ref p))) (hp : H p = some (.lst xs)) : EvP (tVar i) s H (IsL xs) := fun H1 e _ q => ⟨_, h, q _ H1 (Ex.refl H1) ⟨p, rfl, e _ _ hp⟩⟩
theorem ev_varU {i : Nat} {p : Addr} {xs : List V} (h : s[i]? = some (some (.ref p))) (hp : H p = some (.tup xs)) : EvP (tVar i) s H (IsU xs) := fun H1 e _ q => ⟨_, h, q _ H1 (Ex.refl H1) ⟨p, rfl, e _ _ hp⟩⟩
end
/-! ### defs -/
section
variable {P : Program} {w : World} {K : PySem.W.Frag} {mg : Str → Option Value} {base : Heap}
/-- a def of the text as the top leaves it -/
def Raw (K : PySem.W.Frag) (mg : Str → Option Value) (x : Str) (st : Stmt) (ps : List Str) : Prop := ∃ f fd, Fun K x x st f fd ∧ mg x = some (.ref f) ∧ Binds K fd ps []
/-- a def with its promise -/
def Def (P : Program) (w : World) (K : PySem.W.Frag) (mg : Str → Option Value) (base : Heap) (CX : CXT) (k : Nat) (x : Str) (ps : List Str) (sp : Sp) : Prop :=
  ∃ f fd, FnOk P w K mg base CX k f fd ps sp ∧ mg x = some (.ref f) ∧ PySem.W.keepIn K (.ref f) = true ∧ Binds K fd ps []
theorem Raw.ok {x : Str} {st : Stmt} {ps : List Str} {CX : CXT} {k : Nat} {sp : Sp} (r : Raw K mg x st ps) (h : ∀ f fd, Fun K x x st f fd → FnOk P w K mg base CX k f fd ps sp) : Def P w K mg base CX k x ps sp := by
  obtain ⟨f, fd, F, g, b⟩ := r
  exact ⟨f, fd, h f fd F, g, F.kp, b⟩
end
section
variable {X : Cx} {CX : CXT} {k j : Nat} {x : Str} {ps : List Str} {sp : Sp} {E : XK} {p pos : Pos} {e : Expr} {es : List Expr} {t : TA}
/-- the rule of a call, the def's address hidden -/
theorem pe_def (d : Def X.prog X.w X.K X.mg X.base CX k x ps sp) (hr : Room j X.A) (hk : k ≤ j) (hg : Gl X x) (hx : Passes CX X E) (ha : PA X (e :: es) t) (hdb : (x == ("__debug__" : Str)) = false := by decide)
    (he : starEach (e :: es) X.env = (false, eval e X.env) :: starEach es X.env := by rfl) (hpl : (backTo pos (starEach es X.env)).any (·.1) = false := by rfl) :
    PE X (.Call (.Name x p) (e :: es) [] pos) (tCall sp [] E t) := by
  refine ⟨fun pins s σ H Q I h => ?_⟩
  obtain ⟨f, fd, F, g, kp, b⟩ := d
  exact (pe_call F (hr.mono hk) hg g kp b .nil hx ha hdb he hpl).run pins s σ H Q I h
theorem pe_def0 (d : Def X.prog X.w X.K X.mg X.base CX k x ps sp) (hr : Room j X.A) (hk : k ≤ j) (hg : Gl X x) (hx : Passes CX X E) (hdb : (x == ("__debug__" : Str)) = false := by decide) :
    PE X (.Call (.Name x p) [] [] pos) (tCall sp [] E tNil) := by
  refine ⟨fun pins s σ H Q I h => ?_⟩
  obtain ⟨f, fd, F, g, kp, b⟩ := d
  exact (pe_call0 F (hr.mono hk) hg g kp b .nil hx hdb).run pins s σ H Q I h
end
end Wk

set_option Elab.async false
set_option linter.all false
set_option maxRecDepth 100000
set_option maxHeartbeats 4000000
/-! Sk: sorted(range(n), key=lambda place: row[place], reverse=True), a rule of our own. -/
namespace Sk
open PySem PySem.Spec PyProof.Rows L2 LamX
open PySem.W (EachIs AllAlike Sortable dataLe KeyPure KeepsBut)
section
variable {prog : Program} {w : World} {A : Around} {E : Value → Shared → Prop} {s : Shared}
/-- the ints 0 .. n - 1 -/
def ups (n : Nat) : List Int := (List.range n).map fun i : Nat => (i : Int)
theorem each_of_get {vs : List Value} {n : Nat} (hl : vs.length = n) (h : ∀ (j : Nat) (v : Value), vs[j]? = some v → ∃ t, v = .int (j : Int) t) : EachIs (fun v (i : Int) => ∃ t, v = .int i t) vs (ups n) := by
  have aux : ∀ (us : List Value) (k : Nat), (∀ (j : Nat) (v : Value), us[j]? = some v → ∃ t, v = .int ((k + j : Nat) : Int) t) → EachIs (fun v (i : Int) => ∃ t, v = .int i t) us ((List.range us.length).map fun i : Nat => ((k + i : Nat) : Int)) := by
    intro us
    induction us with
    | nil => intro k _; exact .nil
    | cons u r ih =>
      intro k hk
      rw [List.length_cons, List.range_succ_eq_map, List.map_cons, List.map_map]
      refine .cons (hk 0 u rfl) ?_
      have h2 := ih (k + 1) fun j v hj => by
        have := hk (j + 1) v (by simpa using hj)
        rw [show k + 1 + j = k + (j + 1) by omega]
        exact this
      have e : (List.range r.length).map ((fun i : Nat => ((k + i : Nat) : Int)) ∘ Nat.succ) = (List.range r.length).map fun i : Nat => ((k + 1 + i : Nat) : Int) := by
        refine List.map_congr_left fun i _ => ?_
        show ((k + (i + 1) : Nat) : Int) = ((k + 1 + i : Nat) : Int)
        congr 1
        omega
      rw [e]
      exact h2
  have h0 := aux vs 0 fun j v hj => by
    rw [Nat.zero_add]
    exact h j v hj
  rw [hl] at h0
  simpa [ups] using h0
theorem sorted_range_key {r : Addr} {n : Nat} {t u v : Tok} {f : Value} {kw : List (Str × Value)} {b : Bool} {Q : Value → Shared → Prop} (key : Int → Int) (hh : A.handled = none) (hr : IsRange s.heap r 0 (n : Int) 1 t u v) (hn : n ≤ 100000) (hu : A.units + 64 < cLine)
    (ha1 : argsOk "sorted" ⟨[.ref r], kw⟩) (ha2 : ∀ x, argsOk "list.sort" ⟨[.ref x], kw⟩) (ht : ∀ x, Builtin.«list.sort» ⟨[.ref x], kw⟩ = ksk_tree x f b)
    (turn : ∀ (v : Value) (i : Int), (∃ t, v = .int i t) → i ∈ ups n → ∀ (h : Heap) (tk : Nat), (∀ b o, s.heap.get? b = some o → h.get? b = some o) →
      wpAny (model prog w) A.in1.in1 (call f [v]) (KeyPure (.int (key i)) { s with heap := h, toks := tk }) (fun _ _ => False) { s with heap := h, toks := tk })
    (h : ∀ (h1 : Heap) (out : List Value) (c : Nat) (h' : Heap) (tk : Nat), (∀ b o, s.heap.get? b = some o → h1.get? b = some o) → (∀ b o, h1.get? b = some o → h'.get? b = some o) → h'.get? h1.objs.size = some (seqObj "list" out.toArray c) →
      EachIs (fun v (i : Int) => ∃ t, v = .int i t) out ((ups n).mergeSort (dataLe b fun i => .int (key i))) → Q (.ref h1.objs.size) { s with heap := h', toks := tk }) :
    wpAny (model prog w) A (call (.builtin "sorted") [.ref r] kw) Q E s := by
  have hs : sizeLine = 16777216 := sizeLine_eq
  refine call_function_entry_kw kind_sorted plain_sorted entry_sorted ha1 ?_
  unfold Builtin.«sorted»
  refine wpAny_bind (m := checkCount "sorted" 1 1 _) (wpAny_pure ?_)
  refine wpAny_bind (L2.collect_range (A := A.in1) (n := n) hh hr (small_one (by omega) (by omega) (by omega) (by omega)) (by rw [rangeSize_nat]; congr 1) (by omega) fun h1 tk acc k1 hi => ?_)
  have hlen : acc.toList.length = n := by rw [Array.length_toList]; exact hi.1
  refine wpAny_bind (wpAny_newList ?_ (by rw [hlen]; omega))
  have each := each_of_get (vs := acc.toList) hlen fun j v hj => by
    obtain ⟨t, e⟩ := hi.2 j v (by rw [← hj, Array.getElem?_toList])
    refine ⟨t, ?_⟩
    rw [e]
    congr 1
    omega
  have upk : ∀ {g : Heap}, KeepsBut h1.objs.size (h1.push (seqObj "list" acc.toList.toArray 0)) g → ∀ b o, h1.get? b = some o → g.get? b = some o := fun {g} kp b o q =>
    kp b o (Nat.ne_of_lt (Heap.lt_size q)) (Heap.get?_push_of_some _ q)
  refine wpAny_bind (wpAny_holding ?_)
  show wpAny (model prog w) A.in1 (call (.builtin "list.sort") [.ref h1.objs.size] kw) _ _ { s with heap := h1.push (seqObj "list" acc.toList.toArray 0), toks := tk }
  refine PySem.W.list_sort_key_data (s := { s with heap := h1.push (seqObj "list" acc.toList.toArray 0), toks := tk }) (f := f) (b := b) (fun i : Int => PyData.int (key i)) (Heap.get?_push_size _ rfl) each ?_ ?_ ?_ ?_ (ha2 _) (ht _) (fun v i hv hi h tk kp => turn v i hv hi h tk (fun b o e => upk kp b o (k1 b o e))) fun out c h' tk' kp hD _ eo => ?_
  · intro d hd d' hd'
    obtain ⟨x, _, rfl⟩ := List.mem_map.mp hd
    obtain ⟨y, _, rfl⟩ := List.mem_map.mp hd'
    rfl
  · refine .inr fun d hd => ?_
    obtain ⟨x, _, rfl⟩ := List.mem_map.mp hd
    exact ⟨(fun z => by cases z), (fun xs z => by cases z)⟩
  · simp [ups]; omega
  · intro x _
    show A.units + 1 + 1 + 0 < cLine
    omega
  · exact wpAny_pure ⟨_, rfl, h h1 out c h' tk' k1 (upk kp) hD eo⟩
end
/-- the reading of sorted(range(e), key=lambda y: x[y], reverse=True), x in slot i -/
def tSortLam (K : PySem.W.Frag) (T : List (Addr × Str)) (i : Nat) (te : TE) : TE := fun σ H Q => te σ H fun x H1 => ∃ (n : Nat) (pr : Addr) (ns : List Int), x = .int (n : Int) ∧ n ≤ 100000 ∧ σ[i]? = some (some (.ref pr)) ∧ SqL K H1 pr (ns.map V.int) ∧ n ≤ ns.length ∧ Tabs T H1 ∧
  ∀ H2, ExtN H1 H2 → Tabs T H2 → SqL K H2 pr (ns.map V.int) → ∀ p, H2 p = none → Q (.ref p) (upd H2 p (.lst (((ups n).mergeSort fun a b => decide (ns.getD b.toNat 0 ≤ ns.getD a.toNat 0)).map V.int)))
theorem sqL_extN {K : PySem.W.Frag} {H H' : Hp} {a : Addr} {xs : List V} (e : ExtN H H') (h : SqL K H a xs) : SqL K H' a xs := by
  rcases h with (h | ⟨o, h⟩) | h
  · exact .inl (.inl (e _ _ h fun ps z => by cases z))
  · exact .inl (.inr ⟨o, e _ _ h fun ps z => by cases z⟩)
  · exact .inr h
theorem vals_ints_each : ∀ {out : List Value} {zs : List Int}, EachIs (fun v (i : Int) => ∃ t, v = .int i t) out zs → Vals (zs.map V.int) out
  | _, _, .nil => .nil
  | _, _, .cons h t => .cons h (vals_ints_each t)
section
variable {X : Cx}
theorem pe_sortLam {T : List (Addr × Str)} {c P : Addr} {k i : Nat} {a : Expr} {ta : TE} {x y : Str} {params : Arguments} {scope : Scope} {p p' p'' p1 p2 p3 p4 lpos kp kp2 pos : Pos} {kc : Nat} (hc : X.calm = true) (hgs : Gl X "sorted") (hms : X.mg "sorted" = none) (hgr : Gl X "range") (hmr : X.mg "range" = none) (ha : PE X a ta)
    (TB : TabB X.base X.mg c P) (hcode : X.env.code = .ref c) (hmT : (P, X.env.qual ++ "<lambda>") ∈ T) (hu : ∀ q ∈ T, q.1 = P → q.2 = X.env.qual ++ "<lambda>") (hr : Room (k + 2) X.A)
    (hx : X.N[i]? = some x) (hxc : X.env.scope.names.lookup x = some .cell) (hdef : defaultsOf params X.env = ([], []))
    (hk : scope.kind = .function) (hco : scope.isCoroutine = false) (hgen : scope.isGenerator = false) (hy : scope.names.lookup y = some .local) (hxf : scope.names.lookup x = some .free) (hnc : ∀ z ∈ scope.names, z.2 ≠ .cell) (hfree : ∀ z ∈ scope.names, z.2 = .free → z.1 = x)
    (hclo : ∀ cells : List (Str × Addr), (cloFrom cells scope.names []).lookup x = some ((cells.lookup x).getD 0))
    (hbind : ∀ (q : Str) (cl : List (Str × Addr)) (pm cv ctv v : Value), bindArgs (PySem.W.kla_fn "<lambda>" q params (.Subscript (.Name x p1) (.Name y p2) p3) scope cl pm cv ctv) ⟨[v], []⟩ = pure [(y, v)])
    (hdx : (x == ("__debug__" : Str)) = false := by decide) (hdy : (y == ("__debug__" : Str)) = false := by decide) (hdc : (x == ("__classdict__" : Str)) = false := by decide) (na : starEach [a] X.env = (false, eval a X.env) :: starEach [] X.env := by rfl)
    (he : backTo pos (starEach [.Call (.Name "range" p') [a] [] p''] X.env) = (false, eval (.Call (.Name "range" p') [a] [] p'') X.env) :: backTo pos (starEach [] X.env) := by rfl) (hpl : (backTo pos (starEach [.Call (.Name "range" p') [a] [] p''] X.env)).any (·.1) = false := by rfl)
    (hall : (backToKw pos (keywordEach [⟨some "key", .Lambda params (.Subscript (.Name x p1) (.Name y p2) p3) scope lpos, kp⟩, ⟨some "reverse", .Constant (.bool true) kc p4, kp2⟩] X.env)).all (·.1.isSome) = true := by rfl)
    (hnone : (backToKw pos (keywordEach [⟨some "key", .Lambda params (.Subscript (.Name x p1) (.Name y p2) p3) scope lpos, kp⟩, ⟨some "reverse", .Constant (.bool true) kc p4, kp2⟩] X.env)).any (·.1.isNone) = false := by rfl)
    (hks : (backToKw pos (keywordEach [⟨some "key", .Lambda params (.Subscript (.Name x p1) (.Name y p2) p3) scope lpos, kp⟩, ⟨some "reverse", .Constant (.bool true) kc p4, kp2⟩] X.env)).filterMap (·.1) = [Str.ofString "key", Str.ofString "reverse"] := by rfl) :
    PE X (.Call (.Name "sorted" p) [.Call (.Name "range" p') [a] [] p''] [⟨some "key", .Lambda params (.Subscript (.Name x p1) (.Name y p2) p3) scope lpos, kp⟩, ⟨some "reverse", .Constant (.bool true) kc p4, kp2⟩] pos) (tSortLam X.K T i ta) := by
  refine ⟨fun pins s σ H Q I h => ?_⟩
  have hhd : X.A.handled = none := hr.hd
  refine wpAny_Call_Name_kw (ld_blt (u := .builtin "sorted") I hgs hms (by decide +kernel) ?_ (by decide) (by decide))
  refine PyProof.Rows.callWith_kw ?_ he hpl hall hnone
  show wpAny _ _ (spliced ((false, eval (.Call (.Name "range" p') [a] [] p'') X.env) :: backTo pos (starEach [] X.env))) _ _ s
  refine Calls.spliced_cons (Call_ (ld_blt I hgr hmr boot_range (PyProof.Rows.callWith_type1 (one_arg ha I h (fun v s1 z H1 I1 r1 q1 => ?_) na) na)))
  obtain ⟨n, pr, ns, ez, hn, hpr, hsq, hle, hT, q⟩ := q1
  subst ez
  obtain ⟨tn, rfl⟩ := r1
  refine call_range_1 (Calls.spliced_nil ?_)
  -- the range object is pinned
  have I2 : Inv X pins σ H1 { s1 with heap := s1.heap.push { cls := .type "range", data := .fields #[.int 0 s1.toks, .int (n : Int) tn, .int 1 (s1.toks + 1)] }, toks := s1.toks + 1 + 1 } := I1.kept fun b o e => Heap.get?_push_of_some _ e
  have I3 : Inv X ((s1.heap.objs.size, { cls := .type "range", data := .fields #[.int 0 s1.toks, .int (n : Int) tn, .int 1 (s1.toks + 1)] }) :: pins) σ H1 { s1 with heap := s1.heap.push { cls := .type "range", data := .fields #[.int 0 s1.toks, .int (n : Int) tn, .int 1 (s1.toks + 1)] }, toks := s1.toks + 1 + 1 } :=
    I2.pins_of fun e he => by
      rcases List.mem_cons.mp he with rfl | he
      · exact ⟨Heap.get?_push_size _ rfl, I1.hok.fresh (Nat.le_refl _), Nat.ne_of_gt I1.lt, I1.nofs (Nat.le_refl _), fun v z => by cases z⟩
      · exact I2.pin e (List.mem_append_right _ he)
  show wpAny _ _ (evalAll ((do let v ← eval (.Lambda params (.Subscript (.Name x p1) (.Name y p2) p3) scope lpos) X.env; standAt pos; pure v) :: (do let v ← eval (.Constant (.bool true) kc p4) X.env; standAt pos; pure v) :: [])) _ _ _
  refine wpAny_evalAll_cons (wpAny_bind (lam_make2 I3 TB hcode hmT hu hT hdef (fun z hz e => ?_) fun f c' pm ctv H4 s4 I4 eN T4 hf hfn hfr hco' => wpAny_bind (wpAny_standAt (wpAny_pure ?_))))
  · have e2 := hfree z hz e
    rw [e2]
    exact I.ok.has x (.inl hxc)
  refine wpAny_evalAll_cons (wpAny_bind (Constant_bool (wpAny_bind (wpAny_standAt (wpAny_pure (wpAny_evalAll_nil ?_))))))
  rw [hks]
  have hrg : IsRange s4.heap s1.heap.objs.size 0 (n : Int) 1 s1.toks tn (s1.toks + 1) := (I4.pin _ (List.mem_append_right _ List.mem_cons_self)).1
  have hsq4 := sqL_extN eN hsq
  obtain ⟨its, rv, pl, hz⟩ := I4.list hsq4
  obtain ⟨m4, hn4, hl4⟩ := I4.loc
  obtain ⟨u, ru, lk⟩ := hl4 i x (.ref pr) hx hpr (.inr (.inl hxc))
  obtain rfl : u = Value.ref pr := ru
  obtain ⟨oc, vs, tq, hoc, hdc', hvc⟩ := (I4.hok c' _ hco').1
  have hil : its.length = ns.length := by
    have := rv.length
    rw [List.length_map] at this
    exact this.symm
  refine sorted_range_key (b := true) (fun j => ns.getD j.toNat 0) hhd hrg hn hr.units (ksk_s2 _ _ _) (fun _ => ksk_l2 _ _ _) (fun _ => ksk_t2 _ _ _) (fun v j hv hj h' tk k => ?_) fun h1 out c2 h' tk k1 k2 hD eo => ?_
  · -- the lambda at a place
    obtain ⟨t, rfl⟩ := hv
    obtain ⟨jn, hjn, rfl⟩ := List.mem_map.mp hj
    have hj2 : jn < n := List.mem_range.mp hjn
    refine wpAny_call (PySem.W.kla_callFunE hr.depth (k _ _ hf) rfl hco hgen rfl ⟨c', oc, vs, tq, rfl, k _ _ hoc, hdc', hvc⟩ ?_)
    rw [hbind]
    refine wpAny_pure (wpAny_newFunctionEnv hnc (fun z hz => ?_) (fun h2 hns hsb => ⟨(I4.nolimit.keeps k).fresh _ hsb, ?_⟩) hk)
    · have : z = (y, Value.int (jn : Int) t) := by simpa using hz
      rw [this]
      exact hy
    have kp : ∀ b o, h'.get? b = some o → h2.get? b = some o := fun b o e => hsb.extBut b o (Nat.ne_of_lt (Heap.lt_size e)) (Heap.get?_push_of_some _ e)
    refine PySem.W.kla_codeExpr (Subscript_ (wpAny_Name ?_ hdx))
    have hcell : ∃ cc, X.env.cells.lookup x = some cc ∧ s4.heap.IsCell cc (some (.ref pr)) := by
      rcases lk with ⟨kk, _⟩ | ⟨_, cc, e1, e2⟩
      · have kk : X.env.scope.names.lookup x = some .local := kk
        rw [hxc] at kk
        cases kk
      · exact ⟨cc, e1, e2⟩
    obtain ⟨cc, hcc, ⟨ocell, hoc1, hoc2⟩⟩ := hcell
    refine wpAny_loadName_free hk hxf (by show (cloFrom X.env.cells scope.names []).lookup x = some cc; rw [hclo, hcc]; rfl) ⟨ocell, kp _ _ (k _ _ hoc1), hoc2⟩ ?_ hdc
    refine wpAny_Name (wpAny_loadName_local hk hy hns (v := .int (jn : Int) t) (by simp [List.lookup]) ?_) hdy
    have hjl : jn < ns.length := by omega
    obtain ⟨w', hw', rw'⟩ := rv.get (i := jn) (x := .int ns[jn]) (by rw [List.getElem?_map, List.getElem?_eq_getElem hjl]; rfl)
    obtain ⟨t2, rfl⟩ := rw'
    have hlist : h2.IsList pr its.toArray := by
      obtain ⟨ol, hol, r1⟩ := pl.isList
      exact ⟨ol, kp _ _ (k _ _ hol), r1⟩
    refine item_listR hlist (by omega) (by omega) (by rw [Int.toNat_natCast]; simpa using hw') ⟨h2, _, rfl, kp, ?_⟩ (by rfl)
    rw [Int.toNat_natCast, List.getD_eq_getElem?_getD, List.getElem?_eq_getElem hjl]
    exact Reads.int _ _
  · have eo' : EachIs (fun v (i : Int) => ∃ t, v = .int i t) out ((ups n).mergeSort fun a b => decide (ns.getD b.toNat 0 ≤ ns.getD a.toNat 0)) := by
      rw [PySem.W.dataGe_int] at eo
      exact eo
    have I5 : Inv X ((s1.heap.objs.size, { cls := .type "range", data := .fields #[.int 0 s1.toks, .int (n : Int) tn, .int 1 (s1.toks + 1)] }) :: pins) σ H4 { s4 with heap := h1, toks := tk } := I4.kept k1
    have hfr5 : H4 h1.objs.size = none := I5.hok.fresh (Nat.le_refl _)
    have hlen : (((ups n).mergeSort fun a b => decide (ns.getD b.toNat 0 ≤ ns.getD a.toNat 0)).map V.int).length ≤ sizeLine := by
      rw [List.length_map, List.length_mergeSort, ups, List.length_map, List.length_range]
      exact Nat.le_trans hn (by decide)
    have I6 := I5.laid (h' := h') (t' := tk) (a := h1.objs.size) (o := .lst (((ups n).mergeSort fun a b => decide (ns.getD b.toNat 0 ≤ ns.getD a.toNat 0)).map V.int)) k2 (Nat.le_refl _) ⟨hlen, out, c2, vals_ints_each eo', hD⟩
    exact ⟨.ref h1.objs.size, _, I6.pins_of fun e he => I6.pin e (List.mem_append_right _ (List.mem_cons_of_mem _ he)), rfl, q H4 eN T4 hsq4 _ hfr5⟩
end
end Sk

set_option Elab.async false
set_option linter.all false
set_option maxRecDepth 100000
set_option maxHeartbeats 4000000
/-! Gk: what is kept where lambdas may be made (ExT), lists of tuples (TupsAt), further rules of our own. -/
namespace Wk
open PySem PySem.Spec PyProof.Rows L2 Evl LamX Sk

/-! ### heaps behind a lambda -/
structure ExT (T : List (Addr × Str)) (H H' : Hp) : Prop where
  nt : ExtN H H'
  tab : Tabs T H → Tabs T H'
/-- nothing of H but a table stands at p -/
def Nf (H : Hp) (p : Addr) : Prop := ∀ o, H p = some o → ∃ ps, o = .tbl ps
theorem nf_none {H : Hp} {p : Addr} (h : H p = none) : Nf H p := fun o e => by rw [h] at e; cases e
section
variable {T : List (Addr × Str)} {G H H' H2 : Hp} {a p l : Addr} {xs : List V} {o : HO}
theorem ExT.refl (H : Hp) : ExT T H H := ⟨ExtN.refl H, id⟩
theorem ExT.trans (a : ExT T G H) (b : ExT T H H2) : ExT T G H2 := ⟨a.nt.trans b.nt, fun t => b.tab (a.tab t)⟩
theorem ExT.of (e : Ex H H') : ExT T H H' := ⟨ExtN.of e, fun t => t.ext e⟩
theorem ExT.ex (a : ExT T G H) (e : Ex H H') : ExT T G H' := a.trans (.of e)
theorem ExT.lst (e : ExT T H H') (h : H a = some (.lst xs)) : H' a = some (.lst xs) := e.nt _ _ h fun ps z => by cases z
theorem ExT.tup (e : ExT T H H') (h : H a = some (.tup xs)) : H' a = some (.tup xs) := e.nt _ _ h fun ps z => by cases z
theorem ExT.ins {C dx : Addr} {fs : List (Str × V)} (e : ExT T H H') (h : H a = some (.ins C dx fs)) : H' a = some (.ins C dx fs) := e.nt _ _ h fun ps z => by cases z
theorem ExT.sq {K : PySem.W.Frag} (e : ExT T H H') (h : SqL K H a xs) : SqL K H' a xs := sqL_extN e.nt h
theorem ExT.nf (e : ExT T G H) (h : Nf H p) : Nf G p := fun o ho => Classical.byContradiction fun n => n (h o (e.nt _ _ ho fun ps z => n ⟨ps, z⟩))
theorem Ex.nf (e : Ex G H) (h : Nf H p) : Nf G p := (ExT.of (T := []) e).nf h
theorem nf_lst (h : H a = some (.lst xs)) (n : Nf H p) : a ≠ p := fun z => by
  rw [z] at h
  obtain ⟨ps, e⟩ := n _ h
  cases e
theorem nf_ins {C dx : Addr} {fs : List (Str × V)} (h : H a = some (.ins C dx fs)) (n : Nf H p) : a ≠ p := fun z => by
  rw [z] at h
  obtain ⟨ps, e⟩ := n _ h
  cases e
theorem tabs_put (t : Tabs T H) (hl : H l = some (.lst xs)) (p : Put l o H H') : Tabs T H' := fun q hq => by
  obtain ⟨ps, h1, h2, h3⟩ := t q hq
  have n1 : q.1 ≠ l := fun z => by rw [z, hl] at h1; cases h1
  refine ⟨ps, p.old _ _ n1 h1, h2, fun pos cv hc => ?_⟩
  obtain ⟨c, e, hc2⟩ := h3 pos cv hc
  have n2 : c ≠ l := fun z => by
    rw [z, hl] at hc2
    have z2 : HO.lst xs = CodeO l q.2 := Option.some.inj hc2
    unfold CodeO at z2
    cases z2
  exact ⟨c, e, p.old _ _ n2 hc2⟩
/-- a list changed in place that G did not know -/
theorem ExT.put (e : ExT T G H) (n : Nf G l) (hl : H l = some (.lst xs)) (p : Put l o H H') : ExT T G H' := ⟨fun b u hb hu => by
  refine p.old b u (fun z => ?_) (e.nt b u hb hu)
  rw [z] at hb
  obtain ⟨ps, z2⟩ := n _ hb
  exact hu ps z2, fun t => tabs_put (e.tab t) hl p⟩
end

/-! ### evaluations that may make a lambda -/
def EvPT (T : List (Addr × Str)) (te : TE) (s : L2.St) (H : Hp) (P : V → Hp → Prop) : Prop := ∀ H1, Ex H H1 → ∀ Q : VK, (∀ v H2, ExT T H1 H2 → P v H2 → Q v H2) → te s H1 Q
def EvTT (T : List (Addr × Str)) (t : TT) (s : L2.St) (H : Hp) (b : Bool) : Prop := ∀ H1, Ex H H1 → ∀ Q : Bool → Hp → Prop, (∀ H2, ExT T H1 H2 → Q b H2) → t s H1 Q
def EvAPT (T : List (Addr × Str)) (ta : TA) (s : L2.St) (H : Hp) (P : List V → Hp → Prop) : Prop := ∀ H1, Ex H H1 → ∀ Q : List V → Hp → Prop, (∀ v H2, ExT T H1 H2 → P v H2 → Q v H2) → ta s H1 Q
section
variable {K : PySem.W.Frag} {T : List (Addr × Str)} {s : L2.St} {H H' : Hp} {ta tb te tx tc : TE} {t u : TT} {x y z v : V} {P R : V → Hp → Prop} {D : Ends} {tu tw tz : TS}
theorem evpt_of (h : EvP te s H P) : EvPT T te s H P := fun H1 e Q q => h H1 e Q fun v H2 e2 p => q v H2 (.of e2) p
theorem evtt_of {b : Bool} (h : EvT t s H b) : EvTT T t s H b := fun H1 e Q q => h H1 e Q fun H2 e2 => q H2 (.of e2)
theorem w_asgT {i : Nat} (h : EvPT T te s H P) (k : ∀ v H1, ExT T H H1 → P v H1 → Sv tz D (s.set i (some v)) H1) : Sv (tSeq (tAsg te (gName i)) tz) D s H := fun H1 e1 =>
  h H1 e1 _ fun v H2 e2 p => k v H2 ((ExT.of e1).trans e2) p H2 (Ex.refl H2)
theorem w_retT (h : EvPT T te s H P) (k : ∀ v H1, ExT T H H1 → P v H1 → D.rt v H1) : Sv (tSeq (tRet te) tz) D s H := fun H1 e1 => h H1 e1 _ fun v H2 e2 p => k v H2 ((ExT.of e1).trans e2) p
theorem w_skipT (h : EvTT T t s H false) (k : ∀ H1, ExT T H H1 → Sv tz D s H1) : Sv (tSeq (tIfS t tu tNext) tz) D s H := fun H1 e1 => h H1 e1 _ fun H2 e2 => k H2 ((ExT.of e1).trans e2) H2 (Ex.refl H2)
theorem ett_or {a b : Bool} (h1 : EvTT T t s H a) (h2 : a = false → ∀ H1, ExT T H H1 → EvTT T u s H1 b) : EvTT T (tOr t u) s H (a || b) := fun H1 e Q q => h1 H1 e _ fun H2 e2 => by
  cases a with
  | true => exact q H2 e2
  | false => exact h2 rfl H2 ((ExT.of e).trans e2) H2 (Ex.refl H2) Q fun H3 e3 => q H3 (e2.trans e3)
theorem ett_not {a : Bool} (h1 : EvTT T t s H a) : EvTT T (tNot t) s H (!a) := fun H1 e _ q => h1 H1 e _ fun H2 e2 => q H2 e2
theorem ett_is {a b : Bool} (h : EvTT T t s H a) (e : a = b) : EvTT T t s H b := by
  rw [← e]
  exact h
theorem ett_B {b : Bool} (h : EvPT T te s H (Is (.bl b))) : EvTT T (tB te) s H b := fun H1 e _ q => h H1 e _ fun v H2 e2 p => by
  cases p
  exact ⟨b, rfl, q H2 e2⟩
theorem evpt_call {sp : Sp} {E : XK} {ta : TA} {P : List V → Hp → Prop} (h : EvAP ta s H P) (hs : ∀ vs H1, Ex H H1 → P vs H1 → ∀ Q : VK, (∀ v H2, ExT T H1 H2 → R v H2 → Q v H2) → sp vs H1 Q E) : EvPT T (tCall sp [] E ta) s H R := fun H1 e Q q =>
  h H1 e _ fun vs H2 e2 p => by
    rw [List.append_nil]
    exact hs vs H2 (e.trans e2) p Q fun v H3 e3 r => q v H3 ((ExT.of e2).trans e3) r
theorem evpt_callT {sp : Sp} {E : XK} {ta : TA} {P : List V → Hp → Prop} (h : EvAPT T ta s H P) (hs : ∀ vs H1, ExT T H H1 → P vs H1 → ∀ Q : VK, (∀ v H2, ExT T H1 H2 → R v H2 → Q v H2) → sp vs H1 Q E) : EvPT T (tCall sp [] E ta) s H R := fun H1 e Q q =>
  h H1 e _ fun vs H2 e2 p => by
    rw [List.append_nil]
    exact hs vs H2 ((ExT.of e).trans e2) p Q fun v H3 e3 r => q v H3 (e2.trans e3) r
theorem apt_last (h : EvPT T te s H P) : EvAPT T (tCons te tNil) s H (fun vs H => ∃ v, vs = [v] ∧ P v H) := fun H1 e Q q => h H1 e _ fun v H2 e2 p => q _ H2 e2 ⟨v, rfl, p⟩
theorem apt_cons {tr : TA} {R : List V → Hp → Prop} (h : Ev te s H x) (hr : EvAPT T tr s H R) : EvAPT T (tCons te tr) s H (fun vs H => ∃ r, vs = x :: r ∧ R r H) := fun H1 e Q q =>
  h H1 e _ fun H2 e2 => hr H2 (e.trans e2) _ fun vs H3 e3 p3 => q _ H3 ((ExT.of e2).trans e3) ⟨vs, rfl, p3⟩
/-- isinstance of something that a lambda was made for -/
theorem evpt_isi {t u : Value} {b : Bool} {c : V} (h : EvPT T te s H P) (hc : ∀ H1, ExT T H H1 → Ev tc s H1 c) (hv : ClsV c u) (ty : ∀ v H1, P v H1 → TyX K H1 v t) (hk : PySem.W.kitOne K t u = some b) : EvPT T (tCB (rIsi K) (tCons te (tCons tc tNil))) s H (Is (.bl b)) := fun H1 e Q q =>
  h H1 e _ fun v H2 e2 p => hc H2 ((ExT.of e).trans e2) H2 (Ex.refl H2) _ fun H3 e3 => ⟨v, c, t, u, b, rfl, hv, tyx_mono e3 (ty v H2 p), hk, q _ H3 (e2.trans (.of e3)) rfl⟩
theorem EvPT.imp (h : EvPT T te s H P) (k : ∀ v H1, ExT T H H1 → P v H1 → R v H1) : EvPT T te s H R := fun H1 e Q q => h H1 e Q fun v H2 e2 p => q v H2 e2 (k v H2 ((ExT.of e).trans e2) p)

/-- x = sorted(range(n), key=lambda y: x[y], reverse=True) -/
theorem w_sortLam {i j : Nat} {pr : Addr} {ns : List Int} (h : Ev te s H (.int (ns.length : Int))) (hs : s[i]? = some (some (.ref pr))) (hp : H pr = some (.lst (ns.map V.int))) (hz : ns.length ≤ 100000) (hT : Tabs T H)
    (k : ∀ p H1, ExT T H H1 → Nf H p → H1 p = some (.lst (((ups ns.length).mergeSort fun a b => decide (ns.getD b.toNat 0 ≤ ns.getD a.toNat 0)).map V.int)) → Sv tz D (s.set j (some (.ref p))) H1) :
    Sv (tSeq (tAsg (tSortLam K T i te) (gName j)) tz) D s H := fun H1 e1 =>
  h H1 e1 _ fun H2 e2 => ⟨ns.length, pr, ns, rfl, hz, hs, sq_of (e2 _ _ (e1 _ _ hp)), Nat.le_refl _, hT.ext (e1.trans e2), fun H3 eN T3 _ p hpn => by
    have e3 : ExT T H H3 := ((ExT.of (e1.trans e2)).trans ⟨eN, fun _ => T3⟩)
    exact k p _ (e3.ex (Ex.new hpn)) (e3.nf (nf_none hpn)) upd_same _ (Ex.refl _)⟩
end

/-! ### lists of tuples -/
def TupsAt (ts : List (List V)) (vs : List V) (H : Hp) : Prop := vs.length = ts.length ∧ ∀ (i : Nat) (t : List V), ts[i]? = some t → ∃ r : Addr, vs[i]? = some (V.ref r) ∧ H r = some (.tup t)
section
variable {T : List (Addr × Str)} {H H' : Hp} {ts us : List (List V)} {vs ws xs : List V} {l r : Addr} {t : List V} {o : HO}
theorem TupsAt.nil : TupsAt [] [] H := ⟨rfl, fun i t h => by simp at h⟩
theorem TupsAt.ext (h : TupsAt ts vs H) (e : ExtN H H') : TupsAt ts vs H' := ⟨h.1, fun i t ht => let ⟨r, a, b⟩ := h.2 i t ht; ⟨r, a, e _ _ b fun ps z => by cases z⟩⟩
theorem TupsAt.ex (h : TupsAt ts vs H) (e : Ex H H') : TupsAt ts vs H' := h.ext (ExtN.of e)
theorem TupsAt.put (h : TupsAt ts vs H) (hl : H l = some (.lst xs)) (p : Put l o H H') : TupsAt ts vs H' := ⟨h.1, fun i t ht => let ⟨r, a, b⟩ := h.2 i t ht; ⟨r, a, p.old _ _ (fun z => by rw [z, hl] at b; cases b) b⟩⟩
theorem TupsAt.app (h : TupsAt ts vs H) (g : TupsAt us ws H) : TupsAt (ts ++ us) (vs ++ ws) H := ⟨by rw [List.length_append, List.length_append, h.1, g.1], fun i t ht => by
  by_cases hi : i < ts.length
  · rw [List.getElem?_append_left hi] at ht
    rw [List.getElem?_append_left (by rw [h.1]; exact hi)]
    exact h.2 i t ht
  · rw [List.getElem?_append_right (by omega)] at ht
    rw [List.getElem?_append_right (by rw [h.1]; omega), h.1]
    exact g.2 _ t ht⟩
theorem TupsAt.one (h : H r = some (.tup t)) : TupsAt [t] [V.ref r] H := ⟨rfl, fun i t' ht => by
  cases i with
  | zero => cases ht; exact ⟨r, rfl, h⟩
  | succ i => simp at ht⟩
theorem TupsAt.snoc (h : TupsAt ts vs H) (hr : H r = some (.tup t)) : TupsAt (ts ++ [t]) (vs ++ [V.ref r]) H := h.app (.one hr)
theorem TupsAt.at (h : TupsAt ts vs H) {i : Nat} {x : V} (hx : vs[i]? = some x) : ∃ t r, ts[i]? = some t ∧ x = .ref r ∧ H r = some (.tup t) := by
  have hi : i < ts.length := by rw [← h.1]; exact (List.getElem?_eq_some_iff.mp hx).1
  obtain ⟨r, a, b⟩ := h.2 i _ (List.getElem?_eq_getElem hi)
  rw [hx] at a
  exact ⟨_, r, List.getElem?_eq_getElem hi, Option.some.inj a, b⟩
theorem TupsAt.cut (h : TupsAt (ts ++ [t]) vs H) : ∃ ws r, vs = ws ++ [V.ref r] ∧ TupsAt ts ws H ∧ H r = some (.tup t) := by
  have hl := h.1
  rw [List.length_append, List.length_singleton] at hl
  have hlast := h.2 ts.length t (by rw [List.getElem?_append_right (Nat.le_refl _), Nat.sub_self]; rfl)
  obtain ⟨r, a, b⟩ := hlast
  have e : vs = vs.take ts.length ++ [V.ref r] := by
    have e1 : vs.take (ts.length + 1) = vs := List.take_of_length_le (by omega)
    have e2 : vs.take (ts.length + 1) = vs.take ts.length ++ [V.ref r] := by
      rw [List.take_add_one, a]
      rfl
    exact e1.symm.trans e2
  refine ⟨vs.take ts.length, r, e, ⟨by rw [List.length_take]; omega, fun i u hu => ?_⟩, b⟩
  have hi : i < ts.length := (List.getElem?_eq_some_iff.mp hu).1
  obtain ⟨r2, a2, b2⟩ := h.2 i u (by rw [List.getElem?_append_left hi]; exact hu)
  exact ⟨r2, by rw [List.getElem?_take_of_lt hi]; exact a2, b2⟩
theorem TupsAt.take (h : TupsAt ts vs H) (k : Nat) : TupsAt (ts.take k) (vs.take k) H := ⟨by rw [List.length_take, List.length_take, h.1], fun i t ht => by
  have hi : i < k := by
    have := (List.getElem?_eq_some_iff.mp ht).1
    rw [List.length_take] at this
    omega
  rw [List.getElem?_take_of_lt hi] at ht ⊢
  exact h.2 i t ht⟩
theorem TupsAt.drop (h : TupsAt ts vs H) (k : Nat) : TupsAt (ts.drop k) (vs.drop k) H := ⟨by rw [List.length_drop, List.length_drop, h.1], fun i t ht => by
  rw [List.getElem?_drop] at ht ⊢
  exact h.2 _ t ht⟩
theorem TupsAt.rep (hr : H r = some (.tup t)) : ∀ k : Nat, TupsAt (List.replicate k t) (List.replicate k (V.ref r)) H
  | 0 => .nil
  | k + 1 => (TupsAt.one hr).app (TupsAt.rep hr k)
end

/-! ### further rules -/
/-- o[i] of a list that is changed there -/
def rGetL (K : PySem.W.Frag) : V → V → Hp → VK → Prop := fun x y H Q => ∃ p xs i v, x = .ref p ∧ y = .int i ∧ SqL K H p xs ∧ 0 ≤ i ∧ i ≤ 100000 ∧ xs[i.toNat]? = some v ∧ Q v H
def rMinT (K : PySem.W.Frag) : List V → Hp → VK → Prop := fun vs H Q => ∃ (a : Addr) (ns : List Int), vs = [V.ref a] ∧ SqT K H a (ns.map V.int) ∧ ns ≠ [] ∧ Q (.int (mn ns)) H
def rMaxT (K : PySem.W.Frag) : List V → Hp → VK → Prop := fun vs H Q => ∃ (a : Addr) (ns : List Int), vs = [V.ref a] ∧ SqT K H a (ns.map V.int) ∧ ns ≠ [] ∧ Q (.int (mx ns)) H
def rCntB (K : PySem.W.Frag) : V → List V → Hp → VK → Prop := fun x xs H Q => ∃ (p : Addr) (bs : List Bool) (k : Bool), x = .ref p ∧ xs = [.bl k] ∧ SqL K H p (bs.map V.bl) ∧ Q (.int (bs.count k : Nat)) H
section
variable {X : Cx}
theorem pget_list : PGet X (rGetL X.K) := by
  intro pins s σ H o i ov iv Q I ro ri h
  obtain ⟨p, xs, j, v, rfl, rfl, hs, h0, h1, hv, q⟩ := h
  cases ro
  obtain ⟨t, rfl⟩ := ri
  obtain ⟨its, r, pl, hz⟩ := I.list hs
  obtain ⟨w, ew, rw'⟩ := r.get hv
  exact PySem.wpAny_getItem_list pl.isList h0 (by omega) (by simpa using ew) ⟨v, H, I, rw', q⟩
theorem ints_hold {h : Heap} : ∀ {its : List Value} {ns : List Int}, IntsAre its ns → PySem.W.HoldAll h its ns
  | _, _, .nil => ⟨_, .nil⟩
  | _, _, .cons n t r => by
    obtain ⟨as, ra⟩ := ints_hold (h := h) r
    exact ⟨_, .cons (.int n t) ra⟩
theorem ilt (a b : Int) : PySem.W.DatumOrd.lt a b = decide (a < b) := rfl
theorem minOf_mn (l : List Int) (x : Int) : PySem.W.minOf x l = mn (x :: l) := by
  have aux : ∀ (l : List Int) (x : Int), PySem.W.minOf x l ∈ x :: l ∧ ∀ y ∈ x :: l, PySem.W.minOf x l ≤ y := by
    intro l
    induction l with
    | nil => intro x; exact ⟨List.mem_cons_self, fun y hy => by rw [List.mem_singleton.mp hy]; exact Int.le_refl _⟩
    | cons b r ih =>
      intro x
      obtain ⟨h1, h2⟩ := ih (if b < x then b else x)
      have e : PySem.W.minOf x (b :: r) = PySem.W.minOf (if b < x then b else x) r := by
        unfold PySem.W.minOf
        rw [List.foldl_cons, ilt]
        by_cases h : b < x <;> simp [h]
      rw [e]
      have h3 := h2 _ List.mem_cons_self
      refine ⟨?_, fun y hy => ?_⟩
      · rcases List.mem_cons.mp h1 with h | h
        · rw [h]
          split
          · exact List.mem_cons_of_mem _ List.mem_cons_self
          · exact List.mem_cons_self
        · exact List.mem_cons_of_mem _ (List.mem_cons_of_mem _ h)
      · rcases List.mem_cons.mp hy with rfl | hy
        · clear h1 h2 e
          generalize PySem.W.minOf _ r = M at h3 ⊢
          split at h3 <;> omega
        · rcases List.mem_cons.mp hy with rfl | hy
          · clear h1 h2 e
            generalize PySem.W.minOf _ r = M at h3 ⊢
            split at h3 <;> omega
          · exact h2 y (List.mem_cons_of_mem _ hy)
  exact mn_eq (aux l x).1 (aux l x).2
theorem maxOf_mx (l : List Int) (x : Int) : PySem.W.maxOf x l = mx (x :: l) := by
  have aux : ∀ (l : List Int) (x : Int), PySem.W.maxOf x l ∈ x :: l ∧ ∀ y ∈ x :: l, y ≤ PySem.W.maxOf x l := by
    intro l
    induction l with
    | nil => intro x; exact ⟨List.mem_cons_self, fun y hy => by rw [List.mem_singleton.mp hy]; exact Int.le_refl _⟩
    | cons b r ih =>
      intro x
      obtain ⟨h1, h2⟩ := ih (if x < b then b else x)
      have e : PySem.W.maxOf x (b :: r) = PySem.W.maxOf (if x < b then b else x) r := by
        unfold PySem.W.maxOf
        rw [List.foldl_cons, ilt]
        by_cases h : x < b <;> simp [h]
      rw [e]
      have h3 := h2 _ List.mem_cons_self
      refine ⟨?_, fun y hy => ?_⟩
      · rcases List.mem_cons.mp h1 with h | h
        · rw [h]
          split
          · exact List.mem_cons_of_mem _ List.mem_cons_self
          · exact List.mem_cons_self
        · exact List.mem_cons_of_mem _ (List.mem_cons_of_mem _ h)
      · rcases List.mem_cons.mp hy with rfl | hy
        · clear h1 h2 e
          generalize PySem.W.maxOf _ r = M at h3 ⊢
          split at h3 <;> omega
        · rcases List.mem_cons.mp hy with rfl | hy
          · clear h1 h2 e
            generalize PySem.W.maxOf _ r = M at h3 ⊢
            split at h3 <;> omega
          · exact h2 y (List.mem_cons_of_mem _ hy)
  exact mx_eq (aux l x).1 (aux l x).2
theorem cr_minT (hc : X.calm = true) (hu : X.A.units + 64 < cLine) : CallR X (.builtin "min") (rMinT X.K) := by
  intro pins s σ H vs us Q I r h
  obtain ⟨a, ns, rfl, hs, hne, q⟩ := h
  obtain ⟨its, rv, ht, hz⟩ := I.tuple hs
  rw [Vals.ref1 r]
  cases ns with
  | nil => exact absurd rfl hne
  | cons x xs =>
    refine PySem.W.min_tuple_datum (x := x) (xs := xs) (I.ok.hd hc) ht (ints_hold rv.ints) (by show X.A.units + 1 + 0 < cLine; omega) fun i v h' tk hv hh hk => ?_
    obtain ⟨as, ra⟩ := hh
    rw [minOf_mn] at ra
    cases ra
    exact ⟨.int (mn (x :: xs)), H, I.kept hk, ⟨_, rfl⟩, q⟩
theorem cr_maxT (hc : X.calm = true) (hu : X.A.units + 64 < cLine) : CallR X (.builtin "max") (rMaxT X.K) := by
  intro pins s σ H vs us Q I r h
  obtain ⟨a, ns, rfl, hs, hne, q⟩ := h
  obtain ⟨its, rv, ht, hz⟩ := I.tuple hs
  rw [Vals.ref1 r]
  cases ns with
  | nil => exact absurd rfl hne
  | cons x xs =>
    refine PySem.W.max_tuple_datum (x := x) (xs := xs) (I.ok.hd hc) ht (ints_hold rv.ints) (by show X.A.units + 1 + 0 < cLine; omega) fun i v h' tk hv hh hk => ?_
    obtain ⟨as, ra⟩ := hh
    rw [maxOf_mx] at ra
    cases ra
    exact ⟨.int (mx (x :: xs)), H, I.kept hk, ⟨_, rfl⟩, q⟩
/-- xs.count(True), bools -/
def eqb (k : Bool) (v : Value) : Bool := match v with
  | .bool n => n == k
  | _ => false
theorem mt_bcount : MtR X "list.count" (rCntB X.K) := by
  intro pins s σ H x xs v us Q I rx rxs h
  obtain ⟨p, bs, k, rfl, rfl, hs, q⟩ := h
  cases rx
  obtain ⟨u, rfl, ru⟩ := rxs.one
  obtain rfl : u = Value.bool k := ru
  obtain ⟨its, rv, ⟨⟨cls, dd, data, sl⟩, n, ho, hc, hdn, hd⟩, hlen⟩ := I.list hs
  simp only at hc hd
  subst hc hd
  have hb : its = bs.map Value.bool := rv.bls
  refine call_meets PySem.F.slot_list_count ⟨_, ho, rfl⟩ PySem.F.entry_list_count (PySem.F.args_list_count_2 _ _)
    (SeqAt.list_countAt p its.toArray n dd sl (.bool k) (eqb k)) ⟨ho, fun y hy => ?_, ?_⟩
  · rw [hb] at hy
    have hy2 : y ∈ bs.map Value.bool := by simpa using hy
    obtain ⟨b, _, rfl⟩ := List.mem_map.mp hy2
    exact SeqAt.EqAt.bool_bool b k
  · have ec : its.toArray.toList.countP (eqb k) = bs.count k := by
      rw [hb]
      show (bs.map Value.bool).countP (eqb k) = _
      rw [List.countP_map]
      rfl
    refine ⟨.int (bs.count k : Nat), H, I.tok _, ⟨s.toks, ?_⟩, q⟩
    show Value.int ((its.toArray.toList.countP (eqb k) : Nat) : Int) s.toks = Value.int ((bs.count k : Nat) : Int) s.toks
    rw [ec]
end
section
variable {K : PySem.W.Frag} {T : List (Addr × Str)} {s : L2.St} {H H' : Hp} {ta tb te tx tc ti to : TE} {t u : TT} {x y z v : V} {P R : V → Hp → Prop} {D : Ends} {tu tw tz : TS}
theorem ev_minT {ns : List Int} (h : EvP te s H (IsU (ns.map V.int))) (hn : ns ≠ []) : Ev (tCB (rMinT K) (tCons te tNil)) s H (.int (mn ns)) :=
  ev_cbP (ap_one h) fun vs H1 _ ⟨v, ev, p, pv, hp⟩ H2 e2 Q q => ⟨p, ns, by rw [ev, pv], st_of (e2 _ _ hp), hn, q H2 (Ex.refl H2)⟩
theorem ev_maxT {ns : List Int} (h : EvP te s H (IsU (ns.map V.int))) (hn : ns ≠ []) : Ev (tCB (rMaxT K) (tCons te tNil)) s H (.int (mx ns)) :=
  ev_cbP (ap_one h) fun vs H1 _ ⟨v, ev, p, pv, hp⟩ H2 e2 Q q => ⟨p, ns, by rw [ev, pv], st_of (e2 _ _ hp), hn, q H2 (Ex.refl H2)⟩
theorem ev_bcount {bs : List Bool} {k : Bool} {p : Addr} (ha : Ev ta s H (.ref p)) (hp : H p = some (.lst (bs.map V.bl))) (hb : Ev tb s H (.bl k)) : Ev (tBM K "list" (rCntB K) ta (tCons tb tNil)) s H (.int (bs.count k : Nat)) := fun H1 e Q q =>
  ha H1 e _ fun H2 e2 => ⟨Or.inl ⟨rfl, _, sq_of ((e.trans e2) _ _ hp)⟩, hb H2 (e.trans e2) _ fun H3 e3 => ⟨p, bs, k, rfl, rfl, sq_of (((e.trans e2).trans e3) _ _ hp), q H3 (e2.trans e3)⟩⟩
theorem eu_slice {tl th : TO} {xs : List V} {lo hi : Option Int} (h : EvP te s H (IsU xs)) (h1 : EvO tl s H lo) (h2 : EvO th s H hi) (hw : ¬ (HT.sIx xs.length 0 lo = 0 ∧ HT.sIx xs.length xs.length hi = xs.length)) : EvP (tSl (rSlT K) te tl th) s H (IsU (cutV xs lo hi)) := fun H1 e Q q =>
  h H1 e _ fun v H2 e2 ⟨a, ev, hp⟩ => h1 H2 (e.trans e2) _ fun H3 e3 => h2 H3 ((e.trans e2).trans e3) _ fun H4 e4 =>
    ⟨a, xs, ev, st_of (e4 _ _ (e3 _ _ hp)), hw, fun p hp => q _ _ (((e2.trans e3).trans e4).trans (Ex.new hp)) ⟨p, rfl, upd_same⟩⟩
theorem w_while {m0 : Nat} (W : Nat → L2.St → Hp → Prop) (h0 : ∀ H1, Ex H H1 → W m0 s H1)
    (hs : ∀ m s' H', W m s' H' → ∃ b, EvT t s' H' b ∧ (b = true → ∃ N : L2.St → Hp → Prop, (∀ s2 H2, N s2 H2 → ∃ m', m' < m ∧ W m' s2 H2) ∧ Sv tu { D with nx := N, ct := N, bk := tz D } s' H') ∧ (b = false → Sv tz D s' H')) : Sv (tSeq (tWhile t tu) tz) D s H := fun H1 e1 =>
  q_while W m0 (h0 H1 e1) fun m s' H' w => by
    obtain ⟨b, h1, h2, h3⟩ := hs m s' H' w
    exact ⟨b, h1, fun hb H2 e2 => let ⟨N, a, c⟩ := h2 hb; ⟨N, a, c H2 e2⟩, fun hb H2 e2 => h3 hb H2 e2⟩
/-- a, b = xs.pop() -/
theorem w_pop2 {l r : Addr} {xs : List V} {i j : Nat} (hl : H l = some (.lst (xs ++ [V.ref r]))) (hr : H r = some (.tup [x, y])) (ha : Ev ta s H (.ref l)) (k : ∀ H1, Put l (.lst xs) H H1 → Sv tz D ((s.set i (some x)).set j (some y)) H1) :
    Sv (tSeq (tAsg (tBM K "list" rPop ta tNil) (gTup K 2 (gCons (gName i) (gCons (gName j) gNil)))) tz) D s H := fun H1 e1 =>
  ha H1 e1 _ fun H2 e2 => ⟨Or.inl ⟨rfl, _, sq_of ((e1.trans e2) _ _ hl)⟩, ⟨l, xs ++ [V.ref r], V.ref r, rfl, rfl, (e1.trans e2) _ _ hl, by rw [List.length_append, List.length_singleton, Nat.add_sub_cancel, List.getElem?_append_right (Nat.le_refl _), Nat.sub_self]; rfl, by
    rw [List.dropLast_concat]
    have hne : r ≠ l := fun z => by rw [z, hl] at hr; cases hr
    have hr2 : upd H2 l (.lst xs) r = some (.tup [x, y]) := by rw [upd_ne hne]; exact (e1.trans e2) _ _ hr
    exact ⟨r, [x, y], rfl, st_of hr2, rfl, x, [y], rfl, y, [], rfl, rfl, k _ (put_upd (e1.trans e2)) _ (Ex.refl _)⟩⟩⟩
theorem w_augS {l : Addr} {xs : List V} {j : Nat} {f : Int → Int → Int} {a b : Int} (hl : H l = some (.lst xs)) (hz : xs.length ≤ 100000) (ho : Ev to s H (.ref l)) (hi : Ev ti s H (.int (j : Int))) (hj : xs[j]? = some (.int a)) (he : Ev te s H (.int b))
    (k : ∀ H1, Put l (.lst (xs.set j (.int (f a b)))) H H1 → Sv tz D s H1) : Sv (tSeq (tAugS to ti te (rGetL K) (ipI f) rSetL) tz) D s H := fun H1 e1 =>
  ho H1 e1 _ fun H2 e2 => hi H2 (e1.trans e2) _ fun H3 e3 => by
    have hjl := (List.getElem?_eq_some_iff.mp hj).1
    have e13 := (e1.trans e2).trans e3
    refine ⟨l, xs, (j : Int), .int a, rfl, rfl, sq_of (e13 _ _ hl), by omega, by omega, by rw [Int.toNat_natCast]; exact hj, he H3 e13 _ fun H4 e4 => ⟨a, b, rfl, rfl, l, xs, (j : Int), j, rfl, rfl, e4 _ _ (e13 _ _ hl), ixN_nat hjl, k _ (put_upd (e13.trans e4)) _ (Ex.refl _)⟩⟩
/-- xs.reverse(), xs.clear() -/
theorem w_reverse {l : Addr} {xs : List V} (hl : H l = some (.lst xs)) (ha : Ev ta s H (.ref l)) (k : ∀ H1, Put l (.lst xs.reverse) H H1 → Sv tz D s H1) : Sv (tSeq (tDrop (tBM K "list" rReverse ta tNil)) tz) D s H := fun H1 e1 =>
  ha H1 e1 _ fun H2 e2 => ⟨Or.inl ⟨rfl, _, sq_of ((e1.trans e2) _ _ hl)⟩, ⟨l, xs, rfl, rfl, (e1.trans e2) _ _ hl, k _ (put_upd (e1.trans e2)) _ (Ex.refl _)⟩⟩
theorem w_clear {l : Addr} {xs : List V} (hl : H l = some (.lst xs)) (ha : Ev ta s H (.ref l)) (k : ∀ H1, Put l (.lst []) H H1 → Sv tz D s H1) : Sv (tSeq (tDrop (tBM K "list" rClear ta tNil)) tz) D s H := fun H1 e1 =>
  ha H1 e1 _ fun H2 e2 => ⟨Or.inl ⟨rfl, _, sq_of ((e1.trans e2) _ _ hl)⟩, ⟨l, xs, rfl, rfl, (e1.trans e2) _ _ hl, k _ (put_upd (e1.trans e2)) _ (Ex.refl _)⟩⟩
/-- xs.extend(e), e a new list or another one -/
theorem w_extend {l : Addr} {xs : List V} (hl : H l = some (.lst xs)) (ha : Ev ta s H (.ref l)) (h : EvP te s H P) (hp : ∀ v H1, P v H1 → ∃ b zs, v = .ref b ∧ H1 b = some (.lst zs) ∧ xs.length + zs.length ≤ 100000)
    (k : ∀ b zs H1 H2, Ex H H1 → P (.ref b) H1 → H1 b = some (.lst zs) → Put l (.lst (xs ++ zs)) H1 H2 → Sv tz D s H2) : Sv (tSeq (tDrop (tBM K "list" rExtend ta (tCons te tNil))) tz) D s H := fun H1 e1 =>
  ha H1 e1 _ fun H2 e2 => ⟨Or.inl ⟨rfl, _, sq_of ((e1.trans e2) _ _ hl)⟩, h H2 (e1.trans e2) _ fun v H3 e3 p => by
    obtain ⟨b, zs, rfl, hb, hz⟩ := hp v H3 p
    exact ⟨l, b, xs, zs, rfl, rfl, ((e1.trans e2).trans e3) _ _ hl, hb, sz_of hz, k b zs H3 _ ((e1.trans e2).trans e3) p hb (put_upd (Ex.refl _)) _ (Ex.refl _)⟩⟩
/-- [e for x in t], t a tuple -/
theorem el_mapT {α : Type} {a : Addr} {tl : TE} {j : Nat} {vs : List Nat} (l : List α) (c : α → V) (w : α → V) (h : Ev tl s H (.ref a)) (hx : H a = some (.tup (l.map c))) (hz : l.length ≤ 100000) (hw : ∀ x, wipe ((wipe s vs).set j (some x)) vs = wipe s vs)
    (he : ∀ x ∈ l, Ev te ((wipe s vs).set j (some (c x))) H (w x)) : EvL (tLc (iTup K tl) (gName j) tYes te vs) s H (l.map w) := fun H0 e Q q => h H0 e _ fun H1 e1 => ⟨a, rfl, ⟨_, st_of ((e.trans e1) _ _ hx)⟩, fun Dl hD =>
  lc_tup (xs := l.map c) (Cx2 H1 l (fun _ => true) w Dl) ⟨hD, Ex.new hD, by rw [List.take_zero]; exact upd_same⟩ (fun i H' _ p => st_of (((e.trans e1).trans p.2.1) _ _ hx)) (fun i x H' hi p => by
    rw [List.getElem?_map] at hi
    cases ha : l[i]? with
    | none => rw [ha] at hi; cases hi
    | some b =>
      rw [ha] at hi
      obtain rfl : c b = x := Option.some.inj hi
      have hm : b ∈ l := List.mem_of_getElem? ha
      exact ⟨hw _, cx_turn p ha hz et_yes (fun _ => (he b hm).mono (e.trans e1))⟩)
    (fun H' p => by
      have p3 := p.2.2
      rw [List.length_map, List.take_length, filter_yes] at p3
      exact q Dl H' (fresh_back e1 p.1) (e1.trans p.2.1) p3)⟩
/-- for x in t, t a tuple -/
theorem w_forT {a : Addr} {xs : List V} {tl : TE} {j : Nat} (h : Ev tl s H (.ref a)) (hx : H a = some (.tup xs)) (Pv : Nat → L2.St → Hp → Prop) (h0 : ∀ H1, Ex H H1 → Pv 0 s H1) (hl : ∀ i s' H', i ≤ xs.length → Pv i s' H' → H' a = some (.tup xs))
    (hs : ∀ i x s' H', xs[i]? = some x → Pv i s' H' → Sv tu { D with nx := Pv (i + 1), ct := Pv (i + 1), bk := tz D } (s'.set j (some x)) H') (hd : ∀ s' H', Pv xs.length s' H' → Sv tz D s' H') : Sv (tSeq (tFor (iTup K tl) (gName j) tu) tz) D s H := fun H1 e1 =>
  q_forT (h.mono e1) (st_of (e1 _ _ hx)) Pv (fun H2 e2 => h0 H2 (e1.trans e2)) (fun i s' H' hi p => st_of (hl i s' H' hi p)) (fun i x s' H' hi p => (hs i x s' H' hi p).go) (fun s' H' p => (hd s' H' p).go)
/-- for a, b, .. in xs, xs a list of tuples: a turn takes the tuple apart -/
theorem w_forG {a : Addr} {xs : List V} {tl : TE} {g : TG} (h : Ev tl s H (.ref a)) (hx : SqL K H a xs) (Pv : Nat → L2.St → Hp → Prop) (h0 : ∀ H1, Ex H H1 → Pv 0 s H1) (hl : ∀ i s' H', i ≤ xs.length → Pv i s' H' → SqL K H' a xs)
    (hs : ∀ i x s' H', xs[i]? = some x → Pv i s' H' → g x s' H' fun s2 H2 => tu { D with nx := Pv (i + 1), ct := Pv (i + 1), bk := tz D } s2 H2) (hd : ∀ s' H', Pv xs.length s' H' → Sv tz D s' H') : Sv (tSeq (tFor (iList K tl) g tu) tz) D s H := fun H1 e1 =>
  q_forL (h.mono e1) (ex_l e1 hx) Pv (fun H2 e2 => h0 H2 (e1.trans e2)) hl hs (fun s' H' p => (hd s' H' p).go)
theorem g_tup2 {i j : Nat} {r : Addr} {a b : V} {Q : L2.St → Hp → Prop} (hr : H r = some (.tup [a, b])) (k : Q ((s.set i (some a)).set j (some b)) H) : gTup K 2 (gCons (gName i) (gCons (gName j) gNil)) (.ref r) s H Q :=
  ⟨r, [a, b], rfl, st_of hr, rfl, a, [b], rfl, b, [], rfl, rfl, k⟩
theorem g_tup3 {i j m : Nat} {r : Addr} {a b c : V} {Q : L2.St → Hp → Prop} (hr : H r = some (.tup [a, b, c])) (k : Q (((s.set i (some a)).set j (some b)).set m (some c)) H) : gTup K 3 (gCons (gName i) (gCons (gName j) (gCons (gName m) gNil))) (.ref r) s H Q :=
  ⟨r, [a, b, c], rfl, st_of hr, rfl, a, [b, c], rfl, b, [c], rfl, c, [], rfl, rfl, k⟩
/-- a, b, c = e -/
theorem w_asg3 {i j m : Nat} {r : Addr} {a b c : V} (h : Ev te s H (.ref r)) (hr : H r = some (.tup [a, b, c])) (k : Sv tz D (((s.set i (some a)).set j (some b)).set m (some c)) H) : Sv (tSeq (tAsg te (gTup K 3 (gCons (gName i) (gCons (gName j) (gCons (gName m) gNil))))) tz) D s H := fun H1 e1 =>
  h H1 e1 _ fun H2 e2 => g_tup3 ((e1.trans e2) _ _ hr) (k H2 (e1.trans e2))
theorem ev_mx2 {i j : Int} (ha : Ev ta s H (.int i)) (hb : Ev tb s H (.int j)) : Ev (tCB (fun xs H Q => ∃ i j, xs = [.int i, .int j] ∧ Q (.int (if j > i then j else i)) H) (tCons ta (tCons tb tNil))) s H (.int (max i j)) :=
  ev_cbP (ap_two ha.p hb.p) fun vs H1 _ ⟨v, w, ev, pv, pw⟩ H2 e2 Q q => ⟨i, j, by rw [ev, pv, pw], by
    have e : max i j = if j > i then j else i := by split <;> omega
    rw [← e]
    exact q H2 (Ex.refl H2)⟩
theorem ev_min2 {i j : Int} (ha : Ev ta s H (.int i)) (hb : Ev tb s H (.int j)) : Ev (tCB (fun xs H Q => ∃ i j, xs = [.int i, .int j] ∧ Q (.int (if j < i then j else i)) H) (tCons ta (tCons tb tNil))) s H (.int (min i j)) :=
  ev_cbP (ap_two ha.p hb.p) fun vs H1 _ ⟨v, w, ev, pv, pw⟩ H2 e2 Q q => ⟨i, j, by rw [ev, pv, pw], by
    have e : min i j = if j < i then j else i := by split <;> omega
    rw [← e]
    exact q H2 (Ex.refl H2)⟩
theorem ev_abs {i : Int} (ha : Ev ta s H (.int i)) : Ev (tCB (fun xs H Q => ∃ i, xs = [.int i] ∧ Q (.int (if i < 0 then -i else i)) H) (tCons ta tNil)) s H (.int (if i < 0 then -i else i)) :=
  ev_cbP (ap_one ha.p) fun vs H1 _ ⟨v, ev, pv⟩ H2 e2 Q q => ⟨i, by rw [ev, pv], q H2 (Ex.refl H2)⟩
theorem ev_lenU {xs : List V} (h : EvP te s H (IsU xs)) : Ev (tCB (rLenS K) (tCons te tNil)) s H (.int (xs.length : Int)) :=
  ev_cbP (ap_one h) fun vs H1 _ ⟨v, ev, p, pv, hp⟩ H2 e2 Q q => ⟨p, xs, by rw [ev, pv], .inr (st_of (e2 _ _ hp)), q H2 (Ex.refl H2)⟩
/-- o.f -/
theorem ev_fld {p C dx : Addr} {fs : List (Str × V)} {f : Str} (h : Ev te s H (.ref p)) (hp : H p = some (.ins C dx fs)) (c : Cls K C) (n : NoAttr K C f) (l : fs.lookup f = some v) : Ev (tFld K te f) s H v := fun H1 e Q q =>
  h H1 e _ fun H2 e2 => ⟨p, C, dx, fs, v, rfl, (e.trans e2) _ _ hp, c, n, l, q H2 e2⟩
/-- o.f = e -/
theorem w_fld {p C dx : Addr} {fs : List (Str × V)} {f : Str} (h : Ev te s H v) (ho : Ev ta s H (.ref p)) (hp : H p = some (.ins C dx fs)) (c : Cls K C) (n : NoAttr K C f) (hz : fs.length < 1000) (k : ∀ H1, Put p (.ins C dx (putF f v fs)) H H1 → Sv tz D s H1) : Sv (tSeq (sFld K ta te f) tz) D s H := fun H1 e1 =>
  h H1 e1 _ fun H2 e2 => ho H2 (e1.trans e2) _ fun H3 e3 => ⟨p, C, dx, fs, rfl, ((e1.trans e2).trans e3) _ _ hp, c, n, hz, k _ (put_upd ((e1.trans e2).trans e3)) _ (Ex.refl _)⟩
theorem w_fldL {p C dx : Addr} {fs : List (Str × V)} {f : Str} {xs : List V} (h : EvL te s H xs) (ho : ∀ H1, Ex H H1 → Ev ta s H1 (.ref p)) (hp : H p = some (.ins C dx fs)) (c : Cls K C) (n : NoAttr K C f) (hz : fs.length < 1000)
    (k : ∀ l H1, H l = none → H1 l = some (.lst xs) → Put p (.ins C dx (putF f (.ref l) fs)) H H1 → Sv tz D s H1) : Sv (tSeq (sFld K ta te f) tz) D s H := fun H1 e1 =>
  h H1 e1 _ fun l H2 hl e2 h2 => ho H2 (e1.trans e2) H2 (Ex.refl H2) _ fun H3 e3 => by
    have e13 := (e1.trans e2).trans e3
    have hpl : l ≠ p := fun z => by rw [z, e1 _ _ hp] at hl; cases hl
    exact ⟨p, C, dx, fs, rfl, e13 _ _ hp, c, n, hz, k l _ (fresh_back e1 hl) (by rw [upd_ne hpl]; exact e3 _ _ h2) (put_upd e13) _ (Ex.refl _)⟩
theorem w_asgSetP {l : Addr} {xs : List V} {j : Nat} [MonoP P] (hl : H l = some (.lst xs)) (h : EvP te s H P) (ho : Ev ta s H (.ref l)) (hi : Ev tb s H (.int (j : Int))) (hj : j < xs.length) (hm : ∀ v H1 o, P v H1 → P v (upd H1 l o)) (k : ∀ v H1, P v H1 → Put l (.lst (xs.set j v)) H H1 → Sv tz D s H1) :
    Sv (tSeq (tAsg te (gSub ta tb rSetL)) tz) D s H := fun H1 e1 =>
  h H1 e1 _ fun v H2 e2 p => ho H2 (e1.trans e2) _ fun H3 e3 => hi H3 ((e1.trans e2).trans e3) _ fun H4 e4 =>
    ⟨l, xs, (j : Int), j, rfl, rfl, (((e1.trans e2).trans e3).trans e4) _ _ hl, ixN_nat hj, k v _ (hm v _ _ (MonoP.mono (e3.trans e4) p)) (put_upd (((e1.trans e2).trans e3).trans e4)) _ (Ex.refl _)⟩
/-- a statement, then the rest, a word between them -/
theorem w_cut {tt : TS} (Mid : L2.St → Hp → Prop) (h : Sv tt { D with nx := Mid } s H) (k : ∀ s' H', Mid s' H' → Sv tz D s' H') : Sv (tCut tt tz) D s H := fun H1 e1 => q_cut (M := Mid) (h H1 e1) fun s' H' m => (k s' H' m).go
theorem w_if0 {b : Bool} (h : EvT t s H b) (h1 : b = true → Sv tu D s H) (h2 : b = false → Sv tw D s H) : Sv (tIfS t tu tw) D s H := fun H1 e1 => h H1 e1 _ fun H2 e2 => by
  cases b with
  | true => exact h1 rfl H2 (e1.trans e2)
  | false => exact h2 rfl H2 (e1.trans e2)
/-- [e, f], both new lists -/
theorem evp_two {xs ys : List V} (ha : EvL ta s H xs) (hb : EvL tb s H ys) : EvP (tLst (tCons ta (tCons tb tNil))) s H (fun v H2 => ∃ p x y, v = .ref p ∧ H p = none ∧ H x = none ∧ H y = none ∧ x ≠ y ∧ p ≠ x ∧ p ≠ y ∧ H2 p = some (.lst [V.ref x, V.ref y]) ∧ H2 x = some (.lst xs) ∧ H2 y = some (.lst ys)) := fun H1 e Q q =>
  ha H1 e _ fun x H2 nx e2 hx => hb H2 (e.trans e2) _ fun y H3 ny e3 hy => ⟨by show 2 ≤ sizeLine; decide, fun p hp => by
    have n1 : x ≠ y := ne_of_none hx ny
    have n2 : x ≠ p := ne_of_none (e3 _ _ hx) hp
    have n3 : y ≠ p := ne_of_none hy hp
    exact q _ _ ((e2.trans e3).trans (Ex.new hp)) ⟨p, x, y, rfl, fresh_back ((e.trans e2).trans e3) hp, fresh_back e nx, fresh_back (e.trans e2) ny, n1, n2.symm, n3.symm, upd_same, by rw [upd_ne n2]; exact e3 _ _ hx, by rw [upd_ne n3]; exact hy⟩⟩
theorem rv_notB {a b : Bool} : RV rNotB (.bl a) (.bl b) H (.bl (!decide (a = b))) := fun H1 _ _ q => ⟨a, b, rfl, rfl, q H1 (Ex.refl H1)⟩
theorem cut_init {xs : List V} (h : xs ≠ []) : cutV xs none (some (-1)) = xs.dropLast := by
  have hp : 0 < xs.length := List.length_pos_iff.mpr h
  have e : HT.sIx xs.length xs.length (some (-1)) = xs.length - 1 := by
    show (if (-1 : Int) < 0 then (-1 + (xs.length : Int)).toNat else min (-1 : Int).toNat xs.length) = _
    rw [if_pos (by decide)]
    omega
  unfold cutV
  rw [e, HT.sIx_none, List.drop_zero, Nat.sub_zero, List.dropLast_eq_take]
/-- [e for k in range(lo, lo + n)] -/
theorem el_mapR2 {ta : TA} {j : Nat} {vs : List Nat} {lo n : Nat} (w : Nat → V) (h : EvA ta s H [.int (lo : Int), .int ((lo + n : Nat) : Int)]) (hn : lo + n ≤ 40000) (hw : ∀ x, wipe ((wipe s vs).set j (some x)) vs = wipe s vs)
    (he : ∀ (i : Nat), i < n → Ev te ((wipe s vs).set j (some (.int ((lo + i : Nat) : Int)))) H (w i)) : EvL (tLc (iRng2 ta) (gName j) tYes te vs) s H ((List.range n).map w) := fun H0 e Q q => h H0 e _ fun H1 e1 => ⟨(lo : Int), ((lo + n : Nat) : Int), rfl, ⟨by omega, by omega, by omega, by omega⟩, fun Dl hD => by
  have en : (((lo + n : Nat) : Int) - (lo : Int)).toNat = n := by omega
  rw [en]
  refine lc_range (lo := (lo : Int)) (n := n) (Cw H1 (fun _ => true) w Dl) ⟨hD, Ex.new hD, upd_same⟩ (fun i H' hi p => ?_) (fun H' p => ?_)
  · have e0 : (lo : Int) + (i : Int) = ((lo + i : Nat) : Int) := by omega
    show wipe ((wipe s vs).set j (some (.int ((lo : Int) + (i : Int))))) vs = wipe s vs ∧ tYes ((wipe s vs).set j (some (.int ((lo : Int) + (i : Int))))) H' fun b H3 => if b = true then te ((wipe s vs).set j (some (.int ((lo : Int) + (i : Int))))) H3 fun y H4 => ∃ acc, H4 Dl = some (.lst acc) ∧ acc.length < sizeLine ∧ Cw H1 (fun _ => true) w Dl (i + 1) (upd H4 Dl (.lst (acc ++ [y]))) else Cw H1 (fun _ => true) w Dl (i + 1) H3
    rw [e0]
    exact ⟨hw _, cw_turn p (by omega) et_yes (fun _ => (he i hi).mono (e.trans e1))⟩
  · have p3 := p.2.2
    have eg : given n (fun _ => true) w = (List.range n).map w := by
      unfold given
      rw [filter_yes]
    rw [eg] at p3
    exact q Dl H' (fresh_back e1 p.1) (e1.trans p.2.1) p3⟩
/-- x, y = e, f, by a tuple (cells) -/
theorem w_tup2 {ta : TA} {i j : Nat} {P : List V → Hp → Prop} (h : EvAP ta s H P) (k : ∀ vs H1, Ex H H1 → P vs H1 → ∃ x y, vs = [x, y] ∧ ∀ H2, Ex H1 H2 → Sv tz D ((s.set i (some x)).set j (some y)) H2) :
    Sv (tSeq (tAsg (tTup ta) (gTup K 2 (gCons (gName i) (gCons (gName j) gNil)))) tz) D s H := fun H1 e1 =>
  h H1 e1 _ fun vs H2 e2 p => by
    obtain ⟨x, y, ev, kk⟩ := k vs H2 (e1.trans e2) p
    subst ev
    exact ⟨by show 2 ≤ sizeLine; decide, fun t ht => ⟨t, [x, y], rfl, st_of upd_same, rfl, x, [y], rfl, y, [], rfl, rfl, kk _ (Ex.new ht) _ (Ex.refl _)⟩⟩
theorem atI_last {xs : List V} (h : xs ≠ []) : atI xs (-1) = xs[xs.length - 1]? := by
  have hp : 0 < xs.length := List.length_pos_iff.mpr h
  have e : ixN xs.length (-1) = some (xs.length - 1) := by
    unfold ixN
    rw [if_neg (by decide), if_pos (by omega)]
    congr 1
    omega
  unfold atI
  rw [e]
  rfl
/-- the same over a tuple -/
theorem w_forGTP {tl : TE} {g : TG} (h : EvP tl s H P) (hp : ∀ v H1, Ex H H1 → P v H1 → ∃ (a : Addr) (xs : List V) (Pv : Nat → L2.St → Hp → Prop), v = .ref a ∧ SqT K H1 a xs ∧ (∀ H2, Ex H1 H2 → Pv 0 s H2) ∧ (∀ i s' H', i ≤ xs.length → Pv i s' H' → SqT K H' a xs) ∧
    (∀ i x s' H', xs[i]? = some x → Pv i s' H' → g x s' H' fun s2 H2 => tu { D with nx := Pv (i + 1), ct := Pv (i + 1), bk := tz D } s2 H2) ∧ (∀ s' H', Pv xs.length s' H' → Sv tz D s' H')) : Sv (tSeq (tFor (iTup K tl) g tu) tz) D s H := fun H1 e1 =>
  h H1 e1 _ fun v H2 e2 p => by
    obtain ⟨a, xs, Pv, ev, h1, h2, h3, h4, h5⟩ := hp v H2 (e1.trans e2) p
    subst ev
    exact q_forT (tl := tC (.ref a)) (σ := s) (H := H2) ev_c h1 Pv h2 h3 h4 (fun s' H' p => (h5 s' H' p).go)
theorem _root_.Evl.EvU.pU {xs : List V} (h : EvU te s H xs) : EvP te s H (IsU xs) := evU_p h
theorem et_tru {k : Bool} (h : Ev te s H v) (hk : ∀ H1, TruV K v H1 k) : EvT (fun σ H Q => te σ H fun x H' => ∃ k, TruV K x H' k ∧ Q k H') s H k := fun H1 e Q q => h H1 e _ fun H2 e2 => ⟨k, hk H2, q H2 e2⟩
/-- if c: x = e, x an int of which something is known behind it -/
theorem w_ifAsgP {b : Bool} {i : Nat} {v0 : V} (h : EvT t s H b) (h1 : b = true → EvP te s H P) (h0 : s.set i (some v0) = s) (h2 : b = false → ∀ H1, Ex H H1 → P v0 H1) (k : ∀ v H1, Ex H H1 → P v H1 → Sv tz D (s.set i (some v)) H1) : Sv (tSeq (tIfS t (tSeq (tAsg te (gName i)) tNext) tNext) tz) D s H :=
  w_when h (fun hb => w_asgP (h1 hb) fun v H1 e1 p => w_nx fun H2 e2 => k v H1 e1 p H2 e2) (fun hb H1 e1 => by
    have g := k v0 H1 e1 (h2 hb H1 e1) H1 (Ex.refl _)
    rw [h0] at g
    exact g)
/-- a new list, known to be new -/
def IsNL (G : Hp) (xs : List V) : V → Hp → Prop := fun x H => ∃ p, x = .ref p ∧ G p = none ∧ H p = some (.lst xs)
instance {G : Hp} {xs : List V} : MonoP (IsNL G xs) := ⟨fun e ⟨p, a, n, b⟩ => ⟨p, a, n, e _ _ b⟩⟩
theorem el_n {xs : List V} (h : EvL te s H xs) : EvP te s H (IsNL H xs) := fun H1 e Q q => h H1 e Q fun p H2 np e2 hp => q _ H2 e2 ⟨p, rfl, fresh_back e np, hp⟩
/-- a list, a tuple display, its items told by a word -/
theorem evp_lst2 {ta : TA} {P : List V → Hp → Prop} (h : EvAP ta s H P) (hz : ∀ vs H1, P vs H1 → vs.length ≤ 100000) : EvP (tLst ta) s H (fun x H2 => ∃ p vs H1, x = .ref p ∧ H p = none ∧ H2 p = some (.lst vs) ∧ P vs H1 ∧ Ex H1 H2) := fun H1 e Q q =>
  h H1 e _ fun vs H2 e2 pv => ⟨sz_of (hz vs H2 pv), fun p hp => q _ _ (e2.trans (Ex.new hp)) ⟨p, vs, H2, rfl, fresh_back (e.trans e2) hp, upd_same, pv, Ex.new hp⟩⟩
theorem evp_tup2 {ta : TA} {P : List V → Hp → Prop} (h : EvAP ta s H P) (hz : ∀ vs H1, P vs H1 → vs.length ≤ 100000) : EvP (tTup ta) s H (fun x H2 => ∃ p vs H1, x = .ref p ∧ H p = none ∧ H2 p = some (.tup vs) ∧ P vs H1 ∧ Ex H1 H2) := fun H1 e Q q =>
  h H1 e _ fun vs H2 e2 pv => ⟨sz_of (hz vs H2 pv), fun p hp => q _ _ (e2.trans (Ex.new hp)) ⟨p, vs, H2, rfl, fresh_back (e.trans e2) hp, upd_same, pv, Ex.new hp⟩⟩
/-- a loop over a list that is told by a word -/
theorem w_forGP {tl : TE} {g : TG} (h : EvP tl s H P) (hp : ∀ v H1, Ex H H1 → P v H1 → ∃ (a : Addr) (xs : List V) (Pv : Nat → L2.St → Hp → Prop), v = .ref a ∧ SqL K H1 a xs ∧ (∀ H2, Ex H1 H2 → Pv 0 s H2) ∧ (∀ i s' H', i ≤ xs.length → Pv i s' H' → SqL K H' a xs) ∧
    (∀ i x s' H', xs[i]? = some x → Pv i s' H' → g x s' H' fun s2 H2 => tu { D with nx := Pv (i + 1), ct := Pv (i + 1), bk := tz D } s2 H2) ∧ (∀ s' H', Pv xs.length s' H' → Sv tz D s' H')) : Sv (tSeq (tFor (iList K tl) g tu) tz) D s H := fun H1 e1 =>
  h H1 e1 _ fun v H2 e2 p => by
    obtain ⟨a, xs, Pv, ev, h1, h2, h3, h4, h5⟩ := hp v H2 (e1.trans e2) p
    subst ev
    exact q_forL (tl := tC (.ref a)) (σ := s) (H := H2) ev_c h1 Pv h2 h3 h4 (fun s' H' p => (h5 s' H' p).go)
theorem cut_neg {xs : List V} {m : Nat} (h0 : 0 < m) (h : m ≤ xs.length) : cutV xs (some (-(m : Int))) none = xs.drop (xs.length - m) := by
  have e : HT.sIx xs.length 0 (some (-(m : Int))) = xs.length - m := by
    show (if -(m : Int) < 0 then (-(m : Int) + (xs.length : Int)).toNat else _) = _
    rw [if_pos (by omega)]
    omega
  unfold cutV
  rw [e, HT.sIx_none, List.take_of_length_le (by rw [List.length_drop]; omega)]
end
/-! ### defs whose code object is known; a choice of readings -/
structure FunC (K : PySem.W.Frag) (x qual : Str) (st : Stmt) (c f : Addr) (fd : FuncData) : Prop where
  ex : ∃ (oc : Value) (od : Option Addr) (kV doc pm : Value) (an : Option Addr) (ct : Value) (osl : Array (Option Value)),
    fd = PySem.W.fnOf x qual (defArgs st) (defBody st) (defScope st) .none kV doc pm an (.ref c) ct ∧ K.lookup f = some ⟨oc, od, .func fd, osl⟩ ∧ PySem.W.codeIn K (.ref c) qual = true
  kp : PySem.W.keepIn K (.ref f) = true
section
variable {P : Program} {w : World} {K : PySem.W.Frag} {mg : Str → Option Value} {base : Heap}
theorem FunC.ok {x qual : Str} {st : Stmt} {c f : Addr} {fd : FuncData} {N ps : List Str} {k : Nat} {sp : Sp} (F : FunC K x qual st c f fd) (S : FnScope N ps (defScope st)) (len : ∀ vs H Q E, sp vs H Q E → vs.length = ps.length)
    (hbody : ∀ (A : Around) (outer : List Env) (s : Shared) (H : Hp) (vs : List V) (Q : VK) (E : XK), Room k (A.deeper (envOfC qual (defScope st) s.heap.objs.size f (.ref c))) → sp vs H Q E →
      ∃ t, PSs (cxOf CX0 P w K mg base N qual (defScope st) f (.ref c) A outer s H E).nox (defBody st) t ∧ t { nx := fun _ H' => Q .non H', rt := Q } (start N vs) H) : FnOk P w K mg base CX0 (k + 1) f fd ps sp := by
  obtain ⟨oc, od, kV, doc, pm, an, ct, osl, rfl, lk, hcd⟩ := F.ex
  refine fn_of lk hcd S len fun A outer s H vs Q E hr hsp => ?_
  obtain ⟨t, h, q⟩ := hbody A outer s H vs Q E hr hsp
  exact ⟨t, h.nox, q⟩
def RawC (K : PySem.W.Frag) (mg : Str → Option Value) (x : Str) (st : Stmt) (c : Addr) (ps : List Str) : Prop := ∃ f fd, FunC K x x st c f fd ∧ mg x = some (.ref f) ∧ Binds K fd ps []
theorem RawC.ok {x : Str} {st : Stmt} {c : Addr} {ps : List Str} {CX : CXT} {k : Nat} {sp : Sp} (r : RawC K mg x st c ps) (h : ∀ f fd, FunC K x x st c f fd → FnOk P w K mg base CX k f fd ps sp) : Def P w K mg base CX k x ps sp := by
  obtain ⟨f, fd, F, g, b⟩ := r
  exact ⟨f, fd, h f fd F, g, F.kp, b⟩
end
theorem pe_or2 {X : Cx} {e : Expr} {t1 t2 : TE} (h1 : PE X e t1) (h2 : PE X e t2) : PE X e (fun σ H Q => t1 σ H Q ∨ t2 σ H Q) := ⟨fun pins s σ H Q I h => h.elim (h1.run pins s σ H Q I) (h2.run pins s σ H Q I)⟩
end Wk

set_option Elab.async false
set_option linter.all false
set_option maxRecDepth 100000
set_option maxHeartbeats 4000000
/-! St: sorted(set(xs)) of a list of ints, any number of them; xs[::k]. Own rules over the library's set_update_ints, collect_set, list_sort_ord. -/
namespace St
open PySem PySem.Spec PyProof.Rows L2
section
variable {P : Program} {w : World} {A : Around} {E : Value → Shared → Prop} {s : Shared}
/-- a new set without members -/
abbrev newSetO (w : World) : Obj := { cls := .type "set", dict := none, data := .set #[] 0 (.fresh 0 0 (!w.params.followText "set-order")) }
set_option maxHeartbeats 6400000 in
/-- set(l), l a list of ints: its members are the list's -/
theorem set_of_list {l : Addr} {items : Array Value} (ns : List Int) {Q : Value → Shared → Prop} (hh : A.handled = none) (hl : s.heap.IsList l items) (hit : IntsAre items.toList ns) (hb : ns.length + 1 < scanBound)
    (h : ∀ (h' : Heap) (tk c : Nat), SetR w h' s.heap.objs.size (fun j => decide (j ∈ ns)) c → c ≤ ns.length → (∀ b o, s.heap.get? b = some o → h'.get? b = some o) → Q (.ref s.heap.objs.size) { s with heap := h', toks := tk }) :
    wpAny (model P w) A (call (.type "set") [.ref l]) Q E s := by
  have hn : items.size = ns.length := by
    have q := hit.length
    rwa [Array.length_toList] at q
  obtain ⟨c, tl, hmro⟩ := F.called_set.mro
  have hmade := F.called_set.made
  have hsub := F.called_set.sub
  refine wpAny_call (codeAny_of_tree ?_)
  show wpAny _ _ (callAny (.type "set") _) _ _ _
  refine wpAny_pure ⟨Code.quiet_builtin _ (by decide +kernel), codeAny_builtin F.entry_type_call ?_⟩
  rw [Around.under_plain (weight_type_call_type "set" [.ref l] []) rfl]
  have h1 := F.called_set.notType
  have h2 := F.called_set.canCreate
  have hct := F.typeCall_set_1 (.ref l)
  repeat (any_goals (first | assumption | wp_step))
  refine codeAny_mono (code_set_led1 (.ref l) (E := E) (Q₁ := fun obj s₁ => obj = .ref s.heap.objs.size ∧ s₁ = { s with heap := s.heap.push (newSetO w) }) ⟨rfl, rfl⟩) fun r s₁ hr => ?_
  cases r with
  | error e => exact hr
  | ok fl =>
    cases fl with
    | next => exact hr.elim
    | brk => exact hr.elim
    | cont => exact hr.elim
    | ret obj =>
      obtain ⟨rfl, rfl⟩ := hr
      have at0 : (s.heap.push (newSetO w)).get? s.heap.objs.size = some (newSetO w) := Heap.get?_push_size _ rfl
      have hT : Shared.TypeIs { s with heap := s.heap.push (newSetO w) } (.ref s.heap.objs.size) "set" := ⟨_, at0, rfl⟩
      have hli := F.called_set.init.lookup
      have hbi := F.called_set.init.bind (.ref s.heap.objs.size)
      repeat (any_goals (first | assumption | wp_step))
      refine codeAny_mono (codeAny_call_builtin (R := wants (fun r s₂ => r = .none ∧ ∃ h' tk c, s₂ = { s with heap := h', toks := tk } ∧ SetR w h' s.heap.objs.size (fun j => decide (j ∈ ns)) c ∧ c ≤ ns.length ∧ (∀ b o, s.heap.get? b = some o → h'.get? b = some o)) E) F.called_set.init.plain F.entry_set_init (check_set_init_1 hT ?_)) fun r₂ s₂ hr₂ => ?_
      · -- __init__: the list is walked
        obtain ⟨⟨ocls, odict, odata, oslots⟩, hol, hcl, nl, hdl⟩ := hl
        simp only at hcl hdl
        subst hcl
        subst hdl
        have hol' : (s.heap.push (newSetO w)).get? l = some { cls := .type "list", dict := odict, data := .seq items nl, slots := oslots } := Heap.get?_push_of_some _ hol
        have hl1 : (s.heap.push (newSetO w)).IsList l items := ⟨_, hol', rfl, nl, rfl⟩
        have hsls := F.sub_list_set
        have hslf := F.sub_list_frozenset
        have hne : (Value.type "list" == Value.type "dict") = false := by decide
        unfold Builtin.«set.__init__» noKeywords Builtin.Frozenset.updateFrom
        generalize hPI : pyIter = PI
        wp_walk
        subst hPI
        refine wpAny_pyIter_list hl1 ?_
        refine wpAny_bind (wpAny_runValue ?_)
        have ltl : l < s.heap.objs.size := Heap.lt_size hol
        have sz1 : (s.heap.push (newSetO w)).objs.size = s.heap.objs.size + 1 := Heap.size_push ..
        have hneI : l ≠ (s.heap.push (newSetO w)).objs.size := by
          rw [sz1]
          exact Nat.ne_of_lt (Nat.lt_succ_of_lt ltl)
        have hout : s.heap.objs.size ∉ [(s.heap.push (newSetO w)).objs.size, l] := by
          rw [sz1]
          simp only [List.mem_cons, List.not_mem_nil, or_false, not_or]
          exact ⟨Nat.ne_of_lt (Nat.lt_succ_self _), Nat.ne_of_gt ltl⟩
        have hval : ∀ (i : Nat) (v : Value), items[i]? = some v → ∃ k t, ns[i]? = some k ∧ v = .int k t := fun i v hv => by
          have hi : i < ns.length := by rw [← hn]; exact (Array.getElem?_eq_some_iff.mp hv).1
          obtain ⟨t, e⟩ := PyProof.Rows.IntsAre.int_at hit i v (by rw [Array.getElem?_toList]; exact hv)
          rw [List.getD_eq_getElem?_getD, List.getElem?_eq_getElem hi] at e
          exact ⟨ns[i], t, List.getElem?_eq_getElem hi, e⟩
        refine set_update_ints ((Walks.list (by simp [hh]) _ l hneI items).toS) s.heap.objs.size hout ns hn hb hval (items.size - 0) 0 _ (by omega) (Nat.zero_le _) ⟨⟨_, Heap.get?_push_size _ rfl, rfl, rfl⟩, hl1.push _⟩ ⟨0, Nat.le_refl 0, setR_new_at (Heap.get?_push_of_some _ at0)⟩ fun s' c' hm hc' hS' => ?_
        obtain ⟨h', g2, d', tk', os'⟩ := s'
        obtain rfl : g2 = s.gens := hm.gens
        obtain rfl : d' = s.drawn := hm.drawn
        obtain rfl : os' = s.os := hm.os
        show wpAny _ _ _ _ _ _
        refine wpAny_pure ?_
        show wpAny _ _ (ret Value.none) _ _ _
        refine wpAny_pure ⟨rfl, h', tk', c', rfl, hS', by omega, fun b o e => ?_⟩
        have hb0 : b < s.heap.objs.size := Heap.lt_size e
        refine hm.heap b o ?_ (Heap.get?_push_of_some _ (Heap.get?_push_of_some _ e))
        rw [sz1]
        simp only [List.mem_cons, List.not_mem_nil, or_false, not_or]
        exact ⟨Nat.ne_of_lt hb0, Nat.ne_of_lt (Nat.lt_succ_of_lt hb0)⟩
      · cases r₂ with
        | error e => exact hr₂
        | ok fl₂ =>
          cases fl₂ with
          | next => exact hr₂.elim
          | brk => exact hr₂.elim
          | cont => exact hr₂.elim
          | ret r =>
            obtain ⟨rfl, h', tk, c', rfl, hS', hc', hk'⟩ := hr₂
            repeat (any_goals (first | assumption | wp_step))
            exact h _ _ _ hS' hc' hk'
/-- sorted(s), s a set of ints, any number of them -/
theorem sorted_setN {a : Addr} {S : Int → Bool} {n : Nat} {Q : Value → Shared → Prop} (R : SetR w s.heap a S n) (hh : A.handled = none) (hz : n ≤ sizeLine)
    (hQ : ∀ s' p (out : Array Value) (c : Nat) (ns : List Int), (∀ b o, s.heap.get? b = some o → s'.heap.get? b = some o) → s'.gens = s.gens → s'.os = s.os → s.heap.objs.size ≤ p → s'.heap.get? p = some (seqObj "list" out c) → IntsAre out.toList ns →
      ns.Pairwise (· < ·) → (∀ k, k ∈ ns ↔ S k = true) → ns.length = n → Q (.ref p) s') : wpAny (model P w) A (call (.builtin "sorted") [.ref a]) Q E s := by
  obtain ⟨o, es, ep, t, ho, hex, hd, g, nd, hm, hb, hf, hn, hr, hl⟩ := R
  refine Calls.call_function_entry kind_sorted plain_sorted entry_sorted (args_sorted1 _) ?_
  unfold Builtin.«sorted»
  refine wpAny_bind (m := checkCount "sorted" 1 1 _) (wpAny_pure ?_)
  refine wpAny_bind (collect_set (A := A.in1) hh ⟨o, ho, hex.1, hd⟩ hf hb hr hl fun s1 vs k1 hz1 g1 o1 pm => ?_)
  have hvl : vs.length = n := by rw [pm.length_eq, List.length_map, Array.length_toList]; exact hn
  have hI : IntsAre vs (vs.map Builtin.Re.reRawOf) := ints_of vs fun v hv => by
    obtain ⟨e, he, q⟩ := List.mem_map.mp (pm.mem_iff.mp hv)
    obtain ⟨k, tk, h1, _⟩ := g e he
    exact ⟨k, tk, by rw [← q]; exact h1⟩
  have pk : (vs.map Builtin.Re.reRawOf).Perm (es.toList.map keyOf) := by
    have q := pm.map Builtin.Re.reRawOf
    rw [List.map_map] at q
    exact q
  refine wpAny_bind (wpAny_newList ?_ (by rw [hvl]; exact hz))
  have hoL : (s1.heap.push (seqObj "list" vs.toArray 0)).get? s1.heap.objs.size = some (seqObj "list" vs.toArray 0) := Heap.get?_push_size _ rfl
  refine wpAny_bind (wpAny_holding (wpAny_call_entry slot_list_sort ⟨_, hoL, rfl⟩ entry_list_sort (SrtO.list_sort_ord SrtO.swo_int hoL (by rw [hvl]; exact hz) (fun h2 => SrtO.ints_sortable hI h2) fun out a1 a2 => ⟨_, rfl, ?_⟩) (args_list_sort _)))
  obtain ⟨b1, b2, b3⟩ := SrtO.ints_out hI a1 a2
  obtain ⟨c, hc⟩ := sortedHeap_at (vs := vs) (out := out.toArray) hoL
  have pn : (out.map SrtO.iv).Perm (es.toList.map keyOf) := b2.trans pk
  refine wpAny_pure ⟨_, rfl, hQ _ s1.heap.objs.size out.toArray c (out.map SrtO.iv) (fun b u e => ?_) g1 o1 hz1 hc b1 (lt_of_le_nodup _ b3 (pn.nodup_iff.mpr nd)) (fun k => by rw [pn.mem_iff, ← hm k]) ?_⟩
  · have q := k1 b u e
    have hlt := Heap.lt_size q
    show (sortedHeap (s1.heap.push (seqObj "list" vs.toArray 0)) s1.heap.objs.size vs out.toArray).get? b = some u
    rw [sortedHeap_old (Nat.ne_of_lt hlt) (by rw [size_push']; exact Nat.lt_succ_of_lt hlt)]
    exact Heap.get?_push_of_some _ q
  · rw [pn.length_eq, List.length_map, Array.length_toList]; exact hn
end
/-- sorted(set(e)) -/
def tSortedSet (K : PySem.W.Frag) (ta : TE) : TE := fun σ H Q => ta σ H fun x H1 => ∃ (l : Addr) (ns : List Int), x = .ref l ∧ SqL K H1 l (ns.map V.int) ∧ ns.length ≤ 3000 ∧ ∀ (zs : List Int) (p : Addr), zs.Pairwise (· < ·) → (∀ k, k ∈ zs ↔ k ∈ ns) → zs.length ≤ ns.length → H1 p = none → Q (.ref p) (upd H1 p (.lst (zs.map V.int)))
section
variable {X : Cx}
theorem pe_sortedSet {a : Expr} {ta : TE} {p p2 q pos : Pos} (hg : Gl X "sorted") (hm : X.mg "sorted" = none) (hg2 : Gl X "set") (hm2 : X.mg "set" = none) (ha : PE X a ta) (hc : X.calm = true := by rfl)
    (na : starEach [a] X.env = (false, eval a X.env) :: starEach [] X.env := by rfl) : PE X (.Call (.Name "sorted" p) [.Call (.Name "set" p2) [a] [] q] [] pos) (tSortedSet X.K ta) := by
  refine ⟨fun pins s σ H Q I h => ?_⟩
  refine Call_ (ld_blt (u := .builtin "sorted") I hg hm (by decide +kernel) ?_ (by decide) (by decide))
  refine PyProof.Rows.callWith_builtin1 (PyProof.Rows.args_cons ?_ rfl) rfl rfl
  refine Call_ (ld_blt I hg2 hm2 boot_set ?_)
  refine PyProof.Rows.callWith_type1 (PyProof.Rows.args_cons (thn (ha.run pins s σ H _ I h) fun v s1 ⟨x, H1, I1, r1, q1⟩ => PyProof.Rows.args_nil ?_) na) na rfl
  obtain ⟨l, ns, rfl, hq, hz, q1⟩ := q1
  cases r1
  obtain ⟨its, r, pl, _⟩ := I1.list hq
  refine set_of_list ns (I1.ok.hd hc) pl.isList (by simpa using r.ints) (by unfold scanBound; omega) fun h' tk c hS hcn hk => ?_
  refine PyProof.Rows.args_nil ?_
  have I2 : Inv X pins σ H1 { s1 with heap := h', toks := tk } := I1.kept hk
  refine sorted_setN hS (I2.ok.hd hc) (by rw [sizeLine_eq]; omega) fun s' p out c2 zs hk2 g o hp hg hi hs hm hl => ?_
  have hlen : (zs.map V.int).length ≤ sizeLine := by rw [List.length_map, hl, sizeLine_eq]; omega
  have hn : H1 p = none := I2.hok.fresh hp
  have J : Inv X pins σ (upd H1 p (.lst (zs.map V.int))) { ({ s1 with heap := h', toks := tk } : Shared) with heap := s'.heap, gens := s'.gens, drawn := s'.drawn, toks := s'.toks } :=
    I2.call (ch := []) (Un.laid hk2 hp hn) (I2.hok.laid hk2 hp ⟨hlen, out.toList, c2, vals_of_ints hi, hg⟩) (by rw [g]; exact I2.bare) (fun _ z => nomatch z)
  have e : s' = { ({ s1 with heap := h', toks := tk } : Shared) with heap := s'.heap, gens := s'.gens, drawn := s'.drawn, toks := s'.toks } := by
    cases s'
    cases s1
    cases o
    rfl
  rw [e]
  exact ⟨.ref p, _, J, rfl, q1 zs p hs (fun k => by rw [hm k]; simp) (by omega) hn⟩
end
/-! xs[::k] -/
def rngV (n : Nat) (k : Int) : List Nat := sliceRange (sliceBounds none none (some k) n).1 (sliceBounds none none (some k) n).2.1 (sliceBounds none none (some k) n).2.2
def pickV (xs : List V) (k : Int) : List V := (rngV xs.length k).filterMap (fun i => xs[i]?)
theorem pick_mem {xs : List V} {k : Int} {x : V} (h : x ∈ pickV xs k) : x ∈ xs := by
  obtain ⟨i, _, hi⟩ := List.mem_filterMap.mp h
  exact List.mem_of_getElem? hi
theorem pick_ne {xs : List V} {k : Int} (h0 : 0 < k) (h : xs ≠ []) : pickV xs k ≠ [] := by
  have hp : 0 < xs.length := List.length_pos_iff.mpr h
  have h1 : 0 ∈ rngV xs.length k := by
    unfold rngV sliceRange sliceBounds
    simp only [Option.getD_some, gt_iff_lt, h0, if_true]
    rw [if_pos (by omega)]
    refine List.mem_map.mpr ⟨0, List.mem_range.mpr ?_, by simp⟩
    have h2 : 1 ≤ ((xs.length : Int) - 0 + k - 1) / k := (Int.le_ediv_iff_mul_le h0).mpr (by omega)
    omega
  have h2 : xs[0] ∈ pickV xs k := List.mem_filterMap.mpr ⟨0, h1, by simp [hp]⟩
  intro e
  rw [e] at h2
  cases h2
theorem pick_len {xs : List V} {k : Int} {its : List Value} (r : Vals xs its) : pickV xs k = (rngV its.length k).filterMap (fun i => xs[i]?) := by
  unfold pickV
  rw [r.length]
theorem vals_pick {xs : List V} {its : List Value} (r : Vals xs its) : ∀ js : List Nat, Vals (js.filterMap (fun i => xs[i]?)) (js.filterMap (fun i => its[i]?))
  | [] => .nil
  | j :: js => by
    cases h : xs[j]? with
    | none =>
      have h2 : its[j]? = none := by
        rw [List.getElem?_eq_none_iff] at h ⊢
        have := r.length
        omega
      rw [List.filterMap_cons, List.filterMap_cons, h, h2]
      exact vals_pick r js
    | some v =>
      obtain ⟨w, hw, rv⟩ := r.get h
      rw [List.filterMap_cons, List.filterMap_cons, h, hw]
      exact .cons rv (vals_pick r js)
def tStepL (K : PySem.W.Frag) (te tk : TE) : TE := fun σ H Q => te σ H fun x H1 => tPart tk σ H1 fun o H2 => ∃ a xs k, x = .ref a ∧ o = some k ∧ k ≠ 0 ∧ SqL K H2 a xs ∧ ∀ p, H2 p = none → Q (.ref p) (upd H2 p (.lst (pickV xs k)))
section
variable {X : Cx}
theorem pe_stepL {e ek : Expr} {te tk : TE} {p3 pos : Pos} (he : PE X e te) (hk : PE X ek tk) : PE X (.Subscript e (.Slice none none (some ek) p3) pos) (tStepL X.K te tk) := by
  refine ⟨fun pins s σ H Q I h => ?_⟩
  refine Subscript_ (thn (he.run pins s σ H _ I h) fun v s1 ⟨x, H1, I1, r1, q1⟩ => ?_)
  refine wpAny_Slice (thn (po_none.run pins s1 σ H1 (fun o H2 => o = none ∧ H2 = H1) I1 ⟨rfl, rfl⟩) fun vl s2 ⟨l, H2, I2, pl, el, e2⟩ => ?_)
  subst el e2
  refine thn (po_none.run pins s2 σ H2 (fun o H3 => o = none ∧ H3 = H2) I2 ⟨rfl, rfl⟩) fun vu s3 ⟨u, H3, I3, pu, eu, e3⟩ => ?_
  subst eu e3
  refine thn ((po_some hk).run pins s3 σ H3 _ I3 q1) fun vs s4 ⟨o, H4, I4, ps, q4⟩ => ?_
  obtain ⟨a, xs, k, ex, eo, h0, hx, q⟩ := q4
  subst ex eo
  cases r1
  have I5 : Inv X pins σ H4 { s4 with heap := s4.heap.push { cls := .type "slice", data := .fields #[vl, vu, vs] } } := I4.kept (t' := s4.toks) fun b ob q => Heap.get?_push_of_some _ q
  obtain ⟨its, r, ht, hz⟩ := I5.list hx
  have hlen := r.length
  show wpAny (model X.prog X.w) X.A (subscriptTail e (.Slice none none (some ek) p3) (.ref a) (.ref s4.heap.objs.size)) (EP X pins σ Q) X.xe { s4 with heap := s4.heap.push { cls := .type "slice", data := .fields #[vl, vu, vs] } }
  refine tail_any (ops := [.ref a, .ref s4.heap.objs.size]) ht.isList.typeIs (PySem.slot_list_getitem.lookup) ?_ (by with_unfolding_all rfl)
  refine wpAny_getItem_list_slice ht.isList (Heap.IsSliceOf.new _ vl vu vs) pl pu ps (by intro z; exact h0 (Option.some.inj z)) ?_ (by rw [List.size_toArray]; omega)
  have ep : slicePick its.toArray none none (some k) = ((rngV its.length k).filterMap (fun i => its[i]?)).toArray := by
    unfold slicePick rngV
    simp only [List.size_toArray, List.getElem?_toArray]
  have hsz : (pickV xs k).length ≤ sizeLine := by
    have h1 := slicePick_size_le its.toArray none none (some k)
    rw [ep, List.size_toArray, List.size_toArray] at h1
    have h2 := (vals_pick r (rngV its.length k)).length
    rw [pick_len r]
    omega
  rw [ep]
  refine ⟨.ref _, _, I5.laid (t' := s4.toks) (o := .lst (pickV xs k)) (fun b ob q => Heap.get?_push_of_some _ q) (Nat.le_refl _) ?_, rfl, q _ (I5.hok.fresh (Nat.le_refl _))⟩
  refine ⟨hsz, _, 0, ?_, Heap.get?_push_size _ rfl⟩
  rw [pick_len r]
  exact vals_pick r _
end
section
open Evl Wk
variable {K : PySem.W.Frag} {s : L2.St} {H : Hp} {ta te tk : TE}
theorem el_stepL {xs : List V} {k : Int} (h : EvP te s H (IsL xs)) (hk : Ev tk s H (.int k)) (h0 : k ≠ 0) : EvL (tStepL K te tk) s H (pickV xs k) := fun H1 e Q q =>
  h H1 e _ fun v H2 e2 ⟨a, ev, hp⟩ => hk H2 (e.trans e2) _ fun H3 e3 => ⟨k, rfl, a, xs, k, ev, rfl, h0, sq_of (e3 _ _ hp), fun p hp => q p _ (fresh_back (e2.trans e3) hp) ((e2.trans e3).trans (Ex.new hp)) upd_same⟩
theorem evp_sortedSet {R : List Int → Prop} (h : EvP ta s H (fun v H1 => ∃ p ns, v = .ref p ∧ H1 p = some (.lst (ns.map V.int)) ∧ R ns)) (hz : ∀ ns, R ns → ns.length ≤ 3000) :
    EvP (tSortedSet K ta) s H (fun v H2 => ∃ (p : Addr) (zs ns : List Int), v = .ref p ∧ H p = none ∧ H2 p = some (.lst (zs.map V.int)) ∧ R ns ∧ (∀ k, k ∈ zs ↔ k ∈ ns) ∧ zs.length ≤ ns.length) := fun H1 e Q q =>
  h H1 e _ fun v H2 e2 ⟨a, ns, ev, hp, hR⟩ => ⟨a, ns, ev, sq_of hp, hz ns hR, fun zs p _ hm hl np => q _ _ (e2.trans (Ex.new np)) ⟨p, zs, ns, rfl, fresh_back (e.trans e2) np, upd_same, hR, hm, hl⟩⟩
/-- e + [f], f an int of which nothing is known -/
theorem evp_catI {ns : List Int} {tb : TE} (ha : EvP ta s H (IsL (ns.map V.int))) (hb : EvP tb s H (IsI fun _ => True)) (hz : ns.length < 100000) :
    EvP (tOp rCat ta (tLst (tCons tb tNil))) s H (fun v H2 => ∃ p zs, v = .ref p ∧ H2 p = some (.lst (zs.map V.int)) ∧ ∃ c, zs = ns ++ [c]) := fun H1 e Q q =>
  ha H1 e _ fun a H2 e2 ⟨p, pa, hp⟩ => hb H2 (e.trans e2) _ fun b H3 e3 ⟨c, ec, _⟩ => ⟨by show 1 ≤ sizeLine; decide, fun l hl => ⟨p, l, ns.map V.int, [b], pa, rfl, Ex.new hl _ _ (e3 _ _ hp), upd_same, by rw [List.length_map]; exact sz_of (by simp only [List.length_cons, List.length_nil]; omega), fun l2 hl2 => q _ _ ((e2.trans e3).trans ((Ex.new hl).trans (Ex.new hl2))) ⟨l2, ns ++ [c], rfl, by rw [upd_same, ec, List.map_append]; rfl, c, rfl⟩⟩⟩
/-- a choice that is told, of values told by a word -/
theorem evp_ifB {t : TT} {tb : TE} {b : Bool} {P : V → Hp → Prop} (h : EvT t s H b) (h1 : b = true → EvP ta s H P) (h2 : b = false → EvP tb s H P) : EvP (tIf t ta tb) s H P := fun H1 e Q q => h H1 e _ fun H2 e2 => by
  cases b with
  | true => exact h1 rfl H2 (e.trans e2) Q fun v H3 e3 p => q v H3 (e2.trans e3) p
  | false => exact h2 rfl H2 (e.trans e2) Q fun v H3 e3 p => q v H3 (e2.trans e3) p
theorem ap_twoL {tb : TE} {xs ys : List V} (ha : EvL ta s H xs) (hb : EvL tb s H ys) : EvAP (tCons ta (tCons tb tNil)) s H (fun vs H2 => ∃ x y, vs = [V.ref x, V.ref y] ∧ H x = none ∧ H y = none ∧ x ≠ y ∧ H2 x = some (.lst xs) ∧ H2 y = some (.lst ys)) := fun H1 e Q q =>
  ha H1 e _ fun x H2 nx e2 hx => hb H2 (e.trans e2) _ fun y H3 ny e3 hy => q _ H3 (e2.trans e3) ⟨x, y, rfl, fresh_back e nx, fresh_back (e.trans e2) ny, ne_of_none hx ny, e3 _ _ hx, hy⟩
/-- the numbers picked -/
def pickI (zs : List Int) (k : Int) : List Int := (rngV zs.length k).filterMap (fun i => zs[i]?)
theorem pick_int (zs : List Int) (k : Int) : pickV (zs.map V.int) k = (pickI zs k).map V.int := by
  unfold pickV pickI
  rw [List.map_filterMap, List.length_map]
  simp only [List.getElem?_map]
theorem pickI_ne {zs : List Int} {k : Int} (h0 : 0 < k) (h : zs ≠ []) : pickI zs k ≠ [] := fun e => by
  have h2 := pick_ne (xs := zs.map V.int) h0 (by simpa using h)
  rw [pick_int, e] at h2
  exact h2 rfl
theorem pickI_len {zs : List Int} {k : Int} (h0 : 0 < k) : (pickI zs k).length ≤ zs.length := by
  unfold pickI rngV
  refine Nat.le_trans (List.length_filterMap_le _ _) (sliceRange_length_le _ _ _ _ (fun _ => ?_) fun h => ?_)
  · simp only [sliceBounds, Option.getD_some, gt_iff_lt, h0, if_true]
    omega
  · simp only [sliceBounds, Option.getD_some] at h
    omega
/-- e.append(f), e a new list that nobody keeps -/
theorem w_appN {D : Ends} {tz : TS} {xs : List V} {v : V} (ha : EvL ta s H xs) (h : Ev te s H v) (hz : xs.length < 100000) (k : Sv tz D s H) :
    Sv (tSeq (tDrop (tBM K "list" rAppend ta (tCons te tNil))) tz) D s H := fun H1 e1 =>
  ha H1 e1 _ fun l H2 hl e2 h2 => ⟨Or.inl ⟨rfl, xs, sq_of h2⟩, h H2 (e1.trans e2) _ fun H3 e3 => ⟨l, xs, v, rfl, rfl, e3 _ _ h2, sz_lt hz, k _ (e1.trans (Ex.mut (e2.trans e3) hl))⟩⟩
end
end St

set_option Elab.async false
set_option linter.all false
set_option maxRecDepth 100000
set_option maxHeartbeats 4000000
namespace Ev
open PySem PySem.Spec L2 Evl Wk
def topS (i : Nat) : Stmt := PySem.Challenge.pw_evenhand_k04_sums_and_marks.main.body.getD i (.Pass ⟨0, 0, 0, 0⟩)
abbrev s_is_whole : Stmt := topS 8
theorem sc_is_whole : FnScope ["thing"] ["thing"] (defScope s_is_whole) := ⟨rfl, rfl, rfl, by decide +kernel, rfl, by decide +kernel, by decide +kernel⟩
abbrev s_is_share : Stmt := topS 9
theorem sc_is_share : FnScope ["thing"] ["thing"] (defScope s_is_share) := ⟨rfl, rfl, rfl, by decide +kernel, rfl, by decide +kernel, by decide +kernel⟩
abbrev s_check_row : Stmt := topS 10
theorem sc_check_row : FnScope ["row", "share"] ["row"] (defScope s_check_row) := ⟨rfl, rfl, rfl, by decide +kernel, rfl, by decide +kernel, by decide +kernel⟩
abbrev s_running : Stmt := topS 11
theorem sc_running : FnScope ["shares", "found", "total", "share"] ["shares"] (defScope s_running) := ⟨rfl, rfl, rfl, by decide +kernel, rfl, by decide +kernel, by decide +kernel⟩
abbrev s_rising_sums : Stmt := topS 12
theorem sc_rising_sums : FnScope ["row"] ["row"] (defScope s_rising_sums) := ⟨rfl, rfl, rfl, by decide +kernel, rfl, by decide +kernel, by decide +kernel⟩
abbrev s_over : Stmt := topS 13
theorem sc_over : FnScope ["row", "mark", "share"] ["row", "mark"] (defScope s_over) := ⟨rfl, rfl, rfl, by decide +kernel, rfl, by decide +kernel, by decide +kernel⟩
abbrev s_above : Stmt := topS 14
theorem sc_above : FnScope ["row", "mark"] ["row", "mark"] (defScope s_above) := ⟨rfl, rfl, rfl, by decide +kernel, rfl, by decide +kernel, by decide +kernel⟩
abbrev s_is_gift : Stmt := topS 15
theorem sc_is_gift : FnScope ["gift", "many", "part"] ["gift", "many"] (defScope s_is_gift) := ⟨rfl, rfl, rfl, by decide +kernel, rfl, by decide +kernel, by decide +kernel⟩
abbrev s_done : Stmt := topS 16
theorem sc_done : FnScope ["row", "gifts", "found", "giver", "taker", "amount", "gift"] ["row", "gifts"] (defScope s_done) := ⟨rfl, rfl, rfl, by decide +kernel, rfl, by decide +kernel, by decide +kernel⟩
abbrev s_Gifts___init__ : Stmt := inClass (topS 19) 0
theorem sc_Gifts___init__ : FnScope ["self", "gifts"] ["self", "gifts"] (defScope s_Gifts___init__) := ⟨rfl, rfl, rfl, by decide +kernel, rfl, by decide +kernel, by decide +kernel⟩
abbrev s_Gifts_shows : Stmt := inClass (topS 19) 1
theorem sc_Gifts_shows : FnScope ["self", "one", "other", "shares", "gift"] ["self", "one", "other"] (defScope s_Gifts_shows) := ⟨rfl, rfl, rfl, by decide +kernel, rfl, by decide +kernel, by decide +kernel⟩
abbrev s_Top___init__ : Stmt := inClass (topS 20) 0
theorem sc_Top___init__ : FnScope ["self", "many"] ["self", "many"] (defScope s_Top___init__) := ⟨rfl, rfl, rfl, by decide +kernel, rfl, by decide +kernel, by decide +kernel⟩
abbrev s_Top_shows : Stmt := inClass (topS 20) 1
theorem sc_Top_shows : FnScope ["self", "one", "other"] ["self", "one", "other"] (defScope s_Top_shows) := ⟨rfl, rfl, rfl, by decide +kernel, rfl, by decide +kernel, by decide +kernel⟩
abbrev s_Wholes___init__ : Stmt := inClass (topS 21) 0
theorem sc_Wholes___init__ : FnScope ["self", "one", "other"] ["self", "one", "other"] (defScope s_Wholes___init__) := ⟨rfl, rfl, rfl, by decide +kernel, rfl, by decide +kernel, by decide +kernel⟩
abbrev s_Wholes_shows : Stmt := inClass (topS 21) 1
theorem sc_Wholes_shows : FnScope ["self", "one", "other"] ["self", "one", "other"] (defScope s_Wholes_shows) := ⟨rfl, rfl, rfl, by decide +kernel, rfl, by decide +kernel, by decide +kernel⟩
abbrev s_check_two : Stmt := topS 23
theorem sc_check_two : FnScope ["one", "other"] ["one", "other"] (defScope s_check_two) := ⟨rfl, rfl, rfl, by decide +kernel, rfl, by decide +kernel, by decide +kernel⟩
abbrev s_top_of : Stmt := topS 24
theorem sc_top_of : FnScope ["one", "other", "mine", "theirs", "k"] ["one", "other"] (defScope s_top_of) := ⟨rfl, rfl, rfl, by decide +kernel, rfl, by decide +kernel, by decide +kernel⟩
abbrev s_gifts_to : Stmt := topS 25
theorem sc_gifts_to : FnScope ["row", "wanted", "order", "found", "givers", "k", "lack", "giver", "spare", "amount"] ["row", "wanted"] (defScope s_gifts_to) := ⟨rfl, rfl, rfl, by decide +kernel, rfl, by decide +kernel, by decide +kernel⟩
abbrev s_compared : Stmt := topS 26
theorem sc_compared : FnScope ["one", "other", "wanted", "many"] ["one", "other"] (defScope s_compared) := ⟨rfl, rfl, rfl, by decide +kernel, rfl, by decide +kernel, by decide +kernel⟩
abbrev s_law_cell_at : Stmt := topS 28
theorem sc_law_cell_at : FnScope ["_law_script", "_law_k"] ["_law_script", "_law_k"] (defScope s_law_cell_at) := ⟨rfl, rfl, rfl, by decide +kernel, rfl, by decide +kernel, by decide +kernel⟩
abbrev s_law_draw : Stmt := topS 29
theorem sc_law_draw : FnScope ["_law_cell", "_law_k", "_law_many", "_law_primes"] ["_law_cell", "_law_k", "_law_many"] (defScope s_law_draw) := ⟨rfl, rfl, rfl, by decide +kernel, rfl, by decide +kernel, by decide +kernel⟩
abbrev s_law_row : Stmt := topS 30
theorem sc_law_row : FnScope ["_law_script", "_law_most", "_law_row_here", "_law_k", "_law_share"] ["_law_script"] (defScope s_law_row) := ⟨rfl, rfl, rfl, by decide +kernel, rfl, by decide +kernel, by decide +kernel⟩
abbrev s_law_other : Stmt := topS 31
theorem sc_law_other : FnScope ["_law_script", "_law_row_here", "_law_found", "_law_kind", "_law_k", "_law_one", "_law_other_here", "_law_more", "_law_amount"] ["_law_script", "_law_row_here"] (defScope s_law_other) := ⟨rfl, rfl, rfl, by decide +kernel, rfl, by decide +kernel, by decide +kernel⟩
abbrev s_law_numbers : Stmt := topS 32
theorem sc_law_numbers : FnScope ["_law_found", "_law_many", "_law_one"] ["_law_found", "_law_many"] (defScope s_law_numbers) := ⟨rfl, rfl, rfl, by decide +kernel, rfl, by decide +kernel, by decide +kernel⟩
abbrev s_law_above : Stmt := topS 33
theorem sc_law_above : FnScope ["_law_row_here", "_law_mark", "_law_total", "_law_share"] ["_law_row_here", "_law_mark"] (defScope s_law_above) := ⟨rfl, rfl, rfl, by decide +kernel, rfl, by decide +kernel, by decide +kernel⟩
abbrev s_law : Stmt := topS 34
theorem sc_law : FnScope ["_law_script", "_law_row_here", "_law_other_here", "_law_due", "_law_total", "_law_share", "_law_again", "_law_found", "_law_marks", "_law_few", "_law_more", "_law_mark", "_law_here", "_law_there", "_law_led", "_law_gifts", "_law_now", "_law_k", "_law_giver", "_law_amount", "_law_taker", "_law_handed"] ["_law_script"] (defScope s_law) := ⟨rfl, rfl, rfl, by decide +kernel, rfl, by decide +kernel, by decide +kernel⟩
structure Txt (K : PySem.W.Frag) (mg : Str → Option Value) : Prop where
  n_len : mg "len" = none
  n_all : mg "all" = none
  n_any : mg "any" = none
  n_sum : mg "sum" = none
  n_max : mg "max" = none
  n_min : mg "min" = none
  n_sorted : mg "sorted" = none
  n_isinstance : mg "isinstance" = none
  n_range : mg "range" = none
  n_reversed : mg "reversed" = none
  n_zip : mg "zip" = none
  n_list : mg "list" = none
  n_abs : mg "abs" = none
  n_str : mg "str" = none
  n_int : mg "int" = none
  n_set : mg "set" = none
  n_bool : mg "bool" = none
  n_tuple : mg "tuple" = none
  g_GREATEST : ∃ t, mg "GREATEST" = some (.int 1000000 t)
end Ev

set_option Elab.async false
set_option linter.all false
set_option maxRecDepth 100000
set_option maxHeartbeats 4000000
namespace Ev
open PySem PySem.Spec L2 Evl Wk
/-! ### rows: is_whole, is_share, check_row, running, over -/
local macro_rules | `(tactic| walk_at "ev") => `(tactic| first
  | exact ev_c | exact ev_var rfl | assumption
  | (refine ev_op ?_ ?_ rv_I0 <;> walk_at "ev")
  | (refine ev_un ?_ ru_neg; walk_at "ev"))
def tyns : List String := ["int", "bool", "str", "list", "tuple", "dict", "NoneType"]
def spWhole (K : PySem.W.Frag) : Sp := fun vs H Q _ => ∃ (x : V) (n : String), vs = [x] ∧ TyX K H x (.type n) ∧ n ∈ tyns ∧ RetV (.bl (n == "int")) H Q
section
variable {P : Program} {w : World} {K : PySem.W.Frag} {mg : Str → Option Value} {base : Heap}
theorem def_is_whole (R : Raw K mg "is_whole" s_is_whole ["thing"]) (T : Txt K mg) : Def P w K mg base CX0 1 "is_whole" ["thing"] (spWhole K) := by
  refine R.ok fun f fd F => F.ok sc_is_whole (fun vs H Q E h => ?_) (fun cdv A outer s H vs Q E hr h => ?_)
  · obtain ⟨x, n, rfl, _⟩ := h
    rfl
  · obtain ⟨x, n, rfl, ty, hn, q⟩ := h
    refine ⟨_, (pss_cons (ps_ret (pe_and (pe_callB (r := rIsi K) call_isi (by rfl) T.n_isinstance (by decide +kernel) (pa_cons (pv 0) (pa_cons (pe_bltn (v := .ty "int") (u := .type "int") (by rfl) T.n_int (by decide +kernel) rfl) pa_nil))) (pe_one (pe_not (pe_callB (r := rIsi K) call_isi (by rfl) T.n_isinstance (by decide +kernel) (pa_cons (pv 0) (pa_cons (pe_bltn (v := .ty "bool") (u := .type "bool") (by rfl) T.n_bool (by decide +kernel) rfl) pa_nil)))))))
      pss_nil), ?_⟩
    have k1 : ∃ a b : Bool, PySem.W.kitOne K (.type n) (.type "int") = some a ∧ PySem.W.kitOne K (.type n) (.type "bool") = some b ∧ (a && !b) = (n == "int") := by
      simp only [tyns, List.mem_cons, List.not_mem_nil, or_false] at hn
      rcases hn with rfl | rfl | rfl | rfl | rfl | rfl | rfl
      · exact ⟨true, false, kit_ty (by decide +kernel), kit_ty (by decide +kernel), by decide +kernel⟩
      · exact ⟨true, true, kit_ty (by decide +kernel), kit_ty (by decide +kernel), by decide +kernel⟩
      · exact ⟨false, false, kit_ty (by decide +kernel), kit_ty (by decide +kernel), by decide +kernel⟩
      · exact ⟨false, false, kit_ty (by decide +kernel), kit_ty (by decide +kernel), by decide +kernel⟩
      · exact ⟨false, false, kit_ty (by decide +kernel), kit_ty (by decide +kernel), by decide +kernel⟩
      · exact ⟨false, false, kit_ty (by decide +kernel), kit_ty (by decide +kernel), by decide +kernel⟩
      · exact ⟨false, false, kit_ty (by decide +kernel), kit_ty (by decide +kernel), by decide +kernel⟩
    obtain ⟨a, b, k2, k3, k4⟩ := k1
    refine Sv.go (w_ret (v := .bl (a && !b)) (ev_andV (ev_isi (ev_var rfl) ev_c (.ty _) ty k2) fun _ => ev_notV (ev_isi (ev_var rfl) ev_c (.ty _) ty k3)) fun H1 e1 => ?_)
    rw [k4]
    exact q H1 e1
def isSh (i : Int) : Bool := decide (-1000000 ≤ i) && decide (i ≤ 1000000)
/-- what is_share says of a value -/
def shV : V → Bool
  | .int i => isSh i
  | _ => false
def spShare (K : PySem.W.Frag) : Sp := fun vs H Q _ => ∃ (x : V) (n : String), vs = [x] ∧ TyX K H x (.type n) ∧ n ∈ tyns ∧ ((n == "int") = true → ∃ i, x = .int i) ∧ RetV (.bl ((n == "int") && shV x)) H Q
theorem def_is_share (R : Raw K mg "is_share" s_is_share ["thing"]) (T : Txt K mg) (d_is_whole : Def P w K mg base CX0 1 "is_whole" ["thing"] (spWhole K)) : Def P w K mg base CX0 2 "is_share" ["thing"] (spShare K) := by
  refine R.ok fun f fd F => F.ok sc_is_share (fun vs H Q E h => ?_) (fun cdv A outer s H vs Q E hr h => ?_)
  · obtain ⟨x, n, rfl, _⟩ := h
    rfl
  · obtain ⟨x, n, rfl, ty, hn, hi, q⟩ := h
    refine ⟨_, (pss_cons (ps_ret (pe_and (pe_def d_is_whole hr (by decide) (by rfl) pass0 (pa_cons (pv 0) pa_nil)) (pe_one (pe_chain op_le op_le (pe_un un_neg (pe_glob (v := .int 1000000) rfl T.g_GREATEST.choose_spec ⟨_, rfl⟩)) (pv 0) (pe_glob (v := .int 1000000) rfl T.g_GREATEST.choose_spec ⟨_, rfl⟩)))))
      pss_nil), ?_⟩
    refine Sv.go (w_ret (v := .bl ((n == "int") && shV x)) (ev_andV (ev_call (dvs := []) (ea_cons (ev_var rfl) ea_nil) fun H1 e1 Q q E => ⟨x, n, rfl, tyx_mono e1 ty, hn, q⟩) fun hb => ?_) fun H1 e1 => q H1 e1)
    obtain ⟨i, rfl⟩ := hi hb
    exact ev_chain (ev_un ev_c ru_neg) (ev_var rfl) rv_I0 fun _ => ⟨ev_c, rv_I0⟩
/-- a row of shares -/
def RowOk (ns : List Int) : Prop := ns ≠ [] ∧ (∀ x ∈ ns, isSh x = true) ∧ ns.length ≤ 100000
theorem isSh_iff {i : Int} : isSh i = true ↔ -1000000 ≤ i ∧ i ≤ 1000000 := by simp [isSh]
theorem ints_all {α : Type} {f : α → Bool} {l : List α} (h : ∀ x ∈ l, f x = true) : (l.map f).all id = true := by
  rw [List.all_eq_true]
  intro b hb
  obtain ⟨x, hx, rfl⟩ := List.mem_map.mp hb
  exact h x hx
theorem map_bl {α : Type} (f : α → Bool) (l : List α) : l.map (fun x => V.bl (f x)) = (l.map f).map V.bl := by rw [List.map_map]; rfl
theorem map_int {α : Type} (f : α → Int) (l : List α) : l.map (fun x => V.int (f x)) = (l.map f).map V.int := by rw [List.map_map]; rfl
/-- all([is_share(x) for x in row]) -/
theorem ev_shares {s : L2.St} {H : Hp} {tl : TE} {E : XK} {j : Nat} {a : Addr} (ns : List Int) (h : Ev tl s H (.ref a)) (hx : H a = some (.lst (ns.map V.int))) (hz : ns.length ≤ 100000) (hw : ∀ x, wipe ((wipe s [j]).set j (some x)) [j] = wipe s [j])
    (hj : ∀ x, ((wipe s [j]).set j (some x))[j]? = some (some x)) :
    Ev (tCB (rAll K) (tCons (tLc (iList K tl) (gName j) tYes (tCall (spShare K) [] E (tCons (tVar j) tNil)) [j]) tNil)) s H (.bl ((ns.map isSh).all id)) := by
  have h2 := el_map (K := K) (te := tCall (spShare K) [] E (tCons (tVar j) tNil)) ns V.int (fun x => V.bl (isSh x)) h (sq_of hx) hz hw (fun x _ => ev_call (dvs := []) (ea_cons (ev_var (hj _)) ea_nil) fun H1 e1 Q q E => ⟨.int x, "int", rfl, .base (.int x), by simp [tyns], fun _ => ⟨x, rfl⟩, q⟩)
  rw [map_bl] at h2
  exact ev_all h2.p
def spCheckRow : Sp := fun vs H Q _ => ∃ (a : Addr) (ns : List Int), vs = [.ref a] ∧ H a = some (.lst (ns.map V.int)) ∧ RowOk ns ∧ RetV .non H Q
theorem def_check_row (R : Raw K mg "check_row" s_check_row ["row"]) (T : Txt K mg) (d_is_share : Def P w K mg base CX0 2 "is_share" ["thing"] (spShare K)) : Def P w K mg base CX0 3 "check_row" ["row"] spCheckRow := by
  refine R.ok fun f fd F => F.ok sc_check_row (fun vs H Q E h => ?_) (fun cdv A outer s H vs Q E hr h => ?_)
  · obtain ⟨a, ns, rfl, _⟩ := h
    rfl
  · obtain ⟨a, ns, rfl, ha, ⟨h1, h2, h3⟩, q⟩ := h
    refine ⟨_, (pss_cons (ps_if (PW.pt (pw_or (pt_not (pt_val (pe_callB (r := rIsi K) call_isi (by rfl) T.n_isinstance (by decide +kernel) (pa_cons (pv 0) (pa_cons (pe_bltn (v := .ty "list") (u := .type "list") (by rfl) T.n_list (by decide +kernel) rfl) pa_nil))))) (pw_or (pt_cmpR op_eq (pe_callB (r := rLenS K) call_len_seq (by rfl) T.n_len PySem.boot_len (pa_cons (pv 0) pa_nil)) pe_int (nomark _)) (pw_or1 (pt_not (pt_val (pe_callB (r := rAll K) (cr_all rfl) (by rfl) T.n_all (by decide +kernel) (pa_cons (pe_lc (own := [("share", 1)]) (g := gName 1) rfl sc_check_row.nd (pi_list (pv 0)) (blkOk_by (own := [("share", 1)]) (N := ["row", "share"]) (sc := defScope s_check_row) (by decide +kernel)) (fun _ _ _ _ _ => pg_name (i := 1) sc_check_row.nd rfl (Or.inl rfl)) (fun _ _ _ _ _ => pts_nil) (fun _ _ _ _ _ => (pe_def d_is_share hr (by decide) (by rfl) pass0 (pa_cons (pv 1) pa_nil)))) pa_nil))))))))
        (pss_cons ps_never
          pss_nil)
        pss_nil)
      pss_nil), ?_⟩
    have hl : (V.int (((ns.map V.int).length : Nat) : Int) = V.int 0) = False := by
      simp only [V.int.injEq, List.length_map, eq_iff_iff, iff_false]
      have := List.length_pos_iff.mpr h1
      omega
    refine Sv.go (w_if (b := false) (et_is (et_or (et_not (et_B (ev_isi (b := true) (ev_var rfl) ev_c (.ty _) (.base (.lst ha)) (kit_ty (by decide +kernel))))) fun _ => et_or (et_test (ev_op (ev_lenL (ev_var' rfl ha)) ev_c (rv_eq rfl))) fun _ => et_not (et_B (ev_shares ns (ev_var rfl) ha h3 (fun _ => rfl) (fun _ => rfl)))) ?_) (fun h => nomatch h) fun _ => w_nx fun H1 e1 => q H1 e1)
    rw [ints_all h2]
    simp only [hl]
    rfl
/-- the running sums -/
def runs : Int → List Int → List Int
  | _, [] => []
  | t, x :: r => (t + x) :: runs (t + x) r
theorem runs_len : ∀ (t : Int) (l : List Int), (runs t l).length = l.length
  | _, [] => rfl
  | t, x :: r => by simp [runs, runs_len (t + x) r]
theorem runs_snoc : ∀ (t : Int) (l : List Int) (x : Int), runs t (l ++ [x]) = runs t l ++ [t + l.sum + x]
  | t, [], x => by simp [runs]
  | t, y :: l, x => by
    show (t + y) :: runs (t + y) (l ++ [x]) = (t + y) :: (runs (t + y) l ++ [t + (y :: l).sum + x])
    rw [runs_snoc (t + y) l x, List.sum_cons]
    have e : t + y + l.sum + x = t + (y + l.sum) + x := by omega
    rw [e]
theorem int_at {ns : List Int} {i : Nat} {x : V} (h : (ns.map V.int)[i]? = some x) : ∃ n, ns[i]? = some n ∧ x = .int n := by
  rw [List.getElem?_map] at h
  cases e : ns[i]? with
  | none => rw [e] at h; cases h
  | some n => rw [e] at h; exact ⟨n, rfl, (Option.some.inj h).symm⟩
def spRunning : Sp := fun vs H Q _ => ∃ (a : Addr) (ns : List Int), vs = [.ref a] ∧ H a = some (.lst (ns.map V.int)) ∧ ns.length ≤ 10000 ∧ RetL ((runs 0 ns).map V.int) H Q
theorem def_running (R : Raw K mg "running" s_running ["shares"]) (T : Txt K mg) : Def P w K mg base CX0 1 "running" ["shares"] spRunning := by
  refine R.ok fun f fd F => F.ok sc_running (fun vs H Q E h => ?_) (fun cdv A outer s H vs Q E hr h => ?_)
  · obtain ⟨a, ns, rfl, _⟩ := h
    rfl
  · obtain ⟨a, ns, rfl, ha, hz, q⟩ := h
    refine ⟨_, (pss_cons (ps_set (i := 1) sc_running.nd rfl (Or.inl rfl) (pe_lst pa_nil))
      (pss_cons (ps_set (i := 2) sc_running.nd rfl (Or.inl rfl) pe_int)
      (pss_cons (ps_for PassesOwn.never rfl (pi_list (pv 0)) (pg_name (i := 3) sc_running.nd rfl (Or.inl rfl))
        (pss_cons (ps_aug (i := 2) sc_running.nd rfl (Or.inl rfl) (pv 3) ip_add)
          (pss_cons (ps_expr (pe_bm PySem.F.plainAttrs_list PySem.F.slot_list_append PySem.F.type_list_append mt_append (pv 1) (pa_cons (pv 2) pa_nil)))
          pss_nil)))
      (pss_cons (ps_ret (pv 1))
      pss_nil)))), ?_⟩
    refine Sv.go (w_asgL (el_lst ea_nil (by decide)) fun p H1 np e1 hp => w_asg ev_c (w_forL (ev_var rfl) (sq_of (e1 _ _ ha)) (fun i s' H' => ∃ y, s' = [some (.ref a), some (.ref p), some (.int (ns.take i).sum), y] ∧ Ex H H' ∧ H' p = some (.lst ((runs 0 (ns.take i)).map V.int))) (fun H2 e2 => ⟨none, rfl, e1.trans e2, e2 _ _ hp⟩) (fun i s' H' hi ⟨y, _, ex, _⟩ => sq_of (ex _ _ ha)) ?_ ?_))
    · rintro i x s' H' hi ⟨y, rfl, ex, hp'⟩
      obtain ⟨n, hn, rfl⟩ := int_at hi
      have hlt : i < ns.length := (List.getElem?_eq_some_iff.mp hn).1
      have et : ns.take (i + 1) = ns.take i ++ [n] := by rw [List.take_add_one, hn]; rfl
      refine w_aug rfl (ev_var rfl) (w_app hp' (ev_var rfl) (ev_var rfl) ?_ fun H2 pt => w_nx fun H3 e3 => ⟨some (.int n), ?_, (pt.ex ex np).trans e3, ?_⟩)
      · rw [List.length_map, runs_len, List.length_take]
        omega
      · rw [et, List.sum_append]
        simp
      · rw [et, runs_snoc, List.map_append, e3 _ _ pt.new]
        simp
    · rintro s' H' ⟨y, rfl, ex, hp'⟩
      refine w_ret (ev_var rfl) fun H2 e2 => ?_
      rw [List.length_map, List.take_length] at hp'
      exact q p H2 np (ex.trans e2) (e2 _ _ hp')
end
end Ev

set_option Elab.async false
set_option linter.all false
set_option maxRecDepth 100000
set_option maxHeartbeats 4000000
namespace Ev
open Wk
/-! ### the plain law of points 2 and 3: gifts that lead from a row to another one -/
abbrev Gv := Nat × Nat × Int
/-- so much for t, of the givers on the pile: the gifts, the pile behind -/
def give (t : Nat) : Int → List (Nat × Int) → List Gv × List (Nat × Int)
  | _, [] => ([], [])
  | d, (g, sp) :: r => if d ≤ 0 then ([], (g, sp) :: r) else if d < sp then ([(g, t, d)], (g, sp - d) :: r) else ((g, t, sp) :: (give t (d - sp) r).1, (give t (d - sp) r).2)
/-- places with what they lack; the pile -/
def goG : List (Nat × Int) → List (Nat × Int) → List Gv
  | [], _ => []
  | (p, d) :: R, st => if d < 0 then goG R ((p, -d) :: st) else (give p d st).1 ++ goG R (give p d st).2
def stepG (c : Nat → Int) (x : Gv) : Nat → Int := fun q => if q = x.1 then c q - x.2.2 else if q = x.2.1 then c q + x.2.2 else c q
def AllFair (n : Nat) : (Nat → Int) → List Gv → Prop
  | _, [] => True
  | c, x :: r => (x.1 < n ∧ x.2.1 < n ∧ x.1 ≠ x.2.1 ∧ 0 < x.2.2 ∧ stepG c x x.2.1 ≤ stepG c x x.1) ∧ AllFair n (stepG c x) r
def runG : (Nat → Int) → List Gv → (Nat → Int)
  | c, [] => c
  | c, x :: r => runG (stepG c x) r
theorem runG_app : ∀ (c : Nat → Int) (a b : List Gv), runG c (a ++ b) = runG (runG c a) b
  | _, [], _ => rfl
  | c, x :: a, b => runG_app (stepG c x) a b
theorem allFair_app {n : Nat} : ∀ (c : Nat → Int) (a b : List Gv), AllFair n c a → AllFair n (runG c a) b → AllFair n c (a ++ b)
  | _, [], _, _, h => h
  | c, x :: a, b, h1, h2 => ⟨h1.1, allFair_app (stepG c x) a b h1.2 h2⟩
def sumS (l : List (Nat × Int)) : Int := (l.map (·.2)).sum
theorem sumS_cons (z : Nat × Int) (l : List (Nat × Int)) : sumS (z :: l) = z.2 + sumS l := by simp [sumS]
theorem sumS_nn {l : List (Nat × Int)} (h : ∀ z ∈ l, 0 < z.2) : 0 ≤ sumS l := by
  induction l with
  | nil => exact Int.le_refl _
  | cons z l ih =>
    rw [sumS_cons]
    have h1 := h z List.mem_cons_self
    have h2 := ih fun y hy => h y (List.mem_cons_of_mem _ hy)
    omega
structure GiveOk (n t : Nat) (W c : Nat → Int) (d : Int) (st : List (Nat × Int)) : Prop where
  fair : AllFair n c (give t d st).1
  full : runG c (give t d st).1 t = W t
  other : ∀ q, q ≠ t → q ∉ st.map (·.1) → runG c (give t d st).1 q = c q
  left : ∀ z ∈ (give t d st).2, 0 < z.2 ∧ runG c (give t d st).1 z.1 = W z.1 + z.2 ∧ z.1 ∈ st.map (·.1)
  gone : ∀ q ∈ st.map (·.1), q ∉ (give t d st).2.map (·.1) → runG c (give t d st).1 q = W q
  nd : ((give t d st).2.map (·.1)).Nodup
  sum : sumS (give t d st).2 = sumS st - d
  len : (give t d st).1.length + (give t d st).2.length ≤ st.length + 1
  len0 : (give t d st).2 = [] → (give t d st).1.length ≤ st.length
theorem give_ok {n t : Nat} {W : Nat → Int} (ht : t < n) : ∀ (st : List (Nat × Int)) (c : Nat → Int) (d : Int),
    (∀ z ∈ st, z.1 < n ∧ z.1 ≠ t ∧ 0 < z.2 ∧ c z.1 = W z.1 + z.2 ∧ W t ≤ W z.1) → (st.map (·.1)).Nodup → 0 ≤ d → d ≤ sumS st → c t + d = W t → GiveOk n t W c d st
  | [], c, d, _, _, h0, h1, hc => by
    have : sumS [] = 0 := rfl
    have hd : d = 0 := by omega
    subst hd
    exact ⟨trivial, by show c t = W t; omega, fun _ _ _ => rfl, fun _ h => by simp [give] at h, fun _ h => by simp at h, by simp [give], by simp [give, this], by simp [give], fun _ => by simp [give]⟩
  | (g, sp) :: r, c, d, hst, hnd, h0, h1, hc => by
    obtain ⟨g1, g2, g3, g4, g5⟩ := hst (g, sp) List.mem_cons_self
    have hnd' := List.nodup_cons.mp (show (g :: r.map (·.1)).Nodup from hnd)
    rw [sumS_cons] at h1
    simp only at g1 g2 g3 g4 g5 h1
    by_cases hd : d ≤ 0
    · have hd0 : d = 0 := by omega
      have e : give t d ((g, sp) :: r) = ([], (g, sp) :: r) := by simp [give, hd]
      refine ⟨by rw [e]; trivial, by rw [e]; show c t = W t; omega, fun _ _ _ => by rw [e]; rfl, fun z hz => ?_, fun q hq hq2 => ?_, by rw [e]; exact hnd, by rw [e]; show sumS ((g, sp) :: r) = _; omega, by rw [e]; simp, fun h => by rw [e] at h; cases h⟩
      · rw [e] at hz ⊢
        obtain ⟨a1, a2, a3, a4, a5⟩ := hst z hz
        exact ⟨a3, a4, List.mem_map.mpr ⟨z, hz, rfl⟩⟩
      · rw [e] at hq2
        exact absurd hq hq2
    · by_cases hs : d < sp
      · have e : give t d ((g, sp) :: r) = ([(g, t, d)], (g, sp - d) :: r) := by simp [give, hd, hs]
        have st1 : stepG c (g, t, d) t = W t := by
          show (if t = g then c t - d else if t = t then c t + d else c t) = W t
          rw [if_neg (Ne.symm g2), if_pos rfl]
          omega
        have st2 : stepG c (g, t, d) g = W g + (sp - d) := by
          show (if g = g then c g - d else _) = _
          rw [if_pos rfl]
          omega
        have st3 : ∀ q, q ≠ g → q ≠ t → stepG c (g, t, d) q = c q := fun q q1 q2 => by
          show (if q = g then c q - d else if q = t then c q + d else c q) = c q
          rw [if_neg q1, if_neg q2]
        refine ⟨by rw [e]; exact ⟨⟨g1, ht, g2, by show 0 < d; omega, by show stepG c (g, t, d) t ≤ stepG c (g, t, d) g; omega⟩, trivial⟩, by rw [e]; exact st1, fun q q1 q2 => ?_, fun z hz => ?_, fun q hq hq2 => ?_, by rw [e]; exact hnd, by rw [e, sumS_cons, sumS_cons]; show sp - d + sumS r = sp + sumS r - d; omega, by rw [e]; simp only [List.length_cons, List.length_nil]; omega, fun h => by rw [e] at h; cases h⟩
        · rw [e]
          exact st3 q (fun z => q2 (by rw [z]; simp)) q1
        · rw [e] at hz ⊢
          rcases List.mem_cons.mp hz with rfl | hz
          · exact ⟨by show 0 < sp - d; omega, st2, by simp⟩
          · obtain ⟨a1, a2, a3, a4, a5⟩ := hst z (List.mem_cons_of_mem _ hz)
            have hzr : z.1 ∈ r.map (·.1) := List.mem_map.mpr ⟨z, hz, rfl⟩
            have ne : z.1 ≠ g := fun q => hnd'.1 (by rw [← q]; exact hzr)
            refine ⟨a3, ?_, List.mem_cons_of_mem _ hzr⟩
            show stepG c (g, t, d) z.1 = _
            rw [st3 z.1 ne a2, a4]
        · rw [e] at hq2
          exact absurd hq hq2
      · have e : give t d ((g, sp) :: r) = ((g, t, sp) :: (give t (d - sp) r).1, (give t (d - sp) r).2) := by simp [give, hd, hs]
        have st1 : stepG c (g, t, sp) t = c t + sp := by
          show (if t = g then c t - sp else if t = t then c t + sp else c t) = _
          rw [if_neg (Ne.symm g2), if_pos rfl]
        have st2 : stepG c (g, t, sp) g = W g := by
          show (if g = g then c g - sp else _) = _
          rw [if_pos rfl]
          omega
        have st3 : ∀ q, q ≠ g → q ≠ t → stepG c (g, t, sp) q = c q := fun q q1 q2 => by
          show (if q = g then c q - sp else if q = t then c q + sp else c q) = c q
          rw [if_neg q1, if_neg q2]
        have ih := give_ok ht r (stepG c (g, t, sp)) (d - sp) (fun z hz => by
          obtain ⟨a1, a2, a3, a4, a5⟩ := hst z (List.mem_cons_of_mem _ hz)
          have hzr : z.1 ∈ r.map (·.1) := List.mem_map.mpr ⟨z, hz, rfl⟩
          have ne : z.1 ≠ g := fun q => hnd'.1 (by rw [← q]; exact hzr)
          exact ⟨a1, a2, a3, by rw [st3 z.1 ne a2, a4], a5⟩) hnd'.2 (by omega) (by omega) (by rw [st1]; omega)
        refine ⟨by rw [e]; exact ⟨⟨g1, ht, g2, g3, by show stepG c (g, t, sp) t ≤ stepG c (g, t, sp) g; omega⟩, ih.fair⟩, by rw [e]; exact ih.full, fun q q1 q2 => ?_, fun z hz => ?_, fun q hq hq2 => ?_, by rw [e]; exact ih.nd, by rw [e, sumS_cons]; show sumS (give t (d - sp) r).2 = sp + sumS r - d; rw [ih.sum]; omega, ?_, fun h => ?_⟩
        · have q3 : q ≠ g := fun z => q2 (by rw [z]; simp)
          have q4 : q ∉ r.map (·.1) := fun z => q2 (List.mem_cons_of_mem _ z)
          rw [e]
          show runG (stepG c (g, t, sp)) _ q = c q
          rw [ih.other q q1 q4, st3 q q3 q1]
        · rw [e] at hz ⊢
          obtain ⟨a1, a2, a3⟩ := ih.left z hz
          exact ⟨a1, a2, List.mem_cons_of_mem _ a3⟩
        · rw [e] at hq2 ⊢
          show runG (stepG c (g, t, sp)) _ q = W q
          by_cases hqr : q ∈ r.map (·.1)
          · exact ih.gone q hqr hq2
          · have hqg : q = g := by
              rcases List.mem_cons.mp (show q ∈ g :: r.map (·.1) from hq) with z | z
              · exact z
              · exact absurd z hqr
            subst hqg
            rw [ih.other q g2 hqr, st2]
        · rw [e]
          have := ih.len
          simp only [List.length_cons]
          omega
        · rw [e] at h ⊢
          have := ih.len0 h
          simp only [List.length_cons]
          omega
/-- the whole way -/
theorem goG_ok {n : Nat} {W : Nat → Int} : ∀ (R st : List (Nat × Int)) (c : Nat → Int),
    (∀ z ∈ R, z.1 < n ∧ c z.1 + z.2 = W z.1) → (R.map (·.1)).Nodup → (∀ z ∈ st, z.1 < n ∧ 0 < z.2 ∧ c z.1 = W z.1 + z.2 ∧ z.1 ∉ R.map (·.1)) → (st.map (·.1)).Nodup →
    R.Pairwise (fun a b => W b.1 ≤ W a.1) → (∀ z ∈ st, ∀ y ∈ R, W y.1 ≤ W z.1) → (∀ k, sumS (R.take k) ≤ sumS st) → (∀ q, q < n → q ∉ R.map (·.1) → q ∉ st.map (·.1) → c q = W q) → sumS R = sumS st →
    AllFair n c (goG R st) ∧ (∀ q, q < n → runG c (goG R st) q = W q) ∧ ((R ≠ [] ∨ st ≠ []) → (goG R st).length + 1 ≤ st.length + R.length)
  | [], st, c, hR, ndR, hst, ndst, hp, hW, hs, hr, ht => by
    have e : st = [] := by
      cases st with
      | nil => rfl
      | cons z l =>
        have h1 := (hst z List.mem_cons_self).2.1
        have h2 := sumS_nn (l := l) fun y hy => (hst y (List.mem_cons_of_mem _ hy)).2.1
        have h3 : sumS [] = 0 := rfl
        rw [h3, sumS_cons] at ht
        omega
    subst e
    exact ⟨trivial, fun q hq => hr q hq (by simp) (by simp), fun h => by rcases h with h | h <;> exact absurd rfl h⟩
  | (p, d) :: R, st, c, hR, ndR, hst, ndst, hp, hW, hs, hr, ht => by
    obtain ⟨p1, p2⟩ := hR (p, d) List.mem_cons_self
    have ndc := List.nodup_cons.mp (show (p :: R.map (·.1)).Nodup from ndR)
    have hpc := List.pairwise_cons.mp hp
    simp only at p1 p2
    rw [sumS_cons] at ht
    simp only at ht
    have hs' : ∀ k, d + sumS (R.take k) ≤ sumS st := fun k => by
      have h := hs (k + 1)
      rw [List.take_succ_cons, sumS_cons] at h
      exact h
    have pst : ∀ z ∈ st, z.1 ≠ p := fun z hz q => (hst z hz).2.2.2 (by rw [q]; simp)
    by_cases hd : d < 0
    · have e : goG ((p, d) :: R) st = goG R ((p, -d) :: st) := by simp [goG, hd]
      have ih := goG_ok R ((p, -d) :: st) c (fun z hz => hR z (List.mem_cons_of_mem _ hz)) ndc.2 (fun z hz => by
          rcases List.mem_cons.mp hz with rfl | hz
          · exact ⟨p1, by show 0 < -d; omega, by show c p = W p + -d; omega, ndc.1⟩
          · obtain ⟨a1, a2, a3, a4⟩ := hst z hz
            exact ⟨a1, a2, a3, fun q => a4 (List.mem_cons_of_mem _ q)⟩)
        (List.nodup_cons.mpr ⟨fun q => by
          obtain ⟨z, hz, e⟩ := List.mem_map.mp q
          exact pst z hz e, ndst⟩) hpc.2 (fun z hz y hy => by
          rcases List.mem_cons.mp hz with rfl | hz
          · exact hpc.1 y hy
          · exact hW z hz y (List.mem_cons_of_mem _ hy)) (fun k => by
          have := hs' k
          rw [sumS_cons]
          show sumS (R.take k) ≤ -d + sumS st
          omega) (fun q hq h1 h2 => hr q hq (fun z => by
            rcases List.mem_cons.mp (show q ∈ p :: R.map (·.1) from z) with z | z
            · exact h2 (by rw [z]; simp)
            · exact h1 z) fun z => h2 (List.mem_cons_of_mem _ z)) (by rw [sumS_cons]; show sumS R = -d + sumS st; omega)
      rw [e]
      refine ⟨ih.1, ih.2.1, fun _ => ?_⟩
      have := ih.2.2 (.inr (by simp))
      simp only [List.length_cons] at this ⊢
      omega
    · have e : goG ((p, d) :: R) st = (give p d st).1 ++ goG R (give p d st).2 := by simp [goG, hd]
      have G := give_ok (W := W) (n := n) p1 st c d (fun z hz => by
        obtain ⟨a1, a2, a3, a4⟩ := hst z hz
        exact ⟨a1, pst z hz, a2, a3, hW z hz (p, d) List.mem_cons_self⟩) ndst (by omega) (by have := hs' 0; rw [List.take_zero] at this; have h0 : sumS [] = 0 := rfl; omega) p2
      have Rne : ∀ z ∈ R, z.1 ≠ p := fun z hz q => ndc.1 (List.mem_map.mpr ⟨z, hz, q⟩)
      have Rst : ∀ z ∈ R, z.1 ∉ st.map (·.1) := fun z hz q => by
        obtain ⟨y, hy, e⟩ := List.mem_map.mp q
        exact (hst y hy).2.2.2 (by rw [e]; exact List.mem_cons_of_mem _ (List.mem_map.mpr ⟨z, hz, rfl⟩))
      have sub : ∀ z ∈ (give p d st).2, ∃ y ∈ st, y.1 = z.1 := fun z hz => by
        obtain ⟨y, hy, e⟩ := List.mem_map.mp (G.left z hz).2.2
        exact ⟨y, hy, e⟩
      have ih := goG_ok R (give p d st).2 (runG c (give p d st).1) (fun z hz => by
          obtain ⟨a1, a2⟩ := hR z (List.mem_cons_of_mem _ hz)
          exact ⟨a1, by rw [G.other z.1 (Rne z hz) (Rst z hz)]; exact a2⟩) ndc.2 (fun z hz => by
          obtain ⟨a1, a2, a3⟩ := G.left z hz
          obtain ⟨y, hy, e⟩ := sub z hz
          have b := hst y hy
          rw [e] at b
          exact ⟨b.1, a1, a2, fun q => b.2.2.2 (List.mem_cons_of_mem _ q)⟩) G.nd hpc.2 (fun z hz y hy => by
          obtain ⟨u, hu, e⟩ := sub z hz
          rw [← e]
          exact hW u hu y (List.mem_cons_of_mem _ hy)) (fun k => by
          have := hs' k
          rw [G.sum]
          omega) (fun q hq h1 h2 => by
          by_cases hqp : q = p
          · rw [hqp]
            exact G.full
          · by_cases hqs : q ∈ st.map (·.1)
            · exact G.gone q hqs h2
            · rw [G.other q hqp hqs]
              refine hr q hq (fun z => ?_) hqs
              rcases List.mem_cons.mp (show q ∈ p :: R.map (·.1) from z) with z | z
              · exact hqp z
              · exact h1 z) (by rw [G.sum]; omega)
      rw [e]
      refine ⟨allFair_app _ _ _ G.fair ih.1, fun q hq => by rw [runG_app]; exact ih.2.1 q hq, fun _ => ?_⟩
      rw [List.length_append, List.length_cons]
      have hl := G.len
      by_cases h2 : R ≠ [] ∨ (give p d st).2 ≠ []
      · have := ih.2.2 h2
        omega
      · have hR0 : R = [] := Classical.byContradiction fun q => h2 (.inl q)
        have hs0 : (give p d st).2 = [] := Classical.byContradiction fun q => h2 (.inr q)
        have h3 := G.len0 hs0
        rw [hR0, hs0]
        simp only [goG, List.length_nil]
        omega
end Ev

set_option Elab.async false
set_option linter.all false
set_option maxRecDepth 100000
set_option maxHeartbeats 4000000
namespace Ev
open Wk Sk
/-! ### the places in order, the gifts, on lists -/
def ordI (ns : List Int) : List Int := (ups ns.length).mergeSort fun a b => decide (ns.getD b.toNat 0 ≤ ns.getD a.toNat 0)
def ordN (ns : List Int) : List Nat := (ordI ns).map Int.toNat
theorem ordI_perm (ns : List Int) : (ordI ns).Perm (ups ns.length) := List.mergeSort_perm _ _
theorem ordN_perm (ns : List Int) : (ordN ns).Perm (List.range ns.length) := by
  have h := (ordI_perm ns).map Int.toNat
  have e : (ups ns.length).map Int.toNat = List.range ns.length := by
    unfold ups
    rw [List.map_map]
    conv => rhs; rw [← List.map_id (List.range ns.length)]
    exact List.map_congr_left fun x _ => rfl
  rw [e] at h
  exact h
theorem ordN_len (ns : List Int) : (ordN ns).length = ns.length := by rw [(ordN_perm ns).length_eq, List.length_range]
theorem ordI_len (ns : List Int) : (ordI ns).length = ns.length := by rw [← ordN_len ns, ordN, List.length_map]
theorem ordI_get {ns : List Int} {k : Nat} {z : Int} (h : (ordI ns)[k]? = some z) : ∃ p : Nat, z = (p : Int) ∧ p < ns.length ∧ (ordN ns)[k]? = some p := by
  have hm : z ∈ ups ns.length := (ordI_perm ns).mem_iff.mp (List.mem_of_getElem? h)
  obtain ⟨p, hp, rfl⟩ := List.mem_map.mp hm
  exact ⟨p, rfl, List.mem_range.mp hp, by rw [ordN, List.getElem?_map, h]; rfl⟩
theorem map_getD_range (ns : List Int) : (List.range ns.length).map (fun p => ns.getD p 0) = ns := by
  refine List.ext_getElem (by simp) fun i h1 h2 => ?_
  simp [List.getD_eq_getElem?_getD, List.getElem?_eq_getElem h2]
theorem ord_srtD (ns : List Int) : (ordN ns).map (fun p => ns.getD p 0) = srtD ns := by
  refine srtD_eq ?_ ?_
  · have h := (ordN_perm ns).map (fun p => ns.getD p 0)
    rw [map_getD_range] at h
    exact h
  · rw [ordN, List.map_map, List.pairwise_map]
    have h := List.pairwise_mergeSort (le := fun a b : Int => decide (ns.getD b.toNat 0 ≤ ns.getD a.toNat 0)) (fun a b c h1 h2 => by
      simp only [decide_eq_true_eq] at *
      omega) (fun a b => by
      by_cases h : ns.getD b.toNat 0 ≤ ns.getD a.toNat 0
      · rw [decide_eq_true h]; rfl
      · have h2 : ns.getD a.toNat 0 ≤ ns.getD b.toNat 0 := by omega
        rw [decide_eq_true h2, Bool.or_true]) (ups ns.length)
    exact h.imp fun {a b} h => by
      have := of_decide_eq_true h
      exact this
/-- what each place lacks, in order -/
def lacks (ns ws : List Int) : List (Nat × Int) := List.zipWith (fun p w => (p, w - ns.getD p 0)) (ordN ns) ws
def gF (ns ws : List Int) : List Gv := goG (lacks ns ws) []
theorem zipW_fst (f : Nat → Int → Int) : ∀ (a : List Nat) (b : List Int), a.length = b.length → (List.zipWith (fun p w => (p, f p w)) a b).map (·.1) = a
  | [], [], _ => rfl
  | [], _ :: _, h => by cases h
  | _ :: _, [], h => by cases h
  | x :: a, y :: b, h => by
    have ih := zipW_fst f a b (by simpa using h)
    simp only [List.zipWith_cons_cons, List.map_cons, ih]
theorem sum_lacks (ns : List Int) : ∀ (a : List Nat) (b : List Int), a.length = b.length → sumS (List.zipWith (fun p w => (p, w - ns.getD p 0)) a b) = b.sum - (a.map fun p => ns.getD p 0).sum
  | [], [], _ => rfl
  | [], _ :: _, h => by cases h
  | _ :: _, [], h => by cases h
  | x :: a, y :: b, h => by
    have ih := sum_lacks ns a b (by simpa using h)
    rw [List.zipWith_cons_cons, sumS_cons, ih, List.map_cons, List.sum_cons, List.sum_cons]
    show y - ns.getD x 0 + _ = _
    omega
/-- what is wanted at a place -/
def want (a : List Nat) (b : List Int) (q : Nat) : Int := ((a.zip b).lookup q).getD 0
theorem want_cons_self (x : Nat) (y : Int) (a : List Nat) (b : List Int) : want (x :: a) (y :: b) x = y := by simp [want, List.lookup]
theorem want_cons_ne {x q : Nat} (y : Int) (a : List Nat) (b : List Int) (h : q ≠ x) : want (x :: a) (y :: b) q = want a b q := by
  have h2 : (q == x) = false := by simpa using h
  simp [want, List.lookup, h2]
theorem want_map : ∀ (a : List Nat) (b : List Int), a.Nodup → a.length = b.length → a.map (want a b) = b
  | [], [], _, _ => rfl
  | [], _ :: _, _, h => by cases h
  | _ :: _, [], _, h => by cases h
  | x :: a, y :: b, hn, h => by
    have hc := List.nodup_cons.mp hn
    have ih := want_map a b hc.2 (by simpa using h)
    rw [List.map_cons, want_cons_self]
    congr 1
    exact (List.map_congr_left fun q hq => want_cons_ne y a b fun z => hc.1 (by rw [← z]; exact hq)).trans ih
theorem pairwise_want {a : List Nat} {b : List Int} (hn : a.Nodup) (hl : a.length = b.length) (hb : b.Pairwise (· ≥ ·)) : a.Pairwise fun x y => want a b y ≤ want a b x := by
  have h := want_map a b hn hl
  rw [← h, List.pairwise_map] at hb
  exact hb.imp fun {x y} h2 => h2
theorem gifts_fair {ns ws : List Int} (hl : ws.length = ns.length) (hne : ns ≠ []) (hw : ws.Pairwise (· ≥ ·)) (hs : ns.sum = ws.sum) (hd : ∀ k, (ws.take k).sum ≤ ((srtD ns).take k).sum) :
    ∃ W : Nat → Int, ((List.range ns.length).map W).Perm ws ∧ AllFair ns.length (fun p => ns.getD p 0) (gF ns ws) ∧ (∀ q, q < ns.length → runG (fun p => ns.getD p 0) (gF ns ws) q = W q) ∧ (gF ns ws).length < ns.length := by
  have hlen : (ordN ns).length = ws.length := by rw [ordN_len, hl]
  have hnd : (ordN ns).Nodup := (ordN_perm ns).nodup_iff.mpr List.nodup_range
  have hmem : ∀ q, q < ns.length → q ∈ ordN ns := fun q hq => (ordN_perm ns).mem_iff.mpr (List.mem_range.mpr hq)
  have hfst : (lacks ns ws).map (·.1) = ordN ns := zipW_fst (fun p w => w - ns.getD p 0) _ _ hlen
  have hval : ∀ z ∈ lacks ns ws, z.1 < ns.length ∧ ns.getD z.1 0 + z.2 = want (ordN ns) ws z.1 := by
    intro z hz
    have hz1 : z.1 ∈ ordN ns := by
      rw [← hfst]
      exact List.mem_map.mpr ⟨z, hz, rfl⟩
    refine ⟨List.mem_range.mp ((ordN_perm ns).mem_iff.mp hz1), ?_⟩
    have aux : ∀ (a : List Nat) (b : List Int), a.Nodup → a.length = b.length → ∀ z ∈ List.zipWith (fun p w => (p, w - ns.getD p 0)) a b, ns.getD z.1 0 + z.2 = want a b z.1 := by
      intro a
      induction a with
      | nil => intro b _ _ z hz; simp at hz
      | cons x a ih =>
        intro b hn h z hz
        cases b with
        | nil => cases h
        | cons y b =>
          have hc := List.nodup_cons.mp hn
          rw [List.zipWith_cons_cons] at hz
          rcases List.mem_cons.mp hz with rfl | hz
          · rw [want_cons_self]
            show ns.getD x 0 + (y - ns.getD x 0) = y
            omega
          · have hza : z.1 ∈ a := by
              have e := zipW_fst (fun p w => w - ns.getD p 0) a b (by simpa using h)
              rw [← e]
              exact List.mem_map.mpr ⟨z, hz, rfl⟩
            rw [want_cons_ne y a b fun q => hc.1 (by rw [← q]; exact hza)]
            exact ih b hc.2 (by simpa using h) z hz
    exact aux _ _ hnd hlen z hz
  have G := goG_ok (n := ns.length) (W := want (ordN ns) ws) (lacks ns ws) [] (fun p => ns.getD p 0) hval (by rw [hfst]; exact hnd) (fun z hz => by cases hz) List.nodup_nil (by
      have h := pairwise_want hnd hlen hw
      rw [← hfst, List.pairwise_map] at h
      rw [hfst] at h
      exact h) (fun z hz => by cases hz) (fun k => by
      have e : (lacks ns ws).take k = List.zipWith (fun p w => (p, w - ns.getD p 0)) ((ordN ns).take k) (ws.take k) := List.take_zipWith
      rw [e, sum_lacks ns _ _ (by rw [List.length_take, List.length_take, hlen]), List.map_take, ord_srtD]
      have := hd k
      have h0 : sumS [] = 0 := rfl
      omega) (fun q hq h1 h2 => absurd (hmem q hq) (by rw [← hfst]; exact h1)) (by
      unfold lacks
      rw [sum_lacks ns _ _ hlen, ord_srtD]
      have : (srtD ns).sum = ns.sum := by
        have p := srtD_perm ns
        have aux : ∀ {a b : List Int}, a.Perm b → a.sum = b.sum := fun {a b} p => by
          induction p with
          | nil => rfl
          | cons x _ ih => rw [List.sum_cons, List.sum_cons, ih]
          | swap x y l => rw [List.sum_cons, List.sum_cons, List.sum_cons, List.sum_cons]; omega
          | trans _ _ i1 i2 => rw [i1, i2]
        exact aux p
      have h0 : sumS [] = 0 := rfl
      omega)
  refine ⟨want (ordN ns) ws, ?_, G.1, G.2.1, ?_⟩
  · have h := (ordN_perm ns).symm.map (want (ordN ns) ws)
    rw [want_map _ _ hnd hlen] at h
    exact h
  · have hll : (lacks ns ws).length = ns.length := by
      have := congrArg List.length hfst
      rw [List.length_map, ordN_len] at this
      exact this
    have hn0 : 0 < ns.length := List.length_pos_iff.mpr hne
    have := G.2.2 (.inl fun h => by rw [h] at hll; simp at hll; omega)
    rw [hll] at this
    show (goG (lacks ns ws) []).length < ns.length
    simp only [List.length_nil] at this
    omega
theorem sum_perm {a b : List Int} (p : a.Perm b) : a.sum = b.sum := by
  induction p with
  | nil => rfl
  | cons x _ ih => rw [List.sum_cons, List.sum_cons, ih]
  | swap x y l => rw [List.sum_cons, List.sum_cons, List.sum_cons, List.sum_cons]; omega
  | trans _ _ i1 i2 => rw [i1, i2]
/-! on lists, as Python does them -/
abbrev T3 := Int × Int × Int
def g3 (x : Gv) : T3 := ((x.1 : Int), (x.2.1 : Int), x.2.2)
def gOk (m : Int) (x : T3) : Bool := decide (0 ≤ x.1 ∧ 0 ≤ x.2.1 ∧ x.1 < m ∧ x.2.1 < m ∧ x.1 ≠ x.2.1 ∧ 0 < x.2.2)
def step1 (l : List Int) (x : T3) : List Int := l.set x.1.toNat (l.getD x.1.toNat 0 - x.2.2)
def stepL (l : List Int) (x : T3) : List Int := (step1 l x).set x.2.1.toNat ((step1 l x).getD x.2.1.toNat 0 + x.2.2)
def fairL : List Int → List T3 → Option (List Int)
  | l, [] => some l
  | l, x :: r => if gOk l.length x then (if (stepL l x).getD x.1.toNat 0 < (stepL l x).getD x.2.1.toNat 0 then none else fairL (stepL l x) r) else none
theorem stepL_len (l : List Int) (x : T3) : (stepL l x).length = l.length := by simp [stepL, step1]
theorem fairL_len : ∀ {gs : List T3} {l l' : List Int}, fairL l gs = some l' → l'.length = l.length
  | [], l, l', h => by cases h; rfl
  | x :: r, l, l', h => by
    unfold fairL at h
    split at h
    · split at h
      · cases h
      · rw [fairL_len h, stepL_len]
    · cases h
def ofC (n : Nat) (c : Nat → Int) : List Int := (List.range n).map c
theorem ofC_len (n : Nat) (c : Nat → Int) : (ofC n c).length = n := by simp [ofC]
theorem ofC_getD {n : Nat} {c : Nat → Int} {q : Nat} (h : q < n) : (ofC n c).getD q 0 = c q := by simp [ofC, List.getD_eq_getElem?_getD, h]
theorem ofC_set (n : Nat) (c : Nat → Int) (q : Nat) (v : Int) : (ofC n c).set q v = ofC n fun p => if p = q then v else c p := by
  refine List.ext_getElem (by simp [ofC]) fun i h1 h2 => ?_
  simp only [ofC, List.getElem_set, List.getElem_map, List.getElem_range]
  by_cases h : q = i
  · simp [h]
  · have h' : ¬ i = q := fun e => h e.symm
    simp [h, h']
theorem stepL_ofC {n : Nat} {c : Nat → Int} {x : Gv} (h1 : x.1 < n) (h2 : x.2.1 < n) (h3 : x.1 ≠ x.2.1) : stepL (ofC n c) (g3 x) = ofC n (stepG c x) := by
  have e1 : step1 (ofC n c) (g3 x) = ofC n fun p => if p = x.1 then c x.1 - x.2.2 else c p := by
    show (ofC n c).set (x.1 : Int).toNat ((ofC n c).getD (x.1 : Int).toNat 0 - x.2.2) = _
    rw [Int.toNat_natCast, ofC_set, ofC_getD h1]
  show (step1 (ofC n c) (g3 x)).set (x.2.1 : Int).toNat ((step1 (ofC n c) (g3 x)).getD (x.2.1 : Int).toNat 0 + x.2.2) = _
  rw [e1, Int.toNat_natCast, ofC_set, ofC_getD h2]
  congr 1
  funext q
  unfold stepG
  by_cases hq1 : q = x.1
  · have hq2 : ¬ q = x.2.1 := fun z => h3 (hq1.symm.trans z)
    rw [if_neg hq2, if_pos hq1, if_pos hq1, hq1]
  · by_cases hq2 : q = x.2.1
    · rw [if_pos hq2, if_neg hq1, if_pos hq2, if_neg (Ne.symm h3), hq2]
    · rw [if_neg hq2, if_neg hq1, if_neg hq1, if_neg hq2]
theorem fairL_ofC {n : Nat} : ∀ (gs : List Gv) (c : Nat → Int), AllFair n c gs → fairL (ofC n c) (gs.map g3) = some (ofC n (runG c gs))
  | [], c, _ => rfl
  | x :: r, c, ⟨⟨h1, h2, h3, h4, h5⟩, hr⟩ => by
    have hok : gOk ((ofC n c).length : Int) (g3 x) = true := by
      rw [ofC_len]
      exact decide_eq_true ⟨Int.natCast_nonneg _, Int.natCast_nonneg _, by show (x.1 : Int) < n; omega, by show (x.2.1 : Int) < n; omega, by show (x.1 : Int) ≠ x.2.1; omega, h4⟩
    have e := stepL_ofC (c := c) h1 h2 h3
    rw [List.map_cons, fairL, if_pos hok, e]
    have g1 : (ofC n (stepG c x)).getD (g3 x).1.toNat 0 = stepG c x x.1 := by
      show (ofC n (stepG c x)).getD (x.1 : Int).toNat 0 = _
      rw [Int.toNat_natCast, ofC_getD h1]
    have g2 : (ofC n (stepG c x)).getD (g3 x).2.1.toNat 0 = stepG c x x.2.1 := by
      show (ofC n (stepG c x)).getD (x.2.1 : Int).toNat 0 = _
      rw [Int.toNat_natCast, ofC_getD h2]
    rw [g1, g2, if_neg (by omega)]
    exact fairL_ofC r (stepG c x) hr
/-- whether gifts show what they tell -/
def showsG (one other : List Int) (gs : List T3) : Bool := decide (one.length = other.length) && (decide (gs.length < one.length) && (match fairL one gs with | none => false | some l => decide (srt l = srt other)))
theorem srt_perm_eq {a b : List Int} (p : a.Perm b) : srt a = srt b := srt_eq ((srt_perm a).trans p) (srt_le a)
theorem gifts_show {ns other : List Int} (hl : other.length = ns.length) (hne : ns ≠ []) (hs : ns.sum = other.sum) (hd : ∀ k, ((srtD other).take k).sum ≤ ((srtD ns).take k).sum) : showsG ns other ((gF ns (srtD other)).map g3) = true := by
  obtain ⟨W, h1, h2, h3, h4⟩ := gifts_fair (ws := srtD other) (by rw [srtD_len, hl]) hne (srtD_ge other) (by rw [sum_perm (srtD_perm other), hs]) hd
  have hf := fairL_ofC _ _ h2
  have e0 : ofC ns.length (fun p => ns.getD p 0) = ns := map_getD_range ns
  rw [e0] at hf
  unfold showsG
  rw [hf]
  have e1 : ofC ns.length (runG (fun p => ns.getD p 0) (gF ns (srtD other))) = (List.range ns.length).map W := List.map_congr_left fun q hq => h3 q (List.mem_range.mp hq)
  have e2 : srt (ofC ns.length (runG (fun p => ns.getD p 0) (gF ns (srtD other)))) = srt other := by
    rw [e1]
    exact srt_perm_eq (h1.trans (srtD_perm other))
  simp only [e2, hl, List.length_map, h4, decide_true, Bool.and_self]
/-! the count by whose greatest the other has more -/
def topA : Nat → List Int → List Int → Int
  | k, a :: as, b :: bs => if a < b then (k : Int) + 1 else topA (k + 1) as bs
  | _, _, _ => 0
theorem topA_zero : ∀ (k : Nat) (a b : List Int), topA k a b = 0 → a.length = b.length → ∀ i, a.getD i 0 ≥ b.getD i 0
  | k, [], [], _, _, i => by simp
  | _, [], _ :: _, _, h, _ => by cases h
  | _, _ :: _, [], _, h, _ => by cases h
  | k, x :: a, y :: b, h, hl, i => by
    unfold topA at h
    split at h
    · omega
    · cases i with
      | zero => simp; omega
      | succ i => simpa using topA_zero (k + 1) a b h (by simpa using hl) i
theorem topA_pos : ∀ (k : Nat) (a b : List Int), a.length = b.length → topA k a b ≠ 0 → ∃ j, j < a.length ∧ topA k a b = ((k + j : Nat) : Int) + 1 ∧ a.getD j 0 < b.getD j 0
  | k, [], [], _, h => absurd rfl h
  | _, [], _ :: _, h, _ => by cases h
  | _, _ :: _, [], h, _ => by cases h
  | k, x :: a, y :: b, hl, h => by
    by_cases hxy : x < y
    · exact ⟨0, by simp, by simp [topA, hxy], by simpa using hxy⟩
    · have e : topA k (x :: a) (y :: b) = topA (k + 1) a b := by simp [topA, hxy]
      rw [e] at h ⊢
      obtain ⟨j, h1, h2, h3⟩ := topA_pos (k + 1) a b (by simpa using hl) h
      refine ⟨j + 1, by simpa using h1, ?_, by simpa using h3⟩
      rw [h2]
      omega
def topF (a b : List Int) : Int := topA 0 (runs 0 a) (runs 0 b)
theorem runs_getD : ∀ (t : Int) (l : List Int) (k : Nat), k < l.length → (runs t l).getD k 0 = t + (l.take (k + 1)).sum
  | t, [], k, h => by simp at h
  | t, x :: l, 0, h => by simp [runs]
  | t, x :: l, k + 1, h => by
    have ih := runs_getD (t + x) l k (by simpa using h)
    show (runs (t + x) l).getD k 0 = _
    rw [ih, List.take_succ_cons, List.sum_cons]
    omega
theorem topF_zero {a b : List Int} (hl : a.length = b.length) (h : topF a b = 0) (k : Nat) (hs : a.sum = b.sum) : (b.take k).sum ≤ (a.take k).sum := by
  by_cases hk : k ≤ a.length
  · cases k with
    | zero => simp
    | succ j =>
      have h1 := topA_zero 0 _ _ h (by rw [runs_len, runs_len, hl]) j
      rw [runs_getD 0 a j (by omega), runs_getD 0 b j (by omega)] at h1
      omega
  · rw [List.take_of_length_le (by omega), List.take_of_length_le (by omega)]
    omega
theorem topF_pos {a b : List Int} (hl : a.length = b.length) (h : topF a b ≠ 0) : ∃ j : Nat, topF a b = (j : Int) ∧ 1 ≤ j ∧ j ≤ a.length ∧ (a.take j).sum < (b.take j).sum := by
  obtain ⟨j, h1, h2, h3⟩ := topA_pos 0 _ _ (by rw [runs_len, runs_len, hl]) h
  rw [runs_len] at h1
  refine ⟨j + 1, by show topF a b = _; unfold topF; rw [h2]; omega, by omega, by omega, ?_⟩
  rw [runs_getD 0 a j (by omega), runs_getD 0 b j (by omega)] at h3
  omega
theorem topF_self (a : List Int) : topF a a = 0 := by
  by_cases h : topF a a = 0
  · exact h
  · obtain ⟨j, _, _, _, h4⟩ := topF_pos (a := a) (b := a) rfl h
    omega
theorem topF_nn {a b : List Int} (hl : a.length = b.length) : 0 ≤ topF a b := by
  by_cases h : topF a b = 0
  · omega
  · obtain ⟨j, h1, _⟩ := topF_pos hl h
    omega
/-! answers -/
inductive Ans where
  | gifts (gs : List T3)
  | top (m : Int)
  | wholes (a b : Int)
def tops (l : List Int) (m : Int) : Int := ((srt l).drop (l.length - m.toNat)).sum
def showsT (one other : List Int) (m : Int) : Bool := decide (one.length = other.length) && (decide (one.sum = other.sum) && (decide (1 ≤ m) && (decide (m ≤ (one.length : Int)) && decide (tops one m < tops other m))))
def showsW (one other : List Int) (a b : Int) : Bool := decide (one.length = other.length) && (!decide (a = b) && (decide (a = one.sum) && decide (b = other.sum)))
def showsF (one other : List Int) : Ans → Bool
  | .gifts gs => showsG one other gs
  | .top m => showsT one other m
  | .wholes a b => showsW one other a b
def cmpF (one other : List Int) : Ans := if one.sum = other.sum then (if 0 < topF (srtD one) (srtD other) then .top (topF (srtD one) (srtD other)) else .gifts ((gF one (srtD other)).map g3)) else .wholes one.sum other.sum
theorem tops_take {l : List Int} {j : Nat} (h : j ≤ l.length) : tops l (j : Int) = ((srtD l).take j).sum := by
  unfold tops srtD
  rw [List.take_reverse, srt_len, Int.toNat_natCast, sum_perm (List.reverse_perm _)]
theorem cmp_shows {one other : List Int} (hl : other.length = one.length) (hne : one ≠ []) : showsF one other (cmpF one other) = true := by
  unfold cmpF
  have hl2 : (srtD one).length = (srtD other).length := by rw [srtD_len, srtD_len, hl]
  by_cases hs : one.sum = other.sum
  · rw [if_pos hs]
    by_cases ht : 0 < topF (srtD one) (srtD other)
    · rw [if_pos ht]
      obtain ⟨j, h1, h2, h3, h4⟩ := topF_pos hl2 (by omega)
      rw [srtD_len] at h3
      show showsT one other _ = true
      unfold showsT
      rw [h1, tops_take h3, tops_take (by omega)]
      simp [hl, hs, h4]
      omega
    · rw [if_neg ht]
      have h0 := topF_nn hl2
      refine gifts_show hl hne hs fun k => topF_zero hl2 (by omega) k ?_
      rw [sum_perm (srtD_perm one), sum_perm (srtD_perm other), hs]
  · rw [if_neg hs]
    show showsW one other _ _ = true
    simp [showsW, hl, hs]
end Ev

set_option Elab.async false
set_option linter.all false
set_option maxRecDepth 100000
set_option maxHeartbeats 4000000
namespace Ev
open PySem PySem.Spec L2 Evl Wk
/-- what a row has above a mark -/
def overF (ns : List Int) (m : Int) : Int := ((ns.filter fun x => decide (m < x)).map fun x => x - m).sum
section
variable {P : Program} {w : World} {K : PySem.W.Frag} {mg : Str → Option Value} {base : Heap}
def spOver : Sp := fun vs H Q _ => ∃ (a : Addr) (ns : List Int) (m : Int), vs = [.ref a, .int m] ∧ H a = some (.lst (ns.map V.int)) ∧ ns.length ≤ 10000 ∧ RetV (.int (overF ns m)) H Q
theorem def_over (R : Raw K mg "over" s_over ["row", "mark"]) (T : Txt K mg) : Def P w K mg base CX0 1 "over" ["row", "mark"] spOver := by
  refine R.ok fun f fd F => F.ok sc_over (fun vs H Q E h => ?_) (fun cdv A outer s H vs Q E hr h => ?_)
  · obtain ⟨a, ns, m, rfl, _⟩ := h
    rfl
  · obtain ⟨a, ns, m, rfl, ha, hz, q⟩ := h
    refine ⟨_, (pss_cons (ps_ret (pe_callB (r := rSum K) (cr_sum rfl) (by rfl) T.n_sum (by decide +kernel) (pa_cons (pe_lc (own := [("share", 2)]) (g := gName 2) rfl sc_over.nd (pi_list (pv 0)) (blkOk_by (own := [("share", 2)]) (N := ["row", "mark", "share"]) (sc := defScope s_over) (by decide +kernel)) (fun _ _ _ _ _ => pg_name (i := 2) sc_over.nd rfl (Or.inl rfl)) (fun _ _ _ _ _ => pts_one (pt_cmpR op_gt (pv 2) (pv 1) (nomark _))) (fun _ _ _ _ _ => (pe_op op_sub (pv 2) (pv 1)))) pa_nil)))
      pss_nil), ?_⟩
    refine Sv.go (w_ret (ev_sum (ns := (ns.filter fun x => decide (m < x)).map fun x => x - m) (EvL.p ?_)) fun H1 e1 => q H1 e1)
    rw [← map_int]
    exact el_comp ns V.int (fun x => decide (m < x)) (fun x => V.int (x - m)) (ev_var rfl) (sq_of ha) (by omega) (fun _ => rfl) (fun x _ => et_test (ev_op (ev_var rfl) (ev_var rfl) rv_I0)) (fun x _ _ => ev_op (ev_var rfl) (ev_var rfl) rv_I0)
end
end Ev

set_option Elab.async false
set_option linter.all false
set_option maxRecDepth 100000
set_option maxHeartbeats 4000000
namespace Ev
open Wk
/-! ### the plain law of point 7 -/
theorem over_nil (L : Int) : overF [] L = 0 := rfl
theorem over_cons (L x : Int) (r : List Int) : overF (x :: r) L = (if L < x then x - L else 0) + overF r L := by
  unfold overF
  by_cases h : L < x
  · simp [List.filter_cons, h]
  · simp [List.filter_cons, h]
theorem over_nn (L : Int) : ∀ r : List Int, 0 ≤ overF r L
  | [] => Int.le_refl _
  | x :: r => by
    have ih := over_nn L r
    rw [over_cons]
    split <;> omega
theorem over_perm {a b : List Int} (p : a.Perm b) (t : Int) : overF a t = overF b t := by
  induction p with
  | nil => rfl
  | cons x _ ih => rw [over_cons, over_cons, ih]
  | swap x y l => rw [over_cons, over_cons, over_cons, over_cons]; omega
  | trans _ _ ih1 ih2 => rw [ih1, ih2]
theorem take_le_over (t : Int) : ∀ (s : List Int) (j : Nat), j ≤ s.length → (s.take j).sum - (j : Int) * t ≤ overF s t
  | s, 0, _ => by
    have := over_nn t s
    simpa using this
  | [], j + 1, h => by simp at h
  | x :: s, j + 1, h => by
    have ih := take_le_over t s j (by simpa using h)
    rw [List.take_succ_cons, List.sum_cons, over_cons]
    have e : ((j + 1 : Nat) : Int) * t = (j : Int) * t + t := by rw [Int.natCast_add, Int.add_mul]; simp
    rw [e]
    split <;> omega
theorem over_zero {t : Int} : ∀ {s : List Int}, (∀ x ∈ s, x ≤ t) → overF s t = 0
  | [], _ => rfl
  | x :: s, h => by
    have h1 := h x List.mem_cons_self
    rw [over_cons, if_neg (by omega), over_zero fun y hy => h y (List.mem_cons_of_mem _ hy)]
    rfl
theorem over_take (t : Int) : ∀ (s : List Int), s.Pairwise (· ≥ ·) → ∃ j, j ≤ s.length ∧ overF s t = (s.take j).sum - (j : Int) * t
  | [], _ => ⟨0, Nat.le_refl _, by simp [over_nil]⟩
  | x :: s, h => by
    have hc := List.pairwise_cons.mp h
    by_cases hx : t < x
    · obtain ⟨j, hj, e⟩ := over_take t s hc.2
      refine ⟨j + 1, by simpa using hj, ?_⟩
      rw [List.take_succ_cons, List.sum_cons, over_cons, if_pos hx, e]
      have e : ((j + 1 : Nat) : Int) * t = (j : Int) * t + t := by rw [Int.natCast_add, Int.add_mul]; simp
      rw [e]
      omega
    · refine ⟨0, Nat.zero_le _, ?_⟩
      rw [over_zero fun y hy => ?_]
      · simp
      · rcases List.mem_cons.mp hy with rfl | hy
        · omega
        · have := hc.1 y hy
          omega
theorem over_at (t : Int) : ∀ (s : List Int) (j : Nat), j ≤ s.length → (∀ x ∈ s.take j, t ≤ x) → (∀ x ∈ s.drop j, x ≤ t) → overF s t = (s.take j).sum - (j : Int) * t
  | s, 0, _, _, h => by
    rw [over_zero (s := s) h]
    simp
  | [], j + 1, h, _, _ => by simp at h
  | x :: s, j + 1, h, h1, h2 => by
    have ih := over_at t s j (by simpa using h) (fun y hy => h1 y (by rw [List.take_succ_cons]; exact List.mem_cons_of_mem _ hy)) h2
    have hx := h1 x (by rw [List.take_succ_cons]; exact List.mem_cons_self)
    rw [List.take_succ_cons, List.sum_cons, over_cons, ih]
    have e : ((j + 1 : Nat) : Int) * t = (j : Int) * t + t := by rw [Int.natCast_add, Int.add_mul]; simp
    rw [e]
    split <;> omega
theorem leads_above {one other : List Int} (hl : other.length = one.length) (hs : one.sum = other.sum) (h : topF (srtD one) (srtD other) = 0) (t : Int) : overF other t ≤ overF one t := by
  obtain ⟨j, hj, e⟩ := over_take t (srtD other) (srtD_ge other)
  rw [srtD_len] at hj
  have h1 := topF_zero (a := srtD one) (b := srtD other) (by rw [srtD_len, srtD_len, hl]) h j (by rw [sum_perm (srtD_perm one), sum_perm (srtD_perm other), hs])
  have h2 := take_le_over t (srtD one) j (by rw [srtD_len]; omega)
  rw [over_perm (srtD_perm one)] at h2
  rw [over_perm (srtD_perm other)] at e
  omega
theorem not_leads_above {one other : List Int} (hl : other.length = one.length) (h : topF (srtD one) (srtD other) ≠ 0) : ∃ t ∈ one, overF one t < overF other t := by
  obtain ⟨j, _, h1, h2, h3⟩ := topF_pos (a := srtD one) (b := srtD other) (by rw [srtD_len, srtD_len, hl]) h
  have hj : j - 1 < (srtD one).length := by omega
  refine ⟨(srtD one)[j - 1], (srtD_perm one).mem_iff.mp (List.getElem_mem hj), ?_⟩
  generalize ht : (srtD one)[j - 1] = t
  have hp := List.pairwise_iff_getElem.mp (srtD_ge one)
  have e := over_at t (srtD one) j h2 (fun x hx => by
    obtain ⟨i, hi, e⟩ := List.mem_iff_getElem.mp hx
    rw [List.getElem_take] at e
    rw [List.length_take] at hi
    rw [← e, ← ht]
    by_cases hij : i = j - 1
    · subst hij; exact Int.le_refl _
    · exact hp i (j - 1) (by omega) hj (by omega)) (fun x hx => by
    obtain ⟨i, hi, e⟩ := List.mem_iff_getElem.mp hx
    rw [List.getElem_drop] at e
    rw [List.length_drop] at hi
    rw [← e, ← ht]
    exact hp (j - 1) (j + i) hj (by omega) (by omega))
  have h4 := take_le_over t (srtD other) j (by rw [srtD_len] at h2 ⊢; omega)
  rw [over_perm (srtD_perm one)] at e
  rw [over_perm (srtD_perm other)] at h4
  omega
/-- what the law's last but one question comes to -/
theorem marks_right {one other fs zs : List Int} (hl : other.length = one.length) (hs : one.sum = other.sum) (hne : fs ≠ []) (hz : ∀ x ∈ one, x ∈ zs) {led : Bool} (hled : led = decide (topF (srtD one) (srtD other) = 0)) {m : Int} (hm : m = mn (fs.map fun t => overF one t - overF other t)) :
    ((led && decide (m < 0)) || (decide (fs = zs) && !decide (led = decide (0 ≤ m)))) = false := by
  have hmem := mn_mem (l := fs.map fun t => overF one t - overF other t) (by simpa using hne)
  rw [← hm] at hmem
  by_cases ht : topF (srtD one) (srtD other) = 0
  · obtain ⟨t, _, e⟩ := List.mem_map.mp hmem
    have := leads_above hl hs ht t
    have h0 : 0 ≤ m := by omega
    rw [hled, decide_eq_true ht, decide_eq_true h0, decide_eq_false (by omega : ¬ m < 0)]
    simp
  · rw [hled, decide_eq_false ht]
    by_cases hf : fs = zs
    · obtain ⟨t, h1, h2⟩ := not_leads_above hl ht
      have h3 := mn_le (List.mem_map.mpr ⟨t, by rw [hf]; exact hz t h1, rfl⟩ : overF one t - overF other t ∈ fs.map fun t => overF one t - overF other t)
      rw [← hm] at h3
      rw [decide_eq_false (by omega : ¬ 0 ≤ m)]
      simp
    · rw [decide_eq_false hf]
      simp
/-! rows behind gifts, fair or not -/
def runT (l : List Int) (gs : List T3) : List Int := gs.foldl stepL l
theorem runT_snoc (l : List Int) (gs : List T3) (g : T3) : runT l (gs ++ [g]) = stepL (runT l gs) g := by simp [runT]
theorem runT_len (l : List Int) : ∀ gs : List T3, (runT l gs).length = l.length := by
  intro gs
  induction gs generalizing l with
  | nil => rfl
  | cons g r ih => show (runT (stepL l g) r).length = _; rw [ih, stepL_len]
end Ev

set_option Elab.async false
set_option linter.all false
set_option maxRecDepth 100000
set_option maxHeartbeats 4000000
namespace Ev
open PySem PySem.Spec L2 Evl Wk LamX Sk
/-! ### gifts_to -/
theorem give_nil (t : Nat) (d : Int) : give t d [] = ([], []) := by simp [give]
theorem give_le {t : Nat} {d : Int} (h : d ≤ 0) : ∀ st, give t d st = ([], st)
  | [] => give_nil t d
  | (g, sp) :: r => by simp [give, h]
theorem give_lt {t g : Nat} {d sp : Int} {r : List (Nat × Int)} (h : 0 < d) (h2 : d < sp) : give t d ((g, sp) :: r) = ([(g, t, d)], (g, sp - d) :: r) := by
  have : ¬ d ≤ 0 := by omega
  simp [give, this, h2]
theorem give_ge {t g : Nat} {d sp : Int} {r : List (Nat × Int)} (h : 0 < d) (h2 : sp ≤ d) : give t d ((g, sp) :: r) = ((g, t, sp) :: (give t (d - sp) r).1, (give t (d - sp) r).2) := by
  have h3 : ¬ d ≤ 0 := by omega
  have h4 : ¬ d < sp := by omega
  simp [give, h3, h4]
theorem give_sum (t : Nat) : ∀ (st : List (Nat × Int)) (d : Int), (∀ z ∈ st, 0 < z.2) → 0 ≤ d → d ≤ sumS st → sumS (give t d st).2 = sumS st - d ∧ ∀ z ∈ (give t d st).2, 0 < z.2
  | [], d, _, h0, h1 => by
    have : sumS [] = 0 := rfl
    rw [give_nil]
    exact ⟨by show sumS [] = _; omega, fun z hz => by cases hz⟩
  | (g, sp) :: r, d, hp, h0, h1 => by
    have hs := hp _ List.mem_cons_self
    simp only at hs
    rw [sumS_cons] at h1 ⊢
    simp only at h1 ⊢
    by_cases hd : d ≤ 0
    · rw [give_le hd]
      exact ⟨by show sumS ((g, sp) :: r) = _; rw [sumS_cons]; simp only; omega, hp⟩
    · by_cases h2 : d < sp
      · rw [give_lt (by omega) h2]
        refine ⟨by show sumS ((g, sp - d) :: r) = _; rw [sumS_cons]; simp only; omega, fun z hz => ?_⟩
        rcases List.mem_cons.mp hz with rfl | hz
        · show 0 < sp - d
          omega
        · exact hp z (List.mem_cons_of_mem _ hz)
      · rw [give_ge (by omega) (by omega)]
        obtain ⟨e1, e2⟩ := give_sum t r (d - sp) (fun z hz => hp z (List.mem_cons_of_mem _ hz)) (by omega) (by omega)
        exact ⟨by show sumS (give t (d - sp) r).2 = _; omega, e2⟩
theorem give_len (t : Nat) : ∀ (st : List (Nat × Int)) (d : Int), (give t d st).1.length + (give t d st).2.length ≤ st.length + 1
  | [], d => by rw [give_nil]; simp
  | (g, sp) :: r, d => by
    by_cases hd : d ≤ 0
    · rw [give_le hd]; simp
    · by_cases h2 : d < sp
      · rw [give_lt (by omega) h2]
        simp
        omega
      · rw [give_ge (by omega) (by omega)]
        have := give_len t r (d - sp)
        simp
        omega
/-- the pile bears what is lacking -/
structure Okst (R st : List (Nat × Int)) : Prop where
  pos : ∀ z ∈ st, 0 < z.2
  sum : ∀ k, sumS (R.take k) ≤ sumS st
theorem Okst.neg {p : Nat} {d : Int} {R st : List (Nat × Int)} (h : Okst ((p, d) :: R) st) (hd : d < 0) : Okst R ((p, -d) :: st) := ⟨fun z hz => by
  rcases List.mem_cons.mp hz with rfl | hz
  · show 0 < -d
    omega
  · exact h.pos z hz, fun k => by
  have := h.sum (k + 1)
  rw [List.take_succ_cons, sumS_cons] at this
  rw [sumS_cons]
  simp only at *
  omega⟩
theorem Okst.head {p : Nat} {d : Int} {R st : List (Nat × Int)} (h : Okst ((p, d) :: R) st) : d ≤ sumS st := by
  have := h.sum 1
  have e : ((p, d) :: R).take 1 = [(p, d)] := rfl
  rw [e, sumS_cons] at this
  have : sumS [] = 0 := rfl
  simp only at *
  omega
theorem Okst.give {p : Nat} {d : Int} {R st : List (Nat × Int)} (h : Okst ((p, d) :: R) st) (hd : 0 ≤ d) : Okst R (give p d st).2 := by
  obtain ⟨e1, e2⟩ := give_sum p st d h.pos hd h.head
  refine ⟨e2, fun k => ?_⟩
  have := h.sum (k + 1)
  rw [List.take_succ_cons, sumS_cons] at this
  rw [e1]
  simp only at *
  omega
theorem lacks_ok {ns ws : List Int} (hl : ws.length = ns.length) (hd : ∀ k, (ws.take k).sum ≤ ((srtD ns).take k).sum) : Okst (lacks ns ws) [] := by
  refine ⟨fun z hz => (by cases hz), fun k => ?_⟩
  have hlen : (ordN ns).length = ws.length := by rw [ordN_len, hl]
  have e : (lacks ns ws).take k = List.zipWith (fun p w => (p, w - ns.getD p 0)) ((ordN ns).take k) (ws.take k) := List.take_zipWith
  rw [e, sum_lacks ns _ _ (by rw [List.length_take, List.length_take, hlen]), List.map_take, ord_srtD]
  have := hd k
  have h0 : sumS [] = 0 := rfl
  omega
theorem lacks_len {ns ws : List Int} (hl : ws.length = ns.length) : (lacks ns ws).length = ns.length := by
  unfold lacks
  rw [List.length_zipWith, ordN_len, hl, Nat.min_self]
theorem lacks_at {ns ws : List Int} {k p : Nat} {w : Int} (hp : (ordN ns)[k]? = some p) (hw : ws[k]? = some w) : (lacks ns ws)[k]? = some (p, w - ns.getD p 0) := by
  unfold lacks
  rw [List.getElem?_zipWith, hp, hw]
theorem drop_at {α : Type} {l : List α} {k : Nat} {x : α} (h : l[k]? = some x) : l.drop k = x :: l.drop (k + 1) := by
  obtain ⟨hk, e⟩ := List.getElem?_eq_some_iff.mp h
  rw [List.drop_eq_getElem_cons hk, e]
def tupV (g : T3) : List V := [.int g.1, .int g.2.1, .int g.2.2]
def pairV (z : Nat × Int) : List V := [.int (z.1 : Int), .int z.2]
def TL (P : Addr) : List (Addr × Str) := [(P, "gifts_to.<locals>.<lambda>")]
/-- gifts at p: a list of tuples -/
def GsAt (gs : List T3) (p : Addr) (H : Hp) : Prop := ∃ vs, H p = some (.lst vs) ∧ TupsAt (gs.map tupV) vs H
section
variable {P : Program} {w : World} {K : PySem.W.Frag} {mg : Str → Option Value} {base : Heap}
theorem Ev_len {s : L2.St} {H : Hp} {te : TE} {a : Addr} {ns : List Int} (ha : H a = some (.lst (ns.map V.int))) (h : Ev te s H (.ref a)) : Ev (tCB (rLenS K) (tCons te tNil)) s H (.int (ns.length : Int)) := by
  have h2 := ev_lenL (K := K) (xs := ns.map V.int) (h.p.imp fun v H1 e p => ⟨a, p, e _ _ ha⟩)
  rw [List.length_map] at h2
  exact h2
def spGiftsTo (tb : Addr) : Sp := fun vs H Q _ => ∃ (a b : Addr) (ns ws : List Int), vs = [.ref a, .ref b] ∧ H a = some (.lst (ns.map V.int)) ∧ H b = some (.lst (ws.map V.int)) ∧ ns.length ≤ 10000 ∧ ws.length = ns.length ∧ Okst (lacks ns ws) [] ∧ Tabs (TL tb) H ∧
  ∀ p H2, Nf H p → ExT (TL tb) H H2 → GsAt ((gF ns ws).map g3) p H2 → Q (.ref p) H2
theorem def_gifts_to {c tb : Addr} (R : RawC K mg "gifts_to" s_gifts_to c ["row", "wanted"]) (T : Txt K mg) (TB : TabB base mg c tb) : Def P w K mg base CX0 3 "gifts_to" ["row", "wanted"] (spGiftsTo tb) := by
  refine R.ok fun f fd F => F.ok sc_gifts_to (fun vs H Q E h => ?_) (fun A outer s H vs Q E hr h => ?_)
  · obtain ⟨a, b, ns, ws, rfl, _⟩ := h
    rfl
  · obtain ⟨a, b, ns, ws, rfl, ha, hb, hz, hl, hok, hT, q⟩ := h
    have hmT : (tb, ((PyProof.Rows.envOfC "gifts_to" (defScope s_gifts_to) s.heap.objs.size f (.ref c)).qual ++ "<lambda>" : Str)) ∈ TL tb := List.mem_singleton.mpr rfl
    have hu : ∀ q ∈ TL tb, q.1 = tb → q.2 = ((PyProof.Rows.envOfC "gifts_to" (defScope s_gifts_to) s.heap.objs.size f (.ref c)).qual ++ "<lambda>" : Str) := fun q hq _ => by
      cases List.mem_singleton.mp hq
      rfl
    have hclo : ∀ cells : List (Str × Addr), (cloFrom cells [("place", .local), ("row", .free)] []).lookup ("row" : Str) = some ((cells.lookup ("row" : Str)).getD 0) := fun cells => by rfl
    refine ⟨_, (pss_cons (ps_set (i := 2) sc_gifts_to.nd rfl (Or.inl rfl) (Sk.pe_sortLam (i := 0) rfl (by rfl) T.n_sorted (by rfl) T.n_range (pe_callB (r := rLenS K) call_len_seq (by rfl) T.n_len PySem.boot_len (pa_cons (pv 0) pa_nil)) TB rfl hmT hu hr rfl rfl rfl rfl rfl rfl rfl rfl (by decide) (by decide) hclo (fun _ _ _ _ _ _ => rfl)))
      (pss_cons (ps_set (i := 3) sc_gifts_to.nd rfl (Or.inl rfl) (pe_lst pa_nil))
      (pss_cons (ps_set (i := 4) sc_gifts_to.nd rfl (Or.inl rfl) (pe_lst pa_nil))
      (pss_cons (ps_for PassesOwn.never rfl (pi_range1 (by rfl) T.n_range (pa_cons (pe_callB (r := rLenS K) call_len_seq (by rfl) T.n_len PySem.boot_len (pa_cons (pv 2) pa_nil)) pa_nil)) (pg_name (i := 5) sc_gifts_to.nd rfl (Or.inl rfl))
        (pss_cons (ps_set (i := 6) sc_gifts_to.nd rfl (Or.inl rfl) (pe_op op_sub (pe_ix (r := rIxL K) ix_list (pv 1) (pv 5) (fun _ _ => rfl)) (pe_ix (r := rIxL K) ix_list (pv 0) (pe_ix (r := rIxL K) ix_list (pv 2) (pv 5) (fun _ _ => rfl)) (fun _ _ => rfl))))
          (pss_cons (ps_if (pt_cmpR op_lt (pv 6) pe_int (nomark _))
            (pss_cons (ps_expr (pe_bm PySem.F.plainAttrs_list PySem.F.slot_list_append PySem.F.type_list_append mt_append (pv 4) (pa_cons (pe_tup (pa_cons (pe_ix (r := rIxL K) ix_list (pv 2) (pv 5) (fun _ _ => rfl)) (pa_cons (pe_un un_neg (pv 6)) pa_nil))) pa_nil)))
              pss_nil)
            pss_nil)
          (pss_cons (ps_while PassesOwn.never (pt_cmpR op_gt (pv 6) pe_int (nomark _))
            (pss_cons (ps_asg (pe_bm0 PySem.F.plainAttrs_list PySem.F.slot_list_pop PySem.F.type_list_pop mt_pop (pv 4)) (pg_tup rfl (pgs_cons (pg_name (i := 7) sc_gifts_to.nd rfl (Or.inl rfl)) (pgs_cons (pg_name (i := 8) sc_gifts_to.nd rfl (Or.inl rfl)) pgs_nil))))
              (pss_cons (ps_set (i := 9) sc_gifts_to.nd rfl (Or.inl rfl) (pe_callB (call_min2 rfl) (by rfl) T.n_min (by decide +kernel) (pa_cons (pv 8) (pa_cons (pv 6) pa_nil))))
              (pss_cons (ps_expr (pe_bm PySem.F.plainAttrs_list PySem.F.slot_list_append PySem.F.type_list_append mt_append (pv 3) (pa_cons (pe_tup (pa_cons (pv 7) (pa_cons (pe_ix (r := rIxL K) ix_list (pv 2) (pv 5) (fun _ _ => rfl)) (pa_cons (pv 9) pa_nil)))) pa_nil)))
              (pss_cons (ps_aug (i := 6) sc_gifts_to.nd rfl (Or.inl rfl) (pv 9) ip_sub)
              (pss_cons (ps_if (pt_cmpR op_gt (pv 8) (pv 9) (nomark _))
                (pss_cons (ps_expr (pe_bm PySem.F.plainAttrs_list PySem.F.slot_list_append PySem.F.type_list_append mt_append (pv 4) (pa_cons (pe_tup (pa_cons (pv 7) (pa_cons (pe_op op_sub (pv 8) (pv 9)) pa_nil))) pa_nil)))
                  pss_nil)
                pss_nil)
              pss_nil))))))
          pss_nil))))
      (pss_cons (ps_ret (pv 3))
      pss_nil))))), ?_⟩
    have hlen : (ordI ns).length = ns.length := ordI_len ns
    have hlk := lacks_len hl
    -- the order
    refine Sv.go (w_sortLam (T := TL tb) (pr := a) (ns := ns) (Ev_len ha (ev_var rfl)) rfl ha (by omega) hT fun po G eG npo hpo => ?_)
    have haG := eG.lst ha
    have hbG := eG.lst hb
    refine w_asgL (el_lst ea_nil (by decide)) fun pf H1 nf e1 hpf => w_asgL (el_lst ea_nil (by decide)) fun pg H2 ng e2 hpg => ?_
    have nfG : G pf = none := nf
    have ngG : G pg = none := fresh_back e1 ng
    have nfg : pf ≠ pg := ne_of_none hpf ng
    have e12 := e1.trans e2
    refine w_forR1 (n := (ns.length : Int)) (ea_cons (ev_is (ev_lenL (ev_var' rfl (e12 _ _ hpo))) (by rw [List.length_map]; exact congrArg (fun n : Nat => V.int (n : Int)) hlen)) ea_nil) (by omega)
      (fun i s' H' => ∃ x5 x6 x7 x8 x9, s' = [some (.ref a), some (.ref b), some (.ref po), some (.ref pf), some (.ref pg), x5, x6, x7, x8, x9] ∧ Ex G H' ∧ ∃ (gs : List Gv) (st : List (Nat × Int)), GsAt (gs.map g3) pf H' ∧ (∃ vg, H' pg = some (.lst vg) ∧ TupsAt (st.reverse.map pairV) vg H') ∧ gF ns ws = gs ++ goG ((lacks ns ws).drop i) st ∧ Okst ((lacks ns ws).drop i) st ∧ gs.length + st.length ≤ i)
      (fun H3 e3 => ⟨none, none, none, none, none, rfl, e12.trans e3, [], [], ⟨[], e3 _ _ (e2 _ _ hpf), .nil⟩, ⟨[], e3 _ _ hpg, .nil⟩, rfl, hok, Nat.le_refl _⟩) ?_ ?_
    · rintro i s' H' hi ⟨x5, x6, x7, x8, x9, rfl, ex, gs, st, ⟨vf, hvf, tf⟩, ⟨vg, hvg, tg⟩, hg, ok, hn⟩
      have hi2 : i < ns.length := by omega
      -- the place, what is wanted there
      obtain ⟨p, hp1, hp2⟩ : ∃ p : Nat, (ordN ns)[i]? = some p ∧ p < ns.length ∧ (ordI ns)[i]? = some (p : Int) := by
        have hz := List.getElem?_eq_getElem (l := ordI ns) (i := i) (by omega)
        obtain ⟨p, e1, e2, e3⟩ := ordI_get hz
        exact ⟨p, e3, e2, by rw [hz, e1]⟩
      obtain ⟨hp2, hp3⟩ := hp2
      have hwi : ws[i]? = some (ws.getD i 0) := by
        rw [List.getD_eq_getElem?_getD, List.getElem?_eq_getElem (by omega)]
        rfl
      have hnp : ns[p]? = some (ns.getD p 0) := by
        rw [List.getD_eq_getElem?_getD, List.getElem?_eq_getElem hp2]
        rfl
      have hlk2 := drop_at (lacks_at hp1 hwi)
      rw [hlk2] at hg ok
      generalize hd : ws.getD i 0 - ns.getD p 0 = d at hg ok
      have evp : ∀ {s : L2.St} {H' : Hp}, s[2]? = some (some (.ref po)) → s[5]? = some (some (.int (i : Int))) → Ex G H' → Ev (tOp (rIxL K) (tVar 2) (tVar 5)) s H' (.int (p : Int)) := fun h2 h5 e =>
        ev_ixL (ev_var' h2 (e _ _ hpo)) (ev_var h5) (atI_nat (by rw [List.getElem?_map, show ((ups ns.length).mergeSort fun a b => decide (ns.getD b.toNat 0 ≤ ns.getD a.toNat 0))[i]? = some (p : Int) from hp3]; rfl))
      refine w_asg (v := .int d) (ev_is (ev_op (ev_ixL (v := .int (ws.getD i 0)) (ev_var' rfl (ex _ _ hbG)) (ev_var rfl) (atI_nat (by rw [List.getElem?_map, hwi]; rfl))) (ev_ixL (v := .int (ns.getD p 0)) (ev_var' rfl (ex _ _ haG)) (evp rfl rfl ex) (atI_nat (by rw [List.getElem?_map, hnp]; rfl))) rv_I0) (by rw [hd])) ?_
      have hpos := ok.pos
      generalize hRe : (lacks ns ws).drop (i + 1) = R at hg ok
      refine w_when (b := decide (d < 0)) (et_test (ev_op (ev_var rfl) ev_c rv_I0)) (fun hb => ?_) fun hb => ?_
      · have hd0 : d < 0 := of_decide_eq_true hb
        have hgl : vg.length = st.length := by rw [tg.1, List.length_map, List.length_reverse]
        refine w_appU hvg (ev_var rfl) (eu_tup (ea_cons (evp rfl rfl ex) (ea_cons (ev_un (ev_var rfl) ru_neg) ea_nil)) (by show 2 ≤ 100000; decide)) (by omega) fun r H3 nr hr pt => w_nx fun H4 e4 => ?_
        have ex3 := pt.ex ex ngG
        refine (w_while (m0 := 0) (fun _ s2 H5 => s2 = _ ∧ Ex H4 H5) (fun H5 e5 => ⟨rfl, e5⟩) ?_).go
        rintro m s2 H5 ⟨rfl, e5⟩
        refine ⟨decide (0 < d), et_test (ev_op (ev_var rfl) ev_c rv_I0), fun h => absurd (of_decide_eq_true h) (by omega), fun _ => w_nx fun H6 e6 => ?_⟩
        have e36 := (e4.trans e5).trans e6
        have tf3 := tf.put hvg pt
        have tg3 := (tg.put hvg pt).snoc (t := pairV (p, -d)) hr
        refine ⟨_, _, _, _, _, rfl, ex3.trans e36, gs, (p, -d) :: st, ⟨vf, e36 _ _ (pt.old _ _ nfg hvf), tf3.ex e36⟩, ⟨vg ++ [V.ref r], e36 _ _ pt.new, ?_⟩, ?_, ok.neg hd0, by simp only [List.length_cons]; omega⟩
        · rw [List.reverse_cons, List.map_append]
          exact tg3.ex e36
        · rw [hg]
          congr 1
          show (if d < 0 then _ else _) = _
          rw [if_pos hd0]
      · have hd0 : ¬ d < 0 := of_decide_eq_false hb
        have hgF : gF ns ws = gs ++ ((give p d st).1 ++ goG R (give p d st).2) := by
          rw [hg]
          congr 1
          show (if d < 0 then _ else _) = _
          rw [if_neg hd0]
        have hokF := ok.give (p := p) (by omega)
        have hsumF := ok.head
        refine w_while (m0 := if 0 < d then st.length + 1 else 0) (fun m s2 H3 => ∃ (d2 : Int) (gs2 : List Gv) (st2 : List (Nat × Int)) (vf2 vg2 : List V) (x7 x8 x9 : Option V), s2 = [some (.ref a), some (.ref b), some (.ref po), some (.ref pf), some (.ref pg), some (.int (i : Int)), some (.int d2), x7, x8, x9] ∧ Ex G H3 ∧ H3 pf = some (.lst vf2) ∧ TupsAt ((gs2.map g3).map tupV) vf2 H3 ∧ H3 pg = some (.lst vg2) ∧ TupsAt (st2.reverse.map pairV) vg2 H3 ∧
          gs ++ (give p d st).1 = gs2 ++ (give p d2 st2).1 ∧ (give p d st).2 = (give p d2 st2).2 ∧ (∀ z ∈ st2, 0 < z.2) ∧ 0 ≤ d2 ∧ d2 ≤ sumS st2 ∧ (0 < d2 → gs2.length + st2.length ≤ i) ∧ gs2.length + st2.length ≤ i + 1 ∧ m = if 0 < d2 then st2.length + 1 else 0)
          (fun H3 e3 => ⟨d, gs, st, vf, vg, x7, x8, x9, rfl, ex.trans e3, e3 _ _ hvf, tf.ex e3, e3 _ _ hvg, tg.ex e3, rfl, rfl, hpos, by omega, hsumF, fun _ => hn, by omega, rfl⟩) ?_
        rintro m s2 H3 ⟨d2, gs2, st2, vf2, vg2, y7, y8, y9, rfl, ex3, hvf2, tf2, hvg2, tg2, k1, k2, k3, k4, k5, k6, k7, rfl⟩
        refine ⟨decide (0 < d2), et_test (ev_op (ev_var rfl) ev_c rv_I0), fun h => ?_, fun h => w_nx fun H4 e4 => ?_⟩
        · have hd2 : 0 < d2 := of_decide_eq_true h
          have k8 := k6 hd2
          rw [if_pos hd2]
          cases st2 with
          | nil =>
            have : sumS [] = 0 := rfl
            omega
          | cons z r2 =>
            obtain ⟨g, sp⟩ := z
            have hsp : 0 < sp := k3 _ List.mem_cons_self
            have hr2 : ∀ z ∈ r2, 0 < z.2 := fun z hz => k3 z (List.mem_cons_of_mem _ hz)
            rw [sumS_cons] at k5
            simp only [List.length_cons] at k7 k8
            simp only at k5
            rw [List.reverse_cons, List.map_append] at tg2
            obtain ⟨wg, rg, rfl, tw, hrg⟩ := tg2.cut
            have hwl : wg.length = r2.length := by rw [tw.1, List.length_map, List.length_reverse]
            have hfl : vf2.length = gs2.length := by rw [tf2.1, List.length_map, List.length_map]
            refine ⟨fun s4 H4 => ∃ m', m' < r2.length + 1 + 1 ∧ _, fun s4 H4 h => h, ?_⟩
            refine w_pop2 (x := .int (g : Int)) (y := .int sp) hvg2 hrg (ev_var rfl) fun H4 pt4 => ?_
            have ex4 := pt4.ex ex3 ngG
            have hvf4 := pt4.old _ _ nfg hvf2
            have tf4 := tf2.put hvg2 pt4
            have tw4 := tw.put hvg2 pt4
            refine w_asg (ev_min2 (ev_var rfl) (ev_var rfl)) ?_
            refine w_appU hvf4 (ev_var rfl) (eu_tup (ea_cons (ev_var rfl) (ea_cons (evp rfl rfl ex4) (ea_cons (ev_var rfl) ea_nil))) (by show 3 ≤ 100000; decide)) (by omega) fun r5 H5 nr5 hr5 pt5 => ?_
            have ex5 := pt5.ex ex4 nfG
            have hvg5 := pt5.old _ _ nfg.symm pt4.new
            have tf5 := (tf4.put hvf4 pt5).snoc (t := tupV (g3 (g, p, min sp d2))) hr5
            have tw5 := tw4.put hvf4 pt5
            have tfe : (List.map tupV (List.map g3 gs2) ++ [tupV (g3 (g, p, min sp d2))]) = ((gs2 ++ [(g, p, min sp d2)]).map g3).map tupV := by simp
            rw [tfe] at tf5
            refine w_aug rfl (ev_var rfl) (w_when (b := decide (min sp d2 < sp)) (et_test (ev_op (ev_var rfl) (ev_var rfl) rv_I0)) (fun hb2 => ?_) fun hb2 => w_nx fun H6 e6 => ?_)
            · have hlt : d2 < sp := by
                have := of_decide_eq_true hb2
                omega
              have hmin : min sp d2 = d2 := by omega
              rw [hmin] at tf5 ⊢
              refine w_appU hvg5 (ev_var rfl) (eu_tup (ea_cons (ev_var rfl) (ea_cons (ev_op (ev_var rfl) (ev_var rfl) rv_I0) ea_nil)) (by show 2 ≤ 100000; decide)) (by omega) fun r6 H6 nr6 hr6 pt6 => w_nx fun H7 e7 => w_nx (fun H8 e8 => ?_) H7 (Ex.refl _)
              have e68 := e7.trans e8
              have tg6 := (tw5.put hvg5 pt6).snoc (t := pairV (g, sp - d2)) hr6
              refine ⟨0, by omega, d2 - d2, gs2 ++ [(g, p, d2)], (g, sp - d2) :: r2, _, wg ++ [V.ref r6], _, _, _, rfl, (pt6.ex ex5 ngG).trans e68, e68 _ _ (pt6.old _ _ nfg pt5.new), (tf5.put hvg5 pt6).ex e68, e68 _ _ pt6.new, ?_, ?_, ?_, ?_, by omega, ?_, fun h => absurd h (by omega), ?_, ?_⟩
              · rw [List.reverse_cons, List.map_append]
                exact tg6.ex e68
              · rw [k1, give_lt hd2 hlt, give_le (by omega : d2 - d2 ≤ 0)]
                simp
              · rw [k2, give_lt hd2 hlt, give_le (by omega : d2 - d2 ≤ 0)]
              · intro z hz
                rcases List.mem_cons.mp hz with rfl | hz
                · show 0 < sp - d2
                  omega
                · exact hr2 z hz
              · rw [sumS_cons]
                simp only
                have := sumS_nn hr2
                omega
              · simp only [List.length_append, List.length_cons, List.length_nil]
                omega
              · rw [if_neg (by omega)]
            · have hge : sp ≤ d2 := by
                have := of_decide_eq_false hb2
                omega
              have hmin : min sp d2 = sp := by omega
              rw [hmin] at tf5 ⊢
              refine ⟨if 0 < d2 - sp then r2.length + 1 else 0, by split <;> omega, d2 - sp, gs2 ++ [(g, p, sp)], r2, _, wg, _, _, _, rfl, ex5.trans e6, e6 _ _ pt5.new, tf5.ex e6, e6 _ _ hvg5, tw5.ex e6, ?_, ?_, hr2, by omega, by omega, fun _ => ?_, ?_, rfl⟩
              · rw [k1, give_ge hd2 hge]
                simp
              · rw [k2, give_ge hd2 hge]
              · simp only [List.length_append, List.length_cons, List.length_nil]
                omega
              · simp only [List.length_append, List.length_cons, List.length_nil]
                omega
        · have hd2 : ¬ 0 < d2 := of_decide_eq_false h
          have hd3 : d2 = 0 := by omega
          subst hd3
          rw [give_le (Int.le_refl _)] at k1 k2
          simp only [List.append_nil] at k1
          refine ⟨_, _, _, _, _, rfl, ex3.trans e4, gs2, st2, ⟨vf2, e4 _ _ hvf2, tf2.ex e4⟩, ⟨vg2, e4 _ _ hvg2, tg2.ex e4⟩, ?_, ?_, k7⟩
          · rw [hgF, ← List.append_assoc, k1, k2]
          · have k2' : (give p d st).2 = st2 := k2
            rw [← k2']
            exact hokF
    · rintro s' H' ⟨x5, x6, x7, x8, x9, rfl, ex, gs, st, gsAt, _, hg, _, _⟩
      refine w_ret (ev_var rfl) fun H3 e3 => ?_
      have e0 : (lacks ns ws).drop ns.length = [] := List.drop_of_length_le (by omega)
      have e1 : gF ns ws = gs := by
        rw [hg, Int.toNat_natCast, e0]
        show gs ++ [] = gs
        simp
      rw [← e1] at gsAt
      obtain ⟨vf, hvf, tf⟩ := gsAt
      exact q pf H3 (eG.nf (nf_none nf)) ((eG.ex ex).ex e3) ⟨vf, e3 _ _ hvf, tf.ex e3⟩
end
end Ev

set_option Elab.async false
set_option linter.all false
set_option maxRecDepth 100000
set_option maxHeartbeats 4000000
namespace Ev
open PySem PySem.Spec L2 Evl Wk LamX Sk
/-! ### the classes of answers -/
structure ClsF (K : PySem.W.Frag) (C : Addr) : Prop where
  cl : Cls K C
  ha : PySem.W.findIn K (.ref C) "__class__" = some (some (.builtin "object.__class__"))
  hm : PySem.W.mroIn K C (.type "object") = some true
/-- the classes: A Answer, G Gifts, M Top, W Wholes -/
structure Kl (K : PySem.W.Frag) (mg : Str → Option Value) (A G M W : Addr) : Prop where
  g_Answer : mg "Answer" = some (.ref A)
  g_Gifts : mg "Gifts" = some (.ref G)
  g_Top : mg "Top" = some (.ref M)
  g_Wholes : mg "Wholes" = some (.ref W)
  fG : ClsF K G
  fM : ClsF K M
  fW : ClsF K W
  hn : PySem.W.specialIn K (.builtin "object.__class__") "__get__" = some (some (.builtin "getset_descriptor.__get__"))
  htk : PySem.W.takesIn K (.builtin "object.__class__") = some true
  kGA : PySem.W.kitOne K (.ref G) (.ref A) = some true
  kGG : PySem.W.kitOne K (.ref G) (.ref G) = some true
  kGM : PySem.W.kitOne K (.ref G) (.ref M) = some false
  kGW : PySem.W.kitOne K (.ref G) (.ref W) = some false
  kMA : PySem.W.kitOne K (.ref M) (.ref A) = some true
  kMG : PySem.W.kitOne K (.ref M) (.ref G) = some false
  kMM : PySem.W.kitOne K (.ref M) (.ref M) = some true
  kMW : PySem.W.kitOne K (.ref M) (.ref W) = some false
  kWA : PySem.W.kitOne K (.ref W) (.ref A) = some true
  kWG : PySem.W.kitOne K (.ref W) (.ref G) = some false
  kWM : PySem.W.kitOne K (.ref W) (.ref M) = some false
  kWW : PySem.W.kitOne K (.ref W) (.ref W) = some true
  nG : NoAttr K G "gifts"
  nM : NoAttr K M "many"
  nW1 : NoAttr K W "one"
  nW2 : NoAttr K W "other"
/-- an answer at p; l: the gifts' list -/
def AnsAt (G M W : Addr) (p : Addr) (H : Hp) : Ans → Prop
  | .gifts gs => ∃ dx l, H p = some (.ins G dx [("gifts", .ref l)]) ∧ GsAt gs l H
  | .top m => ∃ dx, H p = some (.ins M dx [("many", .int m)])
  | .wholes a b => ∃ dx, H p = some (.ins W dx [("one", .int a), ("other", .int b)])
/-- the same, new to H0 -/
def AnsN (G M W : Addr) (H0 : Hp) (p : Addr) (H : Hp) : Ans → Prop
  | .gifts gs => ∃ dx l, H p = some (.ins G dx [("gifts", .ref l)]) ∧ Nf H0 l ∧ GsAt gs l H
  | .top m => ∃ dx, H p = some (.ins M dx [("many", .int m)])
  | .wholes a b => ∃ dx, H p = some (.ins W dx [("one", .int a), ("other", .int b)])
theorem AnsN.at {G M W p : Addr} {H0 H : Hp} {an : Ans} (h : AnsN G M W H0 p H an) : AnsAt G M W p H an := by
  cases an with
  | gifts gs => obtain ⟨dx, l, h1, _, h2⟩ := h; exact ⟨dx, l, h1, h2⟩
  | top m => exact h
  | wholes a b => exact h
theorem GsAt.ext {gs : List T3} {l : Addr} {H H' : Hp} (h : GsAt gs l H) (e : ExtN H H') : GsAt gs l H' := let ⟨vs, a, b⟩ := h; ⟨vs, e _ _ a fun ps z => (by cases z), b.ext e⟩
theorem AnsAt.ext {G M W p : Addr} {H H' : Hp} {an : Ans} (h : AnsAt G M W p H an) (e : ExtN H H') : AnsAt G M W p H' an := by
  cases an with
  | gifts gs => obtain ⟨dx, l, h1, h2⟩ := h; exact ⟨dx, l, e _ _ h1 fun ps z => (by cases z), h2.ext e⟩
  | top m => obtain ⟨dx, h1⟩ := h; exact ⟨dx, e _ _ h1 fun ps z => by cases z⟩
  | wholes a b => obtain ⟨dx, h1⟩ := h; exact ⟨dx, e _ _ h1 fun ps z => by cases z⟩
theorem AnsAt.ex {G M W p : Addr} {H H' : Hp} {an : Ans} (h : AnsAt G M W p H an) (e : Ex H H') : AnsAt G M W p H' an := h.ext (ExtN.of e)
section
variable {P : Program} {w : World} {K : PySem.W.Frag} {mg : Str → Option Value} {base : Heap} {A G M W : Addr}
/-- a method, an __init__ of the text -/
def RawM (K : PySem.W.Frag) (C : Addr) (m qual : Str) (st : Stmt) (ps : List Str) : Prop := ∃ f fd, Fun K m qual st f fd ∧ Cls K C ∧ Meth K C m f ∧ Binds K fd ps []
def RawI (K : PySem.W.Frag) (mg : Str → Option Value) (x : Str) (C : Addr) (qual : Str) (st : Stmt) (ps : List Str) : Prop := ∃ f fd, Fun K "__init__" qual st f fd ∧ Mk K C f ∧ mg x = some (.ref C) ∧ Binds K fd ps []
theorem RawM.ok {C : Addr} {m qual : Str} {st : Stmt} {ps : List Str} {k : Nat} {sp : Sp} (r : RawM K C m qual st ps) (h : ∀ f fd, Fun K m qual st f fd → FnOk P w K mg base CX0 k f fd ps sp) : C8.Met P w K mg base k C m sp [] := by
  obtain ⟨f, fd, F, c, me, b⟩ := r
  exact ⟨f, fd, ps, [], c, me, h f fd F, b, .nil⟩
theorem RawI.ok {x : Str} {C : Addr} {qual : Str} {st : Stmt} {ps : List Str} {k : Nat} {sp : Sp} (r : RawI K mg x C qual st ps) (h : ∀ f fd, Fun K "__init__" qual st f fd → FnOk P w K mg base CX0 k f fd ps sp) : C8.Mak P w K mg base k x C sp [] := by
  obtain ⟨f, fd, F, M, g, b⟩ := r
  exact ⟨f, fd, ps, [], M, h f fd F, g, b, .nil⟩
/-! __init__ -/
def spGInit (G : Addr) : Sp := fun vs H Q _ => ∃ (x dx a : Addr) (us : List V), vs = [.ref x, .ref a] ∧ H x = some (.ins G dx []) ∧ H a = some (.lst us) ∧ ∀ l H2, H l = none → H2 l = some (.lst us) → Put x (.ins G dx [("gifts", .ref l)]) H H2 → Q .non H2
theorem init_Gifts (R : RawI K mg "Gifts" G "Gifts.__init__" s_Gifts___init__ ["self", "gifts"]) (T : Txt K mg) (L : Kl K mg A G M W) : C8.Mak P w K mg base 1 "Gifts" G (spGInit G) [] := by
  refine R.ok fun f fd F => F.ok sc_Gifts___init__ (fun vs H Q E h => ?_) (fun cdv A outer s H vs Q E hr h => ?_)
  · obtain ⟨x, dx, a, us, rfl, _⟩ := h
    rfl
  · obtain ⟨x, dx, a, us, rfl, hx, ha, q⟩ := h
    refine ⟨_, (pss_cons (ps_fld (pv 0) (pe_callTy (r := rListS K) call_list_of (by rfl) T.n_list (by decide +kernel) (pa_cons (pv 1) pa_nil)) rfl)
      pss_nil), ?_⟩
    refine Sv.go (w_fldL (el_listL (ev_var' rfl ha)) (fun _ _ => ev_var rfl) hx L.fG.cl L.nG (by show 0 < 1000; decide) fun l H1 nl hl pt => w_nx fun H2 e2 => q l H2 nl (e2 _ _ hl) ⟨e2 _ _ pt.new, fun b u hb hu => e2 _ _ (pt.old b u hb hu)⟩)
def spMInit (M : Addr) : Sp := fun vs H Q _ => ∃ (x dx : Addr) (m : Int), vs = [.ref x, .int m] ∧ H x = some (.ins M dx []) ∧ ∀ H2, Put x (.ins M dx [("many", .int m)]) H H2 → Q .non H2
theorem init_Top (R : RawI K mg "Top" M "Top.__init__" s_Top___init__ ["self", "many"]) (T : Txt K mg) (L : Kl K mg A G M W) : C8.Mak P w K mg base 1 "Top" M (spMInit M) [] := by
  refine R.ok fun f fd F => F.ok sc_Top___init__ (fun vs H Q E h => ?_) (fun cdv A outer s H vs Q E hr h => ?_)
  · obtain ⟨x, dx, m, rfl, _⟩ := h
    rfl
  · obtain ⟨x, dx, m, rfl, hx, q⟩ := h
    refine ⟨_, (pss_cons (ps_fld (pv 0) (pv 1) rfl)
      pss_nil), ?_⟩
    refine Sv.go (w_fld (ev_var rfl) (ev_var rfl) hx L.fM.cl L.nM (by show 0 < 1000; decide) fun H1 pt => w_nx fun H2 e2 => q H2 ⟨e2 _ _ pt.new, fun b u hb hu => e2 _ _ (pt.old b u hb hu)⟩)
def spWInit (W : Addr) : Sp := fun vs H Q _ => ∃ (x dx : Addr) (m n : Int), vs = [.ref x, .int m, .int n] ∧ H x = some (.ins W dx []) ∧ ∀ H2, Put x (.ins W dx [("one", .int m), ("other", .int n)]) H H2 → Q .non H2
theorem init_Wholes (R : RawI K mg "Wholes" W "Wholes.__init__" s_Wholes___init__ ["self", "one", "other"]) (T : Txt K mg) (L : Kl K mg A G M W) : C8.Mak P w K mg base 1 "Wholes" W (spWInit W) [] := by
  refine R.ok fun f fd F => F.ok sc_Wholes___init__ (fun vs H Q E h => ?_) (fun cdv A outer s H vs Q E hr h => ?_)
  · obtain ⟨x, dx, m, n, rfl, _⟩ := h
    rfl
  · obtain ⟨x, dx, m, n, rfl, hx, q⟩ := h
    refine ⟨_, (pss_cons (ps_fld (pv 0) (pv 1) rfl)
      (pss_cons (ps_fld (pv 0) (pv 2) rfl)
      pss_nil)), ?_⟩
    refine Sv.go (w_fld (ev_var rfl) (ev_var rfl) hx L.fW.cl L.nW1 (by show 0 < 1000; decide) fun H1 pt => w_fld (ev_var rfl) (ev_var rfl) pt.new L.fW.cl L.nW2 (by show 1 < 1000; decide) fun H2 pt2 => w_nx fun H3 e3 => q H3 ⟨e3 _ _ pt2.new, fun b u hb hu => e3 _ _ (pt2.old b u hb (pt.old b u hb hu))⟩)
/-! making -/
theorem put_made {H1 H2 : Hp} {x dx C : Addr} {o : HO} (nx : H1 x = none) (nd : H1 dx = none) (p : Put x o (upd (upd H1 dx (.own x)) x (.ins C dx [])) H2) : Ex H1 H2 := fun b u hb => by
  have n1 : b ≠ x := ne_of_none hb nx
  have n2 : b ≠ dx := ne_of_none hb nd
  exact p.old b u n1 (by rw [upd_ne n1, upd_ne n2]; exact hb)
theorem mkG_run {H1 : Hp} {a : Addr} {us : List V} {Q : VK} {E : XK} (ha : H1 a = some (.lst us)) (q : ∀ p dx l H2, H1 p = none → H1 l = none → Ex H1 H2 → H2 p = some (.ins G dx [("gifts", .ref l)]) → H2 l = some (.lst us) → Q (.ref p) H2) :
    ∀ x dx, H1 x = none → H1 dx = none → dx ≠ x → spGInit G [.ref x, .ref a] (upd (upd H1 dx (.own x)) x (.ins G dx [])) (fun v H2 => v = .non ∧ Q (.ref x) H2) E := fun x dx nx nd ne =>
  ⟨x, dx, a, us, rfl, upd_same, by rw [upd_ne (ne_of_none ha nx), upd_ne (ne_of_none ha nd)]; exact ha, fun l H2 nl hl pt => ⟨rfl, by
    have nl1 : H1 l = none := by
      cases hh : H1 l with
      | none => rfl
      | some u => rw [upd_ne (ne_of_none hh nx), upd_ne (ne_of_none hh nd), hh] at nl; cases nl
    exact q x dx l H2 nx nl1 (put_made nx nd pt) pt.new hl⟩⟩
theorem mkM_run {H1 : Hp} {m : Int} {Q : VK} {E : XK} (q : ∀ p dx H2, H1 p = none → Ex H1 H2 → H2 p = some (.ins M dx [("many", .int m)]) → Q (.ref p) H2) :
    ∀ x dx, H1 x = none → H1 dx = none → dx ≠ x → spMInit M [.ref x, .int m] (upd (upd H1 dx (.own x)) x (.ins M dx [])) (fun v H2 => v = .non ∧ Q (.ref x) H2) E := fun x dx nx nd ne =>
  ⟨x, dx, m, rfl, upd_same, fun H2 pt => ⟨rfl, q x dx H2 nx (put_made nx nd pt) pt.new⟩⟩
theorem mkW_run {H1 : Hp} {m n : Int} {Q : VK} {E : XK} (q : ∀ p dx H2, H1 p = none → Ex H1 H2 → H2 p = some (.ins W dx [("one", .int m), ("other", .int n)]) → Q (.ref p) H2) :
    ∀ x dx, H1 x = none → H1 dx = none → dx ≠ x → spWInit W [.ref x, .int m, .int n] (upd (upd H1 dx (.own x)) x (.ins W dx [])) (fun v H2 => v = .non ∧ Q (.ref x) H2) E := fun x dx nx nd ne =>
  ⟨x, dx, m, n, rfl, upd_same, fun H2 pt => ⟨rfl, q x dx H2 nx (put_made nx nd pt) pt.new⟩⟩
/-- Gifts(e), e a list -/
theorem evp_mkG {s : L2.St} {H : Hp} {te : TE} {gs : List T3} (h : EvP te s H (fun v H1 => ∃ a, v = .ref a ∧ GsAt gs a H1)) : EvP (tMake G (spGInit G) [] E0 (tCons te tNil)) s H (fun v H2 => ∃ p, v = .ref p ∧ AnsN G M W H p H2 (.gifts gs)) := fun H1 e Q q =>
  h H1 e _ fun v H2 e2 ⟨a, ev, vs, hvs, tv⟩ => by
    subst ev
    exact mkG_run hvs fun p dx l H3 np nl e3 h1 h2 => q _ H3 (e2.trans e3) ⟨p, rfl, dx, l, h1, nf_none (fresh_back (e.trans e2) nl), vs, h2, tv.ex e3⟩
theorem evpt_mkG {T : List (Addr × Str)} {s : L2.St} {H : Hp} {te : TE} {gs : List T3} (h : EvPT T te s H (fun v H1 => ∃ a, v = .ref a ∧ GsAt gs a H1)) : EvPT T (tMake G (spGInit G) [] E0 (tCons te tNil)) s H (fun v H2 => ∃ p, v = .ref p ∧ AnsN G M W H p H2 (.gifts gs)) := fun H1 e Q q =>
  h H1 e _ fun v H2 e2 ⟨a, ev, vs, hvs, tv⟩ => by
    subst ev
    exact mkG_run hvs fun p dx l H3 np nl e3 h1 h2 => q _ H3 (e2.ex e3) ⟨p, rfl, dx, l, h1, ((ExT.of e).trans e2).nf (nf_none nl), vs, h2, tv.ex e3⟩
theorem evp_mkM {s : L2.St} {H : Hp} {te : TE} {m : Int} (h : Ev te s H (.int m)) : EvP (tMake M (spMInit M) [] E0 (tCons te tNil)) s H (fun v H2 => ∃ p, v = .ref p ∧ AnsN G M W H p H2 (.top m)) := fun H1 e Q q =>
  h H1 e _ fun H2 e2 => mkM_run fun p dx H3 np e3 h1 => q _ H3 (e2.trans e3) ⟨p, rfl, dx, h1⟩
theorem evp_mkW {s : L2.St} {H : Hp} {ta tb : TE} {m n : Int} (ha : Ev ta s H (.int m)) (hb : Ev tb s H (.int n)) : EvP (tMake W (spWInit W) [] E0 (tCons ta (tCons tb tNil))) s H (fun v H2 => ∃ p, v = .ref p ∧ AnsN G M W H p H2 (.wholes m n)) := fun H1 e Q q =>
  ha H1 e _ fun H2 e2 => hb H2 (e.trans e2) _ fun H3 e3 => mkW_run fun p dx H4 np e4 h1 => q _ H4 ((e2.trans e3).trans e4) ⟨p, rfl, dx, h1⟩
end
end Ev

set_option Elab.async false
set_option linter.all false
set_option maxRecDepth 100000
set_option maxHeartbeats 4000000
namespace Ev
open PySem PySem.Spec L2 Evl Wk LamX Sk
local macro_rules | `(tactic| walk_at "ev") => `(tactic| first
  | exact ev_c | exact ev_var rfl | assumption
  | (refine ev_op ?_ ?_ rv_I0 <;> walk_at "ev")
  | (refine ev_un ?_ ru_neg; walk_at "ev"))
section
variable {P : Program} {w : World} {K : PySem.W.Frag} {mg : Str → Option Value} {base : Heap} {A G M W : Addr}
theorem mn2 (a b : Int) : mn [a, b] = if a ≤ b then a else b := rfl
theorem mx2 (a b : Int) : mx [a, b] = if b ≤ a then a else b := rfl
/-- len of a tracked list of ints -/
theorem ev_lenI {s : L2.St} {H : Hp} {i : Nat} {p : Addr} {ns : List Int} (h : s[i]? = some (some (.ref p))) (hp : H p = some (.lst (ns.map V.int))) : Ev (tCB (rLenS K) (tCons (tVar i) tNil)) s H (.int (ns.length : Int)) := Ev_len hp (ev_var h)
theorem int_ne (a b : Int) : (!decide (V.int a = V.int b)) = !decide (a = b) := by simp
theorem int_eq (a b : Int) : decide (V.int a = V.int b) = decide (a = b) := by simp
theorem nat_ne (a b : Nat) : (!decide (V.int (a : Int) = V.int (b : Int))) = !decide (a = b) := by
  rw [int_ne]
  congr 1
  exact decide_eq_decide.mpr ⟨fun h => by omega, fun h => by omega⟩
theorem nat_le (a b : Nat) : decide ((a : Int) ≤ (b : Int)) = decide (a ≤ b) := decide_eq_decide.mpr ⟨fun h => by omega, fun h => by omega⟩
theorem nat_lt (a b : Nat) : decide ((a : Int) < (b : Int)) = decide (a < b) := decide_eq_decide.mpr ⟨fun h => by omega, fun h => by omega⟩
theorem le_not_lt (a b : Nat) : decide (a ≤ b) = !decide (b < a) := by
  by_cases h : a ≤ b
  · rw [decide_eq_true h, decide_eq_false (by omega)]; rfl
  · rw [decide_eq_false h, decide_eq_true (by omega)]; rfl
def spGift (K : PySem.W.Frag) : Sp := fun vs H Q _ => ∃ (r : Addr) (g : T3) (m : Int), vs = [.ref r, .int m] ∧ H r = some (.tup (tupV g)) ∧ RetV (.bl (gOk m g)) H Q
theorem def_is_gift (R : Raw K mg "is_gift" s_is_gift ["gift", "many"]) (T : Txt K mg) (d_is_whole : Def P w K mg base CX0 1 "is_whole" ["thing"] (spWhole K)) : Def P w K mg base CX0 2 "is_gift" ["gift", "many"] (spGift K) := by
  refine R.ok fun f fd F => F.ok sc_is_gift (fun vs H Q E h => ?_) (fun cdv A outer s H vs Q E hr h => ?_)
  · obtain ⟨r, g, m, rfl, _⟩ := h
    rfl
  · obtain ⟨r, ⟨a, b, c⟩, m, rfl, hr0, q⟩ := h
    refine ⟨_, (pss_cons (ps_if (PW.pt (pw_or (pt_not (pt_val (pe_callB (r := rIsi K) call_isi (by rfl) T.n_isinstance (by decide +kernel) (pa_cons (pv 0) (pa_cons (pe_bltn (v := .ty "tuple") (u := .type "tuple") (by rfl) T.n_tuple (by decide +kernel) rfl) pa_nil))))) (pw_or (pt_cmpR op_ne (pe_callB (r := rLenS K) call_len_seq (by rfl) T.n_len PySem.boot_len (pa_cons (pv 0) pa_nil)) pe_int (nomark _)) (pw_or1 (pt_not (pt_val (pe_callB (r := rAll K) (cr_all rfl) (by rfl) T.n_all (by decide +kernel) (pa_cons (pe_lc (own := [("part", 2)]) (g := gName 2) rfl sc_is_gift.nd (pi_tup (pv 0)) (blkOk_by (own := [("part", 2)]) (N := ["gift", "many", "part"]) (sc := defScope s_is_gift) (by decide +kernel)) (fun _ _ _ _ _ => pg_name (i := 2) sc_is_gift.nd rfl (Or.inl rfl)) (fun _ _ _ _ _ => pts_nil) (fun _ _ _ _ _ => (pe_def d_is_whole hr (by decide) (by rfl) pass0 (pa_cons (pv 2) pa_nil)))) pa_nil))))))))
        (pss_cons (ps_ret pe_bl)
          pss_nil)
        pss_nil)
      (pss_cons (ps_ret (pe_and (pe_cmpR op_le pe_int (pe_callB (r := rMinT K) (Wk.cr_minT rfl hr.units) (by rfl) T.n_min (by decide +kernel) (pa_cons (pe_slice (r := rSlT K) sl_tup (pv 0) po_none (po_some pe_int)) pa_nil)) (nomark _)) (pe_and (pe_cmpR op_lt (pe_callB (r := rMaxT K) (Wk.cr_maxT rfl hr.units) (by rfl) T.n_max (by decide +kernel) (pa_cons (pe_slice (r := rSlT K) sl_tup (pv 0) po_none (po_some pe_int)) pa_nil)) (pv 1) (nomark _)) (pe_and (pe_cmpR op_ne (pe_ix (r := rIxT K) ix_tup (pv 0) pe_int (fun _ _ => rfl)) (pe_ix (r := rIxT K) ix_tup (pv 0) pe_int (fun _ _ => rfl)) (nomark _)) (pe_one (pe_cmpR op_gt (pe_ix (r := rIxT K) ix_tup (pv 0) pe_int (fun _ _ => rfl)) pe_int (nomark _)))))))
      pss_nil)), ?_⟩
    have hr1 : H r = some (.tup (([a, b, c] : List Int).map V.int)) := hr0
    have hr1 : H r = some (.tup (([a, b, c] : List Int).map V.int)) := hr0
    have two : ∀ {s : L2.St}, s[0]? = some (some (.ref r)) → EvP (tSl (rSlT K) (tVar 0) tNoPart (tPart (tC (.int 2)))) s H (IsU (([a, b] : List Int).map V.int)) := fun h => eu_slice (lo := none) (hi := some 2) (ev_varU h hr1) eo_none (eo_some ev_c) (by intro z; have := z.2; simp [HT.sIx] at this)
    refine Sv.go (w_if (b := false) (et_is (et_or (et_not (et_B (ev_isi (b := true) (ev_var rfl) ev_c (.ty _) (.base (.tup hr0)) (kit_ty (by decide +kernel))))) fun _ => et_or (et_test (ev_op (ev_lenU (ev_varU rfl hr0)) ev_c (rv_ne rfl))) fun _ => et_not (et_B (ev_all (bs := [true, true, true]) (EvL.p ?_)))) ?_) (fun h => nomatch h) fun _ => w_nx fun H1 e1 => ?_)
    · exact el_mapT (K := K) ([a, b, c] : List Int) V.int (fun _ => V.bl true) (ev_var rfl) hr1 (by show 3 ≤ 100000; decide) (fun _ => rfl) fun x _ => ev_call (dvs := []) (z := .bl true) (ea_cons (ev_var rfl) ea_nil) fun H1 e1 Q q E => ⟨.int x, "int", rfl, .base (.int x), by simp [tyns], q⟩
    · rfl
    · refine (w_ret (v := .bl (gOk m (a, b, c))) (ev_is (ev_andV (ev_op ev_c (ev_minT (two rfl) (by simp)) rv_I0) fun _ => ev_andV (ev_op (ev_maxT (two rfl) (by simp)) (ev_var rfl) rv_I0) fun _ => ev_andV (ev_op (ev_ixU (v := .int a) (ev_varU rfl hr0) ev_c rfl) (ev_ixU (v := .int b) (ev_varU rfl hr0) ev_c rfl) (rv_ne rfl)) fun _ => ev_op (ev_ixU (v := .int c) (ev_varU rfl hr0) ev_c rfl) ev_c rv_I0) ?_) fun H2 e2 => q H2 e2) H1 e1
      rw [int_ne, mn2, mx2]
      congr 1
      rw [Bool.eq_iff_iff]
      unfold gOk
      simp only [Bool.and_eq_true, decide_eq_true_eq, Bool.not_eq_true', decide_eq_false_iff_not]
      constructor
      · rintro ⟨h1, h2, h3, h4⟩
        split at h1 <;> split at h2 <;> omega
      · rintro ⟨h1, h2, h3, h4, h5, h6⟩
        refine ⟨?_, ?_, h5, h6⟩ <;> split <;> omega
def spGShows (G : Addr) : Sp := fun vs H Q _ => ∃ (x dx l a b : Addr) (gs : List T3) (one other : List Int), vs = [.ref x, .ref a, .ref b] ∧ H x = some (.ins G dx [("gifts", .ref l)]) ∧ GsAt gs l H ∧ H a = some (.lst (one.map V.int)) ∧ H b = some (.lst (other.map V.int)) ∧ one.length ≤ 10000 ∧ RetV (.bl (showsG one other gs)) H Q
theorem showsG_len {one other : List Int} {gs : List T3} (h : decide (one.length = other.length) = false ∨ decide (gs.length < one.length) = false) : showsG one other gs = false := by
  unfold showsG
  rcases h with h | h
  · rw [h]; rfl
  · rw [h]; simp
theorem int_at2 {ns : List Int} {i : Nat} (h : i < ns.length) : (ns.map V.int)[i]? = some (.int (ns.getD i 0)) := by
  rw [List.getElem?_map, List.getD_eq_getElem?_getD, List.getElem?_eq_getElem h]
  rfl
theorem fairL_cons (l : List Int) (x : T3) (r : List T3) : fairL l (x :: r) = if gOk l.length x then (if (stepL l x).getD x.1.toNat 0 < (stepL l x).getD x.2.1.toNat 0 then none else fairL (stepL l x) r) else none := rfl
theorem meth_Gifts_shows (R : RawM K G "shows" "Gifts.shows" s_Gifts_shows ["self", "one", "other"]) (T : Txt K mg) (L : Kl K mg A G M W) (d_is_gift : Def P w K mg base CX0 2 "is_gift" ["gift", "many"] (spGift K)) : C8.Met P w K mg base 3 G "shows" (spGShows G) [] := by
  refine R.ok fun f fd F => F.ok sc_Gifts_shows (fun vs H Q E h => ?_) (fun cdv A outer s H vs Q E hr h => ?_)
  · obtain ⟨x, dx, l, a, b, gs, one, other, rfl, _⟩ := h
    rfl
  · obtain ⟨x, dx, l, a, b, gs, one, other, rfl, hx, ⟨us, hl, hts⟩, ha, hb, hz, q⟩ := h
    refine ⟨_, (pss_cons (ps_if (PW.pt (pw_or (pt_cmpR op_ne (pe_callB (r := rLenS K) call_len_seq (by rfl) T.n_len PySem.boot_len (pa_cons (pv 1) pa_nil)) (pe_callB (r := rLenS K) call_len_seq (by rfl) T.n_len PySem.boot_len (pa_cons (pv 2) pa_nil)) (nomark _)) (pw_or1 (pt_cmpR op_ge (pe_callB (r := rLenS K) call_len_seq (by rfl) T.n_len PySem.boot_len (pa_cons (pe_fld (pv 0) rfl) pa_nil)) (pe_callB (r := rLenS K) call_len_seq (by rfl) T.n_len PySem.boot_len (pa_cons (pv 1) pa_nil)) (nomark _)))))
        (pss_cons (ps_ret pe_bl)
          pss_nil)
        pss_nil)
      (pss_cons (ps_set (i := 3) sc_Gifts_shows.nd rfl (Or.inl rfl) (pe_callTy (r := rListS K) call_list_of (by rfl) T.n_list (by decide +kernel) (pa_cons (pv 1) pa_nil)))
      (pss_cons (ps_for PassesOwn.never rfl (pi_list (pe_fld (pv 0) rfl)) (pg_name (i := 4) sc_Gifts_shows.nd rfl (Or.inl rfl))
        (pss_cons (ps_if (pt_not (pt_val (pe_def d_is_gift hr (by decide) (by rfl) pass0 (pa_cons (pv 4) (pa_cons (pe_callB (r := rLenS K) call_len_seq (by rfl) T.n_len PySem.boot_len (pa_cons (pv 3) pa_nil)) pa_nil)))))
            (pss_cons (ps_ret pe_bl)
              pss_nil)
            pss_nil)
          (pss_cons (ps_augS (pv 3) (pe_ix (r := rIxT K) ix_tup (pv 4) pe_int (fun _ _ => rfl)) Wk.pget_list (pe_ix (r := rIxT K) ix_tup (pv 4) pe_int (fun _ _ => rfl)) ip_sub set_list)
          (pss_cons (ps_augS (pv 3) (pe_ix (r := rIxT K) ix_tup (pv 4) pe_int (fun _ _ => rfl)) Wk.pget_list (pe_ix (r := rIxT K) ix_tup (pv 4) pe_int (fun _ _ => rfl)) ip_add set_list)
          (pss_cons (ps_if (pt_cmpR op_lt (pe_ix (r := rIxL K) ix_list (pv 3) (pe_ix (r := rIxT K) ix_tup (pv 4) pe_int (fun _ _ => rfl)) (fun _ _ => rfl)) (pe_ix (r := rIxL K) ix_list (pv 3) (pe_ix (r := rIxT K) ix_tup (pv 4) pe_int (fun _ _ => rfl)) (fun _ _ => rfl)) (nomark _))
            (pss_cons (ps_ret pe_bl)
              pss_nil)
            pss_nil)
          pss_nil)))))
      (pss_cons (ps_ret (pe_cmpR (r := rEqD K) (op_eqD hr.units) (pe_callB (r := rSortedI K) cr_sortedI (by rfl) T.n_sorted (by decide +kernel) (pa_cons (pv 3) pa_nil)) (pe_callB (r := rSortedI K) cr_sortedI (by rfl) T.n_sorted (by decide +kernel) (pa_cons (pv 2) pa_nil)) (nomark _)))
      pss_nil)))), ?_⟩
    have hul : us.length = gs.length := by rw [hts.1, List.length_map]
    have fld : ∀ {s : L2.St} {H' : Hp}, s[0]? = some (some (.ref x)) → Ex H H' → Ev (tFld K (tVar 0) "gifts") s H' (.ref l) := fun h e => ev_fld (ev_var h) (e _ _ hx) L.fG.cl L.nG rfl
    refine Sv.go (w_when (b := !(decide (one.length = other.length) && decide (gs.length < one.length))) (et_is (et_or (et_test (ev_op (ev_lenI rfl ha) (ev_lenI rfl hb) (rv_ne rfl))) fun _ => et_test (ev_op (ev_lenL ((fld rfl (Ex.refl _)).p.imp fun v H1 e p => ⟨l, p, e _ _ hl⟩)) (ev_lenI rfl ha) rv_I0)) ?_) (fun hb0 => w_ret ev_c fun H1 e1 => ?_) fun hb0 => ?_)
    · rw [nat_ne, hul, nat_le, le_not_lt]
      cases decide (one.length = other.length) <;> cases decide (gs.length < one.length) <;> rfl
    · have e : showsG one other gs = false := showsG_len (by simpa using hb0)
      rw [e] at q
      exact q H1 e1
    · obtain ⟨h1, h2⟩ : one.length = other.length ∧ gs.length < one.length := by simpa using hb0
      have eS : showsG one other gs = (match fairL one gs with | none => false | some l => decide (srt l = srt other)) := by
        unfold showsG
        rw [decide_eq_true h1, decide_eq_true h2]
        rfl
      refine w_asgL (el_listL (ev_var' rfl ha)) fun ps H1 ns e1 hps => ?_
      refine w_forL (ev_fld (ev_var rfl) (e1 _ _ hx) L.fG.cl L.nG rfl) (sq_of (e1 _ _ hl)) (fun i s' H' => ∃ (xs : List Int) (y : Option V), s' = [some (.ref x), some (.ref a), some (.ref b), some (.ref ps), y] ∧ Ex H H' ∧ H' ps = some (.lst (xs.map V.int)) ∧ xs.length = one.length ∧ fairL one gs = fairL xs (gs.drop i))
        (fun H2 e2 => ⟨one, none, rfl, e1.trans e2, e2 _ _ hps, rfl, rfl⟩) (fun i s' H' hi ⟨xs, y, _, ex, _⟩ => sq_of (ex _ _ hl)) ?_ ?_
      · rintro i v s' H' hi ⟨xs, y, rfl, ex, hxs, hxl, hf⟩
        obtain ⟨t, r, ht, rfl, hr0⟩ := hts.at hi
        rw [List.getElem?_map] at ht
        obtain ⟨g, hg, rfl⟩ := Option.map_eq_some_iff.mp ht
        rw [drop_at hg] at hf
        have hr1 := ex _ _ hr0
        rw [fairL_cons] at hf
        refine w_when (b := !gOk xs.length g) (et_not (et_B (ev_call (dvs := []) (z := .bl (gOk xs.length g)) (ea_cons (ev_var rfl) (ea_cons (ev_lenI rfl hxs) ea_nil)) fun H2 e2 Q q E => ⟨r, g, _, rfl, e2 _ _ hr1, q⟩))) (fun hb1 => w_ret ev_c fun H2 e2 => ?_) fun hb1 => ?_
        · have e : gOk xs.length g = false := by simpa using hb1
          rw [e, if_neg Bool.false_ne_true] at hf
          rw [eS, hf] at q
          exact q H2 (ex.trans e2)
        · have e : gOk xs.length g = true := by simpa using hb1
          rw [if_pos e] at hf
          obtain ⟨g1, g2, g3, g4, g5, g6⟩ := of_decide_eq_true e
          obtain ⟨ga, gb, gc⟩ := g
          simp only at g1 g2 g3 g4 g5 g6
          obtain ⟨na, rfl⟩ := Int.eq_ofNat_of_zero_le g1
          obtain ⟨nb, rfl⟩ := Int.eq_ofNat_of_zero_le g2
          have ix : ∀ {s : L2.St} {H' : Hp} {j : Int} {v : V}, s[4]? = some (some (.ref r)) → Ex H H' → atI (tupV ((na : Int), (nb : Int), gc)) j = some v → Ev (tOp (rIxT K) (tVar 4) (tC (.int j))) s H' v := fun h4 e hv => ev_ixU (ev_varU h4 (e _ _ hr0)) ev_c hv
          have hf : fairL one gs = if (stepL xs ((na : Int), (nb : Int), gc)).getD na 0 < (stepL xs ((na : Int), (nb : Int), gc)).getD nb 0 then none else fairL (stepL xs ((na : Int), (nb : Int), gc)) (gs.drop (i + 1)) := hf
          have lna : na < xs.length := by omega
          have lnb : nb < xs.length := by omega
          refine w_augS hxs (by rw [List.length_map]; omega) (ev_var rfl) (ix rfl ex rfl) (int_at2 lna) (ix rfl ex rfl) fun H2 p2 => ?_
          have ex2 := p2.ex ex ns
          have e2 : (xs.map V.int).set na (.int (xs.getD na 0 - gc)) = (step1 xs ((na : Int), (nb : Int), gc)).map V.int := by
            show _ = (xs.set (na : Int).toNat _).map V.int
            rw [List.map_set]
            rfl
          have p2n := p2.new
          rw [e2] at p2n
          have l1 : (step1 xs ((na : Int), (nb : Int), gc)).length = xs.length := by simp [step1]
          refine w_augS p2n (by rw [List.length_map]; omega) (ev_var rfl) (ix rfl ex2 rfl) (int_at2 (by omega)) (ix rfl ex2 rfl) fun H3 p3 => ?_
          have ex3 := p3.ex ex2 ns
          have e3 : ((step1 xs ((na : Int), (nb : Int), gc)).map V.int).set nb (.int ((step1 xs ((na : Int), (nb : Int), gc)).getD nb 0 + gc)) = (stepL xs ((na : Int), (nb : Int), gc)).map V.int := by
            show _ = ((step1 xs ((na : Int), (nb : Int), gc)).set (nb : Int).toNat _).map V.int
            rw [List.map_set]
            rfl
          have p3n := p3.new
          rw [e3] at p3n
          have l2 := stepL_len xs ((na : Int), (nb : Int), gc)
          refine w_when (et_test (ev_op (ev_ixL (ev_var' rfl p3n) (ix rfl ex3 rfl) (atI_nat (int_at2 (by omega)))) (ev_ixL (ev_var' rfl p3n) (ix rfl ex3 rfl) (atI_nat (int_at2 (by omega)))) rv_I0)) (fun hb2 => w_ret ev_c fun H4 e4 => ?_) fun hb2 => w_nx fun H4 e4 => ?_
          · rw [if_pos (of_decide_eq_true hb2)] at hf
            rw [eS, hf] at q
            exact q H4 (ex3.trans e4)
          · rw [if_neg (of_decide_eq_false hb2)] at hf
            exact Exists.intro (stepL xs ((na : Int), (nb : Int), gc)) ⟨_, rfl, ex3.trans e4, e4 _ _ p3n, by omega, hf⟩
      · rintro s' H' ⟨xs, y, rfl, ex, hxs, hxl, hf⟩
        have e0 : gs.drop us.length = [] := List.drop_of_length_le (by omega)
        rw [e0] at hf
        have hf2 : fairL one gs = some xs := hf
        rw [eS, hf2] at q
        exact w_ret (ev_eqL (EvL.p (el_sorted (ev_var' rfl hxs))) (EvL.p (el_sorted (ev_var' rfl (ex _ _ hb))))) fun H2 e2 => q H2 (ex.trans e2)
def spMShows (M : Addr) : Sp := fun vs H Q _ => ∃ (x dx a b : Addr) (m : Int) (one other : List Int), vs = [.ref x, .ref a, .ref b] ∧ H x = some (.ins M dx [("many", .int m)]) ∧ H a = some (.lst (one.map V.int)) ∧ H b = some (.lst (other.map V.int)) ∧ one.length ≤ 10000 ∧ other.length ≤ 10000 ∧ RetV (.bl (showsT one other m)) H Q
theorem cut_tops {l : List Int} {m : Int} (h0 : 1 ≤ m) (h1 : m ≤ (l.length : Int)) : cutV ((srt l).map V.int) (some (-m)) none = ((srt l).drop (l.length - m.toNat)).map V.int := by
  obtain ⟨k, rfl⟩ := Int.eq_ofNat_of_zero_le (show 0 ≤ m by omega)
  rw [cut_neg (by omega) (by rw [List.length_map, srt_len]; omega), List.length_map, srt_len, ← List.map_drop]
  rfl
theorem meth_Top_shows (R : RawM K M "shows" "Top.shows" s_Top_shows ["self", "one", "other"]) (T : Txt K mg) (L : Kl K mg A G M W) : C8.Met P w K mg base 1 M "shows" (spMShows M) [] := by
  refine R.ok fun f fd F => F.ok sc_Top_shows (fun vs H Q E h => ?_) (fun cdv A outer s H vs Q E hr h => ?_)
  · obtain ⟨x, dx, a, b, m, one, other, rfl, _⟩ := h
    rfl
  · obtain ⟨x, dx, a, b, m, one, other, rfl, hx, ha, hb, hz, hz2, q⟩ := h
    refine ⟨_, (pss_cons (ps_if (PW.pt (pw_or (pt_cmpR op_ne (pe_callB (r := rLenS K) call_len_seq (by rfl) T.n_len PySem.boot_len (pa_cons (pv 1) pa_nil)) (pe_callB (r := rLenS K) call_len_seq (by rfl) T.n_len PySem.boot_len (pa_cons (pv 2) pa_nil)) (nomark _)) (pw_or (pt_cmpR op_ne (pe_callB (r := rSum K) (cr_sum rfl) (by rfl) T.n_sum (by decide +kernel) (pa_cons (pv 1) pa_nil)) (pe_callB (r := rSum K) (cr_sum rfl) (by rfl) T.n_sum (by decide +kernel) (pa_cons (pv 2) pa_nil)) (nomark _)) (pw_or1 (pt_not (pt_chain op_le op_le pe_int (pe_fld (pv 0) rfl) (pe_callB (r := rLenS K) call_len_seq (by rfl) T.n_len PySem.boot_len (pa_cons (pv 1) pa_nil))))))))
        (pss_cons (ps_ret pe_bl)
          pss_nil)
        pss_nil)
      (pss_cons (ps_ret (pe_cmpR op_lt (pe_callB (r := rSum K) (cr_sum rfl) (by rfl) T.n_sum (by decide +kernel) (pa_cons (pe_slice (r := rSlL K) sl_list (pe_callB (r := rSortedI K) cr_sortedI (by rfl) T.n_sorted (by decide +kernel) (pa_cons (pv 1) pa_nil)) (po_some (pe_un un_neg (pe_fld (pv 0) rfl))) po_none) pa_nil)) (pe_callB (r := rSum K) (cr_sum rfl) (by rfl) T.n_sum (by decide +kernel) (pa_cons (pe_slice (r := rSlL K) sl_list (pe_callB (r := rSortedI K) cr_sortedI (by rfl) T.n_sorted (by decide +kernel) (pa_cons (pv 2) pa_nil)) (po_some (pe_un un_neg (pe_fld (pv 0) rfl))) po_none) pa_nil)) (nomark _)))
      pss_nil)), ?_⟩
    have fld : ∀ {s : L2.St} {H' : Hp}, s[0]? = some (some (.ref x)) → Ex H H' → Ev (tFld K (tVar 0) "many") s H' (.int m) := fun h e => ev_fld (ev_var h) (e _ _ hx) L.fM.cl L.nM rfl
    refine Sv.go (w_when (b := !(decide (one.length = other.length) && (decide (one.sum = other.sum) && (decide (1 ≤ m) && decide (m ≤ (one.length : Int)))))) (et_is (et_or (et_test (ev_op (ev_lenI rfl ha) (ev_lenI rfl hb) (rv_ne rfl))) fun _ => et_or (et_test (ev_op (ev_sum (ev_var' rfl ha)) (ev_sum (ev_var' rfl hb)) (rv_ne rfl))) fun _ => et_not (et_test (ev_chain ev_c (fld rfl (Ex.refl _)) rv_I0 fun _ => ⟨ev_lenI rfl ha, rv_I0⟩))) ?_) (fun hb0 => w_ret ev_c fun H1 e1 => ?_) fun hb0 => ?_)
    · rw [nat_ne, int_ne]
      cases decide (one.length = other.length) <;> cases decide (one.sum = other.sum) <;> rfl
    · have e : showsT one other m = false := by
        unfold showsT
        generalize decide (tops one m < tops other m) = z
        revert hb0
        cases decide (one.length = other.length) <;> cases decide (one.sum = other.sum) <;> cases decide (1 ≤ m) <;> cases decide (m ≤ (one.length : Int)) <;> simp
      rw [e] at q
      exact q H1 e1
    · obtain ⟨h1, h2, h3, h4⟩ : one.length = other.length ∧ one.sum = other.sum ∧ 1 ≤ m ∧ m ≤ (one.length : Int) := by simpa using hb0
      have e : showsT one other m = decide (tops one m < tops other m) := by
        unfold showsT
        rw [decide_eq_true h1, decide_eq_true h2, decide_eq_true h3, decide_eq_true h4]
        rfl
      rw [e] at q
      have sl : ∀ {s : L2.St} {i : Nat} {p : Addr} {ns : List Int}, s[0]? = some (some (.ref x)) → s[i]? = some (some (.ref p)) → H p = some (.lst (ns.map V.int)) → m ≤ (ns.length : Int) → Ev (tCB (rSum K) (tCons (tSl (rSlL K) (tCB (rSortedI K) (tCons (tVar i) tNil)) (tPart (tUn (rU fun i => .int (-i)) (tFld K (tVar 0) "many"))) tNoPart) tNil)) s H (.int (tops ns m)) := fun h0 hi hp hm => by
        have h := el_sliceL (K := K) (EvL.p (el_sorted (K := K) (ev_var' hi hp))) (eo_some (ev_un (fld h0 (Ex.refl _)) ru_neg)) eo_none
        rw [cut_tops h3 hm] at h
        exact ev_sum (EvL.p h)
      exact w_ret (ev_op (sl rfl rfl ha h4) (sl rfl rfl hb (by omega)) rv_I0) fun H2 e2 => q H2 e2
def spWShows (W : Addr) : Sp := fun vs H Q _ => ∃ (x dx a b : Addr) (m n : Int) (one other : List Int), vs = [.ref x, .ref a, .ref b] ∧ H x = some (.ins W dx [("one", .int m), ("other", .int n)]) ∧ H a = some (.lst (one.map V.int)) ∧ H b = some (.lst (other.map V.int)) ∧ RetV (.bl (showsW one other m n)) H Q
theorem meth_Wholes_shows (R : RawM K W "shows" "Wholes.shows" s_Wholes_shows ["self", "one", "other"]) (T : Txt K mg) (L : Kl K mg A G M W) : C8.Met P w K mg base 1 W "shows" (spWShows W) [] := by
  refine R.ok fun f fd F => F.ok sc_Wholes_shows (fun vs H Q E h => ?_) (fun cdv A outer s H vs Q E hr h => ?_)
  · obtain ⟨x, dx, a, b, m, n, one, other, rfl, _⟩ := h
    rfl
  · obtain ⟨x, dx, a, b, m, n, one, other, rfl, hx, ha, hb, q⟩ := h
    refine ⟨_, (pss_cons (ps_if (PW.pt (pw_or (pt_cmpR op_ne (pe_callB (r := rLenS K) call_len_seq (by rfl) T.n_len PySem.boot_len (pa_cons (pv 1) pa_nil)) (pe_callB (r := rLenS K) call_len_seq (by rfl) T.n_len PySem.boot_len (pa_cons (pv 2) pa_nil)) (nomark _)) (pw_or1 (pt_cmpR op_eq (pe_fld (pv 0) rfl) (pe_fld (pv 0) rfl) (nomark _)))))
        (pss_cons (ps_ret pe_bl)
          pss_nil)
        pss_nil)
      (pss_cons (ps_ret (pe_and (pe_cmpR op_eq (pe_fld (pv 0) rfl) (pe_callB (r := rSum K) (cr_sum rfl) (by rfl) T.n_sum (by decide +kernel) (pa_cons (pv 1) pa_nil)) (nomark _)) (pe_one (pe_cmpR op_eq (pe_fld (pv 0) rfl) (pe_callB (r := rSum K) (cr_sum rfl) (by rfl) T.n_sum (by decide +kernel) (pa_cons (pv 2) pa_nil)) (nomark _)))))
      pss_nil)), ?_⟩
    have f1 : ∀ {s : L2.St} {H' : Hp}, s[0]? = some (some (.ref x)) → Ex H H' → Ev (tFld K (tVar 0) "one") s H' (.int m) := fun h e => ev_fld (ev_var h) (e _ _ hx) L.fW.cl L.nW1 rfl
    have f2 : ∀ {s : L2.St} {H' : Hp}, s[0]? = some (some (.ref x)) → Ex H H' → Ev (tFld K (tVar 0) "other") s H' (.int n) := fun h e => ev_fld (ev_var h) (e _ _ hx) L.fW.cl L.nW2 rfl
    refine Sv.go (w_when (b := !(decide (one.length = other.length) && !decide (m = n))) (et_is (et_or (et_test (ev_op (ev_lenI rfl ha) (ev_lenI rfl hb) (rv_ne rfl))) fun _ => et_test (ev_op (f1 rfl (Ex.refl _)) (f2 rfl (Ex.refl _)) (rv_eq rfl))) ?_) (fun hb0 => w_ret ev_c fun H1 e1 => ?_) fun hb0 => ?_)
    · rw [nat_ne, int_eq]
      cases decide (one.length = other.length) <;> cases decide (m = n) <;> rfl
    · have e : showsW one other m n = false := by
        unfold showsW
        revert hb0
        cases decide (one.length = other.length) <;> cases decide (m = n) <;> simp
      rw [e] at q
      exact q H1 e1
    · have e : showsW one other m n = (decide (m = one.sum) && decide (n = other.sum)) := by
        unfold showsW
        revert hb0
        cases decide (one.length = other.length) <;> cases decide (m = n) <;> simp
      rw [e] at q
      exact w_ret (ev_is (ev_andV (ev_op (f1 rfl (Ex.refl _)) (ev_sum (ev_var' rfl ha)) (rv_eq rfl)) fun _ => ev_op (f2 rfl (Ex.refl _)) (ev_sum (ev_var' rfl hb)) (rv_eq rfl)) (by rw [int_eq, int_eq])) fun H2 e2 => q H2 e2
end
end Ev

set_option Elab.async false
set_option linter.all false
set_option maxRecDepth 100000
set_option maxHeartbeats 4000000
namespace Ev
open PySem PySem.Spec L2 Evl Wk LamX Sk
/-! ### rising_sums, above, done -/
section
variable {P : Program} {w : World} {K : PySem.W.Frag} {mg : Str → Option Value} {base : Heap}
def spRising : Sp := fun vs H Q _ => ∃ (a : Addr) (ns : List Int), vs = [.ref a] ∧ H a = some (.lst (ns.map V.int)) ∧ RowOk ns ∧ ns.length ≤ 10000 ∧ RetL ((runs 0 (srt ns)).map V.int) H Q
theorem def_rising_sums (R : Raw K mg "rising_sums" s_rising_sums ["row"]) (T : Txt K mg) (d_check_row : Def P w K mg base CX0 3 "check_row" ["row"] spCheckRow) (d_running : Def P w K mg base CX0 1 "running" ["shares"] spRunning) : Def P w K mg base CX0 4 "rising_sums" ["row"] spRising := by
  refine R.ok fun f fd F => F.ok sc_rising_sums (fun vs H Q E h => ?_) (fun cdv A outer s H vs Q E hr h => ?_)
  · obtain ⟨a, ns, rfl, _⟩ := h
    rfl
  · obtain ⟨a, ns, rfl, ha, hR, hz, q⟩ := h
    refine ⟨_, (pss_cons (ps_expr (pe_def d_check_row hr (by decide) (by rfl) pass0 (pa_cons (pv 0) pa_nil)))
      (pss_cons (ps_ret (pe_def d_running hr (by decide) (by rfl) pass0 (pa_cons (pe_callB (r := rSortedI K) cr_sortedI (by rfl) T.n_sorted (by decide +kernel) (pa_cons (pv 0) pa_nil)) pa_nil)))
      pss_nil)), ?_⟩
    exact Sv.go (w_drop (ev_call (dvs := []) (z := .non) (ea_cons (ev_var rfl) ea_nil) fun H1 e1 Q q E => ⟨a, ns, rfl, e1 _ _ ha, hR, q⟩) (w_retL (el_callP (ap_one (EvL.p (el_sorted (ev_var' rfl ha)))) fun vs H1 e1 ⟨v, ev, p, pv, hp⟩ Q q => ⟨p, srt ns, by rw [ev, pv], hp, by rw [srt_len]; exact hz, q⟩) q))
def spAbove : Sp := fun vs H Q _ => ∃ (a : Addr) (ns : List Int) (m : Int), vs = [.ref a, .int m] ∧ H a = some (.lst (ns.map V.int)) ∧ RowOk ns ∧ ns.length ≤ 10000 ∧ RetV (.int (overF ns m)) H Q
theorem def_above (R : Raw K mg "above" s_above ["row", "mark"]) (T : Txt K mg) (d_check_row : Def P w K mg base CX0 3 "check_row" ["row"] spCheckRow) (d_is_whole : Def P w K mg base CX0 1 "is_whole" ["thing"] (spWhole K)) (d_over : Def P w K mg base CX0 1 "over" ["row", "mark"] spOver) : Def P w K mg base CX0 4 "above" ["row", "mark"] spAbove := by
  refine R.ok fun f fd F => F.ok sc_above (fun vs H Q E h => ?_) (fun cdv A outer s H vs Q E hr h => ?_)
  · obtain ⟨a, ns, m, rfl, _⟩ := h
    rfl
  · obtain ⟨a, ns, m, rfl, ha, hR, hz, q⟩ := h
    refine ⟨_, (pss_cons (ps_expr (pe_def d_check_row hr (by decide) (by rfl) pass0 (pa_cons (pv 0) pa_nil)))
      (pss_cons (ps_if (pt_not (pt_val (pe_def d_is_whole hr (by decide) (by rfl) pass0 (pa_cons (pv 1) pa_nil))))
        (pss_cons ps_never
          pss_nil)
        pss_nil)
      (pss_cons (ps_ret (pe_def d_over hr (by decide) (by rfl) pass0 (pa_cons (pv 0) (pa_cons (pv 1) pa_nil))))
      pss_nil))), ?_⟩
    exact Sv.go (w_drop (ev_call (dvs := []) (z := .non) (ea_cons (ev_var rfl) ea_nil) fun H1 e1 Q q E => ⟨a, ns, rfl, e1 _ _ ha, hR, q⟩) (w_skip (et_is (et_not (et_B (b := true) (ev_call (dvs := []) (z := .bl true) (ea_cons (ev_var rfl) ea_nil) fun H1 e1 Q q E => ⟨.int m, "int", rfl, .base (.int m), by simp [tyns], q⟩))) rfl)
      (w_ret (v := .int (overF ns m)) (ev_call (dvs := []) (ea_cons (ev_var rfl) (ea_cons (ev_var rfl) ea_nil)) fun H1 e1 Q q E => ⟨a, ns, m, rfl, e1 _ _ ha, hz, q⟩) q)))
def spDone : Sp := fun vs H Q _ => ∃ (a l : Addr) (ns : List Int) (gs : List T3), vs = [.ref a, .ref l] ∧ H a = some (.lst (ns.map V.int)) ∧ RowOk ns ∧ GsAt gs l H ∧ gs.length ≤ 10000 ∧ (∀ g ∈ gs, gOk ns.length g = true) ∧ (∀ i, ∀ x ∈ runT ns (gs.take i), isSh x = true) ∧ RetL ((runT ns gs).map V.int) H Q
theorem def_done (R : Raw K mg "done" s_done ["row", "gifts"]) (T : Txt K mg) (d_check_row : Def P w K mg base CX0 3 "check_row" ["row"] spCheckRow) (d_is_share : Def P w K mg base CX0 2 "is_share" ["thing"] (spShare K)) (d_is_gift : Def P w K mg base CX0 2 "is_gift" ["gift", "many"] (spGift K)) : Def P w K mg base CX0 4 "done" ["row", "gifts"] spDone := by
  refine R.ok fun f fd F => F.ok sc_done (fun vs H Q E h => ?_) (fun cdv A outer s H vs Q E hr h => ?_)
  · obtain ⟨a, l, ns, gs, rfl, _⟩ := h
    rfl
  · obtain ⟨a, l, ns, gs, rfl, ha, hR, ⟨us, hl, hts⟩, hz, hg, hb, q⟩ := h
    refine ⟨_, (pss_cons (ps_expr (pe_def d_check_row hr (by decide) (by rfl) pass0 (pa_cons (pv 0) pa_nil)))
      (pss_cons (ps_if (PW.pt (pw_or (pt_not (pt_val (pe_callB (r := rIsi K) call_isi (by rfl) T.n_isinstance (by decide +kernel) (pa_cons (pv 1) (pa_cons (pe_bltn (v := .ty "list") (u := .type "list") (by rfl) T.n_list (by decide +kernel) rfl) pa_nil))))) (pw_or1 (pt_not (pt_val (pe_callB (r := rAll K) (cr_all rfl) (by rfl) T.n_all (by decide +kernel) (pa_cons (pe_lc (own := [("gift", 6)]) (g := gName 6) rfl sc_done.nd (pi_list (pv 1)) (blkOk_by (own := [("gift", 6)]) (N := ["row", "gifts", "found", "giver", "taker", "amount", "gift"]) (sc := defScope s_done) (by decide +kernel)) (fun _ _ _ _ _ => pg_name (i := 6) sc_done.nd rfl (Or.inl rfl)) (fun _ _ _ _ _ => pts_nil) (fun _ _ _ _ _ => (pe_def d_is_gift hr (by decide) (by rfl) pass0 (pa_cons (pv 6) (pa_cons (pe_callB (r := rLenS K) call_len_seq (by rfl) T.n_len PySem.boot_len (pa_cons (pv 0) pa_nil)) pa_nil))))) pa_nil)))))))
        (pss_cons ps_never
          pss_nil)
        pss_nil)
      (pss_cons (ps_set (i := 2) sc_done.nd rfl (Or.inl rfl) (pe_callTy (r := rListS K) call_list_of (by rfl) T.n_list (by decide +kernel) (pa_cons (pv 0) pa_nil)))
      (pss_cons (ps_for PassesOwn.never rfl (pi_list (pv 1)) (pg_tup rfl (pgs_cons (pg_name (i := 3) sc_done.nd rfl (Or.inl rfl)) (pgs_cons (pg_name (i := 4) sc_done.nd rfl (Or.inl rfl)) (pgs_cons (pg_name (i := 5) sc_done.nd rfl (Or.inl rfl)) pgs_nil))))
        (pss_cons (ps_augS (pv 2) (pv 3) Wk.pget_list (pv 5) ip_sub set_list)
          (pss_cons (ps_augS (pv 2) (pv 4) Wk.pget_list (pv 5) ip_add set_list)
          (pss_cons (ps_if (PW.pt (pw_or (pt_not (pt_val (pe_def d_is_share hr (by decide) (by rfl) pass0 (pa_cons (pe_ix (r := rIxL K) ix_list (pv 2) (pv 3) (fun _ _ => rfl)) pa_nil)))) (pw_or1 (pt_not (pt_val (pe_def d_is_share hr (by decide) (by rfl) pass0 (pa_cons (pe_ix (r := rIxL K) ix_list (pv 2) (pv 4) (fun _ _ => rfl)) pa_nil)))))))
            (pss_cons ps_never
              pss_nil)
            pss_nil)
          pss_nil))))
      (pss_cons (ps_ret (pv 2))
      pss_nil))))), ?_⟩
    have hul : us.length = gs.length := by rw [hts.1, List.length_map]
    have get : ∀ {i : Nat} {v : V}, us[i]? = some v → ∃ g r, gs[i]? = some g ∧ v = .ref r ∧ H r = some (.tup (tupV g)) := fun {i v} hi => by
      obtain ⟨t, r, ht, ev, hr0⟩ := hts.at hi
      rw [List.getElem?_map] at ht
      obtain ⟨g, hg, rfl⟩ := Option.map_eq_some_iff.mp ht
      exact ⟨g, r, hg, ev, hr0⟩
    refine Sv.go (w_drop (ev_call (dvs := []) (z := .non) (ea_cons (ev_var rfl) ea_nil) fun H1 e1 Q q E => ⟨a, ns, rfl, e1 _ _ ha, hR, q⟩) (w_skip (et_is (et_or (et_not (et_B (ev_isi (b := true) (ev_var rfl) ev_c (.ty _) (.base (.lst hl)) (kit_ty (by decide +kernel))))) fun _ => et_not (et_B (ev_all (bs := us.map fun _ => true) (EvL.p ?_)))) ?_) ?_))
    · rw [← map_bl]
      refine el_map us id (fun _ => V.bl true) (ev_var rfl) (by rw [List.map_id]; exact sq_of hl) (by omega) (fun _ => rfl) fun x hx => ?_
      obtain ⟨i, hi⟩ := List.mem_iff_getElem?.mp hx
      obtain ⟨g, r, hgi, rfl, hr0⟩ := get hi
      exact ev_call (dvs := []) (z := .bl true) (ea_cons (ev_var rfl) (ea_cons (ev_lenI rfl ha) ea_nil)) fun H1 e1 Q q E => ⟨r, g, _, rfl, e1 _ _ hr0, by rw [hg g (List.mem_of_getElem? hgi)]; exact q⟩
    · rw [ints_all (fun _ _ => rfl)]
      rfl
    · refine w_asgL (el_listL (ev_var' rfl ha)) fun ps H1 nps e1 hps => ?_
      refine w_forG (ev_var rfl) (sq_of (e1 _ _ hl)) (fun i s' H' => ∃ (y3 y4 y5 : Option V), s' = [some (.ref a), some (.ref l), some (.ref ps), y3, y4, y5, none] ∧ Ex H H' ∧ H' ps = some (.lst ((runT ns (gs.take i)).map V.int)))
        (fun H2 e2 => ⟨none, none, none, rfl, e1.trans e2, e2 _ _ hps⟩) (fun i s' H' hi ⟨_, _, _, _, ex, _⟩ => sq_of (ex _ _ hl)) ?_ ?_
      · rintro i v s' H' hi ⟨y3, y4, y5, rfl, ex, hxs⟩
        obtain ⟨⟨ga, gb, gc⟩, r, hgi, rfl, hr0⟩ := get hi
        obtain ⟨g1, g2, g3, g4, g5, g6⟩ := of_decide_eq_true (hg _ (List.mem_of_getElem? hgi))
        simp only at g1 g2 g3 g4 g5 g6
        obtain ⟨na, rfl⟩ := Int.eq_ofNat_of_zero_le g1
        obtain ⟨nb, rfl⟩ := Int.eq_ofNat_of_zero_le g2
        have hxl := runT_len ns (gs.take i)
        have et : gs.take (i + 1) = gs.take i ++ [((na : Int), (nb : Int), gc)] := by rw [List.take_add_one, hgi]; rfl
        have hb2 := hb (i + 1)
        rw [et, runT_snoc] at hb2
        generalize hrx : runT ns (gs.take i) = xs at hxs hxl hb2
        have lna : na < xs.length := by omega
        have lnb : nb < xs.length := by omega
        refine g_tup3 (ex _ _ hr0) ?_
        refine (w_augS hxs (by rw [List.length_map, hxl]; have := hR.2.2; omega) (ev_var rfl) (ev_var rfl) (int_at2 lna) (ev_var rfl) fun H2 p2 => ?_).go
        have ex2 := p2.ex ex nps
        have e2 : (xs.map V.int).set na (.int (xs.getD na 0 - gc)) = (step1 xs ((na : Int), (nb : Int), gc)).map V.int := by
          show _ = (xs.set (na : Int).toNat _).map V.int
          rw [List.map_set]
          rfl
        have p2n := p2.new
        rw [e2] at p2n
        have l1 : (step1 xs ((na : Int), (nb : Int), gc)).length = xs.length := by simp [step1]
        refine w_augS p2n (by rw [List.length_map, l1, hxl]; have := hR.2.2; omega) (ev_var rfl) (ev_var rfl) (int_at2 (by omega)) (ev_var rfl) fun H3 p3 => ?_
        have ex3 := p3.ex ex2 nps
        have e3 : ((step1 xs ((na : Int), (nb : Int), gc)).map V.int).set nb (.int ((step1 xs ((na : Int), (nb : Int), gc)).getD nb 0 + gc)) = (stepL xs ((na : Int), (nb : Int), gc)).map V.int := by
          show _ = ((step1 xs ((na : Int), (nb : Int), gc)).set (nb : Int).toNat _).map V.int
          rw [List.map_set]
          rfl
        have p3n := p3.new
        rw [e3] at p3n
        have l2 := stepL_len xs ((na : Int), (nb : Int), gc)
        have shr : ∀ {j : Nat} {s : L2.St} {k : Nat}, s[2]? = some (some (.ref ps)) → s[k]? = some (some (.int (j : Int))) → j < xs.length → EvT (tNot (tB (tCall (spShare K) [] E0 (tCons (tOp (rIxL K) (tVar 2) (tVar k)) tNil)))) s H3 false := fun {j s k} h2 hk hj =>
          et_is (et_not (et_B (b := true) (ev_call (dvs := []) (z := .bl true) (ea_cons (ev_ixL (v := .int ((stepL xs ((na : Int), (nb : Int), gc)).getD j 0)) (ev_var' h2 p3n) (ev_var hk) (atI_nat (int_at2 (by omega)))) ea_nil) fun H1 e1 Q q E => ⟨_, "int", rfl, .base (.int _), by simp [tyns], fun _ => ⟨_, rfl⟩, by
            have hs := hb2 ((stepL xs ((na : Int), (nb : Int), gc)).getD j 0) (by rw [List.getD_eq_getElem?_getD, List.getElem?_eq_getElem (by omega)]; exact List.getElem_mem (by omega))
            show RetV (.bl (true && isSh _)) _ _
            rw [hs]
            exact q⟩))) rfl
        refine w_skip (et_is (et_or (shr rfl rfl lna) fun _ => shr rfl rfl lnb) rfl) (w_nx fun H4 e4 => ⟨_, _, _, rfl, ex3.trans e4, ?_⟩)
        rw [et, runT_snoc, hrx]
        exact e4 _ _ p3n
      · rintro s' H' ⟨y3, y4, y5, rfl, ex, hxs⟩
        rw [hul, List.take_length] at hxs
        exact w_ret (ev_var rfl) fun H2 e2 => q ps H2 nps (ex.trans e2) (e2 _ _ hxs)
end
end Ev

set_option Elab.async false
set_option linter.all false
set_option maxRecDepth 100000
set_option maxHeartbeats 4000000
namespace Ev
open PySem PySem.Spec L2 Evl Wk
/-! ### what every law draws: cells, numbers, a row -/
def primes : List Int := [1000003, 1000033, 1000037, 1000039, 1000081, 1000099, 1000117, 1000121, 1000133, 1000151, 1000159, 1000171, 1000183, 1000187, 1000193, 1000199]
theorem at_ints {ns : List Int} {i : Int} (h0 : 0 ≤ i) (h1 : i < ns.length) : ∃ n, n ∈ ns ∧ atI (ns.map V.int) i = some (.int n) := by
  have hi : i.toNat < ns.length := by omega
  refine ⟨ns[i.toNat], List.getElem_mem hi, ?_⟩
  have h := atI_nat (xs := ns.map V.int) (j := i.toNat) (v := .int ns[i.toNat]) (by rw [List.getElem?_map, List.getElem?_eq_getElem hi]; rfl)
  rw [Int.toNat_of_nonneg h0] at h
  exact h
section
variable {P : Program} {w : World} {K : PySem.W.Frag} {mg : Str → Option Value} {base : Heap}
def spCell (K : PySem.W.Frag) : Sp := fun vs H Q _ => ∃ (a : Addr) (ns : List Int) (k : Int), vs = [.ref a, .int k] ∧ SqL K H a (ns.map V.int) ∧ 0 ≤ k ∧ ∀ i, RetV (.int i) H Q
theorem def_law_cell_at (R : Raw K mg "_law_cell_at" s_law_cell_at ["_law_script", "_law_k"]) (T : Txt K mg) : Def P w K mg base CX0 1 "_law_cell_at" ["_law_script", "_law_k"] (spCell K) := by
  refine R.ok fun f fd F => F.ok sc_law_cell_at (fun vs H Q E h => ?_) (fun cdv A outer s H vs Q E hr h => ?_)
  · obtain ⟨a, ns, k, rfl, _⟩ := h
    rfl
  · obtain ⟨a, ns, k, rfl, ha, h0, q⟩ := h
    refine ⟨_, (pss_cons (ps_if (pt_cmpR op_lt (pv 1) (pe_callB (r := rLenS K) call_len_seq (by rfl) T.n_len PySem.boot_len (pa_cons (pv 0) pa_nil)) (nomark _))
        (pss_cons (ps_ret (pe_ix (r := rIxL K) ix_list (pv 0) (pv 1) (fun _ _ => rfl)))
          pss_nil)
        pss_nil)
      (pss_cons (ps_ret pe_int)
      pss_nil)), ?_⟩
    refine Sv.go (w_when (et_test (ev_op (ev_var rfl) (ev_len (ev_var rfl) ha) rv_I0)) (fun hb => ?_) fun hb => w_ret ev_c fun H1 e1 => q 0 H1 e1)
    have hk := of_decide_eq_true hb
    rw [List.length_map] at hk
    obtain ⟨n, _, hn⟩ := at_ints h0 hk
    exact w_ret (ev_op (ev_var rfl) (ev_var rfl) (rv_ixL ha hn)) fun H1 e1 => q n H1 e1
def spDraw : Sp := fun vs H Q _ => ∃ c k m : Int, vs = [.int c, .int k, .int m] ∧ 0 < m ∧ ∀ d, 0 ≤ d → d < m → RetV (.int d) H Q
theorem def_law_draw (R : Raw K mg "_law_draw" s_law_draw ["_law_cell", "_law_k", "_law_many"]) (T : Txt K mg) : Def P w K mg base CX0 1 "_law_draw" ["_law_cell", "_law_k", "_law_many"] spDraw := by
  refine R.ok fun f fd F => F.ok sc_law_draw (fun vs H Q E h => ?_) (fun cdv A outer s H vs Q E hr h => ?_)
  · obtain ⟨c, k, m, rfl, _⟩ := h
    rfl
  · obtain ⟨c, k, m, rfl, h0, q⟩ := h
    refine ⟨_, (pss_cons (ps_set (i := 3) sc_law_draw.nd rfl (Or.inl rfl) (pe_tup (pa_cons pe_int (pa_cons pe_int (pa_cons pe_int (pa_cons pe_int (pa_cons pe_int (pa_cons pe_int (pa_cons pe_int (pa_cons pe_int (pa_cons pe_int (pa_cons pe_int (pa_cons pe_int (pa_cons pe_int (pa_cons pe_int (pa_cons pe_int (pa_cons pe_int (pa_cons pe_int pa_nil))))))))))))))))))
      (pss_cons (ps_ret (pe_op op_mod (pe_op op_mod (pe_op op_add (pe_op op_mul (pv 0) pe_int) (pe_op op_mul (pv 1) pe_int)) (pe_ix (r := rIxT K) ix_tup (pv 3) (pe_op op_mod (pv 1) pe_int) (fun _ _ => rfl))) (pv 2)))
      pss_nil)), ?_⟩
    have hp : ∃ n, n ∈ primes ∧ atI (primes.map V.int) (k % 16) = some (.int n) := at_ints (by omega) (by show k % 16 < 16; omega)
    obtain ⟨n, hn, hat⟩ := hp
    have hpos : 0 < n := by
      have h : ∀ x ∈ primes, 0 < x := by decide
      exact h n hn
    refine Sv.go (w_asgU (xs := primes.map V.int) (eu_tup (vs := primes.map V.int) (ea_cons ev_c (ea_cons ev_c (ea_cons ev_c (ea_cons ev_c (ea_cons ev_c (ea_cons ev_c (ea_cons ev_c (ea_cons ev_c (ea_cons ev_c (ea_cons ev_c (ea_cons ev_c (ea_cons ev_c (ea_cons ev_c (ea_cons ev_c (ea_cons ev_c (ea_cons ev_c ea_nil)))))))))))))))) (by decide)) fun p H1 np e1 hp => ?_)
    exact w_ret (ev_op (ev_op (ev_op (ev_op (ev_var rfl) ev_c (rv_I (.inr (by omega)))) (ev_op (ev_var rfl) ev_c (rv_I (.inr (by omega)))) rv_I0) (ev_ixU (ev_varU rfl hp) (ev_op (ev_var rfl) ev_c (rv_I (by omega))) hat) (rv_I hpos)) (ev_var rfl) (rv_I h0))
      fun H2 e2 => q _ (Int.emod_nonneg _ (by omega)) (Int.emod_lt_of_pos _ h0) H2 (e1.trans e2)
/-- a call of _law_draw -/
theorem evp_draw {s : L2.St} {H : Hp} {ta tb tc : TE} {p : Int → Prop} {m : Int} (ha : EvP ta s H (IsI p)) (hb : EvP tb s H (IsI fun _ => True)) (hc : Ev tc s H (.int m)) (hm : 0 < m) : EvP (tCall spDraw [] E0 (tCons ta (tCons tb (tCons tc tNil)))) s H (IsI fun d => 0 ≤ d ∧ d < m) :=
  evp_callP (ap_three ha hb hc.p) fun vs H1 e1 ⟨v, w, x, ev, ⟨c, ec, _⟩, ⟨k, ek, _⟩, ex⟩ Q q => ⟨c, k, m, by rw [ev, ec, ek, ex], hm, fun d h0 h1 H2 e2 => q _ H2 e2 ⟨d, rfl, h0, h1⟩⟩
/-- a call of _law_cell_at -/
theorem evp_cell {s : L2.St} {H : Hp} {ta tb : TE} {a : Addr} {ns : List Int} {k : Int} (ha : Ev ta s H (.ref a)) (hs : SqL K H a (ns.map V.int)) (hb : Ev tb s H (.int k)) (h0 : 0 ≤ k) : EvP (tCall (spCell K) [] E0 (tCons ta (tCons tb tNil))) s H (IsI fun _ => True) :=
  evp_callP (ap_two ha.p hb.p) fun vs H1 e1 ⟨v, w, ev, ea, ew⟩ Q q => ⟨a, ns, k, by rw [ev, ea, ew], ex_l e1 hs, h0, fun i H2 e2 => q _ H2 e2 ⟨i, rfl, trivial⟩⟩
theorem evt_of {s : L2.St} {H : Hp} {te : TE} {b : Bool} (h : Ev te s H (.bl b)) : EvT (tTest te) s H b := et_test h
/-- a == b of ints of which little is known, as a test -/
theorem et2_eq {s : L2.St} {H : Hp} {ta tb : TE} {p q : Int → Prop} (ha : EvP ta s H (IsI p)) (hb : EvP tb s H (IsI q)) : ∀ H1, Ex H H1 → ∀ Q : Bool → Hp → Prop, (∀ b H2, Ex H1 H2 → Q b H2) → tTest (tOp rEq ta tb) s H1 Q := fun H1 e Q k =>
  ha H1 e _ fun a H2 e2 ⟨i, ea, _⟩ => hb H2 (e.trans e2) _ fun b H3 e3 ⟨j, eb, _⟩ => by
    subst ea eb
    exact ⟨rfl, _, rfl, k _ H3 (e2.trans e3)⟩
def Within (B : Int) (l : List Int) : Prop := ∀ x ∈ l, -B ≤ x ∧ x ≤ B
def spRow (K : PySem.W.Frag) : Sp := fun vs H Q _ => ∃ (a : Addr) (ns : List Int), vs = [.ref a] ∧ SqL K H a (ns.map V.int) ∧ ns.length ≤ 63 ∧ ∀ rs : List Int, rs.length = ns.length + 1 → Within 900000 rs → RetL (rs.map V.int) H Q
theorem def_law_row (R : Raw K mg "_law_row" s_law_row ["_law_script"]) (T : Txt K mg) (d_law_cell_at : Def P w K mg base CX0 1 "_law_cell_at" ["_law_script", "_law_k"] (spCell K)) (d_law_draw : Def P w K mg base CX0 1 "_law_draw" ["_law_cell", "_law_k", "_law_many"] spDraw) :
    Def P w K mg base CX0 2 "_law_row" ["_law_script"] (spRow K) := by
  refine R.ok fun f fd F => F.ok sc_law_row (fun vs H Q E h => ?_) (fun cdv A outer s H vs Q E hr h => ?_)
  · obtain ⟨a, ns, rfl, _⟩ := h
    rfl
  · obtain ⟨a, ns, rfl, ha, hz, q⟩ := h
    refine ⟨_, (pss_cons (ps_set (i := 1) sc_law_row.nd rfl (Or.inl rfl) (pe_ix (r := rIxT K) ix_tup (pe_tup (pa_cons pe_int (pa_cons pe_int (pa_cons pe_int (pa_cons pe_int pa_nil))))) (pe_def d_law_draw hr (by decide) (by rfl) pass0 (pa_cons (pe_def d_law_cell_at hr (by decide) (by rfl) pass0 (pa_cons (pv 0) (pa_cons pe_int pa_nil))) (pa_cons pe_int (pa_cons pe_int pa_nil)))) (fun _ _ => rfl)))
      (pss_cons (ps_set (i := 2) sc_law_row.nd rfl (Or.inl rfl) (pe_lst (pa_cons (pe_op op_sub (pe_def d_law_draw hr (by decide) (by rfl) pass0 (pa_cons (pe_def d_law_cell_at hr (by decide) (by rfl) pass0 (pa_cons (pv 0) (pa_cons pe_int pa_nil))) (pa_cons pe_int (pa_cons pe_int pa_nil)))) pe_int) pa_nil)))
      (pss_cons (ps_for PassesOwn.never rfl (pi_range1 (by rfl) T.n_range (pa_cons (pe_callB (r := rLenS K) call_len_seq (by rfl) T.n_len PySem.boot_len (pa_cons (pv 0) pa_nil)) pa_nil)) (pg_name (i := 3) sc_law_row.nd rfl (Or.inl rfl))
        (pss_cons (ps_set (i := 4) sc_law_row.nd rfl (Or.inl rfl) (pe_def d_law_draw hr (by decide) (by rfl) pass0 (pa_cons (pe_ix (r := rIxL K) ix_list (pv 0) (pv 3) (fun _ _ => rfl)) (pa_cons (pe_op op_add (pe_op op_mod (pv 3) pe_int) pe_int) (pa_cons (pe_op op_add (pv 1) pe_int) pa_nil)))))
          (pss_cons (ps_expr (pe_bm PySem.F.plainAttrs_list PySem.F.slot_list_append PySem.F.type_list_append mt_append (pv 2) (pa_cons (pe_ifExp (pt_cmpR op_eq (pe_def d_law_draw hr (by decide) (by rfl) pass0 (pa_cons (pe_ix (r := rIxL K) ix_list (pv 0) (pv 3) (fun _ _ => rfl)) (pa_cons (pe_op op_add (pe_op op_mod (pv 3) pe_int) pe_int) (pa_cons pe_int pa_nil)))) pe_int (nomark _)) (pv 4) (pe_un un_neg (pv 4))) pa_nil)))
          pss_nil)))
      (pss_cons (ps_ret (pv 2))
      pss_nil)))), ?_⟩
    refine Sv.go (w_asgP (P := IsI fun m => 0 < m ∧ m ≤ 900000) (evp_op (evU_p (eu_tup (vs := ([2, 9, 400, 900000] : List Int).map V.int) (ea_cons ev_c (ea_cons ev_c (ea_cons ev_c (ea_cons ev_c ea_nil)))) (by decide))) (evp_draw (evp_cell (ev_var rfl) ha ev_c (by omega)) (ev_i ev_c trivial) ev_c (by omega)) ?_) ?_)
    · intro x y H1 e1 ⟨p, ex, hp⟩ ⟨d, ey, h0, h1⟩ H2 e2 Q k
      obtain ⟨n, hn, hat⟩ := at_ints (ns := [2, 9, 400, 900000]) h0 (by simpa using h1)
      refine ⟨p, _, d, .int n, ex, ey, st_of (e2 _ _ hp), hat, k _ H2 (Ex.refl H2) ⟨n, rfl, ?_⟩⟩
      have hall : ∀ x ∈ ([2, 9, 400, 900000] : List Int), 0 < x ∧ x ≤ 900000 := by decide
      exact hall n hn
    · rintro v H1 e1 ⟨m, rfl, hm0, hm1⟩
      have hL : EvP (tLst (tCons (tOp (rI0 fun i j => .int (i - j)) (tCall spDraw [] E0 (tCons (tCall (spCell K) [] E0 (tCons (tVar 0) (tCons (tC (.int 1)) tNil))) (tCons (tC (.int 7)) (tCons (tC (.int 5)) tNil)))) (tC (.int 2))) tNil)) [some (.ref a), some (.int m), none, none, none] H1 (fun x H2 => ∃ p rs, x = .ref p ∧ H1 p = none ∧ H2 p = some (.lst (rs.map V.int)) ∧ rs.length = 1 ∧ Within 900000 rs) := by
        intro H2 e2 Q k
        refine evp_int (w := fun i => -2 ≤ i ∧ i ≤ 2) (evp_draw (evp_cell (ev_var rfl) (ex_l e1 ha) ev_c (by omega)) (ev_i ev_c trivial) ev_c (by omega)) (ev_i (p := fun i => i = 2) ev_c rfl) (fun i j h1 h2 => ⟨by omega, by omega⟩) H2 e2 _ fun x H3 e3 ⟨i, ex, h1, h2⟩ => ?_
        refine ⟨by show 1 ≤ sizeLine; decide, fun p hp => k _ _ (e3.trans (Ex.new hp)) ⟨p, [i], rfl, fresh_back (e2.trans e3) hp, ?_, rfl, fun y hy => ?_⟩⟩
        · subst ex
          exact upd_same
        · have : y = i := by simpa using hy
          subst this
          exact ⟨by omega, by omega⟩
      refine w_asgP hL fun x H2 e2 ⟨p, rs0, ex, np, hp, hl0, hw0⟩ => ?_
      subst ex
      have ha2 : SqL K H2 a (ns.map V.int) := ex_l (e1.trans e2) ha
      have np0 : H p = none := fresh_back e1 np
      refine w_forR1 (ea_cons (ev_len (ev_var rfl) ha2) ea_nil) (by rw [List.length_map]; omega) (fun i s' H' => ∃ y z rs, s' = [some (.ref a), some (.int m), some (.ref p), y, z] ∧ Ex H H' ∧ H' p = some (.lst (rs.map V.int)) ∧ rs.length = i + 1 ∧ Within 900000 rs) (fun H3 e3 => ⟨none, none, rs0, rfl, (e1.trans e2).trans e3, e3 _ _ hp, hl0, hw0⟩) ?_ ?_
      · rintro i s' H' hi ⟨y, z, rs, rfl, ex, hp', hl, hw⟩
        rw [List.length_map] at hi
        obtain ⟨n, _, hn⟩ := at_ints (ns := ns) (i := (i : Int)) (by omega) (by omega)
        have ha3 : SqL K H' a (ns.map V.int) := ex_l ex ha
        refine w_asgP (P := IsI fun d => 0 ≤ d ∧ d < m + 1) (evp_draw (p := fun _ => True) (ev_i (ev_op (ev_var rfl) (ev_var rfl) (rv_ixL ha3 hn)) trivial) (ev_i (ev_op (ev_op (ev_var rfl) ev_c (rv_I (by omega))) ev_c rv_I0) trivial) (ev_op (ev_var rfl) ev_c rv_I0) (by omega)) ?_
        rintro v H3 e3 ⟨d, rfl, d0, d1⟩
        have ha4 := ex_l e3 ha3
        refine w_appP (P := IsI fun v => -900000 ≤ v ∧ v ≤ 900000) (e3 _ _ hp') (ev_var rfl) (evp_if2 (et2_eq (evp_draw (p := fun _ => True) (ev_i (ev_op (ev_var rfl) (ev_var rfl) (rv_ixL ha4 hn)) trivial) (ev_i (ev_op (ev_op (ev_var rfl) ev_c (rv_I (by omega))) ev_c rv_I0) trivial) ev_c (by omega)) (ev_i (p := fun _ => True) ev_c trivial)) (ev_i (ev_var rfl) ⟨by omega, by omega⟩) (evp_neg (p := fun v => v = d) (ev_i (ev_var rfl) rfl) fun i hi => ⟨by omega, by omega⟩)) (by rw [List.length_map]; omega) ?_ (fun v H o h => h)
        rintro v H4 ⟨x, rfl, x0, x1⟩ pt
        refine w_nx fun H5 e5 => Exists.intro (some (.int (i : Int))) ⟨some (.int d), rs ++ [x], rfl, (pt.ex (ex.trans e3) np0).trans e5, ?_, by rw [List.length_append, hl]; rfl, fun y hy => ?_⟩
        · rw [e5 _ _ pt.new, List.map_append]
          rfl
        · rcases List.mem_append.mp hy with hy | hy
          · exact hw y hy
          · have : y = x := by simpa using hy
            subst this
            exact ⟨x0, x1⟩
      · rintro s' H' ⟨y, z, rs, rfl, ex, hp', hl, hw⟩
        rw [List.length_map] at hl
        exact w_ret (ev_var rfl) fun H2 e2 => q rs (by omega) hw p H2 np0 (ex.trans e2) (e2 _ _ hp')
end
end Ev

set_option Elab.async false
set_option linter.all false
set_option maxRecDepth 100000
set_option maxHeartbeats 4000000
namespace Ev
open PySem PySem.Spec L2 Evl Wk LamX Sk
section
variable {P : Program} {w : World} {K : PySem.W.Frag} {mg : Str → Option Value} {base : Heap} {A G M W : Addr}
def spCheckTwo : Sp := fun vs H Q _ => ∃ (a b : Addr) (one other : List Int), vs = [.ref a, .ref b] ∧ H a = some (.lst (one.map V.int)) ∧ H b = some (.lst (other.map V.int)) ∧ RowOk one ∧ RowOk other ∧ other.length = one.length ∧ RetV .non H Q
theorem def_check_two (R : Raw K mg "check_two" s_check_two ["one", "other"]) (T : Txt K mg) (d_check_row : Def P w K mg base CX0 3 "check_row" ["row"] spCheckRow) : Def P w K mg base CX0 4 "check_two" ["one", "other"] spCheckTwo := by
  refine R.ok fun f fd F => F.ok sc_check_two (fun vs H Q E h => ?_) (fun cdv A outer s H vs Q E hr h => ?_)
  · obtain ⟨a, b, one, other, rfl, _⟩ := h
    rfl
  · obtain ⟨a, b, one, other, rfl, ha, hb, h1, h2, hl, q⟩ := h
    refine ⟨_, (pss_cons (ps_expr (pe_def d_check_row hr (by decide) (by rfl) pass0 (pa_cons (pv 0) pa_nil)))
      (pss_cons (ps_expr (pe_def d_check_row hr (by decide) (by rfl) pass0 (pa_cons (pv 1) pa_nil)))
      (pss_cons (ps_if (pt_cmpR op_ne (pe_callB (r := rLenS K) call_len_seq (by rfl) T.n_len PySem.boot_len (pa_cons (pv 0) pa_nil)) (pe_callB (r := rLenS K) call_len_seq (by rfl) T.n_len PySem.boot_len (pa_cons (pv 1) pa_nil)) (nomark _))
        (pss_cons ps_never
          pss_nil)
        pss_nil)
      pss_nil))), ?_⟩
    refine Sv.go (w_drop (ev_call (dvs := []) (z := .non) (ea_cons (ev_var rfl) ea_nil) fun H1 e1 Q q E => ⟨a, one, rfl, e1 _ _ ha, h1, q⟩) (w_drop (ev_call (dvs := []) (z := .non) (ea_cons (ev_var rfl) ea_nil) fun H1 e1 Q q E => ⟨b, other, rfl, e1 _ _ hb, h2, q⟩) (w_if (b := false) (et_is (et_test (ev_op (ev_lenI rfl ha) (ev_lenI rfl hb) (rv_ne rfl))) ?_) (fun h => nomatch h) fun _ => w_nx fun H1 e1 => w_nx (fun H2 e2 => q H2 (e1.trans e2)) H1 (Ex.refl _))))
    rw [nat_ne, hl]
    simp
def spTopOf : Sp := fun vs H Q _ => ∃ (a b : Addr) (one other : List Int), vs = [.ref a, .ref b] ∧ H a = some (.lst (one.map V.int)) ∧ H b = some (.lst (other.map V.int)) ∧ one.length ≤ 10000 ∧ other.length = one.length ∧ RetV (.int (topF one other)) H Q
theorem topA_step {k : Nat} {a b : List Int} {x y : Int} (ha : a[k]? = some x) (hb : b[k]? = some y) : topA k (a.drop k) (b.drop k) = if x < y then (k : Int) + 1 else topA (k + 1) (a.drop (k + 1)) (b.drop (k + 1)) := by
  rw [drop_at ha, drop_at hb]
  rfl
theorem def_top_of (R : Raw K mg "top_of" s_top_of ["one", "other"]) (T : Txt K mg) (d_running : Def P w K mg base CX0 1 "running" ["shares"] spRunning) : Def P w K mg base CX0 2 "top_of" ["one", "other"] spTopOf := by
  refine R.ok fun f fd F => F.ok sc_top_of (fun vs H Q E h => ?_) (fun cdv A outer s H vs Q E hr h => ?_)
  · obtain ⟨a, b, one, other, rfl, _⟩ := h
    rfl
  · obtain ⟨a, b, one, other, rfl, ha, hb, hz, hl, q⟩ := h
    refine ⟨_, (pss_cons (ps_set (i := 2) sc_top_of.nd rfl (Or.inl rfl) (pe_def d_running hr (by decide) (by rfl) pass0 (pa_cons (pv 0) pa_nil)))
      (pss_cons (ps_set (i := 3) sc_top_of.nd rfl (Or.inl rfl) (pe_def d_running hr (by decide) (by rfl) pass0 (pa_cons (pv 1) pa_nil)))
      (pss_cons (ps_for PassesOwn.never rfl (pi_range1 (by rfl) T.n_range (pa_cons (pe_callB (r := rLenS K) call_len_seq (by rfl) T.n_len PySem.boot_len (pa_cons (pv 2) pa_nil)) pa_nil)) (pg_name (i := 4) sc_top_of.nd rfl (Or.inl rfl))
        (pss_cons (ps_if (pt_cmpR op_lt (pe_ix (r := rIxL K) ix_list (pv 2) (pv 4) (fun _ _ => rfl)) (pe_ix (r := rIxL K) ix_list (pv 3) (pv 4) (fun _ _ => rfl)) (nomark _))
            (pss_cons (ps_ret (pe_op op_add (pv 4) pe_int))
              pss_nil)
            pss_nil)
          pss_nil))
      (pss_cons (ps_ret pe_int)
      pss_nil)))), ?_⟩
    refine Sv.go (w_asgL (xs := (runs 0 one).map V.int) (el_callP (ap_one (ev_var' rfl ha)) fun vs H1 e1 ⟨v, ev, p, pv, hp⟩ Q q => ⟨p, one, by rw [ev, pv], hp, hz, q⟩) fun pm H1 nm e1 hpm => w_asgL (xs := (runs 0 other).map V.int) (el_callP (ap_one (ev_var' rfl (e1 _ _ hb))) fun vs H1 e1 ⟨v, ev, p, pv, hp⟩ Q q => ⟨p, other, by rw [ev, pv], hp, by omega, q⟩) fun pt H2 nt e2 hpt => ?_)
    have hpm2 := e2 _ _ hpm
    have l1 : (runs 0 one).length = one.length := runs_len _ _
    have l2 : (runs 0 other).length = one.length := by rw [runs_len, hl]
    refine w_forR1 (n := (one.length : Int)) (ea_cons (ev_is (ev_lenI rfl hpm2) (by rw [l1])) ea_nil) (by omega) (fun i s' H' => ∃ y, s' = [some (.ref a), some (.ref b), some (.ref pm), some (.ref pt), y] ∧ Ex H2 H' ∧ topF one other = topA i ((runs 0 one).drop i) ((runs 0 other).drop i)) (fun H3 e3 => ⟨none, rfl, e3, rfl⟩) ?_ ?_
    · rintro i s' H' hi ⟨y, rfl, ex, ht⟩
      have k1 : (runs 0 one)[i]? = some ((runs 0 one).getD i 0) := by
        rw [List.getD_eq_getElem?_getD, List.getElem?_eq_getElem (by omega)]; rfl
      have k2 : (runs 0 other)[i]? = some ((runs 0 other).getD i 0) := by
        rw [List.getD_eq_getElem?_getD, List.getElem?_eq_getElem (by omega)]; rfl
      rw [topA_step k1 k2] at ht
      refine w_when (et_test (ev_op (ev_ixL (ev_var' rfl (ex _ _ hpm2)) (ev_var rfl) (atI_nat (int_at2 (by omega)))) (ev_ixL (ev_var' rfl (ex _ _ hpt)) (ev_var rfl) (atI_nat (int_at2 (by omega)))) rv_I0)) (fun hb => w_ret (ev_op (ev_var rfl) ev_c rv_I0) fun H3 e3 => ?_) fun hb => w_nx fun H3 e3 => Exists.intro (some (.int (i : Int))) ⟨rfl, ex.trans e3, ?_⟩
      · rw [if_pos (of_decide_eq_true hb)] at ht
        rw [ht] at q
        exact q H3 (((e1.trans e2).trans ex).trans e3)
      · rw [if_neg (of_decide_eq_false hb)] at ht
        exact ht
    · rintro s' H' ⟨y, rfl, ex, ht⟩
      refine w_ret ev_c fun H3 e3 => ?_
      have e0 : topF one other = 0 := by
        rw [ht, Int.toNat_natCast, List.drop_of_length_le (by omega)]
        rfl
      rw [e0] at q
      exact q H3 (((e1.trans e2).trans ex).trans e3)
def spCompared (tb G M W : Addr) : Sp := fun vs H Q _ => ∃ (a b : Addr) (one other : List Int), vs = [.ref a, .ref b] ∧ H a = some (.lst (one.map V.int)) ∧ H b = some (.lst (other.map V.int)) ∧ RowOk one ∧ RowOk other ∧ one.length ≤ 10000 ∧ other.length = one.length ∧ Tabs (TL tb) H ∧
  ∀ p H2, ExT (TL tb) H H2 → AnsN G M W H p H2 (cmpF one other) → Q (.ref p) H2
theorem def_compared {tb : Addr} (R : Raw K mg "compared" s_compared ["one", "other"]) (T : Txt K mg) (d_check_two : Def P w K mg base CX0 4 "check_two" ["one", "other"] spCheckTwo) (d_top_of : Def P w K mg base CX0 2 "top_of" ["one", "other"] spTopOf) (d_gifts_to : Def P w K mg base CX0 3 "gifts_to" ["row", "wanted"] (spGiftsTo tb))
    (i_Gifts : C8.Mak P w K mg base 1 "Gifts" G (spGInit G) []) (i_Top : C8.Mak P w K mg base 1 "Top" M (spMInit M) []) (i_Wholes : C8.Mak P w K mg base 1 "Wholes" W (spWInit W) []) : Def P w K mg base CX0 5 "compared" ["one", "other"] (spCompared tb G M W) := by
  refine R.ok fun f fd F => F.ok sc_compared (fun vs H Q E h => ?_) (fun cdv A outer s H vs Q E hr h => ?_)
  · obtain ⟨a, b, one, other, rfl, _⟩ := h
    rfl
  · obtain ⟨a, b, one, other, rfl, ha, hb, h1, h2, hz, hl, hT, q⟩ := h
    refine ⟨_, (pss_cons (ps_expr (pe_def d_check_two hr (by decide) (by rfl) pass0 (pa_cons (pv 0) (pa_cons (pv 1) pa_nil))))
      (pss_cons (ps_if (pt_cmpR op_ne (pe_callB (r := rSum K) (cr_sum rfl) (by rfl) T.n_sum (by decide +kernel) (pa_cons (pv 0) pa_nil)) (pe_callB (r := rSum K) (cr_sum rfl) (by rfl) T.n_sum (by decide +kernel) (pa_cons (pv 1) pa_nil)) (nomark _))
        (pss_cons (ps_ret (C8.pe_mk i_Wholes hr (by decide) (by rfl) (pa_cons (pe_callB (r := rSum K) (cr_sum rfl) (by rfl) T.n_sum (by decide +kernel) (pa_cons (pv 0) pa_nil)) (pa_cons (pe_callB (r := rSum K) (cr_sum rfl) (by rfl) T.n_sum (by decide +kernel) (pa_cons (pv 1) pa_nil)) pa_nil))))
          pss_nil)
        pss_nil)
      (pss_cons (ps_set (i := 2) sc_compared.nd rfl (Or.inl rfl) (pe_callBK (r := rSortedKw K true [.bl true]) (cr_sortedRev (b := true)) (by rfl) T.n_sorted (by decide +kernel) (pa_cons (pv 1) pa_nil) (pk_cons pe_bl pk_nil)))
      (pss_cons (ps_set (i := 3) sc_compared.nd rfl (Or.inl rfl) (pe_def d_top_of hr (by decide) (by rfl) pass0 (pa_cons (pe_callBK (r := rSortedKw K true [.bl true]) (cr_sortedRev (b := true)) (by rfl) T.n_sorted (by decide +kernel) (pa_cons (pv 0) pa_nil) (pk_cons pe_bl pk_nil)) (pa_cons (pv 2) pa_nil))))
      (pss_cons (ps_if (pt_cmpR op_gt (pv 3) pe_int (nomark _))
        (pss_cons (ps_ret (C8.pe_mk i_Top hr (by decide) (by rfl) (pa_cons (pv 3) pa_nil)))
          pss_nil)
        pss_nil)
      (pss_cons (ps_ret (C8.pe_mk i_Gifts hr (by decide) (by rfl) (pa_cons (pe_def d_gifts_to hr (by decide) (by rfl) pass0 (pa_cons (pv 0) (pa_cons (pv 2) pa_nil))) pa_nil)))
      pss_nil)))))), ?_⟩
    refine Sv.go (w_drop (ev_call (dvs := []) (z := .non) (ea_cons (ev_var rfl) (ea_cons (ev_var rfl) ea_nil)) fun H1 e1 Q q E => ⟨a, b, one, other, rfl, e1 _ _ ha, e1 _ _ hb, h1, h2, hl, q⟩) ?_)
    refine w_when (et_test (ev_op (ev_sum (ev_var' rfl ha)) (ev_sum (ev_var' rfl hb)) (rv_ne rfl))) (fun hb0 => ?_) fun hb0 => ?_
    · rw [int_ne] at hb0
      have hne : one.sum ≠ other.sum := by simpa using hb0
      refine w_retP (evp_mkW (G := G) (M := M) (ev_sum (ev_var' rfl ha)) (ev_sum (ev_var' rfl hb))) fun v H1 e1 ⟨p, ev, an⟩ => ?_
      subst ev
      refine q p H1 (.of e1) ?_
      unfold cmpF
      rw [if_neg hne]
      exact an
    · rw [int_ne] at hb0
      have he : one.sum = other.sum := by simpa using hb0
      refine w_asgL (el_sortedRev (ev_var' rfl hb) fun s H Q q => q) fun pw H1 nw e1 hpw => ?_
      refine w_asg (v := .int (topF (srtD one) (srtD other))) (ev_callP (ap_two (EvL.p (el_sortedRev (ev_var' rfl (e1 _ _ ha)) fun s H Q q => q)) (ev_var' rfl hpw)) fun vs H2 e2 ⟨v, w, ev, ⟨p, pv, hp⟩, ⟨p2, pw2, hp2⟩⟩ Q q => ⟨p, p2, srtD one, srtD other, by rw [ev, pv, pw2], hp, hp2, by rw [srtD_len]; exact hz, by rw [srtD_len, srtD_len, hl], q⟩) ?_
      refine w_when (et_test (ev_op (ev_var rfl) ev_c rv_I0)) (fun hb1 => ?_) fun hb1 => ?_
      · have ht : 0 < topF (srtD one) (srtD other) := of_decide_eq_true hb1
        refine w_retP (evp_mkM (G := G) (W := W) (ev_var rfl)) fun v H2 e2 ⟨p, ev, an⟩ => ?_
        subst ev
        refine q p H2 (.of (e1.trans e2)) ?_
        unfold cmpF
        rw [if_pos he, if_pos ht]
        exact an
      · have ht : ¬ 0 < topF (srtD one) (srtD other) := of_decide_eq_false hb1
        have hok : Okst (lacks one (srtD other)) [] := lacks_ok (by rw [srtD_len, hl]) fun k => by
          have hn := topF_nn (a := srtD one) (b := srtD other) (by rw [srtD_len, srtD_len, hl])
          exact topF_zero (by rw [srtD_len, srtD_len, hl]) (by omega) k (by rw [sum_perm (srtD_perm one), sum_perm (srtD_perm other), he])
        refine w_retT (T := TL tb) (evpt_mkG (M := M) (W := W) (gs := (gF one (srtD other)).map g3) (evpt_call (ap_two (ev_var' rfl (e1 _ _ ha)) (ev_var' rfl hpw)) fun vs H2 e2 ⟨v, w, ev, ⟨p, pv, hp⟩, ⟨p2, pw2, hp2⟩⟩ Q q => ⟨p, p2, one, srtD other, by rw [ev, pv, pw2], hp, hp2, hz, by rw [srtD_len, hl], hok, hT.ext (e1.trans e2), fun p H3 np e3 hg => q _ H3 e3 ⟨p, rfl, hg⟩⟩)) fun v H2 e2 ⟨p, ev, an⟩ => ?_
        subst ev
        refine q p H2 ((ExT.of e1).trans e2) ?_
        unfold cmpF
        rw [if_pos he, if_neg ht]
        obtain ⟨dx, l, k1, k2, k3⟩ := an
        exact ⟨dx, l, k1, Ex.nf e1 k2, k3⟩
end
end Ev

set_option Elab.async false
set_option linter.all false
set_option maxRecDepth 100000
set_option maxHeartbeats 4000000
namespace Ev
open PySem PySem.Spec L2 Evl Wk
/-! ### another row of as many -/
section
variable {P : Program} {w : World} {K : PySem.W.Frag} {mg : Str → Option Value} {base : Heap}
theorem ev_lenJ {s : L2.St} {H : Hp} {i : Nat} {p : Addr} {ns : List Int} (h : s[i]? = some (some (.ref p))) (hp : H p = some (.lst (ns.map V.int))) : Ev (tCB (rLenS K) (tCons (tVar i) tNil)) s H (.int (ns.length : Int)) := by
  have h2 := ev_lenL (K := K) (ev_var' h hp)
  rw [List.length_map] at h2
  exact h2
theorem int_at3 {ns : List Int} {i : Nat} (h : i < ns.length) : (ns.map V.int)[i]? = some (.int (ns.getD i 0)) := by
  rw [List.getElem?_map, List.getD_eq_getElem?_getD, List.getElem?_eq_getElem h]
  rfl
theorem within_at {B : Int} {ns : List Int} {i : Nat} (h : Within B ns) (hi : i < ns.length) : -B ≤ ns.getD i 0 ∧ ns.getD i 0 ≤ B := by
  rw [List.getD_eq_getElem?_getD, List.getElem?_eq_getElem hi]
  exact h _ (List.getElem_mem hi)
theorem within_set {B : Int} {ns : List Int} {i : Nat} {v : Int} (h : Within B ns) (h1 : -B ≤ v) (h2 : v ≤ B) : Within B (ns.set i v) := fun x hx => by
  rcases List.mem_or_eq_of_mem_set hx with h3 | h3
  · exact h x h3
  · rw [h3]
    exact ⟨h1, h2⟩
theorem within_rev {B : Int} {ns : List Int} (h : Within B ns) : Within B ns.reverse := fun x hx => h x (List.mem_reverse.mp hx)
theorem sum_set : ∀ (l : List Int) (i : Nat) (v : Int), i < l.length → (l.set i v).sum = l.sum - l.getD i 0 + v
  | [], i, v, h => by simp at h
  | x :: l, 0, v, h => by
    simp
    omega
  | x :: l, i + 1, v, h => by
    have ih := sum_set l i v (by simpa using h)
    rw [List.set_cons_succ, List.sum_cons, List.sum_cons, ih]
    simp only [List.getD_cons_succ]
    omega
theorem sum_rev (l : List Int) : l.reverse.sum = l.sum := by
  have p := List.reverse_perm l
  have aux : ∀ {a b : List Int}, a.Perm b → a.sum = b.sum := fun {a b} p => by
    induction p with
    | nil => rfl
    | cons x _ ih => rw [List.sum_cons, List.sum_cons, ih]
    | swap x y l => rw [List.sum_cons, List.sum_cons, List.sum_cons, List.sum_cons]; omega
    | trans _ _ i1 i2 => rw [i1, i2]
  exact aux p
/-- the two stores at the end of a turn -/
theorem two_sets {D : Ends} {s : L2.St} {H : Hp} {pf : Addr} {xs : List Int} {o t : Nat} {am : Int} (h2 : s[2]? = some (some (.ref pf))) (h5 : s[5]? = some (some (.int (o : Int)))) (h6 : s[6]? = some (some (.int (t : Int)))) (h8 : s[8]? = some (some (.int am))) (hp : H pf = some (.lst (xs.map V.int))) (ho : o < xs.length) (ht : t < xs.length) (hw : Within 999990 xs)
    (ha : am = 0 ∨ (-999990 ≤ xs.getD o 0 - am ∧ xs.getD o 0 - am ≤ 999990 ∧ -999990 ≤ xs.getD t 0 + am ∧ xs.getD t 0 + am ≤ 999990))
    (k : ∀ (ys : List Int) H1, (∀ a u, a ≠ pf → H a = some u → H1 a = some u) → H1 pf = some (.lst (ys.map V.int)) → ys.length = xs.length → Within 999990 ys → ys.sum = xs.sum → ∀ H2, Ex H1 H2 → D.nx s H2) :
    Sv (tSeq (tAsg (tOp (rI0 fun i j => .int (i - j)) (tOp (rIxL K) (tVar 2) (tVar 5)) (tVar 8)) (gSub (tVar 2) (tVar 5) rSetL)) (tSeq (tAsg (tOp (rI0 fun i j => .int (i + j)) (tOp (rIxL K) (tVar 2) (tVar 6)) (tVar 8)) (gSub (tVar 2) (tVar 6) rSetL)) tNext)) D s H := by
  refine w_setL hp (ev_op (ev_ixL (ev_var' h2 hp) (ev_var h5) (atI_nat (int_at3 ho))) (ev_var h8) rv_I0) (ev_var h2) (ev_var h5) (by rw [List.length_map]; exact ho) fun H1 p1 => ?_
  have n1 := p1.new
  have e1 : (xs.map V.int).set o (.int (xs.getD o 0 - am)) = (xs.set o (xs.getD o 0 - am)).map V.int := List.map_set.symm
  rw [e1] at n1
  have w0 := within_at hw ho
  have wt := within_at hw ht
  have w1 : Within 999990 (xs.set o (xs.getD o 0 - am)) := within_set hw (by omega) (by omega)
  refine w_setL n1 (ev_op (ev_ixL (ev_var' h2 n1) (ev_var h6) (atI_nat (int_at3 (by rw [List.length_set]; exact ht)))) (ev_var h8) rv_I0) (ev_var h2) (ev_var h6) (by rw [List.length_map, List.length_set]; exact ht) fun H2 p2 => ?_
  have n2 := p2.new
  have e2 : ((xs.set o (xs.getD o 0 - am)).map V.int).set t (.int ((xs.set o (xs.getD o 0 - am)).getD t 0 + am)) = ((xs.set o (xs.getD o 0 - am)).set t ((xs.set o (xs.getD o 0 - am)).getD t 0 + am)).map V.int := List.map_set.symm
  rw [e2] at n2
  refine w_nx fun H3 e3 => k _ H2 (fun a u ne hu => p2.old a u ne (p1.old a u ne hu)) n2 (by rw [List.length_set, List.length_set]) ?_ ?_ H3 e3
  rotate_left
  · rw [sum_set _ _ _ (by rw [List.length_set]; exact ht), sum_set _ _ _ ho]
    omega
  by_cases hot : t = o
  · subst hot
    have e4 : (xs.set t (xs.getD t 0 - am)).getD t 0 = xs.getD t 0 - am := by
      rw [List.getD_eq_getElem?_getD, List.getElem?_set_self ht]
      rfl
    rw [e4]
    exact within_set w1 (by omega) (by omega)
  · have e4 : (xs.set o (xs.getD o 0 - am)).getD t 0 = xs.getD t 0 := by
      rw [List.getD_eq_getElem?_getD, List.getElem?_set_ne (Ne.symm hot), ← List.getD_eq_getElem?_getD]
    rw [e4]
    exact within_set w1 (by omega) (by omega)
theorem inV34 {z : Int} (h : inV (.int z) [.int 3, .int 4] = true) : 0 < z := by
  unfold inV at h
  simp [eqV] at h
  omega
def spOther (K : PySem.W.Frag) : Sp := fun vs H Q _ => ∃ (a b : Addr) (ns rs : List Int), vs = [.ref a, .ref b] ∧ SqL K H a (ns.map V.int) ∧ H b = some (.lst (rs.map V.int)) ∧ rs ≠ [] ∧ rs.length ≤ 64 ∧ Within 900000 rs ∧ ∀ os : List Int, os.length = rs.length → Within 999990 os → rs.sum - 1 ≤ os.sum → os.sum ≤ rs.sum + 1 → RetL (os.map V.int) H Q
theorem def_law_other (R : Raw K mg "_law_other" s_law_other ["_law_script", "_law_row_here"]) (T : Txt K mg) (d_law_cell_at : Def P w K mg base CX0 1 "_law_cell_at" ["_law_script", "_law_k"] (spCell K)) (d_law_draw : Def P w K mg base CX0 1 "_law_draw" ["_law_cell", "_law_k", "_law_many"] spDraw) :
    Def P w K mg base CX0 2 "_law_other" ["_law_script", "_law_row_here"] (spOther K) := by
  refine R.ok fun f fd F => F.ok sc_law_other (fun vs H Q E h => ?_) (fun cdv A outer s H vs Q E hr h => ?_)
  · obtain ⟨a, b, ns, rs, rfl, _⟩ := h
    rfl
  · obtain ⟨a, b, ns, rs, rfl, ha, hb, hne, hz, hw, q⟩ := h
    refine ⟨_, (pss_cons (ps_par (i := 2) (j := 3) rfl sc_law_other.nd rfl rfl (by decide) rfl rfl (pa_cons (pe_callTy (r := rListS K) call_list_of (by rfl) T.n_list (by decide +kernel) (pa_cons (pv 1) pa_nil)) (pa_cons (pe_def d_law_draw hr (by decide) (by rfl) pass0 (pa_cons (pe_def d_law_cell_at hr (by decide) (by rfl) pass0 (pa_cons (pv 0) (pa_cons pe_int pa_nil))) (pa_cons pe_int (pa_cons pe_int pa_nil)))) pa_nil)) (by rfl))
      (pss_cons (ps_if (pt_cmpR op_eq (pv 3) pe_int (nomark _))
        (pss_cons (ps_asg (pe_op op_sub (pe_op op_add (pe_ix (r := rIxL K) ix_list (pv 2) pe_int (fun _ _ => rfl)) (pe_def d_law_draw hr (by decide) (by rfl) pass0 (pa_cons (pe_def d_law_cell_at hr (by decide) (by rfl) pass0 (pa_cons (pv 0) (pa_cons pe_int pa_nil))) (pa_cons pe_int (pa_cons pe_int pa_nil))))) pe_int) (pg_sub (pv 2) pe_int set_list))
          (pss_cons (ps_ret (pe_revL (pv 2)))
          pss_nil))
        pss_nil)
      (pss_cons (ps_for PassesOwn.never rfl (pi_range1 (by rfl) T.n_range (pa_cons (pe_callB (r := rLenS K) call_len_seq (by rfl) T.n_len PySem.boot_len (pa_cons (pv 1) pa_nil)) pa_nil)) (pg_name (i := 4) sc_law_other.nd rfl (Or.inl rfl))
        (pss_cons (ps_par (i := 5) (j := 6) rfl sc_law_other.nd rfl rfl (by decide) rfl rfl (pa_cons (pv 4) (pa_cons (pe_def d_law_draw hr (by decide) (by rfl) pass0 (pa_cons (pe_def d_law_cell_at hr (by decide) (by rfl) pass0 (pa_cons (pv 0) (pa_cons (pv 4) pa_nil))) (pa_cons pe_int (pa_cons (pe_callB (r := rLenS K) call_len_seq (by rfl) T.n_len PySem.boot_len (pa_cons (pv 1) pa_nil)) pa_nil)))) pa_nil)) (by rfl))
          (pss_cons (ps_set (i := 7) sc_law_other.nd rfl (Or.inl rfl) (pe_callB call_abs (by rfl) T.n_abs (by decide +kernel) (pa_cons (pe_op op_sub (pe_ix (r := rIxL K) ix_list (pv 2) (pv 5) (fun _ _ => rfl)) (pe_ix (r := rIxL K) ix_list (pv 2) (pv 6) (fun _ _ => rfl))) pa_nil)))
          (pss_cons (ps_set (i := 8) sc_law_other.nd rfl (Or.inl rfl) (pe_def d_law_draw hr (by decide) (by rfl) pass0 (pa_cons (pe_def d_law_cell_at hr (by decide) (by rfl) pass0 (pa_cons (pv 0) (pa_cons (pe_op op_add (pv 4) pe_int) pa_nil))) (pa_cons pe_int (pa_cons (pe_op op_add (pe_op op_fdiv (pv 7) pe_int) pe_int) pa_nil)))))
          (pss_cons (ps_if (PW.pt (pw_and (pt_cmpR (r := rIn K false) op_in_seq (pv 3) (pe_tup (pa_cons pe_int (pa_cons pe_int pa_nil))) (by rfl)) (pw_and1 (pt_cmpR op_eq (pe_op op_mod (pv 4) (pv 3)) pe_int (nomark _)))))
            (pss_cons (ps_set (i := 8) sc_law_other.nd rfl (Or.inl rfl) (pe_un un_neg (pe_def d_law_draw hr (by decide) (by rfl) pass0 (pa_cons (pe_def d_law_cell_at hr (by decide) (by rfl) pass0 (pa_cons (pv 0) (pa_cons (pe_op op_add (pv 4) pe_int) pa_nil))) (pa_cons pe_int (pa_cons (pe_op op_add pe_int (pe_op op_fdiv (pv 7) pe_int)) pa_nil))))))
              pss_nil)
            pss_nil)
          (pss_cons (ps_if (pt_cmpR op_gt (pe_op op_add (pe_callB (call_max2 rfl) (by rfl) T.n_max (by decide +kernel) (pa_cons (pe_callB call_abs (by rfl) T.n_abs (by decide +kernel) (pa_cons (pe_ix (r := rIxL K) ix_list (pv 2) (pv 5) (fun _ _ => rfl)) pa_nil)) (pa_cons (pe_callB call_abs (by rfl) T.n_abs (by decide +kernel) (pa_cons (pe_ix (r := rIxL K) ix_list (pv 2) (pv 6) (fun _ _ => rfl)) pa_nil)) pa_nil))) (pe_callB call_abs (by rfl) T.n_abs (by decide +kernel) (pa_cons (pv 8) pa_nil))) pe_int (nomark _))
            (pss_cons (ps_set (i := 8) sc_law_other.nd rfl (Or.inl rfl) pe_int)
              pss_nil)
            pss_nil)
          (pss_cons (ps_if (pt_cmpR op_lt (pe_ix (r := rIxL K) ix_list (pv 2) (pv 5) (fun _ _ => rfl)) (pe_ix (r := rIxL K) ix_list (pv 2) (pv 6) (fun _ _ => rfl)) (nomark _))
            (pss_cons (ps_set (i := 5) sc_law_other.nd rfl (Or.inl rfl) (pv 6))
              (pss_cons (ps_set (i := 6) sc_law_other.nd rfl (Or.inl rfl) (pv 4))
              pss_nil))
            pss_nil)
          (pss_cons (ps_asg (pe_op op_sub (pe_ix (r := rIxL K) ix_list (pv 2) (pv 5) (fun _ _ => rfl)) (pv 8)) (pg_sub (pv 2) (pv 5) set_list))
          (pss_cons (ps_asg (pe_op op_add (pe_ix (r := rIxL K) ix_list (pv 2) (pv 6) (fun _ _ => rfl)) (pv 8)) (pg_sub (pv 2) (pv 6) set_list))
          pss_nil)))))))))
      (pss_cons (ps_ret (pe_ifExp (pt_truth (pe_op op_mod (pv 3) pe_int) (fun _ => rfl)) (pe_revL (pv 2)) (pv 2)))
      pss_nil)))), ?_⟩
    have hpos : 0 < rs.length := List.length_pos_iff.mpr hne
    have hw9 : Within 999990 rs := fun x hx => by have := hw x hx; omega
    refine Sv.go (w_parP (ap_two (el_n (el_listL (ev_var' rfl hb))) (evp_draw (evp_cell (ev_var rfl) ha ev_c (by omega)) (ev_i ev_c trivial) ev_c (by omega))) fun vs H1 e1 ⟨v, z, ev, ⟨pf, pv, npf, hpf⟩, ⟨m, pz, hm0, hm1⟩⟩ => ⟨v, z, ev, ?_⟩)
    subst pv pz
    have ha1 := ex_l e1 ha
    have hb1 := e1 _ _ hb
    refine w_when (et_test (ev_op (ev_var rfl) ev_c (rv_eq rfl))) (fun hb0 => ?_) fun hb0 => ?_
    · -- one more, one less
      refine w_asgSetP (P := IsI fun v => rs.getD 0 0 - 1 ≤ v ∧ v ≤ rs.getD 0 0 + 1) hpf (evp_int (p := fun v => rs.getD 0 0 ≤ v ∧ v ≤ rs.getD 0 0 + 2) (q := fun v => v = 1) (evp_int (p := fun v => v = rs.getD 0 0) (ev_i (ev_ixL (ev_var' rfl hpf) ev_c (atI_nat (j := 0) (int_at3 hpos))) rfl) (evp_draw (evp_cell (ev_var rfl) ha1 ev_c (by omega)) (ev_i ev_c trivial) ev_c (by omega)) fun i j h1 h2 => ⟨by omega, by omega⟩) (ev_i ev_c rfl) fun i j h1 h2 => ⟨by omega, by omega⟩) (ev_var rfl) (j := 0) ev_c (by rw [List.length_map]; exact hpos) (fun v H o h => h) fun v H2 ⟨i, ei, i0, i1⟩ p2 => ?_
      subst ei
      have n2 := p2.new
      have e2 : (rs.map V.int).set 0 (.int i) = (rs.set 0 i).map V.int := List.map_set.symm
      rw [e2] at n2
      refine w_retL (el_revL (ev_var' rfl n2)) fun p H3 np e3 hp => ?_
      rw [← List.map_reverse] at hp
      have ex2 : Ex H H2 := p2.ex e1 npf
      have w0 := within_at hw hpos
      have hsum : (rs.set 0 i).reverse.sum = rs.sum - rs.getD 0 0 + i := by rw [sum_rev, sum_set _ _ _ hpos]
      exact q _ (by rw [List.length_reverse, List.length_set]) (within_rev (within_set hw9 (by omega) (by omega))) (by omega) (by omega) p H3 (fresh_back ex2 np) (ex2.trans e3) hp
    · refine w_forR1 (n := (rs.length : Int)) (ea_cons (ev_lenJ rfl hb1) ea_nil) (by omega) (fun i s' H' => ∃ x4 x5 x6 x7 x8 xs, s' = [some (.ref a), some (.ref b), some (.ref pf), some (.int m), x4, x5, x6, x7, x8] ∧ Ex H H' ∧ H' pf = some (.lst (xs.map V.int)) ∧ xs.length = rs.length ∧ Within 999990 xs ∧ xs.sum = rs.sum)
        (fun H2 e2 => ⟨none, none, none, none, none, rs, rfl, e1.trans e2, e2 _ _ hpf, rfl, hw9, rfl⟩) ?_ ?_
      · rintro i s' H' hi ⟨x4, x5, x6, x7, x8, xs, rfl, ex, hxs, hxl, hxw, hxsum⟩
        have ha2 := ex_l ex ha
        have hi2 : i < xs.length := by omega
        refine w_parP (ap_two (ev_var rfl).p (evp_draw (evp_cell (ev_var rfl) ha2 (ev_var rfl) (by omega)) (ev_i ev_c trivial) (ev_lenJ rfl (ex _ _ hb)) (by omega))) fun vs H2 e2 ⟨v, z, ev, pv, ⟨j, pz, hj0, hj1⟩⟩ => ⟨v, z, ev, ?_⟩
        cases pv
        subst pz
        obtain ⟨j, rfl⟩ := Int.eq_ofNat_of_zero_le hj0
        have hj2 : j < xs.length := by omega
        have hxs2 := e2 _ _ hxs
        have ha3 := ex_l e2 ha2
        have wi := within_at hxw hi2
        have wj := within_at hxw hj2
        generalize hu : xs.getD i 0 = u at wi
        generalize hv : xs.getD j 0 = v at wj
        have evI : ∀ {s : L2.St} {H' : Hp}, s[2]? = some (some (.ref pf)) → s[5]? = some (some (.int (i : Int))) → H' pf = some (.lst (xs.map V.int)) → Ev (tOp (rIxL K) (tVar 2) (tVar 5)) s H' (.int u) := fun h2 h5 e => by
          have h := ev_ixL (K := K) (ev_var' h2 e) (ev_var h5) (atI_nat (int_at3 hi2))
          rw [hu] at h
          exact h
        have evJ : ∀ {s : L2.St} {H' : Hp}, s[2]? = some (some (.ref pf)) → s[6]? = some (some (.int (j : Int))) → H' pf = some (.lst (xs.map V.int)) → Ev (tOp (rIxL K) (tVar 2) (tVar 6)) s H' (.int v) := fun h2 h6 e => by
          have h := ev_ixL (K := K) (ev_var' h2 e) (ev_var h6) (atI_nat (int_at3 hj2))
          rw [hv] at h
          exact h
        refine w_asg (ev_abs (ev_op (evI rfl rfl hxs2) (evJ rfl rfl hxs2) rv_I0)) ?_
        have hmore : 0 ≤ (if u - v < 0 then -(u - v) else u - v) := by split <;> omega
        generalize (if u - v < 0 then -(u - v) else u - v) = mo at hmore ⊢
        refine w_asgP (P := IsI fun _ => True) (evp_ii (evp_draw (evp_cell (ev_var rfl) ha3 (ev_op (ev_var rfl) ev_c rv_I0) (by omega)) (ev_i ev_c trivial) (ev_op (ev_op (ev_var rfl) ev_c (rv_I ⟨by omega, by omega⟩)) ev_c rv_I0) (by omega)) fun _ _ => trivial) ?_
        rintro x H3 e3 ⟨am, rfl, _⟩
        have hxs3 := e3 _ _ hxs2
        have ha4 := ex_l e3 ha3
        refine w_ifAsgP (P := IsI fun _ => True) (v0 := .int am) (et_and (et_test (ev_inU (ev_var rfl) (eu_tup (ea_cons ev_c (ea_cons ev_c ea_nil)) (by show 2 ≤ 100000; decide)) rfl rfl)) fun hin => et_test (ev_op (ev_op (ev_var rfl) (ev_var rfl) (rv_I (inV34 hin))) ev_c (rv_eq rfl))) (fun _ => evp_neg (p := fun _ => True) (evp_ii (evp_draw (evp_cell (ev_var rfl) ha4 (ev_op (ev_var rfl) ev_c rv_I0) (by omega)) (ev_i ev_c trivial) (ev_op ev_c (ev_op (ev_var rfl) ev_c (rv_I ⟨by omega, by omega⟩)) rv_I0) (by omega)) fun _ _ => trivial) fun _ _ => trivial) rfl (fun _ _ _ => ⟨am, rfl, trivial⟩) ?_
        rintro x H4 e4 ⟨am2, rfl, _⟩
        have hxs4 := e4 _ _ hxs3
        refine w_ifAsgP (P := IsI fun z => z = 0 ∨ (-999990 ≤ u - z ∧ u - z ≤ 999990 ∧ -999990 ≤ u + z ∧ u + z ≤ 999990 ∧ -999990 ≤ v - z ∧ v - z ≤ 999990 ∧ -999990 ≤ v + z ∧ v + z ≤ 999990)) (v0 := .int am2) (et_test (ev_op (ev_op (ev_mx2 (ev_abs (evI rfl rfl hxs4)) (ev_abs (evJ rfl rfl hxs4))) (ev_abs (ev_var rfl)) rv_I0) ev_c rv_I0)) (fun _ => ev_i ev_c (.inl rfl)) rfl (fun hb1 _ _ => ⟨am2, rfl, .inr ?_⟩) ?_
        · have h := of_decide_eq_false hb1
          split at h <;> split at h <;> split at h <;> omega
        rintro x H5 e5 ⟨am3, rfl, ham⟩
        have hxs5 := e5 _ _ hxs4
        have ex5 : Ex H H5 := (((ex.trans e2).trans e3).trans e4).trans e5
        have fin : ∀ (y5 y6 : Option V) (ys : List Int) (H6 : Hp), (∀ a u, a ≠ pf → H5 a = some u → H6 a = some u) → H6 pf = some (.lst (ys.map V.int)) → ys.length = xs.length → Within 999990 ys → ys.sum = xs.sum → ∀ H7, Ex H6 H7 → ∃ x4 x5 x6 x7 x8 xs, ([some (.ref a), some (.ref b), some (.ref pf), some (.int m), some (.int (i : Int)), y5, y6, some (.int mo), some (.int am3)] : L2.St) = [some (.ref a), some (.ref b), some (.ref pf), some (.int m), x4, x5, x6, x7, x8] ∧ Ex H H7 ∧ H7 pf = some (.lst (xs.map V.int)) ∧ xs.length = rs.length ∧ Within 999990 xs ∧ xs.sum = rs.sum := fun y5 y6 ys H6 ho hn hl hw hsu H7 e7 =>
          ⟨_, _, _, _, _, ys, rfl, Ex.trans (fun c o hc => ho c o (ne_of_none hc npf) (ex5 c o hc)) e7, e7 _ _ hn, by omega, hw, by omega⟩
        refine w_when (et_test (ev_op (evI rfl rfl hxs5) (evJ rfl rfl hxs5) rv_I0)) (fun _ => w_asg (ev_var rfl) (w_asg (ev_var rfl) (w_nx fun H6 e6 => (two_sets (o := j) (t := i) rfl rfl rfl rfl (e6 _ _ hxs5) hj2 hi2 hxw (by rw [hu, hv]; omega) fun ys H7 ho hn hl hw hsu H8 e8 => fin _ _ ys H7 (fun a u ne hu => ho a u ne (e6 _ _ hu)) hn hl hw hsu H8 e8).go))) fun _ => two_sets (o := i) (t := j) rfl rfl rfl rfl hxs5 hi2 hj2 hxw (by rw [hu, hv]; omega) fun ys H7 ho hn hl hw hsu H8 e8 => fin _ _ ys H7 ho hn hl hw hsu H8 e8
      · rintro s' H' ⟨x4, x5, x6, x7, x8, xs, rfl, ex, hxs, hxl, hxw, hxsum⟩
        refine w_retP (P := fun x H2 => ∃ p os, x = .ref p ∧ H p = none ∧ H2 p = some (.lst (os.map V.int)) ∧ os.length = rs.length ∧ Within 999990 os ∧ os.sum = rs.sum) (evp_if2 (fun H1 e1 Q k => et_tru (K := K) (v := .int (m % 2)) (k := m % 2 != 0) (ev_op (ev_var rfl) ev_c (rv_I (by omega))) (fun _ => rfl) H1 e1 Q fun H2 e2 => k _ H2 e2) ((el_n (el_revL (ev_var' rfl hxs))).imp fun v H1 e1 ⟨p, ep, np, hp⟩ => ⟨p, xs.reverse, ep, fresh_back ex np, by rw [List.map_reverse]; exact hp, by rw [List.length_reverse]; exact hxl, within_rev hxw, by rw [sum_rev]; exact hxsum⟩) ((ev_var rfl).p.imp fun v H1 e1 ep => ⟨pf, xs, ep, npf, e1 _ _ hxs, hxl, hxw, hxsum⟩)) fun v H2 e2 ⟨p, os, ev, np, hp, hl, hw, hsu⟩ => ?_
        subst ev
        exact q os hl hw (by omega) (by omega) p H2 np (ex.trans e2) hp
end
end Ev

set_option Elab.async false
set_option linter.all false
set_option maxRecDepth 100000
set_option maxHeartbeats 4000000
namespace Ev
open PySem PySem.Spec L2 Evl Wk
section
variable {P : Program} {w : World} {K : PySem.W.Frag} {mg : Str → Option Value} {base : Heap}
def spNumbers : Sp := fun vs H Q _ => ∃ (a : Addr) (ns : List Int) (m : Int), vs = [.ref a, .int m] ∧ H a = some (.lst (ns.map V.int)) ∧ ns.length ≤ 10000 ∧ RetV (.bl (decide ((ns.length : Int) = m))) H Q
theorem def_law_numbers (R : Raw K mg "_law_numbers" s_law_numbers ["_law_found", "_law_many"]) (T : Txt K mg) : Def P w K mg base CX0 1 "_law_numbers" ["_law_found", "_law_many"] spNumbers := by
  refine R.ok fun f fd F => F.ok sc_law_numbers (fun vs H Q E h => ?_) (fun cdv A outer s H vs Q E hr h => ?_)
  · obtain ⟨a, ns, m, rfl, _⟩ := h
    rfl
  · obtain ⟨a, ns, m, rfl, ha, hz, q⟩ := h
    refine ⟨_, (pss_cons (ps_if (PW.pt (pw_or (pt_not (pt_val (pe_callB (r := rIsi K) call_isi (by rfl) T.n_isinstance (by decide +kernel) (pa_cons (pv 0) (pa_cons (pe_bltn (v := .ty "list") (u := .type "list") (by rfl) T.n_list (by decide +kernel) rfl) pa_nil))))) (pw_or1 (pt_cmpR op_ne (pe_callB (r := rLenS K) call_len_seq (by rfl) T.n_len PySem.boot_len (pa_cons (pv 0) pa_nil)) (pv 1) (nomark _)))))
        (pss_cons (ps_ret pe_bl)
          pss_nil)
        pss_nil)
      (pss_cons (ps_ret (pe_not (pe_callB (r := rAny K) (cr_any rfl) (by rfl) T.n_any (by decide +kernel) (pa_cons (pe_lc (own := [("_law_one", 2)]) (g := gName 2) rfl sc_law_numbers.nd (pi_list (pv 0)) (blkOk_by (own := [("_law_one", 2)]) (N := ["_law_found", "_law_many", "_law_one"]) (sc := defScope s_law_numbers) (by decide +kernel)) (fun _ _ _ _ _ => pg_name (i := 2) sc_law_numbers.nd rfl (Or.inl rfl)) (fun _ _ _ _ _ => pts_nil) (fun _ _ _ _ _ => (pe_or (pe_callB (r := rIsi K) call_isi (by rfl) T.n_isinstance (by decide +kernel) (pa_cons (pv 2) (pa_cons (pe_bltn (v := .ty "bool") (u := .type "bool") (by rfl) T.n_bool (by decide +kernel) rfl) pa_nil))) (pe_one (pe_not (pe_callB (r := rIsi K) call_isi (by rfl) T.n_isinstance (by decide +kernel) (pa_cons (pv 2) (pa_cons (pe_bltn (v := .ty "int") (u := .type "int") (by rfl) T.n_int (by decide +kernel) rfl) pa_nil)))))))) pa_nil))))
      pss_nil)), ?_⟩
    refine Sv.go (w_when (b := !decide ((ns.length : Int) = m)) (et_is (et_or (et_not (et_B (ev_isi (b := true) (ev_var rfl) ev_c (.ty _) (.base (.lst ha)) (kit_ty (by decide +kernel))))) fun _ => et_test (ev_op (ev_lenL (ev_var' rfl ha)) (ev_var rfl) (rv_ne rfl))) ?_) (fun hb => ?_) fun hb => ?_)
    · rw [List.length_map]
      simp
    · refine w_ret ev_c fun H1 e1 => ?_
      have h2 : decide ((ns.length : Int) = m) = false := by simpa using hb
      rw [h2] at q
      exact q H1 e1
    · have h2 : decide ((ns.length : Int) = m) = true := by simpa using hb
      rw [h2] at q
      refine w_ret (v := .bl true) (ev_is (ev_notV (ev_any (bs := ns.map fun _ => false) (EvL.p ?_))) ?_) q
      · rw [← map_bl]
        refine el_map ns V.int (fun _ => V.bl false) (ev_var rfl) (sq_of ha) (by omega) (fun _ => rfl) fun x _ => ?_
        exact ev_is (ev_orV (ev_isi (b := false) (ev_var rfl) ev_c (.ty _) (.base (.int x)) (kit_ty (by decide +kernel))) fun _ => ev_notV (ev_isi (b := true) (ev_var rfl) ev_c (.ty _) (.base (.int x)) (kit_ty (by decide +kernel)))) rfl
      · have : (ns.map fun _ => false).any id = false := by
          rw [List.any_eq_false]
          intro x hx
          obtain ⟨_, _, rfl⟩ := List.mem_map.mp hx
          simp
        rw [this]
        rfl
end
end Ev

set_option Elab.async false
set_option linter.all false
set_option maxRecDepth 100000
set_option maxHeartbeats 4000000
namespace Ev
open PySem PySem.Spec L2 Evl Wk LamX Sk
def dT (g : T3) : PyData := .tuple [.int g.1, .int g.2.1, .int g.2.2]
def dG (gs : List T3) : PyData := .list (gs.map dT)
theorem dG_lay0 : ∀ gs : List T3, PyData.canLayAll0 (gs.map dT) = true
  | [] => by simp [PyData.canLayAll0]
  | g :: r => by simp [PyData.canLayAll0, PyData.canLay0, dT, dG_lay0 r]
theorem dG_depth : ∀ gs : List T3, PyData.depthAll (gs.map dT) ≤ 1
  | [] => by simp [PyData.depthAll]
  | g :: r => by
    have := dG_depth r
    simp [PyData.depthAll, PyData.depth, dT]
    omega
theorem dG_shaped (gs : List T3) : SeqAt.shaped (dG gs) = true := by
  have := dG_depth gs
  simp [SeqAt.shaped, dG, PyData.canLay0, PyData.depth, dG_lay0]
  omega
theorem dT_eqv (g : T3) : PyData.eqv (dT g) (dT g) = true := by simp [dT, PyData.eqv, PyData.eqvAll]
theorem dG_self : ∀ gs : List T3, PyData.eqvAll (gs.map dT) (gs.map dT) = true
  | [] => by simp [PyData.eqvAll]
  | g :: r => by simp [PyData.eqvAll, dT_eqv, dG_self r]
theorem dG_eqv (gs : List T3) : PyData.eqv (dG gs) (dG gs) = true := by
  show PyData.eqv (.list _) (.list _) = true
  rw [PyData.eqv, dG_self]
theorem dG_nil (gs : List T3) : PyData.eqv (dG gs) (dG []) = gs.isEmpty := by
  show PyData.eqv (.list _) (.list _) = _
  cases gs <;> simp [PyData.eqv, PyData.eqvAll]
def spLawT (K : PySem.W.Frag) (tb : Addr) : Sp := fun vs H Q _ => ∃ (a : Addr) (ns : List Int), vs = [.ref a] ∧ SqL K H a (ns.map V.int) ∧ ns.length ≤ 63 ∧ Tabs (TL tb) H ∧ ∀ H', Q (.bl true) H'
theorem rowOk_in {rs : List Int} {B : Int} (hn : rs ≠ []) (hl : rs.length ≤ 64) (hB : B ≤ 1000000) (h : Within B rs) : RowOk rs := ⟨hn, fun x hx => isSh_iff.mpr (by have := h x hx; omega), by omega⟩
theorem bl_ne (a b : Bool) : (!decide (V.bl a = V.bl b)) = !decide (a = b) := by simp
theorem over_snoc (l : List Int) (x m : Int) : overF (l ++ [x]) m = overF l m + (if m < x then x - m else 0) := by
  unfold overF
  rw [List.filter_append, List.map_append, List.sum_append]
  congr 1
  by_cases h : m < x <;> simp [List.filter_cons, h]
theorem stepL_within {xs : List Int} {na nb : Nat} {am : Int} (h : Within 900009 xs) (la : na < xs.length) (lb : nb < xs.length) (hne : na ≠ nb) (h1 : 1 ≤ am) (h2 : am ≤ 9) (ha : -900000 < xs.getD na 0) (hb : xs.getD nb 0 < 900000) : Within 900009 (stepL xs ((na : Int), (nb : Int), am)) := by
  have e : (step1 xs ((na : Int), (nb : Int), am)).getD nb 0 = xs.getD nb 0 := by
    show (xs.set na _).getD nb 0 = _
    rw [List.getD_eq_getElem?_getD, List.getElem?_set_ne hne, ← List.getD_eq_getElem?_getD]
  have wa := within_at h la
  have wb := within_at h lb
  show Within 900009 ((step1 xs ((na : Int), (nb : Int), am)).set nb ((step1 xs ((na : Int), (nb : Int), am)).getD nb 0 + am))
  rw [e]
  exact within_set (within_set h (by show -900009 ≤ xs.getD na 0 - am; omega) (by show xs.getD na 0 - am ≤ 900009; omega)) (by omega) (by omega)
section
variable {P : Program} {w : World} {K : PySem.W.Frag} {mg : Str → Option Value} {base : Heap} {A G M W : Addr}
theorem dG_at {gs : List T3} {p : Addr} {H : Hp} (h : GsAt gs p H) : IsD K (dG gs) (.ref p) H := by
  obtain ⟨vs, hp, hl, hts⟩ := h
  refine .lst (sq_of hp) ?_
  have aux : ∀ (gs : List T3) (vs : List V), vs.length = (gs.map tupV).length → (∀ (i : Nat) (t : List V), (gs.map tupV)[i]? = some t → ∃ r : Addr, vs[i]? = some (V.ref r) ∧ H r = some (.tup t)) → DpAll K H vs (gs.map dT) := by
    intro gs
    induction gs with
    | nil =>
      intro vs hl _
      cases vs with
      | nil => exact .nil
      | cons v r => cases hl
    | cons g r ih =>
      intro vs hl h
      cases vs with
      | nil => cases hl
      | cons v vs =>
        obtain ⟨q, e, hq⟩ := h 0 (tupV g) rfl
        have e2 : v = V.ref q := by simpa using e
        subst e2
        exact .cons (.tup (st_of hq) (.cons (.int _) (.cons (.int _) (.cons (.int _) .nil)))) (ih vs (by simpa using hl) fun i t ht => h (i + 1) t (by simpa using ht))
  exact aux gs vs hl hts
def spLawAbove : Sp := fun vs H Q _ => ∃ (a : Addr) (ns : List Int) (m : Int), vs = [.ref a, .int m] ∧ H a = some (.lst (ns.map V.int)) ∧ ns.length ≤ 10000 ∧ RetV (.int (overF ns m)) H Q
theorem def_law_above (R : Raw K mg "_law_above" s_law_above ["_law_row_here", "_law_mark"]) (T : Txt K mg) : Def P w K mg base CX0 1 "_law_above" ["_law_row_here", "_law_mark"] spLawAbove := by
  refine R.ok fun f fd F => F.ok sc_law_above (fun vs H Q E h => ?_) (fun cdv A outer s H vs Q E hr h => ?_)
  · obtain ⟨a, ns, m, rfl, _⟩ := h
    rfl
  · obtain ⟨a, ns, m, rfl, ha, hz, q⟩ := h
    refine ⟨_, (pss_cons (ps_set (i := 2) sc_law_above.nd rfl (Or.inl rfl) pe_int)
      (pss_cons (ps_for PassesOwn.never rfl (pi_list (pv 0)) (pg_name (i := 3) sc_law_above.nd rfl (Or.inl rfl))
        (pss_cons (ps_if (pt_cmpR op_gt (pv 3) (pv 1) (nomark _))
            (pss_cons (ps_set (i := 2) sc_law_above.nd rfl (Or.inl rfl) (pe_op op_sub (pe_op op_add (pv 2) (pv 3)) (pv 1)))
              pss_nil)
            pss_nil)
          pss_nil))
      (pss_cons (ps_ret (pv 2))
      pss_nil))), ?_⟩
    refine Sv.go (w_asg (v := .int 0) ev_c (w_forL (ev_var rfl) (sq_of ha) (fun i s' H' => ∃ y, s' = [some (.ref a), some (.int m), some (.int (overF (ns.take i) m)), y] ∧ Ex H H') (fun H2 e2 => ⟨none, rfl, e2⟩) (fun i s' H' hi ⟨y, _, ex⟩ => sq_of (ex _ _ ha)) ?_ ?_))
    · rintro i x s' H' hi ⟨y, rfl, ex⟩
      obtain ⟨n, hn, rfl⟩ := int_at hi
      have et : ns.take (i + 1) = ns.take i ++ [n] := by rw [List.take_add_one, hn]; rfl
      refine w_ifAsg (v := .int (overF (ns.take (i + 1)) m)) (et_test (ev_op (ev_var rfl) (ev_var rfl) rv_I0)) (fun hb => ev_is (ev_op (ev_op (ev_var rfl) (ev_var rfl) rv_I0) (ev_var rfl) rv_I0) ?_) (fun hb => ?_) (w_nx fun H2 e2 => Exists.intro (some (.int n)) ⟨rfl, ex.trans e2⟩)
      · have h : m < n := of_decide_eq_true hb
        rw [et, over_snoc, if_pos h]
        congr 1
        omega
      · have h : ¬ m < n := of_decide_eq_false hb
        rw [et, over_snoc, if_neg h, Int.add_zero]
        rfl
    · rintro s' H' ⟨y, rfl, ex⟩
      refine w_ret (ev_var rfl) fun H2 e2 => ?_
      rw [List.length_map, List.take_length]
      exact q H2 (ex.trans e2)
theorem ok_law {tb : Addr} {f : Addr} {fd : FuncData} (F : Fun K "law" "law" s_law f fd) (T : Txt K mg) (L : Kl K mg A G M W) (d_law_row : Def P w K mg base CX0 2 "_law_row" ["_law_script"] (spRow K)) (d_law_other : Def P w K mg base CX0 2 "_law_other" ["_law_script", "_law_row_here"] (spOther K))
    (d_law_numbers : Def P w K mg base CX0 1 "_law_numbers" ["_law_found", "_law_many"] spNumbers) (d_law_cell_at : Def P w K mg base CX0 1 "_law_cell_at" ["_law_script", "_law_k"] (spCell K)) (d_law_draw : Def P w K mg base CX0 1 "_law_draw" ["_law_cell", "_law_k", "_law_many"] spDraw)
    (d_rising_sums : Def P w K mg base CX0 4 "rising_sums" ["row"] spRising) (d_above : Def P w K mg base CX0 4 "above" ["row", "mark"] spAbove) (d_law_above : Def P w K mg base CX0 1 "_law_above" ["_law_row_here", "_law_mark"] spLawAbove)
    (d_compared : Def P w K mg base CX0 5 "compared" ["one", "other"] (spCompared tb G M W)) (d_done : Def P w K mg base CX0 4 "done" ["row", "gifts"] spDone) : FnOk P w K mg base CX0 6 f fd ["_law_script"] (spLawT K tb) := by
  refine F.ok sc_law (fun vs H Q E h => ?_) (fun cdv A' outer s H vs Q E hr h => ?_)
  · obtain ⟨a, ns, rfl, _⟩ := h
    rfl
  · obtain ⟨a, ns, rfl, ha, hz, hT, q⟩ := h
    refine ⟨_, (pss_cons (ps_set (i := 1) sc_law.nd rfl (Or.inl rfl) (pe_def d_law_row hr (by decide) (by rfl) pass0 (pa_cons (pv 0) pa_nil)))
      (pss_cons (ps_set (i := 2) sc_law.nd rfl (Or.inl rfl) (pe_def d_law_other hr (by decide) (by rfl) pass0 (pa_cons (pv 0) (pa_cons (pv 1) pa_nil))))
      (pss_cons (ps_par (i := 3) (j := 4) rfl sc_law.nd rfl rfl (by decide) rfl rfl (pa_cons (pe_lst pa_nil) (pa_cons pe_int pa_nil)) (by rfl))
      (pss_cons (ps_for PassesOwn.never rfl (pi_list (pe_callB (r := rSortedI K) cr_sortedI (by rfl) T.n_sorted (by decide +kernel) (pa_cons (pv 1) pa_nil))) (pg_name (i := 5) sc_law.nd rfl (Or.inl rfl))
        (pss_cons (ps_set (i := 4) sc_law.nd rfl (Or.inl rfl) (pe_op op_add (pv 4) (pv 5)))
          (pss_cons (ps_expr (pe_bm PySem.F.plainAttrs_list PySem.F.slot_list_append PySem.F.type_list_append mt_append (pv 3) (pa_cons (pv 4) pa_nil)))
          pss_nil)))
      (pss_cons (ps_for PassesOwn.never rfl (pi_range1 (by rfl) T.n_range (pa_cons pe_int pa_nil)) (pg_name (i := 6) sc_law.nd rfl (Or.inl rfl))
        (pss_cons (ps_set (i := 7) sc_law.nd rfl (Or.inl rfl) (pe_def d_rising_sums hr (by decide) (by rfl) pass0 (pa_cons (pv 1) pa_nil)))
          (pss_cons (ps_if (PW.pt (pw_or (pt_not (pt_val (pe_def d_law_numbers hr (by decide) (by rfl) pass0 (pa_cons (pv 7) (pa_cons (pe_callB (r := rLenS K) call_len_seq (by rfl) T.n_len PySem.boot_len (pa_cons (pv 1) pa_nil)) pa_nil))))) (pw_or1 (pt_cmpR (r := rNeD K) (op_neD hr.units) (pv 7) (pv 3) (nomark _)))))
            (pss_cons (ps_ret pe_bl)
              pss_nil)
            pss_nil)
          (pss_cons (ps_expr (pe_bm PySem.F.plainAttrs_list PySem.F.slot_list_append PySem.F.type_list_append mt_append (pv 7) (pa_cons pe_int pa_nil)))
          pss_nil))))
      (pss_cons (ps_set (i := 8) sc_law.nd rfl (Or.inl rfl) (St.pe_sortedSet (by rfl) T.n_sorted (by rfl) T.n_set (pe_op op_cat (pe_op op_cat (pv 1) (pv 2)) (pe_lst (pa_cons (pe_def d_law_cell_at hr (by decide) (by rfl) pass0 (pa_cons (pv 0) (pa_cons pe_int pa_nil))) pa_nil)))))
      (pss_cons (ps_set (i := 9) sc_law.nd rfl (Or.inl rfl) (pe_ifExp (pt_cmpR op_lt (pe_callB (r := rLenS K) call_len_seq (by rfl) T.n_len PySem.boot_len (pa_cons (pv 8) pa_nil)) pe_int (nomark _)) (pv 8) (St.pe_stepL (pv 8) (pe_op op_fdiv (pe_callB (r := rLenS K) call_len_seq (by rfl) T.n_len PySem.boot_len (pa_cons (pv 8) pa_nil)) pe_int))))
      (pss_cons (ps_set (i := 10) sc_law.nd rfl (Or.inl rfl) (pe_lst pa_nil))
      (pss_cons (ps_for PassesOwn.never rfl (pi_list (pv 9)) (pg_name (i := 11) sc_law.nd rfl (Or.inl rfl))
        (pss_cons (ps_par (i := 12) (j := 13) rfl sc_law.nd rfl rfl (by decide) rfl rfl (pa_cons (pe_def d_above hr (by decide) (by rfl) pass0 (pa_cons (pv 1) (pa_cons (pv 11) pa_nil))) (pa_cons (pe_def d_above hr (by decide) (by rfl) pass0 (pa_cons (pv 2) (pa_cons (pv 11) pa_nil))) pa_nil)) (by rfl))
          (pss_cons (ps_if (PW.pt (pw_or (pt_cmpR op_ne (pv 12) (pe_def d_law_above hr (by decide) (by rfl) pass0 (pa_cons (pv 1) (pa_cons (pv 11) pa_nil))) (nomark _)) (pw_or1 (pt_cmpR op_ne (pv 13) (pe_def d_law_above hr (by decide) (by rfl) pass0 (pa_cons (pv 2) (pa_cons (pv 11) pa_nil))) (nomark _)))))
            (pss_cons (ps_ret pe_bl)
              pss_nil)
            pss_nil)
          (pss_cons (ps_expr (pe_bm PySem.F.plainAttrs_list PySem.F.slot_list_append PySem.F.type_list_append mt_append (pv 10) (pa_cons (pe_op op_sub (pv 12) (pv 13)) pa_nil)))
          pss_nil))))
      (pss_cut (ps_if (pt_cmpR op_eq (pe_callB (r := rSum K) (cr_sum rfl) (by rfl) T.n_sum (by decide +kernel) (pa_cons (pv 1) pa_nil)) (pe_callB (r := rSum K) (cr_sum rfl) (by rfl) T.n_sum (by decide +kernel) (pa_cons (pv 2) pa_nil)) (nomark _))
        (pss_cons (ps_set (i := 14) sc_law.nd rfl (Or.inl rfl) (pe_callB (r := rIsi K) call_isi (by rfl) T.n_isinstance (by decide +kernel) (pa_cons (pe_def d_compared hr (by decide) (by rfl) pass0 (pa_cons (pv 1) (pa_cons (pv 2) pa_nil))) (pa_cons (pe_glob (v := .ref _) rfl L.g_Gifts rfl) pa_nil))))
          (pss_cons (ps_if (PW.pt (pw_or (PW.pt (pw_and (pt_val (pv 14)) (pw_and1 (pt_cmpR op_lt (pe_callB (r := rMin K) (cr_min rfl) (by rfl) T.n_min (by decide +kernel) (pa_cons (pv 10) pa_nil)) pe_int (nomark _))))) (pw_or1 (PW.pt (pw_and (pt_cmpR (r := rEqD K) (op_eqD hr.units) (pv 9) (pv 8) (nomark _)) (pw_and1 (pt_cmpR op_ne (pv 14) (pe_cmpR op_ge (pe_callB (r := rMin K) (cr_min rfl) (by rfl) T.n_min (by decide +kernel) (pa_cons (pv 10) pa_nil)) pe_int (nomark _)) (nomark _))))))))
            (pss_cons (ps_ret pe_bl)
              pss_nil)
            pss_nil)
          pss_nil))
        pss_nil)
      (pss_cons (ps_par (i := 15) (j := 16) rfl sc_law.nd rfl rfl (by decide) rfl rfl (pa_cons (pe_lst pa_nil) (pa_cons (pe_callTy (r := rListS K) call_list_of (by rfl) T.n_list (by decide +kernel) (pa_cons (pv 1) pa_nil)) pa_nil)) (by rfl))
      (pss_cons (ps_for PassesOwn.never rfl (pi_range1 (by rfl) T.n_range (pa_cons (pe_op op_sub (pe_callB (r := rLenS K) call_len_seq (by rfl) T.n_len PySem.boot_len (pa_cons (pv 1) pa_nil)) pe_int) pa_nil)) (pg_name (i := 17) sc_law.nd rfl (Or.inl rfl))
        (pss_cons (ps_set (i := 18) sc_law.nd rfl (Or.inl rfl) (pe_def d_law_draw hr (by decide) (by rfl) pass0 (pa_cons (pe_def d_law_cell_at hr (by decide) (by rfl) pass0 (pa_cons (pv 0) (pa_cons (pv 17) pa_nil))) (pa_cons pe_int (pa_cons (pe_callB (r := rLenS K) call_len_seq (by rfl) T.n_len PySem.boot_len (pa_cons (pv 1) pa_nil)) pa_nil)))))
          (pss_cons (ps_set (i := 19) sc_law.nd rfl (Or.inl rfl) (pe_op op_add pe_int (pe_def d_law_draw hr (by decide) (by rfl) pass0 (pa_cons (pe_def d_law_cell_at hr (by decide) (by rfl) pass0 (pa_cons (pv 0) (pa_cons (pv 17) pa_nil))) (pa_cons pe_int (pa_cons pe_int pa_nil))))))
          (pss_cons (ps_set (i := 20) sc_law.nd rfl (Or.inl rfl) (pe_op op_mod (pe_op op_add (pe_op op_add (pv 18) pe_int) (pv 17)) (pe_callB (r := rLenS K) call_len_seq (by rfl) T.n_len PySem.boot_len (pa_cons (pv 1) pa_nil))))
          (pss_cons (ps_if (PW.pt (pw_and (pt_cmpR op_ne (pv 18) (pv 20) (nomark _)) (pw_and (pt_cmpR op_gt (pe_ix (r := rIxL K) ix_list (pv 16) (pv 18) (fun _ _ => rfl)) (pe_un un_neg pe_int) (nomark _)) (pw_and1 (pt_cmpR op_lt (pe_ix (r := rIxL K) ix_list (pv 16) (pv 20) (fun _ _ => rfl)) pe_int (nomark _))))))
            (pss_cons (ps_expr (pe_bm PySem.F.plainAttrs_list PySem.F.slot_list_append PySem.F.type_list_append mt_append (pv 15) (pa_cons (pe_tup (pa_cons (pv 18) (pa_cons (pv 20) (pa_cons (pv 19) pa_nil)))) pa_nil)))
              (pss_cons (ps_asg (pe_op op_sub (pe_ix (r := rIxL K) ix_list (pv 16) (pv 18) (fun _ _ => rfl)) (pv 19)) (pg_sub (pv 16) (pv 18) set_list))
              (pss_cons (ps_asg (pe_op op_add (pe_ix (r := rIxL K) ix_list (pv 16) (pv 20) (fun _ _ => rfl)) (pv 19)) (pg_sub (pv 16) (pv 20) set_list))
              pss_nil)))
            pss_nil)
          pss_nil)))))
      (pss_cons (ps_set (i := 21) sc_law.nd rfl (Or.inl rfl) (pe_callTy (r := rListS K) call_list_of (by rfl) T.n_list (by decide +kernel) (pa_cons (pv 15) pa_nil)))
      (pss_cons (ps_if (PW.pt (pw_or (pt_cmpR (r := rNeD K) (op_neD hr.units) (pe_def d_done hr (by decide) (by rfl) pass0 (pa_cons (pv 1) (pa_cons (pv 21) pa_nil))) (pv 16) (nomark _)) (pw_or (pt_cmpR (r := rNeD K) (op_neD hr.units) (pv 21) (pv 15) (nomark _)) (pw_or1 (pt_cmpR (r := rNeD K) (op_neD hr.units) (pe_def d_done hr (by decide) (by rfl) pass0 (pa_cons (pv 1) (pa_cons (pe_lst pa_nil) pa_nil))) (pv 1) (nomark _))))))
        (pss_cons (ps_ret pe_bl)
          pss_nil)
        pss_nil)
      (pss_cons (ps_expr (pe_bm PySem.F.plainAttrs_list PySem.F.slot_list_append PySem.F.type_list_append mt_append (pe_def d_done hr (by decide) (by rfl) pass0 (pa_cons (pv 1) (pa_cons (pe_lst pa_nil) pa_nil))) (pa_cons pe_int pa_nil)))
      (pss_cons (ps_ret (pe_cmpR (r := rEqD K) (op_eqD hr.units) (pe_def d_rising_sums hr (by decide) (by rfl) pass0 (pa_cons (pv 1) pa_nil)) (pv 3) (nomark _)))
      pss_nil)))))))))))))))), ?_⟩
    -- the rows
    refine Sv.go (w_asgP (P := fun x H2 => ∃ p rs, x = .ref p ∧ H2 p = some (.lst (rs.map V.int)) ∧ rs.length = ns.length + 1 ∧ Within 900000 rs) (evp_callP (ap_one (ev_var rfl).p) fun vs H1 e1 ⟨v, ev, pv⟩ Q q => ⟨a, ns, by rw [ev, pv], ex_l e1 ha, hz, fun rs h1 h2 p H2 np e2 hp => q _ H2 e2 ⟨p, rs, rfl, hp, h1, h2⟩⟩) ?_)
    rintro x H1 e1 ⟨pr, rs, rfl, hpr1, hl, hw⟩
    have hne : rs ≠ [] := fun h => by rw [h] at hl; simp at hl
    have hl64 : rs.length ≤ 64 := by omega
    have hpos : 0 < rs.length := List.length_pos_iff.mpr hne
    refine w_asgP (P := fun x H2 => ∃ p os, x = .ref p ∧ H2 p = some (.lst (os.map V.int)) ∧ os.length = rs.length ∧ Within 999990 os) (evp_callP (ap_two (ev_var rfl).p (ev_var rfl).p) fun vs H2 e2 ⟨v, z, ev, pv, pz⟩ Q q => ⟨a, pr, ns, rs, by rw [ev, pv, pz], ex_l (e1.trans e2) ha, e2 _ _ hpr1, hne, hl64, hw, fun os h1 h2 _ _ p H3 np e3 hp => q _ H3 e3 ⟨p, os, rfl, hp, h1, h2⟩⟩) ?_
    rintro x H2 e2 ⟨po, os, rfl, hpo, hol, how⟩
    have hpr := e2 _ _ hpr1
    have hone : os ≠ [] := fun h => hne (List.eq_nil_of_length_eq_zero (by rw [← hol, h]; rfl))
    have R1 : RowOk rs := rowOk_in hne hl64 (by decide) hw
    have R2 : RowOk os := rowOk_in hone (by omega) (B := 999990) (by decide) how
    have hT2 : Tabs (TL tb) H2 := hT.ext (e1.trans e2)
    have ha2 : SqL K H2 a (ns.map V.int) := ex_l (e1.trans e2) ha
    -- the sums
    refine w_parP (ap_two (el_n (el_lst (vs := []) ea_nil (by decide))) (ev_c (v := .int 0)).p) fun vs H3 e3 ⟨v, z, ev, ⟨pd, pv, npd, hpd⟩, pz⟩ => ⟨v, z, ev, ?_⟩
    cases pz
    subst pv
    refine w_forNL (el_sorted (ev_var' rfl (e3 _ _ hpr))) (fun pl i s' H' => ∃ y, s' = [some (.ref a), some (.ref pr), some (.ref po), some (.ref pd), some (.int ((srt rs).take i).sum), y, none, none, none, none, none, none, none, none, none, none, none, none, none, none, none, none] ∧ Ex H2 H' ∧ H' pl = some (.lst ((srt rs).map V.int)) ∧ H' pd = some (.lst ((runs 0 ((srt rs).take i)).map V.int)) ∧ pl ≠ pd)
      (fun pl H4 np e4 hp => ⟨none, rfl, e3.trans e4, hp, e4 _ _ hpd, (ne_of_none hpd np).symm⟩) (fun pl i s' H' hi ⟨y, _, _, hp, _⟩ => sq_of hp) ?_ ?_
    · rintro pl i x s' H' hi ⟨y, rfl, ex, hp, hf, hnp⟩
      obtain ⟨n, hn, rfl⟩ := int_at hi
      have hlt : i < (srt rs).length := (List.getElem?_eq_some_iff.mp hn).1
      rw [srt_len] at hlt
      have et : (srt rs).take (i + 1) = (srt rs).take i ++ [n] := by rw [List.take_add_one, hn]; rfl
      refine w_asg (ev_op (ev_var rfl) (ev_var rfl) rv_I0) (w_app hf (ev_var rfl) (ev_var rfl) ?_ fun H4 pt => w_nx fun H5 e5 => Exists.intro (some (.int n)) ⟨?_, (pt.ex ex npd).trans e5, e5 _ _ (pt.old _ _ hnp hp), ?_, hnp⟩)
      · rw [List.length_map, runs_len, List.length_take]
        omega
      · rw [et, List.sum_append]
        simp
      · rw [et, runs_snoc, List.map_append, e5 _ _ pt.new]
        simp
    rintro pl s' H4 ⟨y5, rfl, e4, _, hpd, _⟩
    rw [List.length_map, List.take_length] at hpd ⊢
    generalize (srt rs).sum = tot
    have hpr4 := e4 _ _ hpr
    have hpo4 := e4 _ _ hpo
    -- asked twice
    refine w_forR1 (n := 2) (ea_cons ev_c ea_nil) (by omega) (fun i s' H' => ∃ y6 y7, s' = [some (.ref a), some (.ref pr), some (.ref po), some (.ref pd), some (.int tot), y5, y6, y7, none, none, none, none, none, none, none, none, none, none, none, none, none, none] ∧ Ex H4 H') (fun H5 e5 => ⟨none, none, rfl, e5⟩) ?_ ?_
    · rintro i s' B hi ⟨y6, y7, rfl, eB⟩
      have hrB := eB _ _ hpr4
      refine w_asgL (xs := (runs 0 (srt rs)).map V.int) (el_callP (ap_one (ev_var' rfl hrB)) fun vs H5 e5 ⟨v, ev, p, pv, hp⟩ Q q => ⟨p, rs, by rw [ev, pv], hp, R1, by omega, q⟩) fun pf B1 nf e1 hpf => ?_
      have hfl : (runs 0 (srt rs)).length = rs.length := by rw [runs_len, srt_len]
      refine w_skip (et_is (et_or (et_not (et_B (b := true) (ev_call (dvs := []) (z := .bl true) (ea_cons (ev_var rfl) (ea_cons (ev_lenI rfl (e1 _ _ hrB)) ea_nil)) fun H4 e4 Q q E => ⟨_, _, _, rfl, e4 _ _ hpf, by omega, by rw [decide_eq_true (by rw [hfl])]; exact q⟩))) fun _ => et_test (ev_neL (ev_var' rfl hpf) (ev_var' rfl (e1 _ _ (eB _ _ hpd))))) ?_) ?_
      · simp
      · exact w_app hpf (ev_var rfl) ev_c (by rw [List.length_map, hfl]; omega) fun B2 p2 => w_nx fun B3 e3 => Exists.intro _ ⟨_, rfl, (eB.trans (p2.ex e1 nf)).trans e3⟩
    rintro s' H5 ⟨y6, y7, rfl, e5⟩
    have hpr5 := e5 _ _ hpr4
    have hpo5 := e5 _ _ hpo4
    have hpd5 := e5 _ _ hpd
    have e25 : Ex H2 H5 := e4.trans e5
    -- the marks
    refine w_asgP (St.evp_sortedSet (R := fun ns => ∃ c, ns = rs ++ os ++ [c]) (St.evp_catI (ns := rs ++ os) (by rw [List.map_append]; exact EvL.p (el_cat (ev_var' rfl hpr5) (ev_var' rfl hpo5) (by rw [List.length_map, List.length_map]; omega))) (evp_cell (ev_var rfl) (ex_l e25 ha2) ev_c (by omega)) (by rw [List.length_append]; omega)) (by rintro ns ⟨c, rfl⟩; simp only [List.length_append, List.length_cons, List.length_nil]; omega)) ?_
    rintro v H6 e6 ⟨pm, zs, _, rfl, npm, hpm, ⟨c, rfl⟩, hmem, hzl⟩
    have hzl2 : zs.length ≤ 129 := by simp only [List.length_append, List.length_cons, List.length_nil] at hzl; omega
    have hmr : ∀ x ∈ rs, x ∈ zs := fun x hx => (hmem x).mpr (by simp [hx])
    have hzne : zs ≠ [] := fun h => by
      have h2 := hmr _ (List.head_mem hne)
      rw [h] at h2
      cases h2
    refine w_asgP (P := fun v H2 => ∃ p fs, v = .ref p ∧ H2 p = some (.lst (fs.map V.int)) ∧ fs ≠ [] ∧ fs.length ≤ 129) (St.evp_ifB (et_test (ev_op (ev_lenI rfl hpm) ev_c rv_I0)) (fun hb => ((ev_var rfl).p).imp fun v H1 e1 ev => ⟨pm, zs, ev, e1 _ _ hpm, hzne, hzl2⟩) (fun hb => ?_)) ?_
    · have hk : ¬ (zs.length : Int) < 50 := of_decide_eq_false hb
      have hk0 : 0 < (zs.length : Int) / 25 := by omega
      refine (EvL.p (St.el_stepL (k := (zs.length : Int) / 25) (ev_var' rfl hpm) (ev_op (ev_lenI rfl hpm) ev_c (rv_I ⟨by decide, by decide⟩)) (by omega))).imp fun v H1 e1 ⟨p, ev, hp⟩ => ?_
      rw [St.pick_int] at hp
      exact ⟨p, _, ev, hp, St.pickI_ne hk0 hzne, Nat.le_trans (St.pickI_len hk0) hzl2⟩
    rintro v H7 e7 ⟨pf, fs, rfl, hpf, hfne, hfl⟩
    refine w_asgL (xs := ([] : List Int).map V.int) (el_lst ea_nil (by decide)) fun pmo H8 nmo e8 hpmo => ?_
    have e57 : Ex H5 H7 := e6.trans e7
    have hpr7 := e57 _ _ hpr5
    have hpo7 := e57 _ _ hpo5
    -- what is above each
    refine w_forL (ev_var rfl) (sq_of (e8 _ _ hpf)) (fun i s' H' => ∃ y11 y12 y13, s' = [some (.ref a), some (.ref pr), some (.ref po), some (.ref pd), some (.int tot), y5, y6, y7, some (.ref pm), some (.ref pf), some (.ref pmo), y11, y12, y13, none, none, none, none, none, none, none, none] ∧ Ex H7 H' ∧ H' pmo = some (.lst (((fs.take i).map fun t => overF rs t - overF os t).map V.int)))
      (fun H9 e9 => ⟨none, none, none, rfl, e8.trans e9, e9 _ _ hpmo⟩) (fun i s' H' hi ⟨_, _, _, _, ex, _⟩ => sq_of (ex _ _ hpf)) ?_ ?_
    · rintro i x s' H' hi ⟨y11, y12, y13, rfl, ex, hmo⟩
      obtain ⟨n, hn, rfl⟩ := int_at hi
      have hlt : i < fs.length := (List.getElem?_eq_some_iff.mp hn).1
      have et : fs.take (i + 1) = fs.take i ++ [n] := by rw [List.take_add_one, hn]; rfl
      refine w_par (x := .int (overF rs n)) (y := .int (overF os n)) (ea_cons (ev_call (dvs := []) (ea_cons (ev_var rfl) (ea_cons (ev_var rfl) ea_nil)) fun H9 e9 Q q E => ⟨_, _, _, rfl, e9 _ _ (ex _ _ hpr7), R1, by omega, q⟩) (ea_cons (ev_call (dvs := []) (ea_cons (ev_var rfl) (ea_cons (ev_var rfl) ea_nil)) fun H9 e9 Q q E => ⟨_, _, _, rfl, e9 _ _ (ex _ _ hpo7), R2, by omega, q⟩) ea_nil)) ?_
      refine w_skip (et_is (et_or (et_test (ev_op (ev_var rfl) (ev_call (dvs := []) (z := .int (overF rs n)) (ea_cons (ev_var rfl) (ea_cons (ev_var rfl) ea_nil)) fun H9 e9 Q q E => ⟨_, _, _, rfl, e9 _ _ (ex _ _ hpr7), by omega, q⟩) (rv_ne rfl))) fun _ => et_test (ev_op (ev_var rfl) (ev_call (dvs := []) (z := .int (overF os n)) (ea_cons (ev_var rfl) (ea_cons (ev_var rfl) ea_nil)) fun H9 e9 Q q E => ⟨_, _, _, rfl, e9 _ _ (ex _ _ hpo7), by omega, q⟩) (rv_ne rfl))) ?_) ?_
      · simp
      · refine w_app hmo (ev_var rfl) (ev_op (ev_var rfl) (ev_var rfl) rv_I0) (by rw [List.length_map, List.length_map, List.length_take]; omega) fun H9 p9 => w_nx fun H10 e10 => Exists.intro _ ⟨_, _, rfl, (p9.ex ex nmo).trans e10, ?_⟩
        rw [e10 _ _ p9.new, et, List.map_append, List.map_append]
        rfl
    rintro s' H9 ⟨y11, y12, y13, rfl, e9, hmo⟩
    rw [List.length_map, List.take_length] at hmo
    have e29 : Ex H2 H9 := (e25.trans e57).trans e9
    have hpr9 := e29 _ _ hpr
    have hpo9 := e29 _ _ hpo
    have hpd9 := e9 _ _ (e57 _ _ hpd5)
    have hpf9 := e9 _ _ hpf
    have hpm9 := e9 _ _ (e7 _ _ hpm)
    have hT9 := hT2.ext e29
    -- whether gifts lead
    refine w_cut (fun s' B => ∃ y14, s' = [some (.ref a), some (.ref pr), some (.ref po), some (.ref pd), some (.int tot), y5, y6, y7, some (.ref pm), some (.ref pf), some (.ref pmo), y11, y12, y13, y14, none, none, none, none, none, none, none] ∧ ExT (TL tb) H9 B) (w_if0 (et_test (ev_op (ev_sum (ev_var' rfl hpr9)) (ev_sum (ev_var' rfl hpo9)) (rv_eq rfl))) (fun hb => ?_) fun _ => w_nx fun B e => ⟨none, rfl, .of e⟩) ?_
    · have hsm : rs.sum = os.sum := by
        rw [int_eq] at hb
        exact of_decide_eq_true hb
      have hnn := topF_nn (a := srtD rs) (b := srtD os) (by rw [srtD_len, srtD_len, hol])
      obtain ⟨t, hk, hty⟩ : ∃ t : Value, PySem.W.kitOne K t (.ref G) = some (decide (topF (srtD rs) (srtD os) = 0)) ∧ ∀ p H, AnsAt G M W p H (cmpF rs os) → TyX K H (.ref p) t := by
        unfold cmpF
        rw [if_pos hsm]
        by_cases ht : topF (srtD rs) (srtD os) = 0
        · rw [decide_eq_true ht, if_neg (by omega)]
          exact ⟨.ref G, L.kGG, fun p H h => let ⟨dx, l, hp, _⟩ := h; .base (.ins hp L.fG.cl L.fG.ha L.hn L.htk L.fG.hm)⟩
        · rw [decide_eq_false ht, if_pos (by omega)]
          exact ⟨.ref M, L.kMG, fun p H h => let ⟨dx, hp⟩ := h; .base (.ins hp L.fM.cl L.fM.ha L.hn L.htk L.fM.hm)⟩
      refine w_asgT (T := TL tb) (P := Is (.bl (decide (topF (srtD rs) (srtD os) = 0)))) (evpt_isi (P := fun v H3 => ∃ p, v = .ref p ∧ AnsAt G M W p H3 (cmpF rs os)) (evpt_call (ap_two (ev_var rfl).p (ev_var rfl).p) fun vs H3 e3 ⟨v, z, ev, pv, pz⟩ Q q => ⟨pr, po, rs, os, by rw [ev, pv, pz], e3 _ _ hpr9, e3 _ _ hpo9, R1, R2, by omega, hol, hT9.ext e3, fun p H4 e4 an => q _ H4 e4 ⟨p, rfl, an.at⟩⟩) (fun _ _ => ev_c) (.own G) (fun v H1 ⟨p, ev, an⟩ => by rw [ev]; exact hty p H1 an) hk) ?_
      rintro v B e rfl
      have hmne : (fs.map fun t => overF rs t - overF os t) ≠ [] := by simpa using hfne
      refine w_skip (et_is (et_or (et_and (et_B (ev_var rfl)) fun _ => et_test (ev_op (ev_min (ev_var' rfl (e.lst hmo)) hmne) ev_c rv_I0)) fun _ => et_and (et_test (ev_eqL (ev_var' rfl (e.lst hpf9)) (ev_var' rfl (e.lst hpm9)))) fun _ => et_test (ev_op (ev_var rfl) (ev_op (ev_min (ev_var' rfl (e.lst hmo)) hmne) ev_c rv_I0) (rv_ne rfl))) ?_) (w_nx fun B2 e2 => ⟨_, rfl, e.ex e2⟩)
      rw [bl_ne]
      exact marks_right hol hsm hfne hmr rfl rfl
    rintro s' B ⟨y14, rfl, eB⟩
    have hprB := eB.lst hpr9
    have hpdB := eB.lst hpd9
    have haB : SqL K B a (ns.map V.int) := eB.sq (ex_l e29 ha2)
    -- gifts, fair or not
    refine w_parP (St.ap_twoL (el_lst (vs := []) ea_nil (by decide)) (el_listL (ev_var' rfl hprB))) ?_
    rintro vs C eC ⟨pg, pn, rfl, npg, npn, hgn, hpg, hpn⟩
    refine ⟨_, _, rfl, ?_⟩
    refine w_forR1 (n := (rs.length : Int) - 1) (ea_cons (ev_op (ev_lenI rfl (eC _ _ hprB)) ev_c rv_I0) ea_nil) (by omega) (fun i s' H' => ∃ y17 y18 y19 y20 gs, s' = [some (.ref a), some (.ref pr), some (.ref po), some (.ref pd), some (.int tot), y5, y6, y7, some (.ref pm), some (.ref pf), some (.ref pmo), y11, y12, y13, y14, some (.ref pg), some (.ref pn), y17, y18, y19, y20, none] ∧ Ex B H' ∧ GsAt gs pg H' ∧ H' pn = some (.lst ((runT rs gs).map V.int)) ∧ gs.length ≤ i ∧ (∀ g ∈ gs, gOk rs.length g = true) ∧ ∀ j, Within 900009 (runT rs (gs.take j)))
      (fun H3 e3 => ⟨none, none, none, none, [], rfl, eC.trans e3, ⟨[], e3 _ _ hpg, .nil⟩, e3 _ _ hpn, Nat.le_refl _, (fun g hg => by cases hg), fun j x hx => by rw [List.take_nil] at hx; have := hw x hx; omega⟩) ?_ ?_
    · rintro i s' H' hi ⟨y17, y18, y19, y20, gs, rfl, ex, ⟨vg, hvg, tg⟩, hxs, hgl, hgo, hgw⟩
      refine w_asgP (P := IsI fun d => 0 ≤ d ∧ d < (rs.length : Int)) (evp_draw (evp_cell (ev_var rfl) (ex_l ex haB) (ev_var rfl) (by omega)) (ev_i ev_c trivial) (ev_lenI rfl (ex _ _ hprB)) (by omega)) ?_
      rintro v H3 e3 ⟨ga, rfl, ga0, ga1⟩
      refine w_asgP (P := IsI fun d => 1 ≤ d ∧ d ≤ 9) (evp_int (p := fun i => i = 1) (q := fun d => 0 ≤ d ∧ d < 9) (ev_i ev_c rfl) (evp_draw (evp_cell (ev_var rfl) (ex_l (ex.trans e3) haB) (ev_var rfl) (by omega)) (ev_i ev_c trivial) ev_c (by omega)) fun i j h1 h2 => ⟨by omega, by omega⟩) ?_
      rintro v H4 e4 ⟨am, rfl, am0, am1⟩
      have ex4 := (ex.trans e3).trans e4
      have hxs4 := e4 _ _ (e3 _ _ hxs)
      have hvg4 := e4 _ _ (e3 _ _ hvg)
      have tg4 := tg.ex (e3.trans e4)
      refine w_asg (v := .int ((ga + 1 + (i : Int)) % (rs.length : Int))) (ev_op (ev_op (ev_op (ev_var rfl) ev_c rv_I0) (ev_var rfl) rv_I0) (ev_lenI rfl (ex4 _ _ hprB)) (rv_I (by omega))) ?_
      have gb0 : 0 ≤ (ga + 1 + (i : Int)) % (rs.length : Int) := Int.emod_nonneg _ (by omega)
      have gb1 : (ga + 1 + (i : Int)) % (rs.length : Int) < (rs.length : Int) := Int.emod_lt_of_pos _ (by omega)
      generalize (ga + 1 + (i : Int)) % (rs.length : Int) = gb at gb0 gb1
      obtain ⟨na, rfl⟩ := Int.eq_ofNat_of_zero_le ga0
      obtain ⟨nb, rfl⟩ := Int.eq_ofNat_of_zero_le gb0
      have hxl := runT_len rs gs
      have hxw := hgw gs.length
      rw [List.take_length] at hxw
      generalize hrx : runT rs gs = xs at hxs4 hxl hxw
      have lna : na < xs.length := by omega
      have lnb : nb < xs.length := by omega
      refine w_when (et_and (et_test (ev_op (ev_var rfl) (ev_var rfl) (rv_ne rfl))) fun _ => et_and (et_test (ev_op (ev_ixL (ev_var' rfl hxs4) (ev_var rfl) (atI_nat (int_at2 lna))) (ev_un ev_c ru_neg) rv_I0)) fun _ => et_test (ev_op (ev_ixL (ev_var' rfl hxs4) (ev_var rfl) (atI_nat (int_at2 lnb))) ev_c rv_I0)) (fun hb => ?_) fun hb => w_nx fun H5 e5 => Exists.intro _ ⟨_, _, _, gs, rfl, ex4.trans e5, ⟨vg, e5 _ _ hvg4, tg4.ex e5⟩, by rw [hrx]; exact e5 _ _ hxs4, by omega, hgo, hgw⟩
      rw [int_ne] at hb
      simp only [Bool.and_eq_true, Bool.not_eq_true', decide_eq_false_iff_not, decide_eq_true_eq] at hb
      obtain ⟨h1, h2, h3⟩ := hb
      have hnab : na ≠ nb := fun e => h1 (by rw [e])
      have hvl : vg.length = gs.length := by rw [tg.1, List.length_map]
      refine w_appU hvg4 (ev_var rfl) (eu_tup (ea_cons (ev_var rfl) (ea_cons (ev_var rfl) (ea_cons (ev_var rfl) ea_nil))) (by show 3 ≤ 100000; decide)) (by omega) fun r H5 nr hr5 p5 => ?_
      have ex5 := p5.ex ex4 npg
      have hxs5 := p5.old _ _ hgn.symm hxs4
      have tg5 := (tg4.put hvg4 p5).snoc (t := tupV ((na : Int), (nb : Int), am)) hr5
      refine w_setL hxs5 (ev_op (ev_ixL (ev_var' rfl hxs5) (ev_var rfl) (atI_nat (int_at2 lna))) (ev_var rfl) rv_I0) (ev_var rfl) (ev_var rfl) (by rw [List.length_map]; exact lna) fun H6 p6 => ?_
      have ex6 := p6.ex ex5 npn
      have s1 : (xs.map V.int).set na (.int (xs.getD na 0 - am)) = (step1 xs ((na : Int), (nb : Int), am)).map V.int := by
        show _ = (xs.set (na : Int).toNat _).map V.int
        rw [List.map_set]
        rfl
      have hxs6 := p6.new
      rw [s1] at hxs6
      have l1 : (step1 xs ((na : Int), (nb : Int), am)).length = xs.length := by simp [step1]
      refine w_setL hxs6 (ev_op (ev_ixL (ev_var' rfl hxs6) (ev_var rfl) (atI_nat (int_at2 (by omega)))) (ev_var rfl) rv_I0) (ev_var rfl) (ev_var rfl) (by rw [List.length_map]; omega) fun H7 p7 => w_nx (fun H8 e8 => w_nx (fun H9 e9 => ?_) H8 (Ex.refl _))
      have ex7 := p7.ex ex6 npn
      have s2 : ((step1 xs ((na : Int), (nb : Int), am)).map V.int).set nb (.int ((step1 xs ((na : Int), (nb : Int), am)).getD nb 0 + am)) = (stepL xs ((na : Int), (nb : Int), am)).map V.int := by
        show _ = ((step1 xs ((na : Int), (nb : Int), am)).set (nb : Int).toNat _).map V.int
        rw [List.map_set]
        rfl
      have hxs7 := p7.new
      rw [s2] at hxs7
      have e89 := e8.trans e9
      have hvg7 := p7.old _ _ hgn (p6.old _ _ hgn p5.new)
      have tg7 := ((tg5.put hxs5 p6).put hxs6 p7).ex e89
      refine Exists.intro _ ⟨_, _, _, gs ++ [((na : Int), (nb : Int), am)], rfl, ex7.trans e89, ⟨_, e89 _ _ hvg7, by rw [List.map_append]; exact tg7⟩, ?_, by simp only [List.length_append, List.length_cons, List.length_nil]; omega, fun g hg => ?_, fun j => ?_⟩
      · rw [runT_snoc, hrx]
        exact e89 _ _ hxs7
      · rcases List.mem_append.mp hg with hg | hg
        · exact hgo g hg
        · rw [List.mem_singleton.mp hg]
          exact decide_eq_true ⟨by simp only; omega, by simp only; omega, by simp only; omega, by simp only; omega, by simp only; omega, by simp only; omega⟩
      · by_cases hj : j ≤ gs.length
        · rw [List.take_append_of_le_length hj]
          exact hgw j
        · rw [List.take_of_length_le (by simp only [List.length_append, List.length_cons, List.length_nil]; omega), runT_snoc, hrx]
          exact stepL_within hxw lna lnb hnab am0 am1 h2 h3
    rintro s' C1 ⟨y17, y18, y19, y20, gs, rfl, eC1, hgs, hxs, hgl, hgo, hgw⟩
    obtain ⟨vg, hvg, tg⟩ := hgs
    have hvl : vg.length = gs.length := by rw [tg.1, List.length_map]
    refine w_asgL (el_listL (ev_var' rfl hvg)) fun ph C2 nph e2 hph => ?_
    have hpr2 := e2 _ _ (eC1 _ _ hprB)
    have hxs2 := e2 _ _ hxs
    have hG2 : GsAt gs ph C2 := ⟨vg, hph, tg.ex e2⟩
    have hG1 : GsAt gs pg C2 := ⟨vg, e2 _ _ hvg, tg.ex e2⟩
    have sh9 : ∀ {l : List Int}, Within 900009 l → ∀ x ∈ l, isSh x = true := fun h x hx => isSh_iff.mpr (by have := h x hx; omega)
    have none2 : ∀ {s : L2.St} {E : XK}, s[1]? = some (some (.ref pr)) → EvL (tCall spDone [] E (tCons (tVar 1) (tCons (tLst tNil) tNil))) s C2 (rs.map V.int) := fun {s E} h1 =>
      el_callP (ap_two (ev_var' h1 hpr2) (EvL.p (el_lst (vs := []) ea_nil (by decide)))) fun vs H1 e1 ⟨v, z, ev, ⟨p, pv, hp⟩, ⟨p2, pz, hp2⟩⟩ Q q => ⟨p, p2, rs, [], by rw [ev, pv, pz], hp, R1, ⟨[], hp2, .nil⟩, by decide, (fun g hg => by cases hg), (fun i x hx => by rw [List.take_nil] at hx; exact R1.2.1 x hx), q⟩
    refine w_skip (et_is (et_or (et_test (ev_neL (a := runT rs gs) (EvL.p (el_callP (ap_two (ev_var rfl).p (ev_var rfl).p) fun vs H1 e1 ⟨v, z, ev, pv, pz⟩ Q q => ⟨pr, ph, rs, gs, by rw [ev, pv, pz], e1 _ _ hpr2, R1, hG2.ext (ExtN.of e1), by omega, hgo, fun i => sh9 (hgw i), q⟩)) (ev_var' rfl hxs2))) fun _ => et_or (et_test (ev_neD ((ev_var rfl).p.imp fun v H1 e1 ev => by rw [ev]; exact dG_at (hG2.ext (ExtN.of e1))) ((ev_var rfl).p.imp fun v H1 e1 ev => by rw [ev]; exact dG_at (hG1.ext (ExtN.of e1))) (dG_shaped gs) (dG_shaped gs))) fun _ => et_test (ev_neL (none2 rfl).p (ev_var' rfl hpr2))) ?_) ?_
    · rw [dG_eqv]
      simp
    · refine St.w_appN (none2 rfl) ev_c (by rw [List.length_map]; omega) ?_
      refine w_ret (v := .bl true) (ev_is (ev_eqL (a := runs 0 (srt rs)) (EvL.p (el_callP (ap_one (ev_var' rfl hpr2)) fun vs H5 e5 ⟨v, ev, p, pv, hp⟩ Q q => ⟨p, rs, by rw [ev, pv], hp, R1, by omega, q⟩)) (ev_var' rfl (e2 _ _ (eC1 _ _ hpdB)))) ?_) fun H9 e9 => q H9
      rw [decide_eq_true rfl]
end
end Ev

set_option Elab.async false
set_option linter.all false
set_option maxRecDepth 100000
set_option maxHeartbeats 4000000
namespace Ev
open PySem PySem.Spec L2 Evl Wk LamX Sk
theorem all_mk {l : PySem.W.OpenLaw} {w : World} {K : PySem.W.Frag} {h : Heap} {mg : Str → Option Value} {fa cA cG cM cW cT tb : Addr} (X : K.In h) (G : h.Ns mainGlobals mg) (hfa : mg "law" = some (.ref fa))
    {f0 : Addr} {od0 an0 : Option Addr} {sl0 : Array (Option Value)} {oc0 kV0 dc0 pm0 cd0 ct0 : Value}
    {f1 : Addr} {od1 an1 : Option Addr} {sl1 : Array (Option Value)} {oc1 kV1 dc1 pm1 cd1 ct1 : Value}
    {f2 : Addr} {od2 an2 : Option Addr} {sl2 : Array (Option Value)} {oc2 kV2 dc2 pm2 cd2 ct2 : Value}
    {f3 : Addr} {od3 an3 : Option Addr} {sl3 : Array (Option Value)} {oc3 kV3 dc3 pm3 cd3 ct3 : Value}
    {f4 : Addr} {od4 an4 : Option Addr} {sl4 : Array (Option Value)} {oc4 kV4 dc4 pm4 cd4 ct4 : Value}
    {f5 : Addr} {od5 an5 : Option Addr} {sl5 : Array (Option Value)} {oc5 kV5 dc5 pm5 ct5 : Value}
    {f6 : Addr} {od6 an6 : Option Addr} {sl6 : Array (Option Value)} {oc6 kV6 dc6 pm6 cd6 ct6 : Value}
    {f7 : Addr} {od7 an7 : Option Addr} {sl7 : Array (Option Value)} {oc7 kV7 dc7 pm7 cd7 ct7 : Value}
    {f8 : Addr} {od8 an8 : Option Addr} {sl8 : Array (Option Value)} {oc8 kV8 dc8 pm8 cd8 ct8 : Value}
    {f9 : Addr} {od9 an9 : Option Addr} {sl9 : Array (Option Value)} {oc9 kV9 dc9 pm9 cd9 ct9 : Value}
    {f10 : Addr} {od10 an10 : Option Addr} {sl10 : Array (Option Value)} {oc10 kV10 dc10 pm10 cd10 ct10 : Value}
    {f11 : Addr} {od11 an11 : Option Addr} {sl11 : Array (Option Value)} {oc11 kV11 dc11 pm11 cd11 ct11 : Value}
    {f12 : Addr} {od12 an12 : Option Addr} {sl12 : Array (Option Value)} {oc12 kV12 dc12 pm12 cd12 ct12 : Value}
    {f13 : Addr} {od13 an13 : Option Addr} {sl13 : Array (Option Value)} {oc13 kV13 dc13 pm13 cd13 ct13 : Value}
    {f14 : Addr} {od14 an14 : Option Addr} {sl14 : Array (Option Value)} {oc14 kV14 dc14 pm14 cd14 ct14 : Value}
    {f15 : Addr} {od15 an15 : Option Addr} {sl15 : Array (Option Value)} {oc15 kV15 dc15 pm15 cd15 ct15 : Value}
    {f16 : Addr} {od16 an16 : Option Addr} {sl16 : Array (Option Value)} {oc16 kV16 dc16 pm16 cd16 ct16 : Value}
    {f17 : Addr} {od17 an17 : Option Addr} {sl17 : Array (Option Value)} {oc17 kV17 dc17 pm17 cd17 ct17 : Value}
    {f18 : Addr} {od18 an18 : Option Addr} {sl18 : Array (Option Value)} {oc18 kV18 dc18 pm18 cd18 ct18 : Value}
    {f19 : Addr} {od19 an19 : Option Addr} {sl19 : Array (Option Value)} {oc19 kV19 dc19 pm19 cd19 ct19 : Value}
    {f20 : Addr} {od20 an20 : Option Addr} {sl20 : Array (Option Value)} {oc20 kV20 dc20 pm20 cd20 ct20 : Value}
    {f21 : Addr} {od21 an21 : Option Addr} {sl21 : Array (Option Value)} {oc21 kV21 dc21 pm21 cd21 ct21 : Value}
    {f22 : Addr} {od22 an22 : Option Addr} {sl22 : Array (Option Value)} {oc22 kV22 dc22 pm22 cd22 ct22 : Value}
    {t_GREATEST : Tok}
    (g_Answer : PySem.W.nsIn K mainGlobals "Answer" = some (some (.ref cA)))
    (g_Gifts : PySem.W.nsIn K mainGlobals "Gifts" = some (some (.ref cG)))
    (g_Top : PySem.W.nsIn K mainGlobals "Top" = some (some (.ref cM)))
    (g_Wholes : PySem.W.nsIn K mainGlobals "Wholes" = some (some (.ref cW)))
    (pgG : PySem.W.plainGet K cG Str.empty = true)
    (hdG : PySem.W.hasDictIn K cG = true)
    (poG : PySem.W.plainOver K cG = true)
    (saG : PySem.W.findIn K (.ref cG) "__setattr__" = some (some (.builtin "object.__setattr__")))
    (haG : PySem.W.findIn K (.ref cG) "__class__" = some (some (.builtin "object.__class__")))
    (hmG : PySem.W.mroIn K cG (.type "object") = some true)
    (mkG : PySem.W.makesIn K cG = true)
    (kcG : PySem.W.keepIn K (.ref cG) = true)
    (kGA : PySem.W.kitOne K (.ref cG) (.ref cA) = some true)
    (kGG : PySem.W.kitOne K (.ref cG) (.ref cG) = some true)
    (kGM : PySem.W.kitOne K (.ref cG) (.ref cM) = some false)
    (kGW : PySem.W.kitOne K (.ref cG) (.ref cW) = some false)
    (pgM : PySem.W.plainGet K cM Str.empty = true)
    (hdM : PySem.W.hasDictIn K cM = true)
    (poM : PySem.W.plainOver K cM = true)
    (saM : PySem.W.findIn K (.ref cM) "__setattr__" = some (some (.builtin "object.__setattr__")))
    (haM : PySem.W.findIn K (.ref cM) "__class__" = some (some (.builtin "object.__class__")))
    (hmM : PySem.W.mroIn K cM (.type "object") = some true)
    (mkM : PySem.W.makesIn K cM = true)
    (kcM : PySem.W.keepIn K (.ref cM) = true)
    (kMA : PySem.W.kitOne K (.ref cM) (.ref cA) = some true)
    (kMG : PySem.W.kitOne K (.ref cM) (.ref cG) = some false)
    (kMM : PySem.W.kitOne K (.ref cM) (.ref cM) = some true)
    (kMW : PySem.W.kitOne K (.ref cM) (.ref cW) = some false)
    (pgW : PySem.W.plainGet K cW Str.empty = true)
    (hdW : PySem.W.hasDictIn K cW = true)
    (poW : PySem.W.plainOver K cW = true)
    (saW : PySem.W.findIn K (.ref cW) "__setattr__" = some (some (.builtin "object.__setattr__")))
    (haW : PySem.W.findIn K (.ref cW) "__class__" = some (some (.builtin "object.__class__")))
    (hmW : PySem.W.mroIn K cW (.type "object") = some true)
    (mkW : PySem.W.makesIn K cW = true)
    (kcW : PySem.W.keepIn K (.ref cW) = true)
    (kWA : PySem.W.kitOne K (.ref cW) (.ref cA) = some true)
    (kWG : PySem.W.kitOne K (.ref cW) (.ref cG) = some false)
    (kWM : PySem.W.kitOne K (.ref cW) (.ref cM) = some false)
    (kWW : PySem.W.kitOne K (.ref cW) (.ref cW) = some true)
    (hn : PySem.W.specialIn K (.builtin "object.__class__") "__get__" = some (some (.builtin "getset_descriptor.__get__")))
    (htk : PySem.W.takesIn K (.builtin "object.__class__") = some true)
    (nG : PySem.W.findIn K (.ref cG) "gifts" = some none)
    (nM : PySem.W.findIn K (.ref cM) "many" = some none)
    (nW1 : PySem.W.findIn K (.ref cW) "one" = some none)
    (nW2 : PySem.W.findIn K (.ref cW) "other" = some none)
    (a0 : PySem.W.nsIn K mainGlobals "is_whole" = some (some (.ref f0)))
    (l0 : K.lookup f0 = some ⟨oc0, od0, .func (PySem.W.fnOf "is_whole" "is_whole" (defArgs s_is_whole) (defBody s_is_whole) (defScope s_is_whole) .none kV0 dc0 pm0 an0 cd0 ct0), sl0⟩)
    (c0 : PySem.W.codeIn K cd0 "is_whole" = true)
    (k0 : PySem.W.keepIn K (.ref f0) = true)
    (a1 : PySem.W.nsIn K mainGlobals "is_share" = some (some (.ref f1)))
    (l1 : K.lookup f1 = some ⟨oc1, od1, .func (PySem.W.fnOf "is_share" "is_share" (defArgs s_is_share) (defBody s_is_share) (defScope s_is_share) .none kV1 dc1 pm1 an1 cd1 ct1), sl1⟩)
    (c1 : PySem.W.codeIn K cd1 "is_share" = true)
    (k1 : PySem.W.keepIn K (.ref f1) = true)
    (a2 : PySem.W.nsIn K mainGlobals "check_row" = some (some (.ref f2)))
    (l2 : K.lookup f2 = some ⟨oc2, od2, .func (PySem.W.fnOf "check_row" "check_row" (defArgs s_check_row) (defBody s_check_row) (defScope s_check_row) .none kV2 dc2 pm2 an2 cd2 ct2), sl2⟩)
    (c2 : PySem.W.codeIn K cd2 "check_row" = true)
    (k2 : PySem.W.keepIn K (.ref f2) = true)
    (a3 : PySem.W.nsIn K mainGlobals "running" = some (some (.ref f3)))
    (l3 : K.lookup f3 = some ⟨oc3, od3, .func (PySem.W.fnOf "running" "running" (defArgs s_running) (defBody s_running) (defScope s_running) .none kV3 dc3 pm3 an3 cd3 ct3), sl3⟩)
    (c3 : PySem.W.codeIn K cd3 "running" = true)
    (k3 : PySem.W.keepIn K (.ref f3) = true)
    (a4 : PySem.W.nsIn K mainGlobals "over" = some (some (.ref f4)))
    (l4 : K.lookup f4 = some ⟨oc4, od4, .func (PySem.W.fnOf "over" "over" (defArgs s_over) (defBody s_over) (defScope s_over) .none kV4 dc4 pm4 an4 cd4 ct4), sl4⟩)
    (c4 : PySem.W.codeIn K cd4 "over" = true)
    (k4 : PySem.W.keepIn K (.ref f4) = true)
    (a5 : PySem.W.nsIn K mainGlobals "gifts_to" = some (some (.ref f5)))
    (l5 : K.lookup f5 = some ⟨oc5, od5, .func (PySem.W.fnOf "gifts_to" "gifts_to" (defArgs s_gifts_to) (defBody s_gifts_to) (defScope s_gifts_to) .none kV5 dc5 pm5 an5 (.ref cT) ct5), sl5⟩)
    (c5 : PySem.W.codeIn K (.ref cT) "gifts_to" = true)
    (k5 : PySem.W.keepIn K (.ref f5) = true)
    (a6 : PySem.W.findIn K (.ref cG) "__init__" = some (some (.ref f6)))
    (i6 : PySem.W.isFn K (.ref f6) = true)
    (l6 : K.lookup f6 = some ⟨oc6, od6, .func (PySem.W.fnOf "__init__" "Gifts.__init__" (defArgs s_Gifts___init__) (defBody s_Gifts___init__) (defScope s_Gifts___init__) .none kV6 dc6 pm6 an6 cd6 ct6), sl6⟩)
    (c6 : PySem.W.codeIn K cd6 "Gifts.__init__" = true)
    (k6 : PySem.W.keepIn K (.ref f6) = true)
    (a7 : PySem.W.findIn K (.ref cM) "__init__" = some (some (.ref f7)))
    (i7 : PySem.W.isFn K (.ref f7) = true)
    (l7 : K.lookup f7 = some ⟨oc7, od7, .func (PySem.W.fnOf "__init__" "Top.__init__" (defArgs s_Top___init__) (defBody s_Top___init__) (defScope s_Top___init__) .none kV7 dc7 pm7 an7 cd7 ct7), sl7⟩)
    (c7 : PySem.W.codeIn K cd7 "Top.__init__" = true)
    (k7 : PySem.W.keepIn K (.ref f7) = true)
    (a8 : PySem.W.findIn K (.ref cW) "__init__" = some (some (.ref f8)))
    (i8 : PySem.W.isFn K (.ref f8) = true)
    (l8 : K.lookup f8 = some ⟨oc8, od8, .func (PySem.W.fnOf "__init__" "Wholes.__init__" (defArgs s_Wholes___init__) (defBody s_Wholes___init__) (defScope s_Wholes___init__) .none kV8 dc8 pm8 an8 cd8 ct8), sl8⟩)
    (c8 : PySem.W.codeIn K cd8 "Wholes.__init__" = true)
    (k8 : PySem.W.keepIn K (.ref f8) = true)
    (a9 : PySem.W.nsIn K mainGlobals "is_gift" = some (some (.ref f9)))
    (l9 : K.lookup f9 = some ⟨oc9, od9, .func (PySem.W.fnOf "is_gift" "is_gift" (defArgs s_is_gift) (defBody s_is_gift) (defScope s_is_gift) .none kV9 dc9 pm9 an9 cd9 ct9), sl9⟩)
    (c9 : PySem.W.codeIn K cd9 "is_gift" = true)
    (k9 : PySem.W.keepIn K (.ref f9) = true)
    (a10 : PySem.W.nsIn K mainGlobals "rising_sums" = some (some (.ref f10)))
    (l10 : K.lookup f10 = some ⟨oc10, od10, .func (PySem.W.fnOf "rising_sums" "rising_sums" (defArgs s_rising_sums) (defBody s_rising_sums) (defScope s_rising_sums) .none kV10 dc10 pm10 an10 cd10 ct10), sl10⟩)
    (c10 : PySem.W.codeIn K cd10 "rising_sums" = true)
    (k10 : PySem.W.keepIn K (.ref f10) = true)
    (a11 : PySem.W.nsIn K mainGlobals "above" = some (some (.ref f11)))
    (l11 : K.lookup f11 = some ⟨oc11, od11, .func (PySem.W.fnOf "above" "above" (defArgs s_above) (defBody s_above) (defScope s_above) .none kV11 dc11 pm11 an11 cd11 ct11), sl11⟩)
    (c11 : PySem.W.codeIn K cd11 "above" = true)
    (k11 : PySem.W.keepIn K (.ref f11) = true)
    (a12 : PySem.W.nsIn K mainGlobals "done" = some (some (.ref f12)))
    (l12 : K.lookup f12 = some ⟨oc12, od12, .func (PySem.W.fnOf "done" "done" (defArgs s_done) (defBody s_done) (defScope s_done) .none kV12 dc12 pm12 an12 cd12 ct12), sl12⟩)
    (c12 : PySem.W.codeIn K cd12 "done" = true)
    (k12 : PySem.W.keepIn K (.ref f12) = true)
    (a13 : PySem.W.nsIn K mainGlobals "_law_cell_at" = some (some (.ref f13)))
    (l13 : K.lookup f13 = some ⟨oc13, od13, .func (PySem.W.fnOf "_law_cell_at" "_law_cell_at" (defArgs s_law_cell_at) (defBody s_law_cell_at) (defScope s_law_cell_at) .none kV13 dc13 pm13 an13 cd13 ct13), sl13⟩)
    (c13 : PySem.W.codeIn K cd13 "_law_cell_at" = true)
    (k13 : PySem.W.keepIn K (.ref f13) = true)
    (a14 : PySem.W.nsIn K mainGlobals "_law_draw" = some (some (.ref f14)))
    (l14 : K.lookup f14 = some ⟨oc14, od14, .func (PySem.W.fnOf "_law_draw" "_law_draw" (defArgs s_law_draw) (defBody s_law_draw) (defScope s_law_draw) .none kV14 dc14 pm14 an14 cd14 ct14), sl14⟩)
    (c14 : PySem.W.codeIn K cd14 "_law_draw" = true)
    (k14 : PySem.W.keepIn K (.ref f14) = true)
    (a15 : PySem.W.nsIn K mainGlobals "_law_row" = some (some (.ref f15)))
    (l15 : K.lookup f15 = some ⟨oc15, od15, .func (PySem.W.fnOf "_law_row" "_law_row" (defArgs s_law_row) (defBody s_law_row) (defScope s_law_row) .none kV15 dc15 pm15 an15 cd15 ct15), sl15⟩)
    (c15 : PySem.W.codeIn K cd15 "_law_row" = true)
    (k15 : PySem.W.keepIn K (.ref f15) = true)
    (a16 : PySem.W.nsIn K mainGlobals "check_two" = some (some (.ref f16)))
    (l16 : K.lookup f16 = some ⟨oc16, od16, .func (PySem.W.fnOf "check_two" "check_two" (defArgs s_check_two) (defBody s_check_two) (defScope s_check_two) .none kV16 dc16 pm16 an16 cd16 ct16), sl16⟩)
    (c16 : PySem.W.codeIn K cd16 "check_two" = true)
    (k16 : PySem.W.keepIn K (.ref f16) = true)
    (a17 : PySem.W.nsIn K mainGlobals "top_of" = some (some (.ref f17)))
    (l17 : K.lookup f17 = some ⟨oc17, od17, .func (PySem.W.fnOf "top_of" "top_of" (defArgs s_top_of) (defBody s_top_of) (defScope s_top_of) .none kV17 dc17 pm17 an17 cd17 ct17), sl17⟩)
    (c17 : PySem.W.codeIn K cd17 "top_of" = true)
    (k17 : PySem.W.keepIn K (.ref f17) = true)
    (a18 : PySem.W.nsIn K mainGlobals "compared" = some (some (.ref f18)))
    (l18 : K.lookup f18 = some ⟨oc18, od18, .func (PySem.W.fnOf "compared" "compared" (defArgs s_compared) (defBody s_compared) (defScope s_compared) .none kV18 dc18 pm18 an18 cd18 ct18), sl18⟩)
    (c18 : PySem.W.codeIn K cd18 "compared" = true)
    (k18 : PySem.W.keepIn K (.ref f18) = true)
    (a19 : PySem.W.nsIn K mainGlobals "_law_other" = some (some (.ref f19)))
    (l19 : K.lookup f19 = some ⟨oc19, od19, .func (PySem.W.fnOf "_law_other" "_law_other" (defArgs s_law_other) (defBody s_law_other) (defScope s_law_other) .none kV19 dc19 pm19 an19 cd19 ct19), sl19⟩)
    (c19 : PySem.W.codeIn K cd19 "_law_other" = true)
    (k19 : PySem.W.keepIn K (.ref f19) = true)
    (a20 : PySem.W.nsIn K mainGlobals "_law_numbers" = some (some (.ref f20)))
    (l20 : K.lookup f20 = some ⟨oc20, od20, .func (PySem.W.fnOf "_law_numbers" "_law_numbers" (defArgs s_law_numbers) (defBody s_law_numbers) (defScope s_law_numbers) .none kV20 dc20 pm20 an20 cd20 ct20), sl20⟩)
    (c20 : PySem.W.codeIn K cd20 "_law_numbers" = true)
    (k20 : PySem.W.keepIn K (.ref f20) = true)
    (a21 : PySem.W.nsIn K mainGlobals "_law_above" = some (some (.ref f21)))
    (l21 : K.lookup f21 = some ⟨oc21, od21, .func (PySem.W.fnOf "_law_above" "_law_above" (defArgs s_law_above) (defBody s_law_above) (defScope s_law_above) .none kV21 dc21 pm21 an21 cd21 ct21), sl21⟩)
    (c21 : PySem.W.codeIn K cd21 "_law_above" = true)
    (k21 : PySem.W.keepIn K (.ref f21) = true)
    (a22 : PySem.W.nsIn K mainGlobals "law" = some (some (.ref f22)))
    (l22 : K.lookup f22 = some ⟨oc22, od22, .func (PySem.W.fnOf "law" "law" (defArgs s_law) (defBody s_law) (defScope s_law) .none kV22 dc22 pm22 an22 cd22 ct22), sl22⟩)
    (c22 : PySem.W.codeIn K cd22 "law" = true)
    (k22 : PySem.W.keepIn K (.ref f22) = true)
    (te : h.get? tb = some (PySem.W.tabObj #[]))
    (th : PySem.W.codeHdIn K cT tb = true)
    (tn : K.lookup tb = none)
    (z_len : PySem.W.nsIn K mainGlobals "len" = some none)
    (z_all : PySem.W.nsIn K mainGlobals "all" = some none)
    (z_any : PySem.W.nsIn K mainGlobals "any" = some none)
    (z_sum : PySem.W.nsIn K mainGlobals "sum" = some none)
    (z_max : PySem.W.nsIn K mainGlobals "max" = some none)
    (z_min : PySem.W.nsIn K mainGlobals "min" = some none)
    (z_sorted : PySem.W.nsIn K mainGlobals "sorted" = some none)
    (z_isinstance : PySem.W.nsIn K mainGlobals "isinstance" = some none)
    (z_range : PySem.W.nsIn K mainGlobals "range" = some none)
    (z_reversed : PySem.W.nsIn K mainGlobals "reversed" = some none)
    (z_zip : PySem.W.nsIn K mainGlobals "zip" = some none)
    (z_list : PySem.W.nsIn K mainGlobals "list" = some none)
    (z_abs : PySem.W.nsIn K mainGlobals "abs" = some none)
    (z_str : PySem.W.nsIn K mainGlobals "str" = some none)
    (z_int : PySem.W.nsIn K mainGlobals "int" = some none)
    (z_set : PySem.W.nsIn K mainGlobals "set" = some none)
    (z_bool : PySem.W.nsIn K mainGlobals "bool" = some none)
    (z_tuple : PySem.W.nsIn K mainGlobals "tuple" = some none)
    (v_GREATEST : PySem.W.nsIn K mainGlobals "GREATEST" = some (some (.int 1000000 t_GREATEST))) :
    LamX.LawAtS l w K CX0 6 63 "_law_script" mg fa h := by
  have e := hfa.symm.trans (PySem.W.mg_of X G a22)
  cases e
  have F0 := fun_mk (st := s_is_whole) l0 c0 k0
  have R0 : Raw K mg "is_whole" s_is_whole ["thing"] := ⟨_, _, F0, PySem.W.mg_of X G a0, F0.binds fun _ _ _ _ _ _ us hl => match us, hl with | [_], _ => rfl⟩
  have F1 := fun_mk (st := s_is_share) l1 c1 k1
  have R1 : Raw K mg "is_share" s_is_share ["thing"] := ⟨_, _, F1, PySem.W.mg_of X G a1, F1.binds fun _ _ _ _ _ _ us hl => match us, hl with | [_], _ => rfl⟩
  have F2 := fun_mk (st := s_check_row) l2 c2 k2
  have R2 : Raw K mg "check_row" s_check_row ["row"] := ⟨_, _, F2, PySem.W.mg_of X G a2, F2.binds fun _ _ _ _ _ _ us hl => match us, hl with | [_], _ => rfl⟩
  have F3 := fun_mk (st := s_running) l3 c3 k3
  have R3 : Raw K mg "running" s_running ["shares"] := ⟨_, _, F3, PySem.W.mg_of X G a3, F3.binds fun _ _ _ _ _ _ us hl => match us, hl with | [_], _ => rfl⟩
  have F4 := fun_mk (st := s_over) l4 c4 k4
  have R4 : Raw K mg "over" s_over ["row", "mark"] := ⟨_, _, F4, PySem.W.mg_of X G a4, F4.binds fun _ _ _ _ _ _ us hl => match us, hl with | [_, _], _ => rfl⟩
  have F5 : FunC K "gifts_to" "gifts_to" s_gifts_to cT f5 _ := ⟨⟨oc5, od5, kV5, dc5, pm5, an5, ct5, sl5, rfl, l5, c5⟩, k5⟩
  have b5 := (fun_mk (st := s_gifts_to) l5 c5 k5).binds (ps := ["row", "wanted"]) (fun _ _ _ _ _ _ us hl => match us, hl with | [_, _], _ => rfl)
  have R5 : RawC K mg "gifts_to" s_gifts_to cT ["row", "wanted"] := ⟨_, _, F5, PySem.W.mg_of X G a5, b5⟩
  have F6 := fun_mk (st := s_Gifts___init__) l6 c6 k6
  have R6 : RawI K mg "Gifts" cG "Gifts.__init__" s_Gifts___init__ ["self", "gifts"] := ⟨_, _, F6, ⟨mkG, a6, i6, kcG⟩, PySem.W.mg_of X G g_Gifts, F6.binds (fun _ _ _ _ _ _ us hl => match us, hl with | [_, _], _ => rfl)⟩
  have F7 := fun_mk (st := s_Top___init__) l7 c7 k7
  have R7 : RawI K mg "Top" cM "Top.__init__" s_Top___init__ ["self", "many"] := ⟨_, _, F7, ⟨mkM, a7, i7, kcM⟩, PySem.W.mg_of X G g_Top, F7.binds (fun _ _ _ _ _ _ us hl => match us, hl with | [_, _], _ => rfl)⟩
  have F8 := fun_mk (st := s_Wholes___init__) l8 c8 k8
  have R8 : RawI K mg "Wholes" cW "Wholes.__init__" s_Wholes___init__ ["self", "one", "other"] := ⟨_, _, F8, ⟨mkW, a8, i8, kcW⟩, PySem.W.mg_of X G g_Wholes, F8.binds (fun _ _ _ _ _ _ us hl => match us, hl with | [_, _, _], _ => rfl)⟩
  have F9 := fun_mk (st := s_is_gift) l9 c9 k9
  have R9 : Raw K mg "is_gift" s_is_gift ["gift", "many"] := ⟨_, _, F9, PySem.W.mg_of X G a9, F9.binds fun _ _ _ _ _ _ us hl => match us, hl with | [_, _], _ => rfl⟩
  have F10 := fun_mk (st := s_rising_sums) l10 c10 k10
  have R10 : Raw K mg "rising_sums" s_rising_sums ["row"] := ⟨_, _, F10, PySem.W.mg_of X G a10, F10.binds fun _ _ _ _ _ _ us hl => match us, hl with | [_], _ => rfl⟩
  have F11 := fun_mk (st := s_above) l11 c11 k11
  have R11 : Raw K mg "above" s_above ["row", "mark"] := ⟨_, _, F11, PySem.W.mg_of X G a11, F11.binds fun _ _ _ _ _ _ us hl => match us, hl with | [_, _], _ => rfl⟩
  have F12 := fun_mk (st := s_done) l12 c12 k12
  have R12 : Raw K mg "done" s_done ["row", "gifts"] := ⟨_, _, F12, PySem.W.mg_of X G a12, F12.binds fun _ _ _ _ _ _ us hl => match us, hl with | [_, _], _ => rfl⟩
  have F13 := fun_mk (st := s_law_cell_at) l13 c13 k13
  have R13 : Raw K mg "_law_cell_at" s_law_cell_at ["_law_script", "_law_k"] := ⟨_, _, F13, PySem.W.mg_of X G a13, F13.binds fun _ _ _ _ _ _ us hl => match us, hl with | [_, _], _ => rfl⟩
  have F14 := fun_mk (st := s_law_draw) l14 c14 k14
  have R14 : Raw K mg "_law_draw" s_law_draw ["_law_cell", "_law_k", "_law_many"] := ⟨_, _, F14, PySem.W.mg_of X G a14, F14.binds fun _ _ _ _ _ _ us hl => match us, hl with | [_, _, _], _ => rfl⟩
  have F15 := fun_mk (st := s_law_row) l15 c15 k15
  have R15 : Raw K mg "_law_row" s_law_row ["_law_script"] := ⟨_, _, F15, PySem.W.mg_of X G a15, F15.binds fun _ _ _ _ _ _ us hl => match us, hl with | [_], _ => rfl⟩
  have F16 := fun_mk (st := s_check_two) l16 c16 k16
  have R16 : Raw K mg "check_two" s_check_two ["one", "other"] := ⟨_, _, F16, PySem.W.mg_of X G a16, F16.binds fun _ _ _ _ _ _ us hl => match us, hl with | [_, _], _ => rfl⟩
  have F17 := fun_mk (st := s_top_of) l17 c17 k17
  have R17 : Raw K mg "top_of" s_top_of ["one", "other"] := ⟨_, _, F17, PySem.W.mg_of X G a17, F17.binds fun _ _ _ _ _ _ us hl => match us, hl with | [_, _], _ => rfl⟩
  have F18 := fun_mk (st := s_compared) l18 c18 k18
  have R18 : Raw K mg "compared" s_compared ["one", "other"] := ⟨_, _, F18, PySem.W.mg_of X G a18, F18.binds fun _ _ _ _ _ _ us hl => match us, hl with | [_, _], _ => rfl⟩
  have F19 := fun_mk (st := s_law_other) l19 c19 k19
  have R19 : Raw K mg "_law_other" s_law_other ["_law_script", "_law_row_here"] := ⟨_, _, F19, PySem.W.mg_of X G a19, F19.binds fun _ _ _ _ _ _ us hl => match us, hl with | [_, _], _ => rfl⟩
  have F20 := fun_mk (st := s_law_numbers) l20 c20 k20
  have R20 : Raw K mg "_law_numbers" s_law_numbers ["_law_found", "_law_many"] := ⟨_, _, F20, PySem.W.mg_of X G a20, F20.binds fun _ _ _ _ _ _ us hl => match us, hl with | [_, _], _ => rfl⟩
  have F21 := fun_mk (st := s_law_above) l21 c21 k21
  have R21 : Raw K mg "_law_above" s_law_above ["_law_row_here", "_law_mark"] := ⟨_, _, F21, PySem.W.mg_of X G a21, F21.binds fun _ _ _ _ _ _ us hl => match us, hl with | [_, _], _ => rfl⟩
  have F22 := fun_mk (st := s_law) l22 c22 k22
  have T : Txt K mg := ⟨PySem.W.mg_none_of X G z_len, PySem.W.mg_none_of X G z_all, PySem.W.mg_none_of X G z_any, PySem.W.mg_none_of X G z_sum, PySem.W.mg_none_of X G z_max, PySem.W.mg_none_of X G z_min, PySem.W.mg_none_of X G z_sorted, PySem.W.mg_none_of X G z_isinstance, PySem.W.mg_none_of X G z_range, PySem.W.mg_none_of X G z_reversed, PySem.W.mg_none_of X G z_zip, PySem.W.mg_none_of X G z_list, PySem.W.mg_none_of X G z_abs, PySem.W.mg_none_of X G z_str, PySem.W.mg_none_of X G z_int, PySem.W.mg_none_of X G z_set, PySem.W.mg_none_of X G z_bool, PySem.W.mg_none_of X G z_tuple, ⟨_, PySem.W.mg_of X G v_GREATEST⟩⟩
  have L : Kl K mg cA cG cM cW := ⟨PySem.W.mg_of X G g_Answer, PySem.W.mg_of X G g_Gifts, PySem.W.mg_of X G g_Top, PySem.W.mg_of X G g_Wholes, ⟨⟨pgG, hdG, poG, saG⟩, haG, hmG⟩, ⟨⟨pgM, hdM, poM, saM⟩, haM, hmM⟩, ⟨⟨pgW, hdW, poW, saW⟩, haW, hmW⟩, hn, htk, kGA, kGG, kGM, kGW, kMA, kMG, kMM, kMW, kWA, kWG, kWM, kWW, nG, nM, nW1, nW2⟩
  have CH : PySem.W.CodeHd h cT tb := PySem.W.codeHd_of_K X th
  refine ⟨PySem.W.fnOf "law" "law" (defArgs s_law) (defBody s_law) (defScope s_law) .none kV22 dc22 pm22 an22 cd22 ct22, [(cT, tb)], spLawT K tb, (fun p hp => by cases List.mem_singleton.mp hp; exact te), (fun p hp => by cases List.mem_singleton.mp hp; exact tn), (fun p hp => by cases List.mem_singleton.mp hp; exact CH), fun s v => .of_eq rfl, (fun H a ns hl _ hc hS => ⟨a, ns, rfl, hS, hl, (fun p hp => by cases List.mem_singleton.mp hp; exact LamX.TabS.nil (hc _ (List.mem_singleton.mpr rfl))), fun _ => rfl⟩), fun base _ _ hTB => ?_⟩
  have TB : LamX.TabB base mg cT tb := hTB _ (List.mem_singleton.mpr rfl)
  have d_is_whole := def_is_whole (P := l.prog) (w := w) (base := base) R0 T
  have d_is_share := def_is_share (P := l.prog) (w := w) (base := base) R1 T d_is_whole
  have d_check_row := def_check_row (P := l.prog) (w := w) (base := base) R2 T d_is_share
  have d_running := def_running (P := l.prog) (w := w) (base := base) R3 T
  have d_over := def_over (P := l.prog) (w := w) (base := base) R4 T
  have d_gifts_to := def_gifts_to (P := l.prog) (w := w) (base := base) R5 T TB
  have i_Gifts := init_Gifts (P := l.prog) (w := w) (base := base) R6 T L
  have i_Top := init_Top (P := l.prog) (w := w) (base := base) R7 T L
  have i_Wholes := init_Wholes (P := l.prog) (w := w) (base := base) R8 T L
  have d_is_gift := def_is_gift (P := l.prog) (w := w) (base := base) R9 T d_is_whole
  have d_rising_sums := def_rising_sums (P := l.prog) (w := w) (base := base) R10 T d_check_row d_running
  have d_above := def_above (P := l.prog) (w := w) (base := base) R11 T d_check_row d_is_whole d_over
  have d_done := def_done (P := l.prog) (w := w) (base := base) R12 T d_check_row d_is_share d_is_gift
  have d_law_cell_at := def_law_cell_at (P := l.prog) (w := w) (base := base) R13 T
  have d_law_draw := def_law_draw (P := l.prog) (w := w) (base := base) R14 T
  have d_law_row := def_law_row (P := l.prog) (w := w) (base := base) R15 T d_law_cell_at d_law_draw
  have d_check_two := def_check_two (P := l.prog) (w := w) (base := base) R16 T d_check_row
  have d_top_of := def_top_of (P := l.prog) (w := w) (base := base) R17 T d_running
  have d_compared := def_compared (P := l.prog) (w := w) (base := base) R18 T d_check_two d_top_of d_gifts_to i_Gifts i_Top i_Wholes
  have d_law_other := def_law_other (P := l.prog) (w := w) (base := base) R19 T d_law_cell_at d_law_draw
  have d_law_numbers := def_law_numbers (P := l.prog) (w := w) (base := base) R20 T
  have d_law_above := def_law_above (P := l.prog) (w := w) (base := base) R21 T
  exact ok_law F22 T L d_law_row d_law_other d_law_numbers d_law_cell_at d_law_draw d_rising_sums d_above d_law_above d_compared d_done
end Ev
open PySem PySem.W PyProof.Rows in
set_option maxRecDepth 100000 in
set_option maxHeartbeats 0 in
theorem PySem.Challenge.cw_evenhand_k04_sums_and_marks_holds : PySem.Challenge.rw_evenhand_k04_sums_and_marks.Holds := by
  w_on; o_law; k_head; (case hw => w_witness2)
  k_fill
  refine LamX.walk_ofTs (l := PySem.Challenge.rw_evenhand_k04_sums_and_marks) (n := 63) (k := 6) (x := "_law_script") (CX := fun _ => L2.CX0) rfl (by decide) rfl ⟨rfl, by decide, by decide⟩ (fun w h Y => PySem.W.km_in_of Y) ?F (fun _ _ _ _ _ z => z)
  case F =>
    intro w mg fa h Y KX G hmg
    have hT8 := PySem.W.km_tabs_of Y
    refine' Ev.all_mk KX G hmg ?g_Answer ?g_Gifts ?g_Top ?g_Wholes ?pgG ?hdG ?poG ?saG ?haG ?hmG ?mkG ?kcG ?kGA ?kGG ?kGM ?kGW ?pgM ?hdM ?poM ?saM ?haM ?hmM ?mkM ?kcM ?kMA ?kMG ?kMM ?kMW ?pgW ?hdW ?poW ?saW ?haW ?hmW ?mkW ?kcW ?kWA ?kWG ?kWM ?kWW ?hn ?htk ?nG ?nM ?nW1 ?nW2 ?a0 ?l0 ?c0 ?k0 ?a1 ?l1 ?c1 ?k1 ?a2 ?l2 ?c2 ?k2 ?a3 ?l3 ?c3 ?k3 ?a4 ?l4 ?c4 ?k4 ?a5 ?l5 ?c5 ?k5 ?a6 ?i6 ?l6 ?c6 ?k6 ?a7 ?i7 ?l7 ?c7 ?k7 ?a8 ?i8 ?l8 ?c8 ?k8 ?a9 ?l9 ?c9 ?k9 ?a10 ?l10 ?c10 ?k10 ?a11 ?l11 ?c11 ?k11 ?a12 ?l12 ?c12 ?k12 ?a13 ?l13 ?c13 ?k13 ?a14 ?l14 ?c14 ?k14 ?a15 ?l15 ?c15 ?k15 ?a16 ?l16 ?c16 ?k16 ?a17 ?l17 ?c17 ?k17 ?a18 ?l18 ?c18 ?k18 ?a19 ?l19 ?c19 ?k19 ?a20 ?l20 ?c20 ?k20 ?a21 ?l21 ?c21 ?k21 ?a22 ?l22 ?c22 ?k22 ?te ?th ?tn ?z_len ?z_all ?z_any ?z_sum ?z_max ?z_min ?z_sorted ?z_isinstance ?z_range ?z_reversed ?z_zip ?z_list ?z_abs ?z_str ?z_int ?z_set ?z_bool ?z_tuple ?v_GREATEST
    (case g_Answer => k_is)
    (case g_Gifts => k_is)
    (case g_Top => k_is)
    (case g_Wholes => k_is)
    (case pgG => k_is)
    (case hdG => k_is)
    (case poG => k_is)
    (case saG => k_is)
    (case haG => k_is)
    (case hmG => k_is)
    (case mkG => k_is)
    (case kcG => k_is)
    (case kGA => kernel_rfl)
    (case kGG => kernel_rfl)
    (case kGM => kernel_rfl)
    (case kGW => kernel_rfl)
    (case pgM => k_is)
    (case hdM => k_is)
    (case poM => k_is)
    (case saM => k_is)
    (case haM => k_is)
    (case hmM => k_is)
    (case mkM => k_is)
    (case kcM => k_is)
    (case kMA => kernel_rfl)
    (case kMG => kernel_rfl)
    (case kMM => kernel_rfl)
    (case kMW => kernel_rfl)
    (case pgW => k_is)
    (case hdW => k_is)
    (case poW => k_is)
    (case saW => k_is)
    (case haW => k_is)
    (case hmW => k_is)
    (case mkW => k_is)
    (case kcW => k_is)
    (case kWA => kernel_rfl)
    (case kWG => kernel_rfl)
    (case kWM => kernel_rfl)
    (case kWW => kernel_rfl)
    (case hn => k_is)
    (case htk => k_is)
    (case nG => k_is)
    (case nM => k_is)
    (case nW1 => k_is)
    (case nW2 => k_is)
    (case a0 => k_is)
    (case l0 => k_is)
    (case c0 => k_is)
    (case k0 => k_is)
    (case a1 => k_is)
    (case l1 => k_is)
    (case c1 => k_is)
    (case k1 => k_is)
    (case a2 => k_is)
    (case l2 => k_is)
    (case c2 => k_is)
    (case k2 => k_is)
    (case a3 => k_is)
    (case l3 => k_is)
    (case c3 => k_is)
    (case k3 => k_is)
    (case a4 => k_is)
    (case l4 => k_is)
    (case c4 => k_is)
    (case k4 => k_is)
    (case a5 => k_is)
    (case l5 => k_is)
    (case c5 => k_is)
    (case k5 => k_is)
    (case a6 => k_is)
    (case i6 => k_is)
    (case l6 => k_is)
    (case c6 => k_is)
    (case k6 => k_is)
    (case a7 => k_is)
    (case i7 => k_is)
    (case l7 => k_is)
    (case c7 => k_is)
    (case k7 => k_is)
    (case a8 => k_is)
    (case i8 => k_is)
    (case l8 => k_is)
    (case c8 => k_is)
    (case k8 => k_is)
    (case a9 => k_is)
    (case l9 => k_is)
    (case c9 => k_is)
    (case k9 => k_is)
    (case a10 => k_is)
    (case l10 => k_is)
    (case c10 => k_is)
    (case k10 => k_is)
    (case a11 => k_is)
    (case l11 => k_is)
    (case c11 => k_is)
    (case k11 => k_is)
    (case a12 => k_is)
    (case l12 => k_is)
    (case c12 => k_is)
    (case k12 => k_is)
    (case a13 => k_is)
    (case l13 => k_is)
    (case c13 => k_is)
    (case k13 => k_is)
    (case a14 => k_is)
    (case l14 => k_is)
    (case c14 => k_is)
    (case k14 => k_is)
    (case a15 => k_is)
    (case l15 => k_is)
    (case c15 => k_is)
    (case k15 => k_is)
    (case a16 => k_is)
    (case l16 => k_is)
    (case c16 => k_is)
    (case k16 => k_is)
    (case a17 => k_is)
    (case l17 => k_is)
    (case c17 => k_is)
    (case k17 => k_is)
    (case a18 => k_is)
    (case l18 => k_is)
    (case c18 => k_is)
    (case k18 => k_is)
    (case a19 => k_is)
    (case l19 => k_is)
    (case c19 => k_is)
    (case k19 => k_is)
    (case a20 => k_is)
    (case l20 => k_is)
    (case c20 => k_is)
    (case k20 => k_is)
    (case a21 => k_is)
    (case l21 => k_is)
    (case c21 => k_is)
    (case k21 => k_is)
    (case a22 => k_is)
    (case l22 => k_is)
    (case c22 => k_is)
    (case k22 => k_is)
    (case te => exact hT8 _ List.mem_cons_self)
    (case th => kernel_rfl)
    (case tn => kernel_rfl)
    (case z_len => k_is)
    (case z_all => k_is)
    (case z_any => k_is)
    (case z_sum => k_is)
    (case z_max => k_is)
    (case z_min => k_is)
    (case z_sorted => k_is)
    (case z_isinstance => k_is)
    (case z_range => k_is)
    (case z_reversed => k_is)
    (case z_zip => k_is)
    (case z_list => k_is)
    (case z_abs => k_is)
    (case z_str => k_is)
    (case z_int => k_is)
    (case z_set => k_is)
    (case z_bool => k_is)
    (case z_tuple => k_is)
    (case v_GREATEST => k_is)

