import PyProof.Rows.All
import Wide.All
import OpenK.AllK
import Wide.FinOn
import HandS.ForMost
import HandS.ForExc
import HandS.Evl
import HandS.IsInst
import HandS.SortInts
import HandS.SortKw
import HandS.RevRange
import HandS.Style
import HandS.Flow
import HandS.Zip
import HandS.Lambda
import HandS.EndTab
import KE.SortKeyHeap
import KE.DatumOrd
import HandS.SetFor
import HandS.CallLocal
import HandS.ExcCtx
import HandS.HotCalls
import HandS.SuiteRaise
import HandS.ExcIs
import HandS.Conv
import KE.KNestM
import PySem.Challenge.RW_evenhand_k07_refused
set_option Elab.async false
set_option linter.all false
set_option maxRecDepth 100000
set_option maxHeartbeats 4000000
/-! Wk: readings as evaluations over a known heap (Sv, EvP, ..), own layer over Evl. -/
namespace Wk
open PySem PySem.Spec PyProof.Rows L2 Evl

/-! ### statements over a known heap -/
def Sv (t : TS) (D : Ends) (s : L2.St) (H : Hp) : Prop := ∀ H1, Ex H H1 → t D s H1
/-- as a def's body wants it -/
theorem Sv.go {t : TS} {D : Ends} {s : L2.St} {H : Hp} (h : Sv t D s H) : t D s H := h H (Ex.refl H)
theorem Sv.mono {t : TS} {D : Ends} {s : L2.St} {H H' : Hp} (h : Sv t D s H) (e : Ex H H') : Sv t D s H' := fun H1 e1 => h H1 (e.trans e1)

class MonoP (P : V → Hp → Prop) : Prop where
  mono : ∀ {x : V} {H H' : Hp}, Ex H H' → P x H → P x H'
def Is (v : V) : V → Hp → Prop := fun x _ => x = v
def IsL (xs : List V) : V → Hp → Prop := fun x H => ∃ p, x = .ref p ∧ H p = some (.lst xs)
def IsU (xs : List V) : V → Hp → Prop := fun x H => ∃ p, x = .ref p ∧ H p = some (.tup xs)
instance {v : V} : MonoP (Is v) := ⟨fun _ h => h⟩
instance {xs : List V} : MonoP (IsL xs) := ⟨fun e ⟨p, a, b⟩ => ⟨p, a, e _ _ b⟩⟩
instance {xs : List V} : MonoP (IsU xs) := ⟨fun e ⟨p, a, b⟩ => ⟨p, a, e _ _ b⟩⟩

def EvP (te : TE) (s : L2.St) (H : Hp) (P : V → Hp → Prop) : Prop := ∀ H1, Ex H H1 → ∀ Q : VK, (∀ v H2, Ex H1 H2 → P v H2 → Q v H2) → te s H1 Q
def EvAP (ta : TA) (s : L2.St) (H : Hp) (P : List V → Hp → Prop) : Prop := ∀ H1, Ex H H1 → ∀ Q : List V → Hp → Prop, (∀ v H2, Ex H1 H2 → P v H2 → Q v H2) → ta s H1 Q

section
variable {K : PySem.W.Frag} {s : L2.St} {H H' : Hp} {ta tb te tx tc : TE} {t u : TT} {x y z v : V} {r : R2} {P R : V → Hp → Prop} {D : Ends} {tu tw tz : TS} {g : TG}

theorem _root_.Evl.Ev.p (h : Ev te s H v) : EvP te s H (Is v) := fun H1 e Q q => h H1 e Q fun H2 e2 => q v H2 e2 rfl
theorem _root_.Evl.EvL.p {xs : List V} (h : EvL te s H xs) : EvP te s H (IsL xs) := fun H1 e Q q => h H1 e Q fun p H2 _ e2 hp => q _ H2 e2 ⟨p, rfl, hp⟩
theorem evU_p {xs : List V} (h : EvU te s H xs) : EvP te s H (IsU xs) := fun H1 e Q q => h H1 e Q fun p H2 _ e2 hp => q _ H2 e2 ⟨p, rfl, hp⟩
theorem EvP.mono (e : Ex H H') (h : EvP te s H P) : EvP te s H' P := fun H1 a Q q => h H1 (e.trans a) Q q
theorem EvP.imp (h : EvP te s H P) (k : ∀ v H1, Ex H H1 → P v H1 → R v H1) : EvP te s H R := fun H1 e Q q => h H1 e Q fun v H2 e2 p => q v H2 e2 (k v H2 (e.trans e2) p)
theorem evp_is (h : EvP te s H (Is v)) : Ev te s H v := fun H1 e Q q => h H1 e Q fun w H2 e2 p => by cases p; exact q H2 e2

/-! arguments -/
theorem ap_nil : EvAP tNil s H (fun vs _ => vs = []) := fun H1 _ _ q => q _ H1 (Ex.refl H1) rfl
theorem ap_cons {tr : TA} {R : List V → Hp → Prop} [MonoP P] (h : EvP te s H P) (hr : EvAP tr s H R) : EvAP (tCons te tr) s H (fun vs H => ∃ v r, vs = v :: r ∧ P v H ∧ R r H) := fun H1 e Q q =>
  h H1 e _ fun v H2 e2 p => hr H2 (e.trans e2) _ fun vs H3 e3 p3 => q _ H3 (e2.trans e3) ⟨v, vs, rfl, MonoP.mono e3 p, p3⟩
theorem ap_one (h : EvP te s H P) : EvAP (tCons te tNil) s H (fun vs H => ∃ v, vs = [v] ∧ P v H) := fun H1 e Q q =>
  h H1 e _ fun v H2 e2 p => q _ H2 e2 ⟨v, rfl, p⟩
theorem ap_two [MonoP P] (h : EvP ta s H P) (h2 : EvP tb s H R) : EvAP (tCons ta (tCons tb tNil)) s H (fun vs H => ∃ v w, vs = [v, w] ∧ P v H ∧ R w H) := fun H1 e Q q =>
  h H1 e _ fun v H2 e2 p => h2 H2 (e.trans e2) _ fun w H3 e3 p3 => q _ H3 (e2.trans e3) ⟨v, w, rfl, MonoP.mono e3 p, p3⟩
theorem ap_three {S : V → Hp → Prop} [MonoP P] [MonoP R] (h : EvP ta s H P) (h2 : EvP tb s H R) (h3 : EvP tc s H S) : EvAP (tCons ta (tCons tb (tCons tc tNil))) s H (fun vs H => ∃ v w x, vs = [v, w, x] ∧ P v H ∧ R w H ∧ S x H) := fun H1 e Q q =>
  h H1 e _ fun v H2 e2 p => h2 H2 (e.trans e2) _ fun w H3 e3 p3 => h3 H3 ((e.trans e2).trans e3) _ fun x H4 e4 p4 => q _ H4 ((e2.trans e3).trans e4) ⟨v, w, x, rfl, MonoP.mono (e3.trans e4) p, MonoP.mono e4 p3, p4⟩

/-! operators, calls of built-ins and of own defs, with described operands -/
theorem ev_opP [MonoP P] (ha : EvP ta s H P) (hb : EvP tb s H R) (hr : ∀ a b H1, Ex H H1 → P a H1 → R b H1 → RV r a b H1 z) : Ev (tOp r ta tb) s H z := fun H1 e Q q =>
  ha H1 e _ fun a H2 e2 p => hb H2 (e.trans e2) _ fun b H3 e3 p3 => hr a b H3 ((e.trans e2).trans e3) (MonoP.mono e3 p) p3 H3 (Ex.refl H3) Q fun H4 e4 => q H4 ((e2.trans e3).trans e4)
theorem ev_cbP {r : List V → Hp → VK → Prop} {ta : TA} {P : List V → Hp → Prop} (h : EvAP ta s H P) (hr : ∀ vs H1, Ex H H1 → P vs H1 → RC r vs H1 z) : Ev (tCB r ta) s H z := fun H1 e Q q =>
  h H1 e _ fun vs H2 e2 p => hr vs H2 (e.trans e2) p H2 (Ex.refl H2) Q fun H3 e3 => q H3 (e2.trans e3)
theorem el_cbP {r : List V → Hp → VK → Prop} {ta : TA} {P : List V → Hp → Prop} {xs : List V} (h : EvAP ta s H P) (hr : ∀ vs H1, Ex H H1 → P vs H1 → RCL r vs H1 xs) : EvL (tCB r ta) s H xs := fun H1 e Q q =>
  h H1 e _ fun vs H2 e2 p => hr vs H2 (e.trans e2) p H2 (Ex.refl H2) Q fun l H3 hl e3 h3 => q l H3 (fresh_back e2 hl) (e2.trans e3) h3
theorem ev_callP {sp : Sp} {E : XK} {ta : TA} {P : List V → Hp → Prop} (h : EvAP ta s H P) (hs : ∀ vs H1, Ex H H1 → P vs H1 → ∀ Q : VK, (∀ H2, Ex H1 H2 → Q z H2) → sp vs H1 Q E) : Ev (tCall sp [] E ta) s H z := fun H1 e Q q =>
  h H1 e _ fun vs H2 e2 p => by
    rw [List.append_nil]
    exact hs vs H2 (e.trans e2) p Q fun H3 e3 => q H3 (e2.trans e3)
theorem el_callP {sp : Sp} {E : XK} {ta : TA} {P : List V → Hp → Prop} {xs : List V} (h : EvAP ta s H P) (hs : ∀ vs H1, Ex H H1 → P vs H1 → ∀ Q : VK, (∀ p H2, H1 p = none → Ex H1 H2 → H2 p = some (.lst xs) → Q (.ref p) H2) → sp vs H1 Q E) : EvL (tCall sp [] E ta) s H xs := fun H1 e Q q =>
  h H1 e _ fun vs H2 e2 p => by
    rw [List.append_nil]
    exact hs vs H2 (e.trans e2) p Q fun l H3 hl e3 h3 => q l H3 (fresh_back e2 hl) (e2.trans e3) h3
theorem evp_callP {sp : Sp} {E : XK} {ta : TA} {P : List V → Hp → Prop} {R : V → Hp → Prop} (h : EvAP ta s H P) (hs : ∀ vs H1, Ex H H1 → P vs H1 → ∀ Q : VK, (∀ v H2, Ex H1 H2 → R v H2 → Q v H2) → sp vs H1 Q E) : EvP (tCall sp [] E ta) s H R := fun H1 e Q q =>
  h H1 e _ fun vs H2 e2 p => by
    rw [List.append_nil]
    exact hs vs H2 (e.trans e2) p Q fun v H3 e3 h3 => q v H3 (e2.trans e3) h3

theorem ev_chain {r r' : R2} {a b : Bool} (ha : Ev ta s H x) (hb : Ev tb s H y) (hr : RV r x y H (.bl a)) (h2 : a = true → Ev tc s H z ∧ RV r' y z H (.bl b)) : Ev (tChain r r' ta tb tc) s H (.bl (a && b)) := fun H1 e Q q =>
  ha H1 e _ fun H2 e2 => hb H2 (e.trans e2) _ fun H3 e3 => hr H3 ((e.trans e2).trans e3) _ fun H4 e4 => ⟨a, rfl, by
    cases a with
    | true =>
      obtain ⟨k1, k2⟩ := h2 rfl
      show tc s H4 fun w' H5 => r' y w' H5 Q
      exact k1 H4 (((e.trans e2).trans e3).trans e4) _ fun H5 e5 => k2 H5 ((((e.trans e2).trans e3).trans e4).trans e5) Q fun H6 e6 => q H6 ((((e2.trans e3).trans e4).trans e5).trans e6)
    | false =>
      show Q (.bl false) H4
      exact q H4 ((e2.trans e3).trans e4)⟩
/-- an int of which something is known -/
def IsI (p : Int → Prop) : V → Hp → Prop := fun x _ => ∃ i, x = .int i ∧ p i
instance {p : Int → Prop} : MonoP (IsI p) := ⟨fun _ h => h⟩
def RVP (r : R2) (x y : V) (H : Hp) (S : V → Hp → Prop) : Prop := ∀ H1, Ex H H1 → ∀ Q : VK, (∀ z H2, Ex H1 H2 → S z H2 → Q z H2) → r x y H1 Q
theorem evp_op {S : V → Hp → Prop} [MonoP P] (ha : EvP ta s H P) (hb : EvP tb s H R) (hr : ∀ a b H1, Ex H H1 → P a H1 → R b H1 → RVP r a b H1 S) : EvP (tOp r ta tb) s H S := fun H1 e Q q =>
  ha H1 e _ fun a H2 e2 p => hb H2 (e.trans e2) _ fun b H3 e3 p3 => hr a b H3 ((e.trans e2).trans e3) (MonoP.mono e3 p) p3 H3 (Ex.refl H3) Q fun z H4 e4 sz => q z H4 ((e2.trans e3).trans e4) sz
theorem evp_int {g : Int → Int → Int} {p q w : Int → Prop} (ha : EvP ta s H (IsI p)) (hb : EvP tb s H (IsI q)) (h : ∀ i j, p i → q j → w (g i j)) : EvP (tOp (rI0 fun i j => .int (g i j)) ta tb) s H (IsI w) :=
  evp_op ha hb fun a b H1 _ ⟨i, ea, pi⟩ ⟨j, eb, pj⟩ H2 _ Q k => ⟨i, j, ea, eb, k _ H2 (Ex.refl H2) ⟨_, rfl, h i j pi pj⟩⟩
theorem evp_intC {C : Int → Int → Prop} {g : Int → Int → Int} {p q w : Int → Prop} (ha : EvP ta s H (IsI p)) (hb : EvP tb s H (IsI q)) (hc : ∀ i j, p i → q j → C i j) (h : ∀ i j, p i → q j → w (g i j)) : EvP (tOp (rI C fun i j => .int (g i j)) ta tb) s H (IsI w) :=
  evp_op ha hb fun a b H1 _ ⟨i, ea, pi⟩ ⟨j, eb, pj⟩ H2 _ Q k => ⟨i, j, ea, eb, hc i j pi pj, k _ H2 (Ex.refl H2) ⟨_, rfl, h i j pi pj⟩⟩
theorem evp_neg {p w : Int → Prop} (ha : EvP ta s H (IsI p)) (h : ∀ i, p i → w (-i)) : EvP (tUn (rU fun i => .int (-i)) ta) s H (IsI w) := fun H1 e Q k =>
  ha H1 e _ fun a H2 e2 ⟨i, ea, pi⟩ => ⟨i, ea, k _ H2 e2 ⟨_, rfl, h i pi⟩⟩
theorem ev_i {i : Int} {p : Int → Prop} (h : Ev te s H (.int i)) (hp : p i) : EvP te s H (IsI p) := fun H1 e Q q => h H1 e Q fun H2 e2 => q _ H2 e2 ⟨i, rfl, hp⟩
theorem evp_ii {p q : Int → Prop} (h : EvP te s H (IsI p)) (k : ∀ i, p i → q i) : EvP te s H (IsI q) := h.imp fun v H1 _ ⟨i, e, pi⟩ => ⟨i, e, k i pi⟩
theorem EvAP.imp {ta : TA} {P R : List V → Hp → Prop} (h : EvAP ta s H P) (k : ∀ v H1, Ex H H1 → P v H1 → R v H1) : EvAP ta s H R := fun H1 e Q q => h H1 e Q fun v H2 e2 p => q v H2 e2 (k v H2 (e.trans e2) p)
/-- a list display of which little is known -/
theorem evp_lst {ta : TA} {P : List V → Prop} (h : EvAP ta s H (fun vs _ => P vs)) (hz : ∀ vs, P vs → vs.length ≤ 100000) : EvP (tLst ta) s H (fun x H2 => ∃ p vs, x = .ref p ∧ H p = none ∧ H2 p = some (.lst vs) ∧ P vs) := fun H1 e Q q =>
  h H1 e _ fun vs H2 e2 pv => ⟨sz_of (hz vs pv), fun p hp => q _ _ (e2.trans (Ex.new hp)) ⟨p, vs, rfl, fresh_back (e.trans e2) hp, upd_same, pv⟩⟩
/-- a test of which it isn't known how it ends -/
theorem w_if2 (h : ∀ H1, Ex H H1 → ∀ Q : Bool → Hp → Prop, (∀ b H2, Ex H1 H2 → Q b H2) → t s H1 Q) (h1 : Sv tu { D with nx := tz D } s H) (h2 : Sv tw { D with nx := tz D } s H) : Sv (tSeq (tIfS t tu tw) tz) D s H := fun H1 e1 =>
  h H1 e1 _ fun b H2 e2 => by
    cases b with
    | true => exact h1 H2 (e1.trans e2)
    | false => exact h2 H2 (e1.trans e2)
/-- a conditional whose test isn't told -/
theorem evp_if2 {S : V → Hp → Prop} (h : ∀ H1, Ex H H1 → ∀ Q : Bool → Hp → Prop, (∀ b H2, Ex H1 H2 → Q b H2) → t s H1 Q) (h1 : EvP ta s H S) (h2 : EvP tb s H S) : EvP (tIf t ta tb) s H S := fun H1 e Q q =>
  h H1 e _ fun b H2 e2 => by
    cases b with
    | true => exact h1 H2 (e.trans e2) Q fun v H3 e3 p => q v H3 (e2.trans e3) p
    | false => exact h2 H2 (e.trans e2) Q fun v H3 e3 p => q v H3 (e2.trans e3) p
/-- a def that hands back its argument, a new list -/
theorem el_through {sp : Sp} {E : XK} {xs : List V} (h : EvL te s H xs) (hs : ∀ p H1, Ex H H1 → H1 p = some (.lst xs) → ∀ Q : VK, (∀ H2, Ex H1 H2 → Q (.ref p) H2) → sp [.ref p] H1 Q E) : EvL (tCall sp [] E (tCons te tNil)) s H xs := fun H1 e Q q =>
  h H1 e _ fun p H2 hp e2 h2 => by
    show sp [V.ref p] H2 Q E
    exact hs p H2 (e.trans e2) h2 Q fun H3 e3 => q p H3 hp (e2.trans e3) (e3 _ _ h2)

/-! ### statements -/
theorem w_asg {i : Nat} (h : Ev te s H v) (k : Sv tz D (s.set i (some v)) H) : Sv (tSeq (tAsg te (gName i)) tz) D s H := fun H1 e1 => q_asg (h.mono e1) fun H2 e2 => k H2 (e1.trans e2)
theorem w_asgP {i : Nat} (h : EvP te s H P) (k : ∀ v H1, Ex H H1 → P v H1 → Sv tz D (s.set i (some v)) H1) : Sv (tSeq (tAsg te (gName i)) tz) D s H := fun H1 e1 =>
  h H1 e1 _ fun v H2 e2 p => k v H2 (e1.trans e2) p H2 (Ex.refl H2)
theorem w_asgL {i : Nat} {xs : List V} (h : EvL te s H xs) (k : ∀ p H1, H p = none → Ex H H1 → H1 p = some (.lst xs) → Sv tz D (s.set i (some (.ref p))) H1) : Sv (tSeq (tAsg te (gName i)) tz) D s H := fun H1 e1 =>
  h H1 e1 _ fun p H2 hp e2 h2 => k p H2 (fresh_back e1 hp) (e1.trans e2) h2 H2 (Ex.refl H2)
theorem w_asgU {i : Nat} {xs : List V} (h : EvU te s H xs) (k : ∀ p H1, H p = none → Ex H H1 → H1 p = some (.tup xs) → Sv tz D (s.set i (some (.ref p))) H1) : Sv (tSeq (tAsg te (gName i)) tz) D s H := fun H1 e1 =>
  h H1 e1 _ fun p H2 hp e2 h2 => k p H2 (fresh_back e1 hp) (e1.trans e2) h2 H2 (Ex.refl H2)
theorem w_if {b : Bool} (h : EvT t s H b) (h1 : b = true → Sv tu { D with nx := tz D } s H) (h2 : b = false → Sv tw { D with nx := tz D } s H) : Sv (tSeq (tIfS t tu tw) tz) D s H := fun H1 e1 =>
  q_if (h.mono e1) (fun hb H2 e2 => h1 hb H2 (e1.trans e2)) (fun hb H2 e2 => h2 hb H2 (e1.trans e2))
theorem w_when {b : Bool} (h : EvT t s H b) (h1 : b = true → Sv tu { D with nx := tz D } s H) (h2 : b = false → Sv tz D s H) : Sv (tSeq (tIfS t tu tNext) tz) D s H := w_if h h1 h2
/-- an if that is never taken -/
theorem w_skip (h : EvT t s H false) (h2 : Sv tz D s H) : Sv (tSeq (tIfS t tu tNext) tz) D s H := w_if h (fun h => nomatch h) fun _ => h2
theorem w_ret (h : Ev te s H v) (k : ∀ H1, Ex H H1 → D.rt v H1) : Sv (tSeq (tRet te) tz) D s H := fun H1 e1 => h H1 e1 _ fun H2 e2 => k H2 (e1.trans e2)
theorem w_retP (h : EvP te s H P) (k : ∀ v H1, Ex H H1 → P v H1 → D.rt v H1) : Sv (tSeq (tRet te) tz) D s H := fun H1 e1 => h H1 e1 _ fun v H2 e2 p => k v H2 (e1.trans e2) p
theorem w_retL {xs : List V} (h : EvL te s H xs) (k : ∀ p H1, H p = none → Ex H H1 → H1 p = some (.lst xs) → D.rt (.ref p) H1) : Sv (tSeq (tRet te) tz) D s H := fun H1 e1 => h H1 e1 _ fun p H2 hp e2 h2 => k p H2 (fresh_back e1 hp) (e1.trans e2) h2
theorem w_nx (k : ∀ H1, Ex H H1 → D.nx s H1) : Sv tNext D s H := k
theorem w_aug {i : Nat} {f : Int → Int → Int} {a b : Int} (hx : s[i]? = some (some (.int a))) (h : Ev te s H (.int b)) (k : Sv tz D (s.set i (some (.int (f a b)))) H) : Sv (tSeq (tAug i te (ipI f)) tz) D s H := fun H1 e1 =>
  q_aug hx (h.mono e1) fun H2 e2 => k H2 (e1.trans e2)
theorem w_drop (h : Ev te s H v) (k : Sv tz D s H) : Sv (tSeq (tDrop te) tz) D s H := fun H1 e1 => q_drop (h.mono e1) fun H2 e2 => k H2 (e1.trans e2)
/-- a call whose value is dropped -/
theorem w_dropP (h : EvP te s H P) (k : Sv tz D s H) : Sv (tSeq (tDrop te) tz) D s H := fun H1 e1 => h H1 e1 _ fun v H2 e2 _ => k H2 (e1.trans e2)
/-- H', which is H with another list at l -/
structure Put (l : Addr) (o : HO) (H H' : Hp) : Prop where
  new : H' l = some o
  old : ∀ a u, a ≠ l → H a = some u → H' a = some u
theorem Put.ex {l : Addr} {o : HO} {H0 H H' : Hp} (p : Put l o H H') (e : Ex H0 H) (h : H0 l = none) : Ex H0 H' := fun a u ha => p.old a u (ne_of_none ha h) (e a u ha)
theorem put_upd {l : Addr} {o : HO} {H H1 : Hp} (e : Ex H H1) : Put l o H (upd H1 l o) := ⟨upd_same, fun a u n h => by rw [upd_ne n]; exact e a u h⟩
theorem w_app {l : Addr} {xs : List V} (hl : H l = some (.lst xs)) (ha : Ev ta s H (.ref l)) (h : Ev te s H v) (hz : xs.length < 100000) (k : ∀ H1, Put l (.lst (xs ++ [v])) H H1 → Sv tz D s H1) :
    Sv (tSeq (tDrop (tBM K "list" rAppend ta (tCons te tNil))) tz) D s H := fun H1 e1 =>
  q_app (e1 l _ hl) (ha.mono e1) (h.mono e1) hz fun H2 e2 => k _ (put_upd (e1.trans e2)) _ (Ex.refl _)
theorem w_appP {l : Addr} {xs : List V} (hl : H l = some (.lst xs)) (ha : Ev ta s H (.ref l)) (h : EvP te s H P) (hz : xs.length < 100000) (k : ∀ v H1, P v H1 → Put l (.lst (xs ++ [v])) H H1 → Sv tz D s H1) [MonoP P] (hm : ∀ v H1 o, P v H1 → P v (upd H1 l o)) :
    Sv (tSeq (tDrop (tBM K "list" rAppend ta (tCons te tNil))) tz) D s H := fun H1 e1 =>
  ha H1 e1 _ fun H2 e2 => ⟨Or.inl ⟨rfl, xs, sq_of (e2 _ _ (e1 _ _ hl))⟩, h H2 (e1.trans e2) _ fun v H3 e3 p => ⟨l, xs, v, rfl, rfl, e3 _ _ (e2 _ _ (e1 _ _ hl)), sz_lt hz, k v _ (hm v H3 _ p) ⟨upd_same, fun a u n ha => by rw [upd_ne n]; exact e3 _ _ (e2 _ _ (e1 _ _ ha))⟩ _ (Ex.refl _)⟩⟩
theorem w_appU {l : Addr} {xs ys : List V} (hl : H l = some (.lst xs)) (ha : Ev ta s H (.ref l)) (h : EvU te s H ys) (hz : xs.length < 100000) (k : ∀ p H1, H p = none → H1 p = some (.tup ys) → Put l (.lst (xs ++ [.ref p])) H H1 → Sv tz D s H1) :
    Sv (tSeq (tDrop (tBM K "list" rAppend ta (tCons te tNil))) tz) D s H := fun H1 e1 =>
  q_appU (e1 l _ hl) (ha.mono e1) (fun H2 e2 Q q => h H2 (e1.trans e2) Q q) hz fun p H2 hp e2 h2 => k p _ (fresh_back e1 hp) (by rw [upd_ne (fun z => by rw [z, e1 l _ hl] at hp; cases hp)]; exact h2) (put_upd (e1.trans e2)) _ (Ex.refl _)
theorem w_setL {l : Addr} {xs : List V} {j : Nat} (hl : H l = some (.lst xs)) (h : Ev te s H v) (ho : Ev ta s H (.ref l)) (hi : Ev tb s H (.int (j : Int))) (hj : j < xs.length) (k : ∀ H1, Put l (.lst (xs.set j v)) H H1 → Sv tz D s H1) :
    Sv (tSeq (tAsg te (gSub ta tb rSetL)) tz) D s H := fun H1 e1 =>
  q_setL (e1 l _ hl) (h.mono e1) (ho.mono e1) (hi.mono e1) hj fun H2 e2 => k _ (put_upd (e1.trans e2)) _ (Ex.refl _)
theorem w_par {i j : Nat} {x y : V} {ta : TA} (h : EvA ta s H [x, y]) (k : Sv tz D ((s.set i (some x)).set j (some y)) H) : Sv (tSeq (tPar i j ta) tz) D s H := fun H1 e1 =>
  h H1 e1 _ fun H2 e2 => ⟨x, y, rfl, k H2 (e1.trans e2)⟩
theorem w_parP {i j : Nat} {ta : TA} {P : List V → Hp → Prop} (h : EvAP ta s H P) (k : ∀ vs H1, Ex H H1 → P vs H1 → ∃ x y, vs = [x, y] ∧ Sv tz D ((s.set i (some x)).set j (some y)) H1) : Sv (tSeq (tPar i j ta) tz) D s H := fun H1 e1 =>
  h H1 e1 _ fun vs H2 e2 p => by
    obtain ⟨x, y, e, q⟩ := k vs H2 (e1.trans e2) p
    exact ⟨x, y, e, q H2 (Ex.refl H2)⟩

/-- if c: x = e, told by the value that x has behind it -/
theorem w_ifAsg {b : Bool} {i : Nat} (h : EvT t s H b) (h1 : b = true → Ev te s H v) (h2 : b = false → s.set i (some v) = s) (k : Sv tz D (s.set i (some v)) H) : Sv (tSeq (tIfS t (tSeq (tAsg te (gName i)) tNext) tNext) tz) D s H :=
  w_when h (fun hb => w_asg (h1 hb) (fun H1 e1 => k H1 e1)) (fun hb => by
    have g := k
    rw [h2 hb] at g
    exact g)

/-! ### loops -/
theorem w_forL {a : Addr} {xs : List V} {tl : TE} {j : Nat} (h : Ev tl s H (.ref a)) (hx : SqL K H a xs) (Pv : Nat → L2.St → Hp → Prop) (h0 : ∀ H1, Ex H H1 → Pv 0 s H1) (hl : ∀ i s' H', i ≤ xs.length → Pv i s' H' → SqL K H' a xs)
    (hs : ∀ i x s' H', xs[i]? = some x → Pv i s' H' → Sv tu { D with nx := Pv (i + 1), ct := Pv (i + 1), bk := tz D } (s'.set j (some x)) H') (hd : ∀ s' H', Pv xs.length s' H' → Sv tz D s' H') : Sv (tSeq (tFor (iList K tl) (gName j) tu) tz) D s H := fun H1 e1 =>
  q_forLn (h.mono e1) (ex_l e1 hx) Pv (fun H2 e2 => h0 H2 (e1.trans e2)) hl (fun i x s' H' hi p => (hs i x s' H' hi p).go) (fun s' H' p => (hd s' H' p).go)
/-- a loop over a new list -/
theorem w_forNL {xs : List V} {tl : TE} {j : Nat} (h : EvL tl s H xs) (Pv : Addr → Nat → L2.St → Hp → Prop) (h0 : ∀ p H1, H p = none → Ex H H1 → H1 p = some (.lst xs) → Pv p 0 s H1) (hl : ∀ p i s' H', i ≤ xs.length → Pv p i s' H' → SqL K H' p xs)
    (hs : ∀ p i x s' H', xs[i]? = some x → Pv p i s' H' → Sv tu { D with nx := Pv p (i + 1), ct := Pv p (i + 1), bk := tz D } (s'.set j (some x)) H') (hd : ∀ p s' H', Pv p xs.length s' H' → Sv tz D s' H') : Sv (tSeq (tFor (iList K tl) (gName j) tu) tz) D s H := fun H1 e1 =>
  q_forNLn (h.mono e1) Pv (fun p H2 hp e2 h2 => h0 p H2 (fresh_back e1 hp) (e1.trans e2) h2) hl (fun p i x s' H' hi q => (hs p i x s' H' hi q).go) (fun p s' H' q => (hd p s' H' q).go)
theorem w_forR1 {ta : TA} {j : Nat} {n : Int} (h : EvA ta s H [.int n]) (hn : 0 ≤ n ∧ n ≤ 100000) (Pv : Nat → L2.St → Hp → Prop) (h0 : ∀ H1, Ex H H1 → Pv 0 s H1)
    (hs : ∀ (i : Nat) s' H', (i : Int) < n → Pv i s' H' → Sv tu { D with nx := Pv (i + 1), ct := Pv (i + 1), bk := tz D } (s'.set j (some (.int (i : Int)))) H') (hd : ∀ s' H', Pv n.toNat s' H' → Sv tz D s' H') : Sv (tSeq (tFor (iRng1 ta) (gName j) tu) tz) D s H := fun H1 e1 =>
  q_forR1 (h.mono e1) hn Pv (fun H2 e2 => h0 H2 (e1.trans e2)) (fun i s' H' hi p => (hs i s' H' hi p).go) (fun s' H' p => (hd s' H' p).go)

/-- for k in reversed(range(n)) -/
theorem w_forRev {te : TE} {j : Nat} {n : Nat} (h : Ev te s H (.int (n : Int))) (hn : n ≤ 100000) (Pv : Nat → L2.St → Hp → Prop) (h0 : ∀ H1, Ex H H1 → Pv 0 s H1)
    (hs : ∀ (i k : Nat) s' H', i + k + 1 = n → Pv i s' H' → Sv tu { D with nx := Pv (i + 1), ct := Pv (i + 1), bk := tz D } (s'.set j (some (.int (k : Int)))) H') (hd : ∀ s' H', Pv n s' H' → Sv tz D s' H') : Sv (tSeq (tFor (iRevR (tRg1 te)) (gName j) tu) tz) D s H := fun H1 e1 =>
  h H1 e1 _ fun H2 e2 => ⟨(n : Int), rfl, by omega, by omega, by omega, by omega, by
    have e0 : ((n : Int) - 0).toNat = n := by omega
    rw [e0]
    refine for_rangeC (D := { D with nx := tz D }) Pv (h0 H2 (e1.trans e2)) (fun i s' H' hi p => ?_) (fun s' H' p => (hd s' H' p).go)
    have hk : (0 : Int) + (n : Int) - 1 + (i : Nat) * (-1) = ((n - 1 - i : Nat) : Int) := by omega
    show tu _ (s'.set j (some (.int ((0 : Int) + (n : Int) - 1 + (i : Nat) * (-1))))) H'
    rw [hk]
    exact (hs i (n - 1 - i) s' H' (by omega) p).go⟩

/-! ### built-ins -/
theorem tyx_mono {x : V} {t : Value} (e : Ex H H') (h : TyX K H x t) : TyX K H' x t := by
  cases h with
  | base b =>
    cases b with
    | non => exact .base .non
    | bl y => exact .base (.bl y)
    | int i => exact .base (.int i)
    | str y => exact .base (.str y)
    | flt y => exact .base (.flt y)
    | lst ea => exact .base (.lst (e _ _ ea))
    | frz ea => exact .base (.frz (e _ _ ea))
    | tup ea => exact .base (.tup (e _ _ ea))
    | dK ea => exact .base (.dK (e _ _ ea))
    | dT ea => exact .base (.dT (e _ _ ea))
    | ins ea cl ha hn htk hm => exact .base (.ins (e _ _ ea) cl ha hn htk hm)
  | byt y => exact .byt y
  | set ea => exact .set (e _ _ ea)
  | kList ea c => exact .kList ea c
  | kTuple ea c => exact .kTuple ea c
  | kDict ea c => exact .kDict ea c
  | fTuple ea => exact .fTuple (e _ _ ea)
  | fDict ea => exact .fDict (e _ _ ea)
theorem ev_isi {x c : V} {t u : Value} {b : Bool} (ha : Ev ta s H x) (hc : Ev tc s H c) (hv : ClsV c u) (ty : TyX K H x t) (hk : PySem.W.kitOne K t u = some b) : Ev (tCB (rIsi K) (tCons ta (tCons tc tNil))) s H (.bl b) :=
  ev_cbP (ap_two ha.p hc.p) fun vs H1 e1 ⟨v, w, ev, pv, pw⟩ H2 e2 Q q => ⟨x, c, t, u, b, by rw [ev, pv, pw], hv, tyx_mono (e1.trans e2) ty, hk, q H2 (Ex.refl H2)⟩
theorem ev_all {bs : List Bool} (h : EvP te s H (IsL (bs.map V.bl))) : Ev (tCB (rAll K) (tCons te tNil)) s H (.bl (bs.all id)) :=
  ev_cbP (ap_one h) fun vs H1 _ ⟨v, ev, p, pv, hp⟩ H2 e2 Q q => ⟨p, bs, by rw [ev, pv], sq_of (e2 _ _ hp), q H2 (Ex.refl H2)⟩
theorem ev_any {bs : List Bool} (h : EvP te s H (IsL (bs.map V.bl))) : Ev (tCB (rAny K) (tCons te tNil)) s H (.bl (bs.any id)) :=
  ev_cbP (ap_one h) fun vs H1 _ ⟨v, ev, p, pv, hp⟩ H2 e2 Q q => ⟨p, bs, by rw [ev, pv], sq_of (e2 _ _ hp), q H2 (Ex.refl H2)⟩
theorem ev_sum {ns : List Int} (h : EvP te s H (IsL (ns.map V.int))) : Ev (tCB (rSum K) (tCons te tNil)) s H (.int ns.sum) :=
  ev_cbP (ap_one h) fun vs H1 _ ⟨v, ev, p, pv, hp⟩ H2 e2 Q q => ⟨p, ns, by rw [ev, pv], sq_of (e2 _ _ hp), q H2 (Ex.refl H2)⟩
/-- the greatest, the least of a list -/
def mx : List Int → Int
  | [] => 0
  | [a] => a
  | a :: b :: r => if mx (b :: r) ≤ a then a else mx (b :: r)
def mn : List Int → Int
  | [] => 0
  | [a] => a
  | a :: b :: r => if a ≤ mn (b :: r) then a else mn (b :: r)
theorem mx_mem : ∀ {l : List Int}, l ≠ [] → mx l ∈ l
  | [], h => absurd rfl h
  | [a], _ => by simp [mx]
  | a :: b :: r, _ => by
    have ih := mx_mem (l := b :: r) (by simp)
    unfold mx
    split
    · exact List.mem_cons_self
    · exact List.mem_cons_of_mem _ ih
theorem mx_ge : ∀ {l : List Int} {x : Int}, x ∈ l → x ≤ mx l
  | [], x, h => by cases h
  | [a], x, h => by
    have : x = a := by simpa using h
    rw [this]; exact Int.le_refl _
  | a :: b :: r, x, h => by
    have ih := fun y => mx_ge (l := b :: r) (x := y)
    unfold mx
    rcases List.mem_cons.mp h with rfl | h
    · split <;> omega
    · have := ih x h
      split <;> omega
theorem mx_eq {l : List Int} {m : Int} (h : m ∈ l) (hm : ∀ y ∈ l, y ≤ m) : m = mx l := by
  have h1 := mx_ge h
  have h2 := hm _ (mx_mem (l := l) (by intro e; rw [e] at h; cases h))
  omega
theorem mn_mem : ∀ {l : List Int}, l ≠ [] → mn l ∈ l
  | [], h => absurd rfl h
  | [a], _ => by simp [mn]
  | a :: b :: r, _ => by
    have ih := mn_mem (l := b :: r) (by simp)
    unfold mn
    split
    · exact List.mem_cons_self
    · exact List.mem_cons_of_mem _ ih
theorem mn_le : ∀ {l : List Int} {x : Int}, x ∈ l → mn l ≤ x
  | [], x, h => by cases h
  | [a], x, h => by
    have : x = a := by simpa using h
    rw [this]; exact Int.le_refl _
  | a :: b :: r, x, h => by
    have ih := fun y => mn_le (l := b :: r) (x := y)
    unfold mn
    rcases List.mem_cons.mp h with rfl | h
    · split <;> omega
    · have := ih x h
      split <;> omega
theorem mn_eq {l : List Int} {m : Int} (h : m ∈ l) (hm : ∀ y ∈ l, m ≤ y) : m = mn l := by
  have h1 := mn_le h
  have h2 := hm _ (mn_mem (l := l) (by intro e; rw [e] at h; cases h))
  omega
theorem ev_max {ns : List Int} (h : EvP te s H (IsL (ns.map V.int))) (hn : ns ≠ []) : Ev (tCB (rMax K) (tCons te tNil)) s H (.int (mx ns)) :=
  ev_cbP (ap_one h) fun vs H1 _ ⟨v, ev, p, pv, hp⟩ H2 e2 Q q => ⟨p, ns, by rw [ev, pv], sq_of (e2 _ _ hp), List.length_pos_iff.mpr hn, fun m hm hle => by
    rw [mx_eq hm hle]
    exact q H2 (Ex.refl H2)⟩
theorem ev_min {ns : List Int} (h : EvP te s H (IsL (ns.map V.int))) (hn : ns ≠ []) : Ev (tCB (rMin K) (tCons te tNil)) s H (.int (mn ns)) :=
  ev_cbP (ap_one h) fun vs H1 _ ⟨v, ev, p, pv, hp⟩ H2 e2 Q q => ⟨p, ns, by rw [ev, pv], sq_of (e2 _ _ hp), List.length_pos_iff.mpr hn, fun m hm hle => by
    rw [mn_eq hm hle]
    exact q H2 (Ex.refl H2)⟩
theorem ev_lenL {xs : List V} (h : EvP te s H (IsL xs)) : Ev (tCB (rLenS K) (tCons te tNil)) s H (.int (xs.length : Int)) :=
  ev_cbP (ap_one h) fun vs H1 _ ⟨v, ev, p, pv, hp⟩ H2 e2 Q q => ⟨p, xs, by rw [ev, pv], .inl (sq_of (e2 _ _ hp)), q H2 (Ex.refl H2)⟩
theorem el_listL {xs : List V} (h : EvP te s H (IsL xs)) : EvL (tCB (rListS K) (tCons te tNil)) s H xs :=
  el_cbP (ap_one h) fun vs H1 _ ⟨v, ev, p, pv, hp⟩ H2 e2 Q q => ⟨p, xs, by rw [ev, pv], .inl (sq_of (e2 _ _ hp)), fun l hl => q l _ hl (Ex.new hl) upd_same⟩

/-- the sorted list -/
def srt (l : List Int) : List Int := l.mergeSort (fun a b => decide (a ≤ b))
theorem srt_perm (l : List Int) : (srt l).Perm l := List.mergeSort_perm l _
theorem srt_le (l : List Int) : (srt l).Pairwise (· ≤ ·) := by
  have h := List.pairwise_mergeSort (le := fun a b : Int => decide (a ≤ b)) (fun a b c h1 h2 => by
    simp only [decide_eq_true_eq] at *
    omega) (fun a b => by
    by_cases h : a ≤ b
    · simp [h]
    · have : b ≤ a := by omega
      simp [this]) l
  exact h.imp fun h => by simpa using h
theorem sorted_unique : ∀ {l l' : List Int}, l.Perm l' → l.Pairwise (· ≤ ·) → l'.Pairwise (· ≤ ·) → l = l'
  | [], l', p, _, _ => (List.nil_perm.mp p).symm
  | a :: l, [], p, _, _ => absurd p (List.not_perm_cons_nil)
  | a :: l, b :: l', p, h, h' => by
    have h1 := List.pairwise_cons.mp h
    have h2 := List.pairwise_cons.mp h'
    have e : a = b := by
      have hb : b ∈ a :: l := p.mem_iff.mpr List.mem_cons_self
      have ha : a ∈ b :: l' := p.mem_iff.mp List.mem_cons_self
      rcases List.mem_cons.mp hb with e | hb
      · exact e.symm
      · rcases List.mem_cons.mp ha with e | ha
        · exact e
        · have := h1.1 b hb
          have := h2.1 a ha
          omega
    subst e
    rw [sorted_unique (List.Perm.cons_inv p) h1.2 h2.2]
theorem srt_eq {l l' : List Int} (p : l'.Perm l) (h : l'.Pairwise (· ≤ ·)) : l' = srt l := sorted_unique (p.trans (srt_perm l).symm) h (srt_le l)
theorem srt_len (l : List Int) : (srt l).length = l.length := (srt_perm l).length_eq
def srtD (l : List Int) : List Int := (srt l).reverse
theorem srtD_perm (l : List Int) : (srtD l).Perm l := (List.reverse_perm _).trans (srt_perm l)
theorem srtD_ge (l : List Int) : (srtD l).Pairwise (· ≥ ·) := List.pairwise_reverse.mpr (srt_le l)
theorem srtD_eq {l l' : List Int} (p : l'.Perm l) (h : l'.Pairwise (· ≥ ·)) : l' = srtD l := by
  have h2 : l'.reverse.Pairwise (· ≤ ·) := List.pairwise_reverse.mpr h
  have e := srt_eq ((List.reverse_perm l').trans p) h2
  rw [← List.reverse_reverse l', e]
  rfl
theorem srtD_len (l : List Int) : (srtD l).length = l.length := (srtD_perm l).length_eq
theorem el_sorted {ns : List Int} (h : EvP te s H (IsL (ns.map V.int))) : EvL (tCB (rSortedI K) (tCons te tNil)) s H ((srt ns).map V.int) :=
  el_cbP (ap_one h) fun vs H1 _ ⟨v, ev, p, pv, hp⟩ H2 e2 Q q => ⟨p, ns, by rw [ev, pv], sq_of (e2 _ _ hp), fun ns' l h1 h2 hl => by
    rw [srt_eq h1 h2]
    exact q l _ hl (Ex.new hl) upd_same⟩
theorem el_sortedRev {ns : List Int} {tk : TA} (h : EvP te s H (IsL (ns.map V.int))) (hk : ∀ s H Q, Q [V.bl true] H → tk s H Q) : EvL (tCKw (rSortedKw K true [.bl true]) (tCons te tNil) tk) s H ((srtD ns).map V.int) := fun H1 e Q q =>
  h H1 e _ fun v H2 e2 ⟨p, pv, hp⟩ => hk _ _ _ ⟨p, ns, by rw [pv], rfl, sq_of hp, fun ns' l h1 h2 hl => by
    rw [srtD_eq h1 (by simpa [OrdB] using h2)]
    exact q l _ (fresh_back e2 hl) (e2.trans (Ex.new hl)) upd_same⟩

/-! ### comprehensions -/
def Cx2 {α : Type} (H : Hp) (l : List α) (f : α → Bool) (w : α → V) (Dl : Addr) (i : Nat) (H' : Hp) : Prop := H Dl = none ∧ Ex H H' ∧ H' Dl = some (.lst (((l.take i).filter f).map w))
theorem cx_turn {α : Type} {l : List α} {f : α → Bool} {w : α → V} {Dl : Addr} {i : Nat} {a : α} {s2 : L2.St} (p : Cx2 H l f w Dl i H') (ha : l[i]? = some a) (hz : l.length ≤ 100000) (ht : EvT t s2 H (f a)) (he : f a = true → Ev te s2 H (w a)) :
    t s2 H' fun b H3 => if b = true then te s2 H3 fun y H4 => ∃ acc, H4 Dl = some (.lst acc) ∧ acc.length < sizeLine ∧ Cx2 H l f w Dl (i + 1) (upd H4 Dl (.lst (acc ++ [y]))) else Cx2 H l f w Dl (i + 1) H3 := by
  obtain ⟨p1, p2, p3⟩ := p
  have hlt : i < l.length := (List.getElem?_eq_some_iff.mp ha).1
  have et : l.take (i + 1) = l.take i ++ [a] := by rw [List.take_add_one, ha]; rfl
  refine ht H' p2 _ fun H3 e3 => ?_
  cases hf : f a with
  | true =>
    show te s2 H3 fun y H4 => ∃ acc, H4 Dl = some (.lst acc) ∧ acc.length < sizeLine ∧ Cx2 H l f w Dl (i + 1) (upd H4 Dl (.lst (acc ++ [y])))
    refine he hf H3 (p2.trans e3) _ fun H4 e4 => ⟨_, e4 Dl _ (e3 Dl _ p3), ?_, p1, Ex.mut ((p2.trans e3).trans e4) p1, ?_⟩
    · have h1 := List.length_filter_le f (l.take i)
      rw [List.length_take] at h1
      refine sz_lt ?_
      rw [List.length_map]
      omega
    · rw [et, List.filter_append, List.map_append, List.filter_cons, if_pos hf]
      exact upd_same
  | false =>
    show Cx2 H l f w Dl (i + 1) H3
    refine ⟨p1, p2.trans e3, ?_⟩
    rw [et, List.filter_append, List.map_append, List.filter_cons, if_neg (by rw [hf]; decide)]
    show H3 Dl = some (.lst (((l.take i).filter f).map w ++ []))
    rw [List.append_nil]
    exact e3 Dl _ p3
/-- [e for x in xs if t], xs at an address -/
theorem el_comp {α : Type} {a : Addr} {tl : TE} {j : Nat} {vs : List Nat} (l : List α) (c : α → V) (f : α → Bool) (w : α → V) (h : Ev tl s H (.ref a)) (hx : SqL K H a (l.map c)) (hz : l.length ≤ 100000) (hw : ∀ x, wipe ((wipe s vs).set j (some x)) vs = wipe s vs)
    (ht : ∀ x ∈ l, EvT t ((wipe s vs).set j (some (c x))) H (f x)) (he : ∀ x ∈ l, f x = true → Ev te ((wipe s vs).set j (some (c x))) H (w x)) :
    EvL (tLc (iList K tl) (gName j) t te vs) s H ((l.filter f).map w) := fun H0 e Q q => h H0 e _ fun H1 e1 => ⟨a, rfl, ⟨_, ex_l (e.trans e1) hx⟩, fun Dl hD =>
  lc_list (xs := l.map c) (Cx2 H1 l f w Dl) ⟨hD, Ex.new hD, by rw [List.take_zero]; exact upd_same⟩ (fun i H' _ p => ex_l ((e.trans e1).trans p.2.1) hx) (fun i x H' hi p => by
    rw [List.getElem?_map] at hi
    cases ha : l[i]? with
    | none => rw [ha] at hi; cases hi
    | some b =>
      rw [ha] at hi
      obtain rfl : c b = x := Option.some.inj hi
      have hm : b ∈ l := List.mem_of_getElem? ha
      exact ⟨hw _, cx_turn p ha hz ((ht b hm).mono (e.trans e1)) (fun hf => (he b hm hf).mono (e.trans e1))⟩)
    (fun H' p => by
      have p3 := p.2.2
      rw [List.length_map, List.take_length] at p3
      exact q Dl H' (fresh_back e1 p.1) (e1.trans p.2.1) p3)⟩
theorem et_yes : EvT tYes s H true := fun H1 _ Q q => q H1 (Ex.refl H1)
theorem filter_yes {α : Type} (l : List α) : l.filter (fun _ => true) = l := by simp
/-- [e for x in xs] -/
theorem el_map {α : Type} {a : Addr} {tl : TE} {j : Nat} {vs : List Nat} (l : List α) (c : α → V) (w : α → V) (h : Ev tl s H (.ref a)) (hx : SqL K H a (l.map c)) (hz : l.length ≤ 100000) (hw : ∀ x, wipe ((wipe s vs).set j (some x)) vs = wipe s vs)
    (he : ∀ x ∈ l, Ev te ((wipe s vs).set j (some (c x))) H (w x)) : EvL (tLc (iList K tl) (gName j) tYes te vs) s H (l.map w) := by
  have h2 := el_comp l c (fun _ => true) w h hx hz hw (fun _ _ => et_yes) (fun x hx _ => he x hx)
  rw [filter_yes] at h2
  exact h2
/-- [e for k in range(n)] -/
theorem el_mapR {ta : TA} {j : Nat} {vs : List Nat} {n : Int} (w : Nat → V) (h : EvA ta s H [.int n]) (hn : 0 ≤ n ∧ n ≤ 40000) (hw : ∀ x, wipe ((wipe s vs).set j (some x)) vs = wipe s vs)
    (he : ∀ (i : Nat), (i : Int) < n → Ev te ((wipe s vs).set j (some (.int (i : Int)))) H (w i)) : EvL (tLc (iRng1 ta) (gName j) tYes te vs) s H ((List.range n.toNat).map w) := by
  have h2 := el_lcR1 (fun _ => true) w h hn hw (fun i H1 _ _ => et_yes) (fun i H1 e hi _ => (he i hi).mono e)
  have e : given n.toNat (fun _ => true) w = (List.range n.toNat).map w := by
    unfold given
    rw [filter_yes]
  rw [e] at h2
  exact h2
/-- [e for x in a new list] -/
theorem el_mapN {α : Type} {tl : TE} {j : Nat} {vs : List Nat} (l : List α) (c : α → V) (w : α → V) (h : EvP tl s H (IsL (l.map c))) (hz : l.length ≤ 100000) (hw : ∀ x, wipe ((wipe s vs).set j (some x)) vs = wipe s vs)
    (he : ∀ x ∈ l, Ev te ((wipe s vs).set j (some (c x))) H (w x)) : EvL (tLc (iList K tl) (gName j) tYes te vs) s H (l.map w) := fun H0 e Q q => h H0 e _ fun v H1 e1 ⟨a, ev, hx⟩ => ⟨a, ev, ⟨_, sq_of hx⟩, fun Dl hD =>
  lc_list (xs := l.map c) (Cx2 H1 l (fun _ => true) w Dl) ⟨hD, Ex.new hD, by rw [List.take_zero]; exact upd_same⟩ (fun i H' _ p => sq_of (p.2.1 _ _ hx)) (fun i x H' hi p => by
    rw [List.getElem?_map] at hi
    cases ha : l[i]? with
    | none => rw [ha] at hi; cases hi
    | some b =>
      rw [ha] at hi
      obtain rfl : c b = x := Option.some.inj hi
      have hm : b ∈ l := List.mem_of_getElem? ha
      exact ⟨hw _, cx_turn p ha hz et_yes (fun _ => (he b hm).mono (e.trans e1))⟩)
    (fun H' p => by
      have p3 := p.2.2
      rw [List.length_map, List.take_length, filter_yes] at p3
      exact q Dl H' (fresh_back e1 p.1) (e1.trans p.2.1) p3)⟩

/-! ### subscripts, slices, == of lists of ints -/
theorem ev_ixL {xs : List V} {i : Int} (ha : EvP ta s H (IsL xs)) (hb : Ev tb s H (.int i)) (hv : atI xs i = some v) : Ev (tOp (rIxL K) ta tb) s H v :=
  ev_opP ha hb.p fun a b H1 _ ⟨p, pa, hp⟩ pb => by
    subst pa; cases pb
    exact rv_ixL (sq_of hp) hv
theorem ev_ixU {xs : List V} {i : Int} (ha : EvP ta s H (IsU xs)) (hb : Ev tb s H (.int i)) (hv : atI xs i = some v) : Ev (tOp (rIxT K) ta tb) s H v :=
  ev_opP ha hb.p fun a b H1 _ ⟨p, pa, hp⟩ pb => by
    subst pa; cases pb
    exact rv_ixT (st_of hp) hv
/-- for x, y in zip(xs, ys) -/
theorem w_forZip {a b : Addr} {xs ys : List V} {j1 j2 : Nat} (ha : Ev ta s H (.ref a)) (hb : Ev tb s H (.ref b)) (hx : SqL K H a xs) (hy : SqL K H b ys) (hl : xs.length = ys.length) (Pv : Nat → L2.St → Hp → Prop) (h0 : ∀ H1, Ex H H1 → Pv 0 s H1) (hq : ∀ i s' H', Pv i s' H' → Ex H H')
    (hs : ∀ i x y s' H', xs[i]? = some x → ys[i]? = some y → Pv i s' H' → Sv tu { D with nx := Pv (i + 1), ct := Pv (i + 1), bk := tz D } ((s'.set j1 (some x)).set j2 (some y)) H') (hd : ∀ s' H', Pv xs.length s' H' → Sv tz D s' H') :
    Sv (tSeq (tFor (iZip K (tCons ta (tCons tb tNil))) (gTup K 2 (gCons (gName j1) (gCons (gName j2) gNil))) tu) tz) D s H := fun H1 e1 =>
  ha H1 e1 _ fun H2 e2 => hb H2 (e1.trans e2) _ fun H3 e3 => ⟨a, b, xs, ys, rfl, ex_l ((e1.trans e2).trans e3) hx, ex_l ((e1.trans e2).trans e3) hy,
    RZ.for_zipL (D := { D with nx := tz D }) hl Pv (h0 H3 ((e1.trans e2).trans e3)) (fun i s' H' p => ⟨ex_l (hq i s' H' p) hx, ex_l (hq i s' H' p) hy⟩) (fun i x y T s' H' h1 h2 p hT =>
      ⟨T, [x, y], rfl, st_of upd_same, rfl, x, [y], rfl, y, [], rfl, rfl, hs i x y s' H' h1 h2 p _ (Ex.new hT)⟩) (fun s' H' p => (hd s' H' p).go)⟩
theorem el_cat {xs ys : List V} (ha : EvP ta s H (IsL xs)) (hb : EvP tb s H (IsL ys)) (hz : xs.length + ys.length ≤ 100000) : EvL (tOp rCat ta tb) s H (xs ++ ys) := fun H1 e Q q =>
  ha H1 e _ fun a H2 e2 ⟨p, pa, hp⟩ => hb H2 (e.trans e2) _ fun b H3 e3 ⟨p2, pb, hp2⟩ => ⟨p, p2, xs, ys, pa, pb, e3 _ _ hp, hp2, sz_of hz, fun l hl => q l _ (fresh_back (e2.trans e3) hl) ((e2.trans e3).trans (Ex.new hl)) upd_same⟩
theorem el_rep {xs : List V} {k : Int} (ha : EvP ta s H (IsL xs)) (hb : Ev tb s H (.int k)) (h0 : 0 ≤ k) (h1 : k ≤ 100000) (hz : xs.length * k.toNat ≤ 100000) : EvL (tOp rRep ta tb) s H (List.replicate k.toNat xs).flatten := fun H1 e Q q =>
  ha H1 e _ fun a H2 e2 ⟨p, pa, hp⟩ => hb H2 (e.trans e2) _ fun H3 e3 => ⟨p, k, xs, pa, rfl, e3 _ _ hp, by omega, by omega, sz_of hz, fun l hl => q l _ (fresh_back (e2.trans e3) hl) ((e2.trans e3).trans (Ex.new hl)) upd_same⟩
/-- xs.index(y), y in the list of ints xs -/
theorem ev_index {ns : List Int} {j : Nat} {m : Int} {p : Addr} (ha : Ev ta s H (.ref p)) (hp : H p = some (.lst (ns.map V.int))) (hb : Ev tb s H (.int m)) (hj : ns[j]? = some m) (hf : ∀ (k : Nat) (z : Int), k < j → ns[k]? = some z → z ≠ m) :
    Ev (tBM K "list" (rIndex K) ta (tCons tb tNil)) s H (.int (j : Int)) := fun H1 e Q q =>
  ha H1 e _ fun H2 e2 => ⟨Or.inl ⟨rfl, _, sq_of ((e.trans e2) _ _ hp)⟩, hb H2 (e.trans e2) _ fun H3 e3 => ⟨p, ns.map V.int, .int m, j, .int m, rfl, rfl, sq_of (((e.trans e2).trans e3) _ _ hp), rfl, by simp [List.all_eq_true, flatV], by rw [List.getElem?_map, hj]; rfl, by simp [eqV], fun k z' hk hz => by
    rw [List.getElem?_map] at hz
    cases h : ns[k]? with
    | none => rw [h] at hz; cases hz
    | some z =>
      rw [h] at hz
      obtain rfl : V.int z = z' := Option.some.inj hz
      simpa [eqV] using hf k z hk h, q H3 (e2.trans e3)⟩⟩

/-! data -/
mutual
theorem dp_mono (e : Ex H H') : ∀ (d : PyData) (v : V), Dp K H v d → Dp K H' v d
  | .none, _, h => by cases h; exact .non
  | .bool b, _, h => by cases h; exact .bl b
  | .int i, _, h => by cases h; exact .int i
  | .str x, _, h => by cases h; exact .str x
  | .list ds, _, h => by
    cases h with
    | lst hs ha => exact .lst (ex_l e hs) (dpa_mono e ds _ ha)
  | .tuple ds, _, h => by
    cases h with
    | tup hs ha => exact .tup (ex_t e hs) (dpa_mono e ds _ ha)
  | .dict _, _, h => by cases h
theorem dpa_mono (e : Ex H H') : ∀ (ds : List PyData) (vs : List V), DpAll K H vs ds → DpAll K H' vs ds
  | [], _, h => by cases h; exact .nil
  | d :: ds, _, h => by
    cases h with
    | cons h1 h2 => exact .cons (dp_mono e d _ h1) (dpa_mono e ds _ h2)
end
def IsD (K : PySem.W.Frag) (d : PyData) : V → Hp → Prop := fun x H => Dp K H x d
instance {d : PyData} : MonoP (IsD K d) := ⟨fun e h => dp_mono e d _ h⟩
theorem ints_dp : ∀ ns : List Int, DpAll K H (ns.map V.int) (ns.map PyData.int)
  | [] => .nil
  | n :: r => .cons (.int n) (ints_dp r)
/-- a list of ints, as data -/
def dI (ns : List Int) : PyData := .list (ns.map PyData.int)
theorem isL_d {ns : List Int} : IsL (ns.map V.int) x H → IsD K (dI ns) x H := fun ⟨p, e, hp⟩ => by
  subst e
  exact .lst (sq_of hp) (ints_dp ns)
theorem evp_d {ns : List Int} (h : EvP te s H (IsL (ns.map V.int))) : EvP te s H (IsD K (dI ns)) := h.imp fun _ _ _ p => isL_d p
theorem dI_lay0 : ∀ ns : List Int, PyData.canLayAll0 (ns.map PyData.int) = true
  | [] => by simp [PyData.canLayAll0]
  | n :: r => by simp [PyData.canLayAll0, PyData.canLay0, dI_lay0 r]
theorem dI_depth : ∀ ns : List Int, PyData.depthAll (ns.map PyData.int) = 0
  | [] => by simp [PyData.depthAll]
  | n :: r => by simp [PyData.depthAll, PyData.depth, dI_depth r]
theorem dI_shaped (ns : List Int) : SeqAt.shaped (dI ns) = true := by
  simp [SeqAt.shaped, dI, PyData.canLay0, PyData.depth, dI_lay0, dI_depth]
theorem dI_eqvAll : ∀ a b : List Int, PyData.eqvAll (a.map PyData.int) (b.map PyData.int) = decide (a = b)
  | [], [] => by simp [PyData.eqvAll]
  | [], y :: b => by simp [PyData.eqvAll]
  | x :: a, [] => by simp [PyData.eqvAll]
  | x :: a, y :: b => by
    show PyData.eqvAll (.int x :: a.map PyData.int) (.int y :: b.map PyData.int) = _
    rw [PyData.eqvAll, dI_eqvAll a b, PyData.eqv]
    by_cases h : x = y <;> simp [h]
theorem dI_eqv (a b : List Int) : PyData.eqv (dI a) (dI b) = decide (a = b) := by
  show PyData.eqv (.list _) (.list _) = _
  rw [PyData.eqv, dI_eqvAll]
theorem ev_eqD {d e : PyData} (ha : EvP ta s H (IsD K d)) (hb : EvP tb s H (IsD K e)) (h1 : SeqAt.shaped d = true) (h2 : SeqAt.shaped e = true) : Ev (tOp (rEqD K) ta tb) s H (.bl (PyData.eqv d e)) :=
  ev_opP ha hb fun a b H1 _ pa pb H2 e2 Q q => ⟨d, e, dp_mono e2 d _ pa, dp_mono e2 e _ pb, h1, h2, q H2 (Ex.refl H2)⟩
theorem ev_neD {d e : PyData} (ha : EvP ta s H (IsD K d)) (hb : EvP tb s H (IsD K e)) (h1 : SeqAt.shaped d = true) (h2 : SeqAt.shaped e = true) : Ev (tOp (rNeD K) ta tb) s H (.bl (!PyData.eqv d e)) :=
  ev_opP ha hb fun a b H1 _ pa pb H2 e2 Q q => ⟨d, e, dp_mono e2 d _ pa, dp_mono e2 e _ pb, h1, h2, q H2 (Ex.refl H2)⟩
theorem ev_eqL {a b : List Int} (ha : EvP ta s H (IsL (a.map V.int))) (hb : EvP tb s H (IsL (b.map V.int))) : Ev (tOp (rEqD K) ta tb) s H (.bl (decide (a = b))) := by
  rw [← dI_eqv]
  exact ev_eqD (evp_d ha) (evp_d hb) (dI_shaped a) (dI_shaped b)
theorem ev_neL {a b : List Int} (ha : EvP ta s H (IsL (a.map V.int))) (hb : EvP tb s H (IsL (b.map V.int))) : Ev (tOp (rNeD K) ta tb) s H (.bl (!decide (a = b))) := by
  rw [← dI_eqv]
  exact ev_neD (evp_d ha) (evp_d hb) (dI_shaped a) (dI_shaped b)

/-! slices, +, reversal -/
theorem el_sliceL {tl th : TO} {xs : List V} {lo hi : Option Int} (h : EvP te s H (IsL xs)) (h1 : EvO tl s H lo) (h2 : EvO th s H hi) : EvL (tSl (rSlL K) te tl th) s H (cutV xs lo hi) := fun H1 e Q q =>
  h H1 e _ fun v H2 e2 ⟨a, ev, hp⟩ => h1 H2 (e.trans e2) _ fun H3 e3 => h2 H3 ((e.trans e2).trans e3) _ fun H4 e4 =>
    ⟨a, xs, ev, sq_of (e4 _ _ (e3 _ _ hp)), fun p hp => q p _ (fresh_back ((e2.trans e3).trans e4) hp) (((e2.trans e3).trans e4).trans (Ex.new hp)) upd_same⟩
theorem el_revL {xs : List V} (h : EvP te s H (IsL xs)) : EvL (tRevL K te) s H xs.reverse := fun H1 e Q q =>
  h H1 e _ fun v H2 e2 ⟨a, ev, hp⟩ => ⟨a, xs, ev, sq_of hp, fun p hp => q p _ (fresh_back e2 hp) (e2.trans (Ex.new hp)) upd_same⟩
theorem cut_to {xs : List V} {k : Nat} : cutV xs none (some (k : Int)) = xs.take k := by
  unfold cutV
  rw [HT.sIx_nat, HT.sIx_none, List.drop_zero, Nat.sub_zero]
  by_cases h : k ≤ xs.length
  · rw [Nat.min_eq_left h]
  · rw [Nat.min_eq_right (by omega), List.take_length, List.take_of_length_le (by omega)]
theorem cut_from {xs : List V} {k : Nat} : cutV xs (some (k : Int)) none = xs.drop k := by
  unfold cutV
  rw [HT.sIx_nat, HT.sIx_none]
  by_cases h : k ≤ xs.length
  · rw [Nat.min_eq_left h, List.take_of_length_le (by rw [List.length_drop]; omega)]
  · rw [Nat.min_eq_right (by omega), List.drop_length, List.drop_of_length_le (by omega), List.take_nil]
theorem ev_var' {i : Nat} {p : Addr} {xs : List V} (h : s[i]? = some (some (.ref p))) (hp : H p = some (.lst xs)) : EvP (tVar i) s H (IsL xs) := fun H1 e _ q => ⟨_, h, q _ H1 (Ex.refl H1) ⟨p, rfl, e _ _ hp⟩⟩
theorem ev_varU {i : Nat} {p : Addr} {xs : List V} (h : s[i]? = some (some (.ref p))) (hp : H p = some (.tup xs)) : EvP (tVar i) s H (IsU xs) := fun H1 e _ q => ⟨_, h, q _ H1 (Ex.refl H1) ⟨p, rfl, e _ _ hp⟩⟩
end
/-! ### defs -/
section
variable {P : Program} {w : World} {K : PySem.W.Frag} {mg : Str → Option Value} {base : Heap}
/-- a def of the text as the top leaves it -/
def Raw (K : PySem.W.Frag) (mg : Str → Option Value) (x : Str) (st : Stmt) (ps : List Str) : Prop := ∃ f fd, Fun K x x st f fd ∧ mg x = some (.ref f) ∧ Binds K fd ps []
/-- a def with its promise -/
def Def (P : Program) (w : World) (K : PySem.W.Frag) (mg : Str → Option Value) (base : Heap) (CX : CXT) (k : Nat) (x : Str) (ps : List Str) (sp : Sp) : Prop :=
  ∃ f fd, FnOk P w K mg base CX k f fd ps sp ∧ mg x = some (.ref f) ∧ PySem.W.keepIn K (.ref f) = true ∧ Binds K fd ps []
theorem Raw.ok {x : Str} {st : Stmt} {ps : List Str} {CX : CXT} {k : Nat} {sp : Sp} (r : Raw K mg x st ps) (h : ∀ f fd, Fun K x x st f fd → FnOk P w K mg base CX k f fd ps sp) : Def P w K mg base CX k x ps sp := by
  obtain ⟨f, fd, F, g, b⟩ := r
  exact ⟨f, fd, h f fd F, g, F.kp, b⟩
end
section
variable {X : Cx} {CX : CXT} {k j : Nat} {x : Str} {ps : List Str} {sp : Sp} {E : XK} {p pos : Pos} {e : Expr} {es : List Expr} {t : TA}
/-- the rule of a call, the def's address hidden -/
theorem pe_def (d : Def X.prog X.w X.K X.mg X.base CX k x ps sp) (hr : Room j X.A) (hk : k ≤ j) (hg : Gl X x) (hx : Passes CX X E) (ha : PA X (e :: es) t) (hdb : (x == ("__debug__" : Str)) = false := by decide)
    (he : starEach (e :: es) X.env = (false, eval e X.env) :: starEach es X.env := by rfl) (hpl : (backTo pos (starEach es X.env)).any (·.1) = false := by rfl) :
    PE X (.Call (.Name x p) (e :: es) [] pos) (tCall sp [] E t) := by
  refine ⟨fun pins s σ H Q I h => ?_⟩
  obtain ⟨f, fd, F, g, kp, b⟩ := d
  exact (pe_call F (hr.mono hk) hg g kp b .nil hx ha hdb he hpl).run pins s σ H Q I h
theorem pe_def0 (d : Def X.prog X.w X.K X.mg X.base CX k x ps sp) (hr : Room j X.A) (hk : k ≤ j) (hg : Gl X x) (hx : Passes CX X E) (hdb : (x == ("__debug__" : Str)) = false := by decide) :
    PE X (.Call (.Name x p) [] [] pos) (tCall sp [] E tNil) := by
  refine ⟨fun pins s σ H Q I h => ?_⟩
  obtain ⟨f, fd, F, g, kp, b⟩ := d
  exact (pe_call0 F (hr.mono hk) hg g kp b .nil hx hdb).run pins s σ H Q I h
end
end Wk

set_option Elab.async false
set_option linter.all false
set_option maxRecDepth 100000
set_option maxHeartbeats 4000000
/-! Sk: sorted(range(n), key=lambda place: row[place], reverse=True), a rule of our own. -/
namespace Sk
open PySem PySem.Spec PyProof.Rows L2 LamX
open PySem.W (EachIs AllAlike Sortable dataLe KeyPure KeepsBut)
section
variable {prog : Program} {w : World} {A : Around} {E : Value → Shared → Prop} {s : Shared}
/-- the ints 0 .. n - 1 -/
def ups (n : Nat) : List Int := (List.range n).map fun i : Nat => (i : Int)
theorem each_of_get {vs : List Value} {n : Nat} (hl : vs.length = n) (h : ∀ (j : Nat) (v : Value), vs[j]? = some v → ∃ t, v = .int (j : Int) t) : EachIs (fun v (i : Int) => ∃ t, v = .int i t) vs (ups n) := by
  have aux : ∀ (us : List Value) (k : Nat), (∀ (j : Nat) (v : Value), us[j]? = some v → ∃ t, v = .int ((k + j : Nat) : Int) t) → EachIs (fun v (i : Int) => ∃ t, v = .int i t) us ((List.range us.length).map fun i : Nat => ((k + i : Nat) : Int)) := by
    intro us
    induction us with
    | nil => intro k _; exact .nil
    | cons u r ih =>
      intro k hk
      rw [List.length_cons, List.range_succ_eq_map, List.map_cons, List.map_map]
      refine .cons (hk 0 u rfl) ?_
      have h2 := ih (k + 1) fun j v hj => by
        have := hk (j + 1) v (by simpa using hj)
        rw [show k + 1 + j = k + (j + 1) by omega]
        exact this
      have e : (List.range r.length).map ((fun i : Nat => ((k + i : Nat) : Int)) ∘ Nat.succ) = (List.range r.length).map fun i : Nat => ((k + 1 + i : Nat) : Int) := by
        refine List.map_congr_left fun i _ => ?_
        show ((k + (i + 1) : Nat) : Int) = ((k + 1 + i : Nat) : Int)
        congr 1
        omega
      rw [e]
      exact h2
  have h0 := aux vs 0 fun j v hj => by
    rw [Nat.zero_add]
    exact h j v hj
  rw [hl] at h0
  simpa [ups] using h0
theorem sorted_range_key {r : Addr} {n : Nat} {t u v : Tok} {f : Value} {kw : List (Str × Value)} {b : Bool} {Q : Value → Shared → Prop} (key : Int → Int) (hh : A.handled = none) (hr : IsRange s.heap r 0 (n : Int) 1 t u v) (hn : n ≤ 100000) (hu : A.units + 64 < cLine)
    (ha1 : argsOk "sorted" ⟨[.ref r], kw⟩) (ha2 : ∀ x, argsOk "list.sort" ⟨[.ref x], kw⟩) (ht : ∀ x, Builtin.«list.sort» ⟨[.ref x], kw⟩ = ksk_tree x f b)
    (turn : ∀ (v : Value) (i : Int), (∃ t, v = .int i t) → i ∈ ups n → ∀ (h : Heap) (tk : Nat), (∀ b o, s.heap.get? b = some o → h.get? b = some o) →
      wpAny (model prog w) A.in1.in1 (call f [v]) (KeyPure (.int (key i)) { s with heap := h, toks := tk }) (fun _ _ => False) { s with heap := h, toks := tk })
    (h : ∀ (h1 : Heap) (out : List Value) (c : Nat) (h' : Heap) (tk : Nat), (∀ b o, s.heap.get? b = some o → h1.get? b = some o) → (∀ b o, h1.get? b = some o → h'.get? b = some o) → h'.get? h1.objs.size = some (seqObj "list" out.toArray c) →
      EachIs (fun v (i : Int) => ∃ t, v = .int i t) out ((ups n).mergeSort (dataLe b fun i => .int (key i))) → Q (.ref h1.objs.size) { s with heap := h', toks := tk }) :
    wpAny (model prog w) A (call (.builtin "sorted") [.ref r] kw) Q E s := by
  have hs : sizeLine = 16777216 := sizeLine_eq
  refine call_function_entry_kw kind_sorted plain_sorted entry_sorted ha1 ?_
  unfold Builtin.«sorted»
  refine wpAny_bind (m := checkCount "sorted" 1 1 _) (wpAny_pure ?_)
  refine wpAny_bind (L2.collect_range (A := A.in1) (n := n) hh hr (small_one (by omega) (by omega) (by omega) (by omega)) (by rw [rangeSize_nat]; congr 1) (by omega) fun h1 tk acc k1 hi => ?_)
  have hlen : acc.toList.length = n := by rw [Array.length_toList]; exact hi.1
  refine wpAny_bind (wpAny_newList ?_ (by rw [hlen]; omega))
  have each := each_of_get (vs := acc.toList) hlen fun j v hj => by
    obtain ⟨t, e⟩ := hi.2 j v (by rw [← hj, Array.getElem?_toList])
    refine ⟨t, ?_⟩
    rw [e]
    congr 1
    omega
  have upk : ∀ {g : Heap}, KeepsBut h1.objs.size (h1.push (seqObj "list" acc.toList.toArray 0)) g → ∀ b o, h1.get? b = some o → g.get? b = some o := fun {g} kp b o q =>
    kp b o (Nat.ne_of_lt (Heap.lt_size q)) (Heap.get?_push_of_some _ q)
  refine wpAny_bind (wpAny_holding ?_)
  show wpAny (model prog w) A.in1 (call (.builtin "list.sort") [.ref h1.objs.size] kw) _ _ { s with heap := h1.push (seqObj "list" acc.toList.toArray 0), toks := tk }
  refine PySem.W.list_sort_key_data (s := { s with heap := h1.push (seqObj "list" acc.toList.toArray 0), toks := tk }) (f := f) (b := b) (fun i : Int => PyData.int (key i)) (Heap.get?_push_size _ rfl) each ?_ ?_ ?_ ?_ (ha2 _) (ht _) (fun v i hv hi h tk kp => turn v i hv hi h tk (fun b o e => upk kp b o (k1 b o e))) fun out c h' tk' kp hD _ eo => ?_
  · intro d hd d' hd'
    obtain ⟨x, _, rfl⟩ := List.mem_map.mp hd
    obtain ⟨y, _, rfl⟩ := List.mem_map.mp hd'
    rfl
  · refine .inr fun d hd => ?_
    obtain ⟨x, _, rfl⟩ := List.mem_map.mp hd
    exact ⟨(fun z => by cases z), (fun xs z => by cases z)⟩
  · simp [ups]; omega
  · intro x _
    show A.units + 1 + 1 + 0 < cLine
    omega
  · exact wpAny_pure ⟨_, rfl, h h1 out c h' tk' k1 (upk kp) hD eo⟩
end
/-- the reading of sorted(range(e), key=lambda y: x[y], reverse=True), x in slot i -/
def tSortLam (K : PySem.W.Frag) (T : List (Addr × Str)) (i : Nat) (te : TE) : TE := fun σ H Q => te σ H fun x H1 => ∃ (n : Nat) (pr : Addr) (ns : List Int), x = .int (n : Int) ∧ n ≤ 100000 ∧ σ[i]? = some (some (.ref pr)) ∧ SqL K H1 pr (ns.map V.int) ∧ n ≤ ns.length ∧ Tabs T H1 ∧
  ∀ H2, ExtN H1 H2 → Tabs T H2 → SqL K H2 pr (ns.map V.int) → ∀ p, H2 p = none → Q (.ref p) (upd H2 p (.lst (((ups n).mergeSort fun a b => decide (ns.getD b.toNat 0 ≤ ns.getD a.toNat 0)).map V.int)))
theorem sqL_extN {K : PySem.W.Frag} {H H' : Hp} {a : Addr} {xs : List V} (e : ExtN H H') (h : SqL K H a xs) : SqL K H' a xs := by
  rcases h with (h | ⟨o, h⟩) | h
  · exact .inl (.inl (e _ _ h fun ps z => by cases z))
  · exact .inl (.inr ⟨o, e _ _ h fun ps z => by cases z⟩)
  · exact .inr h
theorem vals_ints_each : ∀ {out : List Value} {zs : List Int}, EachIs (fun v (i : Int) => ∃ t, v = .int i t) out zs → Vals (zs.map V.int) out
  | _, _, .nil => .nil
  | _, _, .cons h t => .cons h (vals_ints_each t)
section
variable {X : Cx}
theorem pe_sortLam {T : List (Addr × Str)} {c P : Addr} {k i : Nat} {a : Expr} {ta : TE} {x y : Str} {params : Arguments} {scope : Scope} {p p' p'' p1 p2 p3 p4 lpos kp kp2 pos : Pos} {kc : Nat} (hc : X.calm = true) (hgs : Gl X "sorted") (hms : X.mg "sorted" = none) (hgr : Gl X "range") (hmr : X.mg "range" = none) (ha : PE X a ta)
    (TB : TabB X.base X.mg c P) (hcode : X.env.code = .ref c) (hmT : (P, X.env.qual ++ "<lambda>") ∈ T) (hu : ∀ q ∈ T, q.1 = P → q.2 = X.env.qual ++ "<lambda>") (hr : Room (k + 2) X.A)
    (hx : X.N[i]? = some x) (hxc : X.env.scope.names.lookup x = some .cell) (hdef : defaultsOf params X.env = ([], []))
    (hk : scope.kind = .function) (hco : scope.isCoroutine = false) (hgen : scope.isGenerator = false) (hy : scope.names.lookup y = some .local) (hxf : scope.names.lookup x = some .free) (hnc : ∀ z ∈ scope.names, z.2 ≠ .cell) (hfree : ∀ z ∈ scope.names, z.2 = .free → z.1 = x)
    (hclo : ∀ cells : List (Str × Addr), (cloFrom cells scope.names []).lookup x = some ((cells.lookup x).getD 0))
    (hbind : ∀ (q : Str) (cl : List (Str × Addr)) (pm cv ctv v : Value), bindArgs (PySem.W.kla_fn "<lambda>" q params (.Subscript (.Name x p1) (.Name y p2) p3) scope cl pm cv ctv) ⟨[v], []⟩ = pure [(y, v)])
    (hdx : (x == ("__debug__" : Str)) = false := by decide) (hdy : (y == ("__debug__" : Str)) = false := by decide) (hdc : (x == ("__classdict__" : Str)) = false := by decide) (na : starEach [a] X.env = (false, eval a X.env) :: starEach [] X.env := by rfl)
    (he : backTo pos (starEach [.Call (.Name "range" p') [a] [] p''] X.env) = (false, eval (.Call (.Name "range" p') [a] [] p'') X.env) :: backTo pos (starEach [] X.env) := by rfl) (hpl : (backTo pos (starEach [.Call (.Name "range" p') [a] [] p''] X.env)).any (·.1) = false := by rfl)
    (hall : (backToKw pos (keywordEach [⟨some "key", .Lambda params (.Subscript (.Name x p1) (.Name y p2) p3) scope lpos, kp⟩, ⟨some "reverse", .Constant (.bool true) kc p4, kp2⟩] X.env)).all (·.1.isSome) = true := by rfl)
    (hnone : (backToKw pos (keywordEach [⟨some "key", .Lambda params (.Subscript (.Name x p1) (.Name y p2) p3) scope lpos, kp⟩, ⟨some "reverse", .Constant (.bool true) kc p4, kp2⟩] X.env)).any (·.1.isNone) = false := by rfl)
    (hks : (backToKw pos (keywordEach [⟨some "key", .Lambda params (.Subscript (.Name x p1) (.Name y p2) p3) scope lpos, kp⟩, ⟨some "reverse", .Constant (.bool true) kc p4, kp2⟩] X.env)).filterMap (·.1) = [Str.ofString "key", Str.ofString "reverse"] := by rfl) :
    PE X (.Call (.Name "sorted" p) [.Call (.Name "range" p') [a] [] p''] [⟨some "key", .Lambda params (.Subscript (.Name x p1) (.Name y p2) p3) scope lpos, kp⟩, ⟨some "reverse", .Constant (.bool true) kc p4, kp2⟩] pos) (tSortLam X.K T i ta) := by
  refine ⟨fun pins s σ H Q I h => ?_⟩
  have hhd : X.A.handled = none := hr.hd
  refine wpAny_Call_Name_kw (ld_blt (u := .builtin "sorted") I hgs hms (by decide +kernel) ?_ (by decide) (by decide))
  refine PyProof.Rows.callWith_kw ?_ he hpl hall hnone
  show wpAny _ _ (spliced ((false, eval (.Call (.Name "range" p') [a] [] p'') X.env) :: backTo pos (starEach [] X.env))) _ _ s
  refine Calls.spliced_cons (Call_ (ld_blt I hgr hmr boot_range (PyProof.Rows.callWith_type1 (one_arg ha I h (fun v s1 z H1 I1 r1 q1 => ?_) na) na)))
  obtain ⟨n, pr, ns, ez, hn, hpr, hsq, hle, hT, q⟩ := q1
  subst ez
  obtain ⟨tn, rfl⟩ := r1
  refine call_range_1 (Calls.spliced_nil ?_)
  -- the range object is pinned
  have I2 : Inv X pins σ H1 { s1 with heap := s1.heap.push { cls := .type "range", data := .fields #[.int 0 s1.toks, .int (n : Int) tn, .int 1 (s1.toks + 1)] }, toks := s1.toks + 1 + 1 } := I1.kept fun b o e => Heap.get?_push_of_some _ e
  have I3 : Inv X ((s1.heap.objs.size, { cls := .type "range", data := .fields #[.int 0 s1.toks, .int (n : Int) tn, .int 1 (s1.toks + 1)] }) :: pins) σ H1 { s1 with heap := s1.heap.push { cls := .type "range", data := .fields #[.int 0 s1.toks, .int (n : Int) tn, .int 1 (s1.toks + 1)] }, toks := s1.toks + 1 + 1 } :=
    I2.pins_of fun e he => by
      rcases List.mem_cons.mp he with rfl | he
      · exact ⟨Heap.get?_push_size _ rfl, I1.hok.fresh (Nat.le_refl _), Nat.ne_of_gt I1.lt, I1.nofs (Nat.le_refl _), fun v z => by cases z⟩
      · exact I2.pin e (List.mem_append_right _ he)
  show wpAny _ _ (evalAll ((do let v ← eval (.Lambda params (.Subscript (.Name x p1) (.Name y p2) p3) scope lpos) X.env; standAt pos; pure v) :: (do let v ← eval (.Constant (.bool true) kc p4) X.env; standAt pos; pure v) :: [])) _ _ _
  refine wpAny_evalAll_cons (wpAny_bind (lam_make2 I3 TB hcode hmT hu hT hdef (fun z hz e => ?_) fun f c' pm ctv H4 s4 I4 eN T4 hf hfn hfr hco' => wpAny_bind (wpAny_standAt (wpAny_pure ?_))))
  · have e2 := hfree z hz e
    rw [e2]
    exact I.ok.has x (.inl hxc)
  refine wpAny_evalAll_cons (wpAny_bind (Constant_bool (wpAny_bind (wpAny_standAt (wpAny_pure (wpAny_evalAll_nil ?_))))))
  rw [hks]
  have hrg : IsRange s4.heap s1.heap.objs.size 0 (n : Int) 1 s1.toks tn (s1.toks + 1) := (I4.pin _ (List.mem_append_right _ List.mem_cons_self)).1
  have hsq4 := sqL_extN eN hsq
  obtain ⟨its, rv, pl, hz⟩ := I4.list hsq4
  obtain ⟨m4, hn4, hl4⟩ := I4.loc
  obtain ⟨u, ru, lk⟩ := hl4 i x (.ref pr) hx hpr (.inr (.inl hxc))
  obtain rfl : u = Value.ref pr := ru
  obtain ⟨oc, vs, tq, hoc, hdc', hvc⟩ := (I4.hok c' _ hco').1
  have hil : its.length = ns.length := by
    have := rv.length
    rw [List.length_map] at this
    exact this.symm
  refine sorted_range_key (b := true) (fun j => ns.getD j.toNat 0) hhd hrg hn hr.units (ksk_s2 _ _ _) (fun _ => ksk_l2 _ _ _) (fun _ => ksk_t2 _ _ _) (fun v j hv hj h' tk k => ?_) fun h1 out c2 h' tk k1 k2 hD eo => ?_
  · -- the lambda at a place
    obtain ⟨t, rfl⟩ := hv
    obtain ⟨jn, hjn, rfl⟩ := List.mem_map.mp hj
    have hj2 : jn < n := List.mem_range.mp hjn
    refine wpAny_call (PySem.W.kla_callFunE hr.depth (k _ _ hf) rfl hco hgen rfl ⟨c', oc, vs, tq, rfl, k _ _ hoc, hdc', hvc⟩ ?_)
    rw [hbind]
    refine wpAny_pure (wpAny_newFunctionEnv hnc (fun z hz => ?_) (fun h2 hns hsb => ⟨(I4.nolimit.keeps k).fresh _ hsb, ?_⟩) hk)
    · have : z = (y, Value.int (jn : Int) t) := by simpa using hz
      rw [this]
      exact hy
    have kp : ∀ b o, h'.get? b = some o → h2.get? b = some o := fun b o e => hsb.extBut b o (Nat.ne_of_lt (Heap.lt_size e)) (Heap.get?_push_of_some _ e)
    refine PySem.W.kla_codeExpr (Subscript_ (wpAny_Name ?_ hdx))
    have hcell : ∃ cc, X.env.cells.lookup x = some cc ∧ s4.heap.IsCell cc (some (.ref pr)) := by
      rcases lk with ⟨kk, _⟩ | ⟨_, cc, e1, e2⟩
      · have kk : X.env.scope.names.lookup x = some .local := kk
        rw [hxc] at kk
        cases kk
      · exact ⟨cc, e1, e2⟩
    obtain ⟨cc, hcc, ⟨ocell, hoc1, hoc2⟩⟩ := hcell
    refine wpAny_loadName_free hk hxf (by show (cloFrom X.env.cells scope.names []).lookup x = some cc; rw [hclo, hcc]; rfl) ⟨ocell, kp _ _ (k _ _ hoc1), hoc2⟩ ?_ hdc
    refine wpAny_Name (wpAny_loadName_local hk hy hns (v := .int (jn : Int) t) (by simp [List.lookup]) ?_) hdy
    have hjl : jn < ns.length := by omega
    obtain ⟨w', hw', rw'⟩ := rv.get (i := jn) (x := .int ns[jn]) (by rw [List.getElem?_map, List.getElem?_eq_getElem hjl]; rfl)
    obtain ⟨t2, rfl⟩ := rw'
    have hlist : h2.IsList pr its.toArray := by
      obtain ⟨ol, hol, r1⟩ := pl.isList
      exact ⟨ol, kp _ _ (k _ _ hol), r1⟩
    refine item_listR hlist (by omega) (by omega) (by rw [Int.toNat_natCast]; simpa using hw') ⟨h2, _, rfl, kp, ?_⟩ (by rfl)
    rw [Int.toNat_natCast, List.getD_eq_getElem?_getD, List.getElem?_eq_getElem hjl]
    exact Reads.int _ _
  · have eo' : EachIs (fun v (i : Int) => ∃ t, v = .int i t) out ((ups n).mergeSort fun a b => decide (ns.getD b.toNat 0 ≤ ns.getD a.toNat 0)) := by
      rw [PySem.W.dataGe_int] at eo
      exact eo
    have I5 : Inv X ((s1.heap.objs.size, { cls := .type "range", data := .fields #[.int 0 s1.toks, .int (n : Int) tn, .int 1 (s1.toks + 1)] }) :: pins) σ H4 { s4 with heap := h1, toks := tk } := I4.kept k1
    have hfr5 : H4 h1.objs.size = none := I5.hok.fresh (Nat.le_refl _)
    have hlen : (((ups n).mergeSort fun a b => decide (ns.getD b.toNat 0 ≤ ns.getD a.toNat 0)).map V.int).length ≤ sizeLine := by
      rw [List.length_map, List.length_mergeSort, ups, List.length_map, List.length_range]
      exact Nat.le_trans hn (by decide)
    have I6 := I5.laid (h' := h') (t' := tk) (a := h1.objs.size) (o := .lst (((ups n).mergeSort fun a b => decide (ns.getD b.toNat 0 ≤ ns.getD a.toNat 0)).map V.int)) k2 (Nat.le_refl _) ⟨hlen, out, c2, vals_ints_each eo', hD⟩
    exact ⟨.ref h1.objs.size, _, I6.pins_of fun e he => I6.pin e (List.mem_append_right _ (List.mem_cons_of_mem _ he)), rfl, q H4 eN T4 hsq4 _ hfr5⟩
end
end Sk

set_option Elab.async false
set_option linter.all false
set_option maxRecDepth 100000
set_option maxHeartbeats 4000000
/-! Gk: what is kept where lambdas may be made (ExT), lists of tuples (TupsAt), further rules of our own. -/
namespace Wk
open PySem PySem.Spec PyProof.Rows L2 Evl LamX Sk

/-! ### heaps behind a lambda -/
structure ExT (T : List (Addr × Str)) (H H' : Hp) : Prop where
  nt : ExtN H H'
  tab : Tabs T H → Tabs T H'
/-- nothing of H but a table stands at p -/
def Nf (H : Hp) (p : Addr) : Prop := ∀ o, H p = some o → ∃ ps, o = .tbl ps
theorem nf_none {H : Hp} {p : Addr} (h : H p = none) : Nf H p := fun o e => by rw [h] at e; cases e
section
variable {T : List (Addr × Str)} {G H H' H2 : Hp} {a p l : Addr} {xs : List V} {o : HO}
theorem ExT.refl (H : Hp) : ExT T H H := ⟨ExtN.refl H, id⟩
theorem ExT.trans (a : ExT T G H) (b : ExT T H H2) : ExT T G H2 := ⟨a.nt.trans b.nt, fun t => b.tab (a.tab t)⟩
theorem ExT.of (e : Ex H H') : ExT T H H' := ⟨ExtN.of e, fun t => t.ext e⟩
theorem ExT.ex (a : ExT T G H) (e : Ex H H') : ExT T G H' := a.trans (.of e)
theorem ExT.lst (e : ExT T H H') (h : H a = some (.lst xs)) : H' a = some (.lst xs) := e.nt _ _ h fun ps z => by cases z
theorem ExT.tup (e : ExT T H H') (h : H a = some (.tup xs)) : H' a = some (.tup xs) := e.nt _ _ h fun ps z => by cases z
theorem ExT.ins {C dx : Addr} {fs : List (Str × V)} (e : ExT T H H') (h : H a = some (.ins C dx fs)) : H' a = some (.ins C dx fs) := e.nt _ _ h fun ps z => by cases z
theorem ExT.sq {K : PySem.W.Frag} (e : ExT T H H') (h : SqL K H a xs) : SqL K H' a xs := sqL_extN e.nt h
theorem ExT.nf (e : ExT T G H) (h : Nf H p) : Nf G p := fun o ho => Classical.byContradiction fun n => n (h o (e.nt _ _ ho fun ps z => n ⟨ps, z⟩))
theorem Ex.nf (e : Ex G H) (h : Nf H p) : Nf G p := (ExT.of (T := []) e).nf h
theorem nf_lst (h : H a = some (.lst xs)) (n : Nf H p) : a ≠ p := fun z => by
  rw [z] at h
  obtain ⟨ps, e⟩ := n _ h
  cases e
theorem nf_ins {C dx : Addr} {fs : List (Str × V)} (h : H a = some (.ins C dx fs)) (n : Nf H p) : a ≠ p := fun z => by
  rw [z] at h
  obtain ⟨ps, e⟩ := n _ h
  cases e
theorem tabs_put (t : Tabs T H) (hl : H l = some (.lst xs)) (p : Put l o H H') : Tabs T H' := fun q hq => by
  obtain ⟨ps, h1, h2, h3⟩ := t q hq
  have n1 : q.1 ≠ l := fun z => by rw [z, hl] at h1; cases h1
  refine ⟨ps, p.old _ _ n1 h1, h2, fun pos cv hc => ?_⟩
  obtain ⟨c, e, hc2⟩ := h3 pos cv hc
  have n2 : c ≠ l := fun z => by
    rw [z, hl] at hc2
    have z2 : HO.lst xs = CodeO l q.2 := Option.some.inj hc2
    unfold CodeO at z2
    cases z2
  exact ⟨c, e, p.old _ _ n2 hc2⟩
/-- a list changed in place that G did not know -/
theorem ExT.put (e : ExT T G H) (n : Nf G l) (hl : H l = some (.lst xs)) (p : Put l o H H') : ExT T G H' := ⟨fun b u hb hu => by
  refine p.old b u (fun z => ?_) (e.nt b u hb hu)
  rw [z] at hb
  obtain ⟨ps, z2⟩ := n _ hb
  exact hu ps z2, fun t => tabs_put (e.tab t) hl p⟩
end

/-! ### evaluations that may make a lambda -/
def EvPT (T : List (Addr × Str)) (te : TE) (s : L2.St) (H : Hp) (P : V → Hp → Prop) : Prop := ∀ H1, Ex H H1 → ∀ Q : VK, (∀ v H2, ExT T H1 H2 → P v H2 → Q v H2) → te s H1 Q
def EvTT (T : List (Addr × Str)) (t : TT) (s : L2.St) (H : Hp) (b : Bool) : Prop := ∀ H1, Ex H H1 → ∀ Q : Bool → Hp → Prop, (∀ H2, ExT T H1 H2 → Q b H2) → t s H1 Q
def EvAPT (T : List (Addr × Str)) (ta : TA) (s : L2.St) (H : Hp) (P : List V → Hp → Prop) : Prop := ∀ H1, Ex H H1 → ∀ Q : List V → Hp → Prop, (∀ v H2, ExT T H1 H2 → P v H2 → Q v H2) → ta s H1 Q
section
variable {K : PySem.W.Frag} {T : List (Addr × Str)} {s : L2.St} {H H' : Hp} {ta tb te tx tc : TE} {t u : TT} {x y z v : V} {P R : V → Hp → Prop} {D : Ends} {tu tw tz : TS}
theorem evpt_of (h : EvP te s H P) : EvPT T te s H P := fun H1 e Q q => h H1 e Q fun v H2 e2 p => q v H2 (.of e2) p
theorem evtt_of {b : Bool} (h : EvT t s H b) : EvTT T t s H b := fun H1 e Q q => h H1 e Q fun H2 e2 => q H2 (.of e2)
theorem w_asgT {i : Nat} (h : EvPT T te s H P) (k : ∀ v H1, ExT T H H1 → P v H1 → Sv tz D (s.set i (some v)) H1) : Sv (tSeq (tAsg te (gName i)) tz) D s H := fun H1 e1 =>
  h H1 e1 _ fun v H2 e2 p => k v H2 ((ExT.of e1).trans e2) p H2 (Ex.refl H2)
theorem w_retT (h : EvPT T te s H P) (k : ∀ v H1, ExT T H H1 → P v H1 → D.rt v H1) : Sv (tSeq (tRet te) tz) D s H := fun H1 e1 => h H1 e1 _ fun v H2 e2 p => k v H2 ((ExT.of e1).trans e2) p
theorem w_skipT (h : EvTT T t s H false) (k : ∀ H1, ExT T H H1 → Sv tz D s H1) : Sv (tSeq (tIfS t tu tNext) tz) D s H := fun H1 e1 => h H1 e1 _ fun H2 e2 => k H2 ((ExT.of e1).trans e2) H2 (Ex.refl H2)
theorem ett_or {a b : Bool} (h1 : EvTT T t s H a) (h2 : a = false → ∀ H1, ExT T H H1 → EvTT T u s H1 b) : EvTT T (tOr t u) s H (a || b) := fun H1 e Q q => h1 H1 e _ fun H2 e2 => by
  cases a with
  | true => exact q H2 e2
  | false => exact h2 rfl H2 ((ExT.of e).trans e2) H2 (Ex.refl H2) Q fun H3 e3 => q H3 (e2.trans e3)
theorem ett_not {a : Bool} (h1 : EvTT T t s H a) : EvTT T (tNot t) s H (!a) := fun H1 e _ q => h1 H1 e _ fun H2 e2 => q H2 e2
theorem ett_is {a b : Bool} (h : EvTT T t s H a) (e : a = b) : EvTT T t s H b := by
  rw [← e]
  exact h
theorem ett_B {b : Bool} (h : EvPT T te s H (Is (.bl b))) : EvTT T (tB te) s H b := fun H1 e _ q => h H1 e _ fun v H2 e2 p => by
  cases p
  exact ⟨b, rfl, q H2 e2⟩
theorem evpt_call {sp : Sp} {E : XK} {ta : TA} {P : List V → Hp → Prop} (h : EvAP ta s H P) (hs : ∀ vs H1, Ex H H1 → P vs H1 → ∀ Q : VK, (∀ v H2, ExT T H1 H2 → R v H2 → Q v H2) → sp vs H1 Q E) : EvPT T (tCall sp [] E ta) s H R := fun H1 e Q q =>
  h H1 e _ fun vs H2 e2 p => by
    rw [List.append_nil]
    exact hs vs H2 (e.trans e2) p Q fun v H3 e3 r => q v H3 ((ExT.of e2).trans e3) r
theorem evpt_callT {sp : Sp} {E : XK} {ta : TA} {P : List V → Hp → Prop} (h : EvAPT T ta s H P) (hs : ∀ vs H1, ExT T H H1 → P vs H1 → ∀ Q : VK, (∀ v H2, ExT T H1 H2 → R v H2 → Q v H2) → sp vs H1 Q E) : EvPT T (tCall sp [] E ta) s H R := fun H1 e Q q =>
  h H1 e _ fun vs H2 e2 p => by
    rw [List.append_nil]
    exact hs vs H2 ((ExT.of e).trans e2) p Q fun v H3 e3 r => q v H3 (e2.trans e3) r
theorem apt_last (h : EvPT T te s H P) : EvAPT T (tCons te tNil) s H (fun vs H => ∃ v, vs = [v] ∧ P v H) := fun H1 e Q q => h H1 e _ fun v H2 e2 p => q _ H2 e2 ⟨v, rfl, p⟩
theorem apt_cons {tr : TA} {R : List V → Hp → Prop} (h : Ev te s H x) (hr : EvAPT T tr s H R) : EvAPT T (tCons te tr) s H (fun vs H => ∃ r, vs = x :: r ∧ R r H) := fun H1 e Q q =>
  h H1 e _ fun H2 e2 => hr H2 (e.trans e2) _ fun vs H3 e3 p3 => q _ H3 ((ExT.of e2).trans e3) ⟨vs, rfl, p3⟩
/-- isinstance of something that a lambda was made for -/
theorem evpt_isi {t u : Value} {b : Bool} {c : V} (h : EvPT T te s H P) (hc : ∀ H1, ExT T H H1 → Ev tc s H1 c) (hv : ClsV c u) (ty : ∀ v H1, P v H1 → TyX K H1 v t) (hk : PySem.W.kitOne K t u = some b) : EvPT T (tCB (rIsi K) (tCons te (tCons tc tNil))) s H (Is (.bl b)) := fun H1 e Q q =>
  h H1 e _ fun v H2 e2 p => hc H2 ((ExT.of e).trans e2) H2 (Ex.refl H2) _ fun H3 e3 => ⟨v, c, t, u, b, rfl, hv, tyx_mono e3 (ty v H2 p), hk, q _ H3 (e2.trans (.of e3)) rfl⟩
theorem EvPT.imp (h : EvPT T te s H P) (k : ∀ v H1, ExT T H H1 → P v H1 → R v H1) : EvPT T te s H R := fun H1 e Q q => h H1 e Q fun v H2 e2 p => q v H2 e2 (k v H2 ((ExT.of e).trans e2) p)

/-- x = sorted(range(n), key=lambda y: x[y], reverse=True) -/
theorem w_sortLam {i j : Nat} {pr : Addr} {ns : List Int} (h : Ev te s H (.int (ns.length : Int))) (hs : s[i]? = some (some (.ref pr))) (hp : H pr = some (.lst (ns.map V.int))) (hz : ns.length ≤ 100000) (hT : Tabs T H)
    (k : ∀ p H1, ExT T H H1 → Nf H p → H1 p = some (.lst (((ups ns.length).mergeSort fun a b => decide (ns.getD b.toNat 0 ≤ ns.getD a.toNat 0)).map V.int)) → Sv tz D (s.set j (some (.ref p))) H1) :
    Sv (tSeq (tAsg (tSortLam K T i te) (gName j)) tz) D s H := fun H1 e1 =>
  h H1 e1 _ fun H2 e2 => ⟨ns.length, pr, ns, rfl, hz, hs, sq_of (e2 _ _ (e1 _ _ hp)), Nat.le_refl _, hT.ext (e1.trans e2), fun H3 eN T3 _ p hpn => by
    have e3 : ExT T H H3 := ((ExT.of (e1.trans e2)).trans ⟨eN, fun _ => T3⟩)
    exact k p _ (e3.ex (Ex.new hpn)) (e3.nf (nf_none hpn)) upd_same _ (Ex.refl _)⟩
end

/-! ### lists of tuples -/
def TupsAt (ts : List (List V)) (vs : List V) (H : Hp) : Prop := vs.length = ts.length ∧ ∀ (i : Nat) (t : List V), ts[i]? = some t → ∃ r : Addr, vs[i]? = some (V.ref r) ∧ H r = some (.tup t)
section
variable {T : List (Addr × Str)} {H H' : Hp} {ts us : List (List V)} {vs ws xs : List V} {l r : Addr} {t : List V} {o : HO}
theorem TupsAt.nil : TupsAt [] [] H := ⟨rfl, fun i t h => by simp at h⟩
theorem TupsAt.ext (h : TupsAt ts vs H) (e : ExtN H H') : TupsAt ts vs H' := ⟨h.1, fun i t ht => let ⟨r, a, b⟩ := h.2 i t ht; ⟨r, a, e _ _ b fun ps z => by cases z⟩⟩
theorem TupsAt.ex (h : TupsAt ts vs H) (e : Ex H H') : TupsAt ts vs H' := h.ext (ExtN.of e)
theorem TupsAt.put (h : TupsAt ts vs H) (hl : H l = some (.lst xs)) (p : Put l o H H') : TupsAt ts vs H' := ⟨h.1, fun i t ht => let ⟨r, a, b⟩ := h.2 i t ht; ⟨r, a, p.old _ _ (fun z => by rw [z, hl] at b; cases b) b⟩⟩
theorem TupsAt.app (h : TupsAt ts vs H) (g : TupsAt us ws H) : TupsAt (ts ++ us) (vs ++ ws) H := ⟨by rw [List.length_append, List.length_append, h.1, g.1], fun i t ht => by
  by_cases hi : i < ts.length
  · rw [List.getElem?_append_left hi] at ht
    rw [List.getElem?_append_left (by rw [h.1]; exact hi)]
    exact h.2 i t ht
  · rw [List.getElem?_append_right (by omega)] at ht
    rw [List.getElem?_append_right (by rw [h.1]; omega), h.1]
    exact g.2 _ t ht⟩
theorem TupsAt.one (h : H r = some (.tup t)) : TupsAt [t] [V.ref r] H := ⟨rfl, fun i t' ht => by
  cases i with
  | zero => cases ht; exact ⟨r, rfl, h⟩
  | succ i => simp at ht⟩
theorem TupsAt.snoc (h : TupsAt ts vs H) (hr : H r = some (.tup t)) : TupsAt (ts ++ [t]) (vs ++ [V.ref r]) H := h.app (.one hr)
theorem TupsAt.at (h : TupsAt ts vs H) {i : Nat} {x : V} (hx : vs[i]? = some x) : ∃ t r, ts[i]? = some t ∧ x = .ref r ∧ H r = some (.tup t) := by
  have hi : i < ts.length := by rw [← h.1]; exact (List.getElem?_eq_some_iff.mp hx).1
  obtain ⟨r, a, b⟩ := h.2 i _ (List.getElem?_eq_getElem hi)
  rw [hx] at a
  exact ⟨_, r, List.getElem?_eq_getElem hi, Option.some.inj a, b⟩
theorem TupsAt.cut (h : TupsAt (ts ++ [t]) vs H) : ∃ ws r, vs = ws ++ [V.ref r] ∧ TupsAt ts ws H ∧ H r = some (.tup t) := by
  have hl := h.1
  rw [List.length_append, List.length_singleton] at hl
  have hlast := h.2 ts.length t (by rw [List.getElem?_append_right (Nat.le_refl _), Nat.sub_self]; rfl)
  obtain ⟨r, a, b⟩ := hlast
  have e : vs = vs.take ts.length ++ [V.ref r] := by
    have e1 : vs.take (ts.length + 1) = vs := List.take_of_length_le (by omega)
    have e2 : vs.take (ts.length + 1) = vs.take ts.length ++ [V.ref r] := by
      rw [List.take_add_one, a]
      rfl
    exact e1.symm.trans e2
  refine ⟨vs.take ts.length, r, e, ⟨by rw [List.length_take]; omega, fun i u hu => ?_⟩, b⟩
  have hi : i < ts.length := (List.getElem?_eq_some_iff.mp hu).1
  obtain ⟨r2, a2, b2⟩ := h.2 i u (by rw [List.getElem?_append_left hi]; exact hu)
  exact ⟨r2, by rw [List.getElem?_take_of_lt hi]; exact a2, b2⟩
theorem TupsAt.take (h : TupsAt ts vs H) (k : Nat) : TupsAt (ts.take k) (vs.take k) H := ⟨by rw [List.length_take, List.length_take, h.1], fun i t ht => by
  have hi : i < k := by
    have := (List.getElem?_eq_some_iff.mp ht).1
    rw [List.length_take] at this
    omega
  rw [List.getElem?_take_of_lt hi] at ht ⊢
  exact h.2 i t ht⟩
theorem TupsAt.drop (h : TupsAt ts vs H) (k : Nat) : TupsAt (ts.drop k) (vs.drop k) H := ⟨by rw [List.length_drop, List.length_drop, h.1], fun i t ht => by
  rw [List.getElem?_drop] at ht ⊢
  exact h.2 _ t ht⟩
theorem TupsAt.rep (hr : H r = some (.tup t)) : ∀ k : Nat, TupsAt (List.replicate k t) (List.replicate k (V.ref r)) H
  | 0 => .nil
  | k + 1 => (TupsAt.one hr).app (TupsAt.rep hr k)
end

/-! ### further rules -/
/-- o[i] of a list that is changed there -/
def rGetL (K : PySem.W.Frag) : V → V → Hp → VK → Prop := fun x y H Q => ∃ p xs i v, x = .ref p ∧ y = .int i ∧ SqL K H p xs ∧ 0 ≤ i ∧ i ≤ 100000 ∧ xs[i.toNat]? = some v ∧ Q v H
def rMinT (K : PySem.W.Frag) : List V → Hp → VK → Prop := fun vs H Q => ∃ (a : Addr) (ns : List Int), vs = [V.ref a] ∧ SqT K H a (ns.map V.int) ∧ ns ≠ [] ∧ Q (.int (mn ns)) H
def rMaxT (K : PySem.W.Frag) : List V → Hp → VK → Prop := fun vs H Q => ∃ (a : Addr) (ns : List Int), vs = [V.ref a] ∧ SqT K H a (ns.map V.int) ∧ ns ≠ [] ∧ Q (.int (mx ns)) H
def rCntB (K : PySem.W.Frag) : V → List V → Hp → VK → Prop := fun x xs H Q => ∃ (p : Addr) (bs : List Bool) (k : Bool), x = .ref p ∧ xs = [.bl k] ∧ SqL K H p (bs.map V.bl) ∧ Q (.int (bs.count k : Nat)) H
section
variable {X : Cx}
theorem pget_list : PGet X (rGetL X.K) := by
  intro pins s σ H o i ov iv Q I ro ri h
  obtain ⟨p, xs, j, v, rfl, rfl, hs, h0, h1, hv, q⟩ := h
  cases ro
  obtain ⟨t, rfl⟩ := ri
  obtain ⟨its, r, pl, hz⟩ := I.list hs
  obtain ⟨w, ew, rw'⟩ := r.get hv
  exact PySem.wpAny_getItem_list pl.isList h0 (by omega) (by simpa using ew) ⟨v, H, I, rw', q⟩
theorem ints_hold {h : Heap} : ∀ {its : List Value} {ns : List Int}, IntsAre its ns → PySem.W.HoldAll h its ns
  | _, _, .nil => ⟨_, .nil⟩
  | _, _, .cons n t r => by
    obtain ⟨as, ra⟩ := ints_hold (h := h) r
    exact ⟨_, .cons (.int n t) ra⟩
theorem ilt (a b : Int) : PySem.W.DatumOrd.lt a b = decide (a < b) := rfl
theorem minOf_mn (l : List Int) (x : Int) : PySem.W.minOf x l = mn (x :: l) := by
  have aux : ∀ (l : List Int) (x : Int), PySem.W.minOf x l ∈ x :: l ∧ ∀ y ∈ x :: l, PySem.W.minOf x l ≤ y := by
    intro l
    induction l with
    | nil => intro x; exact ⟨List.mem_cons_self, fun y hy => by rw [List.mem_singleton.mp hy]; exact Int.le_refl _⟩
    | cons b r ih =>
      intro x
      obtain ⟨h1, h2⟩ := ih (if b < x then b else x)
      have e : PySem.W.minOf x (b :: r) = PySem.W.minOf (if b < x then b else x) r := by
        unfold PySem.W.minOf
        rw [List.foldl_cons, ilt]
        by_cases h : b < x <;> simp [h]
      rw [e]
      have h3 := h2 _ List.mem_cons_self
      refine ⟨?_, fun y hy => ?_⟩
      · rcases List.mem_cons.mp h1 with h | h
        · rw [h]
          split
          · exact List.mem_cons_of_mem _ List.mem_cons_self
          · exact List.mem_cons_self
        · exact List.mem_cons_of_mem _ (List.mem_cons_of_mem _ h)
      · rcases List.mem_cons.mp hy with rfl | hy
        · clear h1 h2 e
          generalize PySem.W.minOf _ r = M at h3 ⊢
          split at h3 <;> omega
        · rcases List.mem_cons.mp hy with rfl | hy
          · clear h1 h2 e
            generalize PySem.W.minOf _ r = M at h3 ⊢
            split at h3 <;> omega
          · exact h2 y (List.mem_cons_of_mem _ hy)
  exact mn_eq (aux l x).1 (aux l x).2
theorem maxOf_mx (l : List Int) (x : Int) : PySem.W.maxOf x l = mx (x :: l) := by
  have aux : ∀ (l : List Int) (x : Int), PySem.W.maxOf x l ∈ x :: l ∧ ∀ y ∈ x :: l, y ≤ PySem.W.maxOf x l := by
    intro l
    induction l with
    | nil => intro x; exact ⟨List.mem_cons_self, fun y hy => by rw [List.mem_singleton.mp hy]; exact Int.le_refl _⟩
    | cons b r ih =>
      intro x
      obtain ⟨h1, h2⟩ := ih (if x < b then b else x)
      have e : PySem.W.maxOf x (b :: r) = PySem.W.maxOf (if x < b then b else x) r := by
        unfold PySem.W.maxOf
        rw [List.foldl_cons, ilt]
        by_cases h : x < b <;> simp [h]
      rw [e]
      have h3 := h2 _ List.mem_cons_self
      refine ⟨?_, fun y hy => ?_⟩
      · rcases List.mem_cons.mp h1 with h | h
        · rw [h]
          split
          · exact List.mem_cons_of_mem _ List.mem_cons_self
          · exact List.mem_cons_self
        · exact List.mem_cons_of_mem _ (List.mem_cons_of_mem _ h)
      · rcases List.mem_cons.mp hy with rfl | hy
        · clear h1 h2 e
          generalize PySem.W.maxOf _ r = M at h3 ⊢
          split at h3 <;> omega
        · rcases List.mem_cons.mp hy with rfl | hy
          · clear h1 h2 e
            generalize PySem.W.maxOf _ r = M at h3 ⊢
            split at h3 <;> omega
          · exact h2 y (List.mem_cons_of_mem _ hy)
  exact mx_eq (aux l x).1 (aux l x).2
theorem cr_minT (hc : X.calm = true) (hu : X.A.units + 64 < cLine) : CallR X (.builtin "min") (rMinT X.K) := by
  intro pins s σ H vs us Q I r h
  obtain ⟨a, ns, rfl, hs, hne, q⟩ := h
  obtain ⟨its, rv, ht, hz⟩ := I.tuple hs
  rw [Vals.ref1 r]
  cases ns with
  | nil => exact absurd rfl hne
  | cons x xs =>
    refine PySem.W.min_tuple_datum (x := x) (xs := xs) (I.ok.hd hc) ht (ints_hold rv.ints) (by show X.A.units + 1 + 0 < cLine; omega) fun i v h' tk hv hh hk => ?_
    obtain ⟨as, ra⟩ := hh
    rw [minOf_mn] at ra
    cases ra
    exact ⟨.int (mn (x :: xs)), H, I.kept hk, ⟨_, rfl⟩, q⟩
theorem cr_maxT (hc : X.calm = true) (hu : X.A.units + 64 < cLine) : CallR X (.builtin "max") (rMaxT X.K) := by
  intro pins s σ H vs us Q I r h
  obtain ⟨a, ns, rfl, hs, hne, q⟩ := h
  obtain ⟨its, rv, ht, hz⟩ := I.tuple hs
  rw [Vals.ref1 r]
  cases ns with
  | nil => exact absurd rfl hne
  | cons x xs =>
    refine PySem.W.max_tuple_datum (x := x) (xs := xs) (I.ok.hd hc) ht (ints_hold rv.ints) (by show X.A.units + 1 + 0 < cLine; omega) fun i v h' tk hv hh hk => ?_
    obtain ⟨as, ra⟩ := hh
    rw [maxOf_mx] at ra
    cases ra
    exact ⟨.int (mx (x :: xs)), H, I.kept hk, ⟨_, rfl⟩, q⟩
/-- xs.count(True), bools -/
def eqb (k : Bool) (v : Value) : Bool := match v with
  | .bool n => n == k
  | _ => false
theorem mt_bcount : MtR X "list.count" (rCntB X.K) := by
  intro pins s σ H x xs v us Q I rx rxs h
  obtain ⟨p, bs, k, rfl, rfl, hs, q⟩ := h
  cases rx
  obtain ⟨u, rfl, ru⟩ := rxs.one
  obtain rfl : u = Value.bool k := ru
  obtain ⟨its, rv, ⟨⟨cls, dd, data, sl⟩, n, ho, hc, hdn, hd⟩, hlen⟩ := I.list hs
  simp only at hc hd
  subst hc hd
  have hb : its = bs.map Value.bool := rv.bls
  refine call_meets PySem.F.slot_list_count ⟨_, ho, rfl⟩ PySem.F.entry_list_count (PySem.F.args_list_count_2 _ _)
    (SeqAt.list_countAt p its.toArray n dd sl (.bool k) (eqb k)) ⟨ho, fun y hy => ?_, ?_⟩
  · rw [hb] at hy
    have hy2 : y ∈ bs.map Value.bool := by simpa using hy
    obtain ⟨b, _, rfl⟩ := List.mem_map.mp hy2
    exact SeqAt.EqAt.bool_bool b k
  · have ec : its.toArray.toList.countP (eqb k) = bs.count k := by
      rw [hb]
      show (bs.map Value.bool).countP (eqb k) = _
      rw [List.countP_map]
      rfl
    refine ⟨.int (bs.count k : Nat), H, I.tok _, ⟨s.toks, ?_⟩, q⟩
    show Value.int ((its.toArray.toList.countP (eqb k) : Nat) : Int) s.toks = Value.int ((bs.count k : Nat) : Int) s.toks
    rw [ec]
end
section
variable {K : PySem.W.Frag} {T : List (Addr × Str)} {s : L2.St} {H H' : Hp} {ta tb te tx tc ti to : TE} {t u : TT} {x y z v : V} {P R : V → Hp → Prop} {D : Ends} {tu tw tz : TS}
theorem ev_minT {ns : List Int} (h : EvP te s H (IsU (ns.map V.int))) (hn : ns ≠ []) : Ev (tCB (rMinT K) (tCons te tNil)) s H (.int (mn ns)) :=
  ev_cbP (ap_one h) fun vs H1 _ ⟨v, ev, p, pv, hp⟩ H2 e2 Q q => ⟨p, ns, by rw [ev, pv], st_of (e2 _ _ hp), hn, q H2 (Ex.refl H2)⟩
theorem ev_maxT {ns : List Int} (h : EvP te s H (IsU (ns.map V.int))) (hn : ns ≠ []) : Ev (tCB (rMaxT K) (tCons te tNil)) s H (.int (mx ns)) :=
  ev_cbP (ap_one h) fun vs H1 _ ⟨v, ev, p, pv, hp⟩ H2 e2 Q q => ⟨p, ns, by rw [ev, pv], st_of (e2 _ _ hp), hn, q H2 (Ex.refl H2)⟩
theorem ev_bcount {bs : List Bool} {k : Bool} {p : Addr} (ha : Ev ta s H (.ref p)) (hp : H p = some (.lst (bs.map V.bl))) (hb : Ev tb s H (.bl k)) : Ev (tBM K "list" (rCntB K) ta (tCons tb tNil)) s H (.int (bs.count k : Nat)) := fun H1 e Q q =>
  ha H1 e _ fun H2 e2 => ⟨Or.inl ⟨rfl, _, sq_of ((e.trans e2) _ _ hp)⟩, hb H2 (e.trans e2) _ fun H3 e3 => ⟨p, bs, k, rfl, rfl, sq_of (((e.trans e2).trans e3) _ _ hp), q H3 (e2.trans e3)⟩⟩
theorem eu_slice {tl th : TO} {xs : List V} {lo hi : Option Int} (h : EvP te s H (IsU xs)) (h1 : EvO tl s H lo) (h2 : EvO th s H hi) (hw : ¬ (HT.sIx xs.length 0 lo = 0 ∧ HT.sIx xs.length xs.length hi = xs.length)) : EvP (tSl (rSlT K) te tl th) s H (IsU (cutV xs lo hi)) := fun H1 e Q q =>
  h H1 e _ fun v H2 e2 ⟨a, ev, hp⟩ => h1 H2 (e.trans e2) _ fun H3 e3 => h2 H3 ((e.trans e2).trans e3) _ fun H4 e4 =>
    ⟨a, xs, ev, st_of (e4 _ _ (e3 _ _ hp)), hw, fun p hp => q _ _ (((e2.trans e3).trans e4).trans (Ex.new hp)) ⟨p, rfl, upd_same⟩⟩
theorem w_while {m0 : Nat} (W : Nat → L2.St → Hp → Prop) (h0 : ∀ H1, Ex H H1 → W m0 s H1)
    (hs : ∀ m s' H', W m s' H' → ∃ b, EvT t s' H' b ∧ (b = true → ∃ N : L2.St → Hp → Prop, (∀ s2 H2, N s2 H2 → ∃ m', m' < m ∧ W m' s2 H2) ∧ Sv tu { D with nx := N, ct := N, bk := tz D } s' H') ∧ (b = false → Sv tz D s' H')) : Sv (tSeq (tWhile t tu) tz) D s H := fun H1 e1 =>
  q_while W m0 (h0 H1 e1) fun m s' H' w => by
    obtain ⟨b, h1, h2, h3⟩ := hs m s' H' w
    exact ⟨b, h1, fun hb H2 e2 => let ⟨N, a, c⟩ := h2 hb; ⟨N, a, c H2 e2⟩, fun hb H2 e2 => h3 hb H2 e2⟩
/-- a, b = xs.pop() -/
theorem w_pop2 {l r : Addr} {xs : List V} {i j : Nat} (hl : H l = some (.lst (xs ++ [V.ref r]))) (hr : H r = some (.tup [x, y])) (ha : Ev ta s H (.ref l)) (k : ∀ H1, Put l (.lst xs) H H1 → Sv tz D ((s.set i (some x)).set j (some y)) H1) :
    Sv (tSeq (tAsg (tBM K "list" rPop ta tNil) (gTup K 2 (gCons (gName i) (gCons (gName j) gNil)))) tz) D s H := fun H1 e1 =>
  ha H1 e1 _ fun H2 e2 => ⟨Or.inl ⟨rfl, _, sq_of ((e1.trans e2) _ _ hl)⟩, ⟨l, xs ++ [V.ref r], V.ref r, rfl, rfl, (e1.trans e2) _ _ hl, by rw [List.length_append, List.length_singleton, Nat.add_sub_cancel, List.getElem?_append_right (Nat.le_refl _), Nat.sub_self]; rfl, by
    rw [List.dropLast_concat]
    have hne : r ≠ l := fun z => by rw [z, hl] at hr; cases hr
    have hr2 : upd H2 l (.lst xs) r = some (.tup [x, y]) := by rw [upd_ne hne]; exact (e1.trans e2) _ _ hr
    exact ⟨r, [x, y], rfl, st_of hr2, rfl, x, [y], rfl, y, [], rfl, rfl, k _ (put_upd (e1.trans e2)) _ (Ex.refl _)⟩⟩⟩
theorem w_augS {l : Addr} {xs : List V} {j : Nat} {f : Int → Int → Int} {a b : Int} (hl : H l = some (.lst xs)) (hz : xs.length ≤ 100000) (ho : Ev to s H (.ref l)) (hi : Ev ti s H (.int (j : Int))) (hj : xs[j]? = some (.int a)) (he : Ev te s H (.int b))
    (k : ∀ H1, Put l (.lst (xs.set j (.int (f a b)))) H H1 → Sv tz D s H1) : Sv (tSeq (tAugS to ti te (rGetL K) (ipI f) rSetL) tz) D s H := fun H1 e1 =>
  ho H1 e1 _ fun H2 e2 => hi H2 (e1.trans e2) _ fun H3 e3 => by
    have hjl := (List.getElem?_eq_some_iff.mp hj).1
    have e13 := (e1.trans e2).trans e3
    refine ⟨l, xs, (j : Int), .int a, rfl, rfl, sq_of (e13 _ _ hl), by omega, by omega, by rw [Int.toNat_natCast]; exact hj, he H3 e13 _ fun H4 e4 => ⟨a, b, rfl, rfl, l, xs, (j : Int), j, rfl, rfl, e4 _ _ (e13 _ _ hl), ixN_nat hjl, k _ (put_upd (e13.trans e4)) _ (Ex.refl _)⟩⟩
/-- xs.reverse(), xs.clear() -/
theorem w_reverse {l : Addr} {xs : List V} (hl : H l = some (.lst xs)) (ha : Ev ta s H (.ref l)) (k : ∀ H1, Put l (.lst xs.reverse) H H1 → Sv tz D s H1) : Sv (tSeq (tDrop (tBM K "list" rReverse ta tNil)) tz) D s H := fun H1 e1 =>
  ha H1 e1 _ fun H2 e2 => ⟨Or.inl ⟨rfl, _, sq_of ((e1.trans e2) _ _ hl)⟩, ⟨l, xs, rfl, rfl, (e1.trans e2) _ _ hl, k _ (put_upd (e1.trans e2)) _ (Ex.refl _)⟩⟩
theorem w_clear {l : Addr} {xs : List V} (hl : H l = some (.lst xs)) (ha : Ev ta s H (.ref l)) (k : ∀ H1, Put l (.lst []) H H1 → Sv tz D s H1) : Sv (tSeq (tDrop (tBM K "list" rClear ta tNil)) tz) D s H := fun H1 e1 =>
  ha H1 e1 _ fun H2 e2 => ⟨Or.inl ⟨rfl, _, sq_of ((e1.trans e2) _ _ hl)⟩, ⟨l, xs, rfl, rfl, (e1.trans e2) _ _ hl, k _ (put_upd (e1.trans e2)) _ (Ex.refl _)⟩⟩
/-- xs.extend(e), e a new list or another one -/
theorem w_extend {l : Addr} {xs : List V} (hl : H l = some (.lst xs)) (ha : Ev ta s H (.ref l)) (h : EvP te s H P) (hp : ∀ v H1, P v H1 → ∃ b zs, v = .ref b ∧ H1 b = some (.lst zs) ∧ xs.length + zs.length ≤ 100000)
    (k : ∀ b zs H1 H2, Ex H H1 → P (.ref b) H1 → H1 b = some (.lst zs) → Put l (.lst (xs ++ zs)) H1 H2 → Sv tz D s H2) : Sv (tSeq (tDrop (tBM K "list" rExtend ta (tCons te tNil))) tz) D s H := fun H1 e1 =>
  ha H1 e1 _ fun H2 e2 => ⟨Or.inl ⟨rfl, _, sq_of ((e1.trans e2) _ _ hl)⟩, h H2 (e1.trans e2) _ fun v H3 e3 p => by
    obtain ⟨b, zs, rfl, hb, hz⟩ := hp v H3 p
    exact ⟨l, b, xs, zs, rfl, rfl, ((e1.trans e2).trans e3) _ _ hl, hb, sz_of hz, k b zs H3 _ ((e1.trans e2).trans e3) p hb (put_upd (Ex.refl _)) _ (Ex.refl _)⟩⟩
/-- [e for x in t], t a tuple -/
theorem el_mapT {α : Type} {a : Addr} {tl : TE} {j : Nat} {vs : List Nat} (l : List α) (c : α → V) (w : α → V) (h : Ev tl s H (.ref a)) (hx : H a = some (.tup (l.map c))) (hz : l.length ≤ 100000) (hw : ∀ x, wipe ((wipe s vs).set j (some x)) vs = wipe s vs)
    (he : ∀ x ∈ l, Ev te ((wipe s vs).set j (some (c x))) H (w x)) : EvL (tLc (iTup K tl) (gName j) tYes te vs) s H (l.map w) := fun H0 e Q q => h H0 e _ fun H1 e1 => ⟨a, rfl, ⟨_, st_of ((e.trans e1) _ _ hx)⟩, fun Dl hD =>
  lc_tup (xs := l.map c) (Cx2 H1 l (fun _ => true) w Dl) ⟨hD, Ex.new hD, by rw [List.take_zero]; exact upd_same⟩ (fun i H' _ p => st_of (((e.trans e1).trans p.2.1) _ _ hx)) (fun i x H' hi p => by
    rw [List.getElem?_map] at hi
    cases ha : l[i]? with
    | none => rw [ha] at hi; cases hi
    | some b =>
      rw [ha] at hi
      obtain rfl : c b = x := Option.some.inj hi
      have hm : b ∈ l := List.mem_of_getElem? ha
      exact ⟨hw _, cx_turn p ha hz et_yes (fun _ => (he b hm).mono (e.trans e1))⟩)
    (fun H' p => by
      have p3 := p.2.2
      rw [List.length_map, List.take_length, filter_yes] at p3
      exact q Dl H' (fresh_back e1 p.1) (e1.trans p.2.1) p3)⟩
/-- for x in t, t a tuple -/
theorem w_forT {a : Addr} {xs : List V} {tl : TE} {j : Nat} (h : Ev tl s H (.ref a)) (hx : H a = some (.tup xs)) (Pv : Nat → L2.St → Hp → Prop) (h0 : ∀ H1, Ex H H1 → Pv 0 s H1) (hl : ∀ i s' H', i ≤ xs.length → Pv i s' H' → H' a = some (.tup xs))
    (hs : ∀ i x s' H', xs[i]? = some x → Pv i s' H' → Sv tu { D with nx := Pv (i + 1), ct := Pv (i + 1), bk := tz D } (s'.set j (some x)) H') (hd : ∀ s' H', Pv xs.length s' H' → Sv tz D s' H') : Sv (tSeq (tFor (iTup K tl) (gName j) tu) tz) D s H := fun H1 e1 =>
  q_forT (h.mono e1) (st_of (e1 _ _ hx)) Pv (fun H2 e2 => h0 H2 (e1.trans e2)) (fun i s' H' hi p => st_of (hl i s' H' hi p)) (fun i x s' H' hi p => (hs i x s' H' hi p).go) (fun s' H' p => (hd s' H' p).go)
/-- for a, b, .. in xs, xs a list of tuples: a turn takes the tuple apart -/
theorem w_forG {a : Addr} {xs : List V} {tl : TE} {g : TG} (h : Ev tl s H (.ref a)) (hx : SqL K H a xs) (Pv : Nat → L2.St → Hp → Prop) (h0 : ∀ H1, Ex H H1 → Pv 0 s H1) (hl : ∀ i s' H', i ≤ xs.length → Pv i s' H' → SqL K H' a xs)
    (hs : ∀ i x s' H', xs[i]? = some x → Pv i s' H' → g x s' H' fun s2 H2 => tu { D with nx := Pv (i + 1), ct := Pv (i + 1), bk := tz D } s2 H2) (hd : ∀ s' H', Pv xs.length s' H' → Sv tz D s' H') : Sv (tSeq (tFor (iList K tl) g tu) tz) D s H := fun H1 e1 =>
  q_forL (h.mono e1) (ex_l e1 hx) Pv (fun H2 e2 => h0 H2 (e1.trans e2)) hl hs (fun s' H' p => (hd s' H' p).go)
theorem g_tup2 {i j : Nat} {r : Addr} {a b : V} {Q : L2.St → Hp → Prop} (hr : H r = some (.tup [a, b])) (k : Q ((s.set i (some a)).set j (some b)) H) : gTup K 2 (gCons (gName i) (gCons (gName j) gNil)) (.ref r) s H Q :=
  ⟨r, [a, b], rfl, st_of hr, rfl, a, [b], rfl, b, [], rfl, rfl, k⟩
theorem g_tup3 {i j m : Nat} {r : Addr} {a b c : V} {Q : L2.St → Hp → Prop} (hr : H r = some (.tup [a, b, c])) (k : Q (((s.set i (some a)).set j (some b)).set m (some c)) H) : gTup K 3 (gCons (gName i) (gCons (gName j) (gCons (gName m) gNil))) (.ref r) s H Q :=
  ⟨r, [a, b, c], rfl, st_of hr, rfl, a, [b, c], rfl, b, [c], rfl, c, [], rfl, rfl, k⟩
/-- a, b, c = e -/
theorem w_asg3 {i j m : Nat} {r : Addr} {a b c : V} (h : Ev te s H (.ref r)) (hr : H r = some (.tup [a, b, c])) (k : Sv tz D (((s.set i (some a)).set j (some b)).set m (some c)) H) : Sv (tSeq (tAsg te (gTup K 3 (gCons (gName i) (gCons (gName j) (gCons (gName m) gNil))))) tz) D s H := fun H1 e1 =>
  h H1 e1 _ fun H2 e2 => g_tup3 ((e1.trans e2) _ _ hr) (k H2 (e1.trans e2))
theorem ev_mx2 {i j : Int} (ha : Ev ta s H (.int i)) (hb : Ev tb s H (.int j)) : Ev (tCB (fun xs H Q => ∃ i j, xs = [.int i, .int j] ∧ Q (.int (if j > i then j else i)) H) (tCons ta (tCons tb tNil))) s H (.int (max i j)) :=
  ev_cbP (ap_two ha.p hb.p) fun vs H1 _ ⟨v, w, ev, pv, pw⟩ H2 e2 Q q => ⟨i, j, by rw [ev, pv, pw], by
    have e : max i j = if j > i then j else i := by split <;> omega
    rw [← e]
    exact q H2 (Ex.refl H2)⟩
theorem ev_min2 {i j : Int} (ha : Ev ta s H (.int i)) (hb : Ev tb s H (.int j)) : Ev (tCB (fun xs H Q => ∃ i j, xs = [.int i, .int j] ∧ Q (.int (if j < i then j else i)) H) (tCons ta (tCons tb tNil))) s H (.int (min i j)) :=
  ev_cbP (ap_two ha.p hb.p) fun vs H1 _ ⟨v, w, ev, pv, pw⟩ H2 e2 Q q => ⟨i, j, by rw [ev, pv, pw], by
    have e : min i j = if j < i then j else i := by split <;> omega
    rw [← e]
    exact q H2 (Ex.refl H2)⟩
theorem ev_abs {i : Int} (ha : Ev ta s H (.int i)) : Ev (tCB (fun xs H Q => ∃ i, xs = [.int i] ∧ Q (.int (if i < 0 then -i else i)) H) (tCons ta tNil)) s H (.int (if i < 0 then -i else i)) :=
  ev_cbP (ap_one ha.p) fun vs H1 _ ⟨v, ev, pv⟩ H2 e2 Q q => ⟨i, by rw [ev, pv], q H2 (Ex.refl H2)⟩
theorem ev_lenU {xs : List V} (h : EvP te s H (IsU xs)) : Ev (tCB (rLenS K) (tCons te tNil)) s H (.int (xs.length : Int)) :=
  ev_cbP (ap_one h) fun vs H1 _ ⟨v, ev, p, pv, hp⟩ H2 e2 Q q => ⟨p, xs, by rw [ev, pv], .inr (st_of (e2 _ _ hp)), q H2 (Ex.refl H2)⟩
/-- o.f -/
theorem ev_fld {p C dx : Addr} {fs : List (Str × V)} {f : Str} (h : Ev te s H (.ref p)) (hp : H p = some (.ins C dx fs)) (c : Cls K C) (n : NoAttr K C f) (l : fs.lookup f = some v) : Ev (tFld K te f) s H v := fun H1 e Q q =>
  h H1 e _ fun H2 e2 => ⟨p, C, dx, fs, v, rfl, (e.trans e2) _ _ hp, c, n, l, q H2 e2⟩
/-- o.f = e -/
theorem w_fld {p C dx : Addr} {fs : List (Str × V)} {f : Str} (h : Ev te s H v) (ho : Ev ta s H (.ref p)) (hp : H p = some (.ins C dx fs)) (c : Cls K C) (n : NoAttr K C f) (hz : fs.length < 1000) (k : ∀ H1, Put p (.ins C dx (putF f v fs)) H H1 → Sv tz D s H1) : Sv (tSeq (sFld K ta te f) tz) D s H := fun H1 e1 =>
  h H1 e1 _ fun H2 e2 => ho H2 (e1.trans e2) _ fun H3 e3 => ⟨p, C, dx, fs, rfl, ((e1.trans e2).trans e3) _ _ hp, c, n, hz, k _ (put_upd ((e1.trans e2).trans e3)) _ (Ex.refl _)⟩
theorem w_fldL {p C dx : Addr} {fs : List (Str × V)} {f : Str} {xs : List V} (h : EvL te s H xs) (ho : ∀ H1, Ex H H1 → Ev ta s H1 (.ref p)) (hp : H p = some (.ins C dx fs)) (c : Cls K C) (n : NoAttr K C f) (hz : fs.length < 1000)
    (k : ∀ l H1, H l = none → H1 l = some (.lst xs) → Put p (.ins C dx (putF f (.ref l) fs)) H H1 → Sv tz D s H1) : Sv (tSeq (sFld K ta te f) tz) D s H := fun H1 e1 =>
  h H1 e1 _ fun l H2 hl e2 h2 => ho H2 (e1.trans e2) H2 (Ex.refl H2) _ fun H3 e3 => by
    have e13 := (e1.trans e2).trans e3
    have hpl : l ≠ p := fun z => by rw [z, e1 _ _ hp] at hl; cases hl
    exact ⟨p, C, dx, fs, rfl, e13 _ _ hp, c, n, hz, k l _ (fresh_back e1 hl) (by rw [upd_ne hpl]; exact e3 _ _ h2) (put_upd e13) _ (Ex.refl _)⟩
theorem w_asgSetP {l : Addr} {xs : List V} {j : Nat} [MonoP P] (hl : H l = some (.lst xs)) (h : EvP te s H P) (ho : Ev ta s H (.ref l)) (hi : Ev tb s H (.int (j : Int))) (hj : j < xs.length) (hm : ∀ v H1 o, P v H1 → P v (upd H1 l o)) (k : ∀ v H1, P v H1 → Put l (.lst (xs.set j v)) H H1 → Sv tz D s H1) :
    Sv (tSeq (tAsg te (gSub ta tb rSetL)) tz) D s H := fun H1 e1 =>
  h H1 e1 _ fun v H2 e2 p => ho H2 (e1.trans e2) _ fun H3 e3 => hi H3 ((e1.trans e2).trans e3) _ fun H4 e4 =>
    ⟨l, xs, (j : Int), j, rfl, rfl, (((e1.trans e2).trans e3).trans e4) _ _ hl, ixN_nat hj, k v _ (hm v _ _ (MonoP.mono (e3.trans e4) p)) (put_upd (((e1.trans e2).trans e3).trans e4)) _ (Ex.refl _)⟩
/-- a statement, then the rest, a word between them -/
theorem w_cut {tt : TS} (Mid : L2.St → Hp → Prop) (h : Sv tt { D with nx := Mid } s H) (k : ∀ s' H', Mid s' H' → Sv tz D s' H') : Sv (tCut tt tz) D s H := fun H1 e1 => q_cut (M := Mid) (h H1 e1) fun s' H' m => (k s' H' m).go
theorem w_if0 {b : Bool} (h : EvT t s H b) (h1 : b = true → Sv tu D s H) (h2 : b = false → Sv tw D s H) : Sv (tIfS t tu tw) D s H := fun H1 e1 => h H1 e1 _ fun H2 e2 => by
  cases b with
  | true => exact h1 rfl H2 (e1.trans e2)
  | false => exact h2 rfl H2 (e1.trans e2)
/-- [e, f], both new lists -/
theorem evp_two {xs ys : List V} (ha : EvL ta s H xs) (hb : EvL tb s H ys) : EvP (tLst (tCons ta (tCons tb tNil))) s H (fun v H2 => ∃ p x y, v = .ref p ∧ H p = none ∧ H x = none ∧ H y = none ∧ x ≠ y ∧ p ≠ x ∧ p ≠ y ∧ H2 p = some (.lst [V.ref x, V.ref y]) ∧ H2 x = some (.lst xs) ∧ H2 y = some (.lst ys)) := fun H1 e Q q =>
  ha H1 e _ fun x H2 nx e2 hx => hb H2 (e.trans e2) _ fun y H3 ny e3 hy => ⟨by show 2 ≤ sizeLine; decide, fun p hp => by
    have n1 : x ≠ y := ne_of_none hx ny
    have n2 : x ≠ p := ne_of_none (e3 _ _ hx) hp
    have n3 : y ≠ p := ne_of_none hy hp
    exact q _ _ ((e2.trans e3).trans (Ex.new hp)) ⟨p, x, y, rfl, fresh_back ((e.trans e2).trans e3) hp, fresh_back e nx, fresh_back (e.trans e2) ny, n1, n2.symm, n3.symm, upd_same, by rw [upd_ne n2]; exact e3 _ _ hx, by rw [upd_ne n3]; exact hy⟩⟩
theorem rv_notB {a b : Bool} : RV rNotB (.bl a) (.bl b) H (.bl (!decide (a = b))) := fun H1 _ _ q => ⟨a, b, rfl, rfl, q H1 (Ex.refl H1)⟩
theorem cut_init {xs : List V} (h : xs ≠ []) : cutV xs none (some (-1)) = xs.dropLast := by
  have hp : 0 < xs.length := List.length_pos_iff.mpr h
  have e : HT.sIx xs.length xs.length (some (-1)) = xs.length - 1 := by
    show (if (-1 : Int) < 0 then (-1 + (xs.length : Int)).toNat else min (-1 : Int).toNat xs.length) = _
    rw [if_pos (by decide)]
    omega
  unfold cutV
  rw [e, HT.sIx_none, List.drop_zero, Nat.sub_zero, List.dropLast_eq_take]
/-- [e for k in range(lo, lo + n)] -/
theorem el_mapR2 {ta : TA} {j : Nat} {vs : List Nat} {lo n : Nat} (w : Nat → V) (h : EvA ta s H [.int (lo : Int), .int ((lo + n : Nat) : Int)]) (hn : lo + n ≤ 40000) (hw : ∀ x, wipe ((wipe s vs).set j (some x)) vs = wipe s vs)
    (he : ∀ (i : Nat), i < n → Ev te ((wipe s vs).set j (some (.int ((lo + i : Nat) : Int)))) H (w i)) : EvL (tLc (iRng2 ta) (gName j) tYes te vs) s H ((List.range n).map w) := fun H0 e Q q => h H0 e _ fun H1 e1 => ⟨(lo : Int), ((lo + n : Nat) : Int), rfl, ⟨by omega, by omega, by omega, by omega⟩, fun Dl hD => by
  have en : (((lo + n : Nat) : Int) - (lo : Int)).toNat = n := by omega
  rw [en]
  refine lc_range (lo := (lo : Int)) (n := n) (Cw H1 (fun _ => true) w Dl) ⟨hD, Ex.new hD, upd_same⟩ (fun i H' hi p => ?_) (fun H' p => ?_)
  · have e0 : (lo : Int) + (i : Int) = ((lo + i : Nat) : Int) := by omega
    show wipe ((wipe s vs).set j (some (.int ((lo : Int) + (i : Int))))) vs = wipe s vs ∧ tYes ((wipe s vs).set j (some (.int ((lo : Int) + (i : Int))))) H' fun b H3 => if b = true then te ((wipe s vs).set j (some (.int ((lo : Int) + (i : Int))))) H3 fun y H4 => ∃ acc, H4 Dl = some (.lst acc) ∧ acc.length < sizeLine ∧ Cw H1 (fun _ => true) w Dl (i + 1) (upd H4 Dl (.lst (acc ++ [y]))) else Cw H1 (fun _ => true) w Dl (i + 1) H3
    rw [e0]
    exact ⟨hw _, cw_turn p (by omega) et_yes (fun _ => (he i hi).mono (e.trans e1))⟩
  · have p3 := p.2.2
    have eg : given n (fun _ => true) w = (List.range n).map w := by
      unfold given
      rw [filter_yes]
    rw [eg] at p3
    exact q Dl H' (fresh_back e1 p.1) (e1.trans p.2.1) p3⟩
/-- x, y = e, f, by a tuple (cells) -/
theorem w_tup2 {ta : TA} {i j : Nat} {P : List V → Hp → Prop} (h : EvAP ta s H P) (k : ∀ vs H1, Ex H H1 → P vs H1 → ∃ x y, vs = [x, y] ∧ ∀ H2, Ex H1 H2 → Sv tz D ((s.set i (some x)).set j (some y)) H2) :
    Sv (tSeq (tAsg (tTup ta) (gTup K 2 (gCons (gName i) (gCons (gName j) gNil)))) tz) D s H := fun H1 e1 =>
  h H1 e1 _ fun vs H2 e2 p => by
    obtain ⟨x, y, ev, kk⟩ := k vs H2 (e1.trans e2) p
    subst ev
    exact ⟨by show 2 ≤ sizeLine; decide, fun t ht => ⟨t, [x, y], rfl, st_of upd_same, rfl, x, [y], rfl, y, [], rfl, rfl, kk _ (Ex.new ht) _ (Ex.refl _)⟩⟩
theorem atI_last {xs : List V} (h : xs ≠ []) : atI xs (-1) = xs[xs.length - 1]? := by
  have hp : 0 < xs.length := List.length_pos_iff.mpr h
  have e : ixN xs.length (-1) = some (xs.length - 1) := by
    unfold ixN
    rw [if_neg (by decide), if_pos (by omega)]
    congr 1
    omega
  unfold atI
  rw [e]
  rfl
/-- the same over a tuple -/
theorem w_forGTP {tl : TE} {g : TG} (h : EvP tl s H P) (hp : ∀ v H1, Ex H H1 → P v H1 → ∃ (a : Addr) (xs : List V) (Pv : Nat → L2.St → Hp → Prop), v = .ref a ∧ SqT K H1 a xs ∧ (∀ H2, Ex H1 H2 → Pv 0 s H2) ∧ (∀ i s' H', i ≤ xs.length → Pv i s' H' → SqT K H' a xs) ∧
    (∀ i x s' H', xs[i]? = some x → Pv i s' H' → g x s' H' fun s2 H2 => tu { D with nx := Pv (i + 1), ct := Pv (i + 1), bk := tz D } s2 H2) ∧ (∀ s' H', Pv xs.length s' H' → Sv tz D s' H')) : Sv (tSeq (tFor (iTup K tl) g tu) tz) D s H := fun H1 e1 =>
  h H1 e1 _ fun v H2 e2 p => by
    obtain ⟨a, xs, Pv, ev, h1, h2, h3, h4, h5⟩ := hp v H2 (e1.trans e2) p
    subst ev
    exact q_forT (tl := tC (.ref a)) (σ := s) (H := H2) ev_c h1 Pv h2 h3 h4 (fun s' H' p => (h5 s' H' p).go)
theorem _root_.Evl.EvU.pU {xs : List V} (h : EvU te s H xs) : EvP te s H (IsU xs) := evU_p h
theorem et_tru {k : Bool} (h : Ev te s H v) (hk : ∀ H1, TruV K v H1 k) : EvT (fun σ H Q => te σ H fun x H' => ∃ k, TruV K x H' k ∧ Q k H') s H k := fun H1 e Q q => h H1 e _ fun H2 e2 => ⟨k, hk H2, q H2 e2⟩
/-- if c: x = e, x an int of which something is known behind it -/
theorem w_ifAsgP {b : Bool} {i : Nat} {v0 : V} (h : EvT t s H b) (h1 : b = true → EvP te s H P) (h0 : s.set i (some v0) = s) (h2 : b = false → ∀ H1, Ex H H1 → P v0 H1) (k : ∀ v H1, Ex H H1 → P v H1 → Sv tz D (s.set i (some v)) H1) : Sv (tSeq (tIfS t (tSeq (tAsg te (gName i)) tNext) tNext) tz) D s H :=
  w_when h (fun hb => w_asgP (h1 hb) fun v H1 e1 p => w_nx fun H2 e2 => k v H1 e1 p H2 e2) (fun hb H1 e1 => by
    have g := k v0 H1 e1 (h2 hb H1 e1) H1 (Ex.refl _)
    rw [h0] at g
    exact g)
/-- a new list, known to be new -/
def IsNL (G : Hp) (xs : List V) : V → Hp → Prop := fun x H => ∃ p, x = .ref p ∧ G p = none ∧ H p = some (.lst xs)
instance {G : Hp} {xs : List V} : MonoP (IsNL G xs) := ⟨fun e ⟨p, a, n, b⟩ => ⟨p, a, n, e _ _ b⟩⟩
theorem el_n {xs : List V} (h : EvL te s H xs) : EvP te s H (IsNL H xs) := fun H1 e Q q => h H1 e Q fun p H2 np e2 hp => q _ H2 e2 ⟨p, rfl, fresh_back e np, hp⟩
/-- a list, a tuple display, its items told by a word -/
theorem evp_lst2 {ta : TA} {P : List V → Hp → Prop} (h : EvAP ta s H P) (hz : ∀ vs H1, P vs H1 → vs.length ≤ 100000) : EvP (tLst ta) s H (fun x H2 => ∃ p vs H1, x = .ref p ∧ H p = none ∧ H2 p = some (.lst vs) ∧ P vs H1 ∧ Ex H1 H2) := fun H1 e Q q =>
  h H1 e _ fun vs H2 e2 pv => ⟨sz_of (hz vs H2 pv), fun p hp => q _ _ (e2.trans (Ex.new hp)) ⟨p, vs, H2, rfl, fresh_back (e.trans e2) hp, upd_same, pv, Ex.new hp⟩⟩
theorem evp_tup2 {ta : TA} {P : List V → Hp → Prop} (h : EvAP ta s H P) (hz : ∀ vs H1, P vs H1 → vs.length ≤ 100000) : EvP (tTup ta) s H (fun x H2 => ∃ p vs H1, x = .ref p ∧ H p = none ∧ H2 p = some (.tup vs) ∧ P vs H1 ∧ Ex H1 H2) := fun H1 e Q q =>
  h H1 e _ fun vs H2 e2 pv => ⟨sz_of (hz vs H2 pv), fun p hp => q _ _ (e2.trans (Ex.new hp)) ⟨p, vs, H2, rfl, fresh_back (e.trans e2) hp, upd_same, pv, Ex.new hp⟩⟩
/-- a loop over a list that is told by a word -/
theorem w_forGP {tl : TE} {g : TG} (h : EvP tl s H P) (hp : ∀ v H1, Ex H H1 → P v H1 → ∃ (a : Addr) (xs : List V) (Pv : Nat → L2.St → Hp → Prop), v = .ref a ∧ SqL K H1 a xs ∧ (∀ H2, Ex H1 H2 → Pv 0 s H2) ∧ (∀ i s' H', i ≤ xs.length → Pv i s' H' → SqL K H' a xs) ∧
    (∀ i x s' H', xs[i]? = some x → Pv i s' H' → g x s' H' fun s2 H2 => tu { D with nx := Pv (i + 1), ct := Pv (i + 1), bk := tz D } s2 H2) ∧ (∀ s' H', Pv xs.length s' H' → Sv tz D s' H')) : Sv (tSeq (tFor (iList K tl) g tu) tz) D s H := fun H1 e1 =>
  h H1 e1 _ fun v H2 e2 p => by
    obtain ⟨a, xs, Pv, ev, h1, h2, h3, h4, h5⟩ := hp v H2 (e1.trans e2) p
    subst ev
    exact q_forL (tl := tC (.ref a)) (σ := s) (H := H2) ev_c h1 Pv h2 h3 h4 (fun s' H' p => (h5 s' H' p).go)
theorem cut_neg {xs : List V} {m : Nat} (h0 : 0 < m) (h : m ≤ xs.length) : cutV xs (some (-(m : Int))) none = xs.drop (xs.length - m) := by
  have e : HT.sIx xs.length 0 (some (-(m : Int))) = xs.length - m := by
    show (if -(m : Int) < 0 then (-(m : Int) + (xs.length : Int)).toNat else _) = _
    rw [if_pos (by omega)]
    omega
  unfold cutV
  rw [e, HT.sIx_none, List.take_of_length_le (by rw [List.length_drop]; omega)]
end
/-! ### defs whose code object is known; a choice of readings -/
structure FunC (K : PySem.W.Frag) (x qual : Str) (st : Stmt) (c f : Addr) (fd : FuncData) : Prop where
  ex : ∃ (oc : Value) (od : Option Addr) (kV doc pm : Value) (an : Option Addr) (ct : Value) (osl : Array (Option Value)),
    fd = PySem.W.fnOf x qual (defArgs st) (defBody st) (defScope st) .none kV doc pm an (.ref c) ct ∧ K.lookup f = some ⟨oc, od, .func fd, osl⟩ ∧ PySem.W.codeIn K (.ref c) qual = true
  kp : PySem.W.keepIn K (.ref f) = true
section
variable {P : Program} {w : World} {K : PySem.W.Frag} {mg : Str → Option Value} {base : Heap}
theorem FunC.ok {x qual : Str} {st : Stmt} {c f : Addr} {fd : FuncData} {N ps : List Str} {k : Nat} {sp : Sp} (F : FunC K x qual st c f fd) (S : FnScope N ps (defScope st)) (len : ∀ vs H Q E, sp vs H Q E → vs.length = ps.length)
    (hbody : ∀ (A : Around) (outer : List Env) (s : Shared) (H : Hp) (vs : List V) (Q : VK) (E : XK), Room k (A.deeper (envOfC qual (defScope st) s.heap.objs.size f (.ref c))) → sp vs H Q E →
      ∃ t, PSs (cxOf CX0 P w K mg base N qual (defScope st) f (.ref c) A outer s H E).nox (defBody st) t ∧ t { nx := fun _ H' => Q .non H', rt := Q } (start N vs) H) : FnOk P w K mg base CX0 (k + 1) f fd ps sp := by
  obtain ⟨oc, od, kV, doc, pm, an, ct, osl, rfl, lk, hcd⟩ := F.ex
  refine fn_of lk hcd S len fun A outer s H vs Q E hr hsp => ?_
  obtain ⟨t, h, q⟩ := hbody A outer s H vs Q E hr hsp
  exact ⟨t, h.nox, q⟩
def RawC (K : PySem.W.Frag) (mg : Str → Option Value) (x : Str) (st : Stmt) (c : Addr) (ps : List Str) : Prop := ∃ f fd, FunC K x x st c f fd ∧ mg x = some (.ref f) ∧ Binds K fd ps []
theorem RawC.ok {x : Str} {st : Stmt} {c : Addr} {ps : List Str} {CX : CXT} {k : Nat} {sp : Sp} (r : RawC K mg x st c ps) (h : ∀ f fd, FunC K x x st c f fd → FnOk P w K mg base CX k f fd ps sp) : Def P w K mg base CX k x ps sp := by
  obtain ⟨f, fd, F, g, b⟩ := r
  exact ⟨f, fd, h f fd F, g, F.kp, b⟩
end
theorem pe_or2 {X : Cx} {e : Expr} {t1 t2 : TE} (h1 : PE X e t1) (h2 : PE X e t2) : PE X e (fun σ H Q => t1 σ H Q ∨ t2 σ H Q) := ⟨fun pins s σ H Q I h => h.elim (h1.run pins s σ H Q I) (h2.run pins s σ H Q I)⟩
end Wk

set_option Elab.async false
set_option linter.all false
set_option maxRecDepth 100000
set_option maxHeartbeats 4000000
/-! Xk: what may raise. Defs whose errors have no context (L2N.CX), readings that raise (EvX ..), a def held by a local called in a try, a def that is handed the handled error. -/
namespace Wk
open PySem PySem.Spec PyProof.Rows L2 Evl
section
variable {P : Program} {w : World} {K : PySem.W.Frag} {mg : Str → Option Value} {base : Heap}
/-- an own class of errors, as the top leaves it -/
structure ErrC (K : PySem.W.Frag) (mg : Str → Option Value) (x : Str) (C : Addr) : Prop where
  ex : PySem.W.excIn K C [.type "ValueError", .type "Exception", .type "BaseException", .type "object"] "ValueError.__new__" = true
  g : mg x = some (.ref C)
  kp : PySem.W.keepIn K (.ref C) = true
  sb : PySem.W.subIn K (.ref C) (.type "BaseException") = some true
  ty : PySem.W.typeIn K (.ref C) = some (.type "type")
theorem _root_.L2.Fun.okN {x qual : Str} {st : Stmt} {f : Addr} {fd : FuncData} {N ps : List Str} {k : Nat} {sp : Sp} (F : Fun K x qual st f fd) (S : FnScope N ps (defScope st)) (len : ∀ vs H Q E, sp vs H Q E → vs.length = ps.length)
    (hbody : ∀ (cdv : Value) (A : Around) (outer : List Env) (s : Shared) (H : Hp) (vs : List V) (Q : VK) (E : XK), Room k (A.deeper (envOfC qual (defScope st) s.heap.objs.size f cdv)) → sp vs H Q E →
      ∃ t, PSs (cxOf (L2N.CX P w) P w K mg base N qual (defScope st) f cdv A outer s H E) (defBody st) t ∧ t { nx := fun _ H' => Q .non H', rt := Q } (start N vs) H) : FnOk P w K mg base (L2N.CX P w) (k + 1) f fd ps sp := by
  obtain ⟨_, _, _, _, _, _, cdv, _, _, rfl, look, code⟩ := F.ex
  exact fn_of look code S len fun A outer s H vs Q E room h => hbody cdv A outer s H vs Q E room h
/-- nothing is let out -/
theorem passN {X : Cx} : Passes (L2N.CX X.prog X.w) X E0 := fun pins σ H s e s' I h => let ⟨_, _, _, _, _, _, _, _, _, _, _, _, z⟩ := h; z.elim
theorem takesN0 {X : Cx} : L2N.Takes X (fun _ _ _ _ => False) := fun u s' h => let ⟨_, _, _, _, _, _, _, _, _, _, _, _, _, _, _, _, z⟩ := h; z.elim
end
/-! ### readings that raise -/
def EvX (te : TE) (s : L2.St) (H : Hp) : Prop := ∀ H1, Ex H H1 → ∀ Q : VK, te s H1 Q
def EvTX (t : TT) (s : L2.St) (H : Hp) : Prop := ∀ H1, Ex H H1 → ∀ Q : Bool → Hp → Prop, t s H1 Q
/-- an error of the class C, nothing known of what stands behind it but that all stays -/
def Err (C : Addr) (H : Hp) (E : XK) : Prop := ∀ H1, Ex H H1 → E (.ref C) none H1
section
variable {K : PySem.W.Frag} {s : L2.St} {H H' : Hp} {ta tb te tx tc : TE} {t u : TT} {x y z v : V} {r : R2} {P R : V → Hp → Prop} {D : Ends} {tu tw tz : TS} {tr : TA} {E : XK} {C : Addr}
theorem Err.mono (h : Err C H E) (e : Ex H H') : Err C H' E := fun H1 e1 => h H1 (e.trans e1)
theorem EvX.mono (h : EvX te s H) (e : Ex H H') : EvX te s H' := fun H1 e1 => h H1 (e.trans e1)
theorem evx_call {sp : Sp} {PP : List V → Hp → Prop} (h : EvAP tr s H PP) (hs : ∀ vs H1, Ex H H1 → PP vs H1 → ∀ Q, sp vs H1 Q E) : EvX (tCall sp [] E tr) s H := fun H1 e Q => h H1 e _ fun vs H2 e2 p => by
  rw [List.append_nil]
  exact hs vs H2 (e.trans e2) p Q
theorem evx_arg {sp : Sp} (h : EvX te s H) : EvX (tCall sp [] E (tCons te tr)) s H := fun H1 e Q => h H1 e _
theorem evx_ifB {b : Bool} (h : EvT t s H b) (h1 : b = true → EvX ta s H) (h2 : b = false → EvX tb s H) : EvX (tIf t ta tb) s H := fun H1 e Q => h H1 e _ fun H2 e2 => by
  cases b with
  | true => exact h1 rfl H2 (e.trans e2) Q
  | false => exact h2 rfl H2 (e.trans e2) Q
theorem w_dropX (h : EvX te s H) : Sv (tSeq (tDrop te) tz) D s H := fun H1 e1 => h H1 e1 _
theorem w_retX (h : EvX te s H) : Sv (tSeq (tRet te) tz) D s H := fun H1 e1 => h H1 e1 _
theorem w_asgX {g : TG} (h : EvX te s H) : Sv (tSeq (tAsg te g) tz) D s H := fun H1 e1 => h H1 e1 _
/-- raise C(..) -/
theorem w_raise (h : Err C H E) : Sv (tSeq (fun _ σ H => (fun (_ : L2.St) (H : Hp) (Q : XK) => Q (.ref C) none H) σ H fun cls d H' => (fun cls d (_ : L2.St) H => E cls d H) cls d σ H') tz) D s H := fun H1 e1 => h H1 e1
end
/-! ### a local that holds a def, called in a try -/
structure AskAt (P : Program) (w : World) (K : PySem.W.Frag) (mg : Str → Option Value) (base : Heap) (k : Nat) (f : Addr) (sp : Sp) : Prop where
  ex : ∃ (fd : FuncData) (ps : List Str), FnOk P w K mg base (L2N.CX P w) k f fd ps sp ∧ PySem.W.keepIn K (.ref f) = true ∧ Binds K fd ps []
def tCallI (P : Program) (w : World) (K : PySem.W.Frag) (mg : Str → Option Value) (base : Heap) (k i : Nat) (W : WX) (t : TA) : TE := fun σ H Q => ∃ f sp, σ[i]? = some (some (.ref f)) ∧ AskAt P w K mg base k f sp ∧ t σ H fun vs H1 => sp vs H1 Q (WE W σ)
section
variable {X : Cx} {k i : Nat} {x : Str} {p pos : Pos} {e : Expr} {es : List Expr} {t : TA} {W : WX}
theorem pe_callI (hr : Room k X.A) (hN : X.N[i]? = some x) (hv : Vis X.env.scope x) (tk : L2N.Takes X W) (ha : PA X (e :: es) t) (hdb : (x == ("__debug__" : Str)) = false := by decide) (hcd : (x == ("__classdict__" : Str)) = false := by decide)
    (he : starEach (e :: es) X.env = (false, eval e X.env) :: starEach es X.env := by rfl) (hpl : (backTo pos (starEach es X.env)).any (·.1) = false := by rfl) : PE X (.Call (.Name x p) (e :: es) [] pos) (tCallI X.prog X.w X.K X.mg X.base k i W t) := by
  refine ⟨fun pins s σ H Q I ⟨f, sp, slot, ⟨fd, ps, F, kp, bd⟩, args⟩ => ?_⟩
  refine wpAny_Call_Name_kw (thn ((pe_var (pos := p) hN hv hdb hcd).run pins s σ H (fun v H1 => v = .ref f ∧ H1 = H) I ⟨.ref f, slot, rfl, rfl⟩) fun u s1 h1 => ?_)
  obtain ⟨v, H1, I1, r1, rfl, rfl⟩ := h1
  cases r1
  exact PySem.W.callWith_K (h₀ := X.base) I.ok.mod.kin kp (thn (ha.run pos pins s1 σ _ _ I1 args) fun us s2 h2 => let ⟨vs, H2, I2, r, q⟩ := h2; ⟨I2.kIn, run_fnS F hr bd (L2N.passAt tk σ) I2 r q⟩) he hpl
end
/-! ### a def that is handed the error which is being handled -/
structure FnP (P : Program) (w : World) (K : PySem.W.Frag) (mg : Str → Option Value) (base : Heap) (k : Nat) (f : Addr) (fd : FuncData) (ps : List Str) (sp : Addr × Obj → Sp) : Prop where
  ln : ∀ p vs H Q E, sp p vs H Q E → vs.length = ps.length
  go : ∀ (p : Addr × Obj) (vs : List V) (us : List Value) (args : Args) (H : Hp) (Q : VK) (E : XK) (s : Shared) (outer : List Env) (A : Around), sp p vs H Q E → Vals vs us → BindsTo s fd args (ps.zip us) → L2H.RoomH k A → L2H.Hot1 A p → L2H.PinOk outer H s p →
    Env0 P w K mg base A outer s H → codeAny (model P w) A (.call (.ref f) args) (CR CX0 outer P w H s Q E) s
section
variable {P : Program} {w : World} {K : PySem.W.Frag} {mg : Str → Option Value} {base : Heap}
theorem _root_.L2.Fun.okP {x qual : Str} {st : Stmt} {f : Addr} {fd : FuncData} {N ps : List Str} {k : Nat} {sp : Addr × Obj → Sp} (F : Fun K x qual st f fd) (S : FnScope N ps (defScope st)) (len : ∀ p vs H Q E, sp p vs H Q E → vs.length = ps.length)
    (hbody : ∀ (cdv : Value) (A : Around) (outer : List Env) (s : Shared) (H : Hp) (vs : List V) (Q : VK) (E : XK) (p : Addr × Obj), sp p vs H Q E →
      ∃ t, PSs (L2H.cxH CX0 P w K mg base N qual (defScope st) f cdv A outer s H E p) (defBody st) t ∧ t { nx := fun _ H' => Q .non H', rt := Q } (start N vs) H) : FnP P w K mg base (k + 1) f fd ps sp := by
  obtain ⟨_, _, _, _, _, _, cdv, _, _, rfl, look, code⟩ := F.ex
  refine ⟨len, fun p vs us args H Q E s outer A h r bd room hot pin e0 => ?_⟩
  have n1 := len _ _ _ _ _ h
  have kin : K.In s.heap := e0.mod.kin.keeps fun a u z => (e0.bs a u z).1
  have lim : s.heap.NoLimit := e0.mod.nolimit.keeps fun a u z => (e0.bs a u z).1
  have kinds : ∀ y ∈ ps.zip us, (defScope st).names.lookup y.1 = some .local ∨ ((defScope st).names.lookup y.1 = some .cell ∧ ((cellsFrom (s.heap.objs.size + 1) (defScope st).names []).lookup y.1).isSome = true) := fun y hy =>
    (S.par y.1 (List.of_mem_zip (a := y.1) (b := y.2) hy).1).imp id fun q => ⟨q, PySem.W.cellsFrom_some _ _ _ (.inl q)⟩
  refine codeAny_call_function room.depth (kin _ _ look) rfl S.co S.gen rfl (PySem.W.codeRec_of kin code) (bd _ _ _ _ ?_)
  refine wpAny_newFunctionEnv_cells S.kind kinds fun env ee s1 ic => ?_
  subst ee
  obtain ⟨t, ht, q⟩ := hbody cdv A outer s H vs Q E p h
  refine ⟨lim.keeps ic.toInCall.keep, codeAny_func (wpAny_mono (ht.run [] s1 (start N vs) H _ (L2H.inv_startH S pin e0 n1 r ic) q) (fun fl s' z => ?_) fun _ _ z => z)⟩
  cases fl with
  | brk => exact z.elim fun _ z => z.elim fun _ z => z.2.elim
  | cont => exact z.elim fun _ z => z.elim fun _ z => z.2.elim
  | next =>
    obtain ⟨_, H2, J, z⟩ := z
    exact ⟨V.non, H2, J.os, J.bare, J.base, J.hok, rfl, z⟩
  | ret u =>
    obtain ⟨v, _, H2, J, rv, z⟩ := z
    exact ⟨v, H2, J.os, J.bare, J.base, J.hok, rv, z⟩
end
section
variable {X : Cx} {k : Nat} {f : Addr} {fd : FuncData} {ps : List Str} {sp : Addr × Obj → Sp} {sp' : Sp} {p : Addr × Obj} {x : Str} {q pos : Pos} {e : Expr} {es : List Expr} {t : TA}
theorem pe_callP (F : FnP X.prog X.w X.K X.mg X.base k f fd ps sp) (room : L2H.RoomH k X.A) (hot : L2H.Hot1 X.A p) (hp : p ∈ X.pn) (hg : Gl X x) (hm : X.mg x = some (.ref f)) (kp : PySem.W.keepIn X.K (.ref f) = true) (bd : Binds X.K fd ps []) (ha : PA X (e :: es) t)
    (imp : ∀ vs H Q, sp' vs H Q E0 → sp p vs H Q E0) (hdb : (x == ("__debug__" : Str)) = false := by decide) (he : starEach (e :: es) X.env = (false, eval e X.env) :: starEach es X.env := by rfl) (hpl : (backTo pos (starEach es X.env)).any (·.1) = false := by rfl) :
    PE X (.Call (.Name x q) (e :: es) [] pos) (tCall sp' [] E0 t) := by
  refine ⟨fun pins s σ H Q I h => wpAny_Call_Name_kw (ld_glob I hg hm ?_ hdb)⟩
  refine PySem.W.callWith_K (h₀ := X.base) I.ok.mod.kin kp (thn (ha.run pos pins s σ H _ I h) fun us s1 h1 => ?_) he hpl
  obtain ⟨vs, H1, I1, r, z⟩ := h1
  rw [List.append_nil] at z
  have z := imp _ _ _ z
  have n1 : us.length = ps.length := by rw [← r.length]; exact F.ln _ _ _ _ _ z
  have b := bd s1 us I1.kIn (by rw [List.append_nil]; exact n1)
  rw [List.append_nil] at b
  have pk := I1.pin p (List.mem_append_left _ hp)
  have pin : L2H.PinOk X.stack H1 s1 p := ⟨pk.1, pk.2.1, fun m => (List.mem_cons.mp (I1.stkSub p.1 m)).elim pk.2.2.1 pk.2.2.2.1, pk.2.2.2.2⟩
  refine ⟨I1.kIn, wpAny_call (codeAny_mono (F.go p vs us ⟨us, []⟩ H1 Q E0 s1 X.stack X.A z r b room hot pin I1.env0) fun res s' z => ?_)⟩
  match res, z with
  | .ok (.ret u), z => exact I1.after z
/-- isinstance(e, c), e the error that is being handled: the class is D -/
def rIsP (K : PySem.W.Frag) (a D : Addr) : List V → Hp → VK → Prop := fun xs H Q => ∃ (c : V) (cv : Value) (b : Bool), xs = [.ref a, c] ∧ ClsV c cv ∧ PySem.W.kitOne K (.ref D) cv = some b ∧ Q (.bl b) H
theorem call_isP {D : Addr} (C : ExcC X.K D) (hc : p.2.cls = .ref D) (hd : p.2.dict = none) (hf : ∃ vs, p.2.data = .fields vs) (hp : p ∈ X.pn) : CallR X (.builtin "isinstance") (rIsP X.K p.1 D) := by
  intro pins s σ H xs us Q I r h
  obtain ⟨c, cv, b, rfl, k, e, z⟩ := h
  obtain ⟨u1, u2, eu, r1, r2⟩ := vals2 r
  subst eu
  cases r1
  have e2 := k.eq r2
  subst e2
  have at1 : PySem.W.InstAt s.heap p.1 p.2 D none := by
    have g := (I.pin p (List.mem_append_left _ hp)).1
    obtain ⟨a, oc, od, dt, sl⟩ := p
    obtain ⟨vs, hf⟩ := hf
    simp only at hc hd hf g
    subst hc hd hf
    exact ⟨g, rfl, rfl, trivial⟩
  exact PySem.W.kia_one (PySem.W.handS_kitx_exc C.hg C.hk C.hs C.hd C.ha C.hn C.ht C.hm) I.kIn at1 e (fun z => nomatch z) fun tk => ⟨.bl b, H, I.kept (t' := tk) fun _ _ z => z, rfl, z⟩
end
section
variable {K : PySem.W.Frag} {s : L2.St} {H : Hp} {ta tc : TE}
theorem ev_isp {a D : Addr} {c : V} {cv : Value} {b : Bool} (ha : Ev ta s H (.ref a)) (hc : Ev tc s H c) (k : ClsV c cv) (e : PySem.W.kitOne K (.ref D) cv = some b) : Ev (tCB (rIsP K a D) (tCons ta (tCons tc tNil))) s H (.bl b) :=
  ev_cbP (ap_two ha.p hc.p) fun vs H1 _ ⟨v, w, ev, pv, pw⟩ H2 e2 Q q => ⟨c, cv, b, by rw [ev, pv, pw], k, e, q H2 (Ex.refl H2)⟩
end
end Wk

set_option Elab.async false
set_option linter.all false
set_option maxRecDepth 100000
set_option maxHeartbeats 4000000
namespace Ev
open PySem PySem.Spec L2 Evl Wk
def topS (i : Nat) : Stmt := PySem.Challenge.pw_evenhand_k07_refused.main.body.getD i (.Pass ⟨0, 0, 0, 0⟩)
abbrev s_is_whole : Stmt := topS 9
theorem sc_is_whole : FnScope ["thing"] ["thing"] (defScope s_is_whole) := ⟨rfl, rfl, rfl, by decide +kernel, rfl, by decide +kernel, by decide +kernel⟩
abbrev s_is_share : Stmt := topS 10
theorem sc_is_share : FnScope ["thing"] ["thing"] (defScope s_is_share) := ⟨rfl, rfl, rfl, by decide +kernel, rfl, by decide +kernel, by decide +kernel⟩
abbrev s_check_row : Stmt := topS 11
theorem sc_check_row : FnScope ["row", "share"] ["row"] (defScope s_check_row) := ⟨rfl, rfl, rfl, by decide +kernel, rfl, by decide +kernel, by decide +kernel⟩
abbrev s_running : Stmt := topS 12
theorem sc_running : FnScope ["shares", "found", "total", "share"] ["shares"] (defScope s_running) := ⟨rfl, rfl, rfl, by decide +kernel, rfl, by decide +kernel, by decide +kernel⟩
abbrev s_rising_sums : Stmt := topS 13
theorem sc_rising_sums : FnScope ["row"] ["row"] (defScope s_rising_sums) := ⟨rfl, rfl, rfl, by decide +kernel, rfl, by decide +kernel, by decide +kernel⟩
abbrev s_over : Stmt := topS 14
theorem sc_over : FnScope ["row", "mark", "share"] ["row", "mark"] (defScope s_over) := ⟨rfl, rfl, rfl, by decide +kernel, rfl, by decide +kernel, by decide +kernel⟩
abbrev s_above : Stmt := topS 15
theorem sc_above : FnScope ["row", "mark"] ["row", "mark"] (defScope s_above) := ⟨rfl, rfl, rfl, by decide +kernel, rfl, by decide +kernel, by decide +kernel⟩
abbrev s_is_gift : Stmt := topS 16
theorem sc_is_gift : FnScope ["gift", "many", "part"] ["gift", "many"] (defScope s_is_gift) := ⟨rfl, rfl, rfl, by decide +kernel, rfl, by decide +kernel, by decide +kernel⟩
abbrev s_done : Stmt := topS 17
theorem sc_done : FnScope ["row", "gifts", "found", "giver", "taker", "amount", "gift"] ["row", "gifts"] (defScope s_done) := ⟨rfl, rfl, rfl, by decide +kernel, rfl, by decide +kernel, by decide +kernel⟩
abbrev s_evenest : Stmt := topS 18
theorem sc_evenest : FnScope ["row", "least", "more", "k"] ["row"] (defScope s_evenest) := ⟨rfl, rfl, rfl, by decide +kernel, rfl, by decide +kernel, by decide +kernel⟩
abbrev s_Gifts___init__ : Stmt := inClass (topS 21) 0
theorem sc_Gifts___init__ : FnScope ["self", "gifts"] ["self", "gifts"] (defScope s_Gifts___init__) := ⟨rfl, rfl, rfl, by decide +kernel, rfl, by decide +kernel, by decide +kernel⟩
abbrev s_Gifts_shows : Stmt := inClass (topS 21) 1
theorem sc_Gifts_shows : FnScope ["self", "one", "other", "shares", "gift"] ["self", "one", "other"] (defScope s_Gifts_shows) := ⟨rfl, rfl, rfl, by decide +kernel, rfl, by decide +kernel, by decide +kernel⟩
abbrev s_Top___init__ : Stmt := inClass (topS 22) 0
theorem sc_Top___init__ : FnScope ["self", "many"] ["self", "many"] (defScope s_Top___init__) := ⟨rfl, rfl, rfl, by decide +kernel, rfl, by decide +kernel, by decide +kernel⟩
abbrev s_Top_shows : Stmt := inClass (topS 22) 1
theorem sc_Top_shows : FnScope ["self", "one", "other"] ["self", "one", "other"] (defScope s_Top_shows) := ⟨rfl, rfl, rfl, by decide +kernel, rfl, by decide +kernel, by decide +kernel⟩
abbrev s_Wholes___init__ : Stmt := inClass (topS 23) 0
theorem sc_Wholes___init__ : FnScope ["self", "one", "other"] ["self", "one", "other"] (defScope s_Wholes___init__) := ⟨rfl, rfl, rfl, by decide +kernel, rfl, by decide +kernel, by decide +kernel⟩
abbrev s_Wholes_shows : Stmt := inClass (topS 23) 1
theorem sc_Wholes_shows : FnScope ["self", "one", "other"] ["self", "one", "other"] (defScope s_Wholes_shows) := ⟨rfl, rfl, rfl, by decide +kernel, rfl, by decide +kernel, by decide +kernel⟩
abbrev s_check_two : Stmt := topS 25
theorem sc_check_two : FnScope ["one", "other"] ["one", "other"] (defScope s_check_two) := ⟨rfl, rfl, rfl, by decide +kernel, rfl, by decide +kernel, by decide +kernel⟩
abbrev s_top_of : Stmt := topS 26
theorem sc_top_of : FnScope ["one", "other", "mine", "theirs", "k"] ["one", "other"] (defScope s_top_of) := ⟨rfl, rfl, rfl, by decide +kernel, rfl, by decide +kernel, by decide +kernel⟩
abbrev s_gifts_to : Stmt := topS 27
theorem sc_gifts_to : FnScope ["row", "wanted", "order", "found", "givers", "k", "lack", "giver", "spare", "amount"] ["row", "wanted"] (defScope s_gifts_to) := ⟨rfl, rfl, rfl, by decide +kernel, rfl, by decide +kernel, by decide +kernel⟩
abbrev s_compared : Stmt := topS 28
theorem sc_compared : FnScope ["one", "other", "wanted", "many"] ["one", "other"] (defScope s_compared) := ⟨rfl, rfl, rfl, by decide +kernel, rfl, by decide +kernel, by decide +kernel⟩
abbrev s_under : Stmt := topS 29
theorem sc_under : FnScope ["one", "other", "mine", "theirs", "sums", "k"] ["one", "other"] (defScope s_under) := ⟨rfl, rfl, rfl, by decide +kernel, rfl, by decide +kernel, by decide +kernel⟩
abbrev s_check_amount : Stmt := topS 32
theorem sc_check_amount : FnScope ["amount"] ["amount"] (defScope s_check_amount) := ⟨rfl, rfl, rfl, by decide +kernel, rfl, by decide +kernel, by decide +kernel⟩
abbrev s_level_of : Stmt := topS 33
theorem sc_level_of : FnScope ["row", "amount", "sums", "k"] ["row", "amount"] (defScope s_level_of) := ⟨rfl, rfl, rfl, by decide +kernel, rfl, by decide +kernel, by decide +kernel⟩
abbrev s_lowered : Stmt := topS 34
theorem sc_lowered : FnScope ["row", "amount", "level", "left", "found", "place"] ["row", "amount"] (defScope s_lowered) := ⟨rfl, rfl, rfl, by decide +kernel, rfl, by decide +kernel, by decide +kernel⟩
abbrev s_checked : Stmt := topS 35
theorem sc_checked : FnScope ["row", "share"] ["row"] (defScope s_checked) := ⟨rfl, rfl, rfl, by decide +kernel, rfl, by decide +kernel, by decide +kernel⟩
abbrev s_taken : Stmt := topS 36
theorem sc_taken : FnScope ["row", "amount"] ["row", "amount"] (defScope s_taken) := ⟨rfl, rfl, rfl, by decide +kernel, rfl, by decide +kernel, by decide +kernel⟩
abbrev s_poured : Stmt := topS 37
theorem sc_poured : FnScope ["row", "amount", "share"] ["row", "amount"] (defScope s_poured) := ⟨rfl, rfl, rfl, by decide +kernel, rfl, by decide +kernel, by decide +kernel⟩
abbrev s_written : Stmt := topS 39
theorem sc_written : FnScope ["row", "share"] ["row"] (defScope s_written) := ⟨rfl, rfl, rfl, by decide +kernel, rfl, by decide +kernel, by decide +kernel⟩
abbrev s_law_cell_at : Stmt := topS 41
theorem sc_law_cell_at : FnScope ["_law_script", "_law_k"] ["_law_script", "_law_k"] (defScope s_law_cell_at) := ⟨rfl, rfl, rfl, by decide +kernel, rfl, by decide +kernel, by decide +kernel⟩
abbrev s_law_draw : Stmt := topS 42
theorem sc_law_draw : FnScope ["_law_cell", "_law_k", "_law_many", "_law_primes"] ["_law_cell", "_law_k", "_law_many"] (defScope s_law_draw) := ⟨rfl, rfl, rfl, by decide +kernel, rfl, by decide +kernel, by decide +kernel⟩
abbrev s_law_row : Stmt := topS 43
theorem sc_law_row : FnScope ["_law_script", "_law_most", "_law_row_here", "_law_k", "_law_share"] ["_law_script"] (defScope s_law_row) := ⟨rfl, rfl, rfl, by decide +kernel, rfl, by decide +kernel, by decide +kernel⟩
abbrev s_law_other : Stmt := topS 44
theorem sc_law_other : FnScope ["_law_script", "_law_row_here", "_law_found", "_law_kind", "_law_k", "_law_one", "_law_other_here", "_law_more", "_law_amount"] ["_law_script", "_law_row_here"] (defScope s_law_other) := ⟨rfl, rfl, rfl, by decide +kernel, rfl, by decide +kernel, by decide +kernel⟩
abbrev s_law_numbers : Stmt := topS 45
theorem sc_law_numbers : FnScope ["_law_found", "_law_many", "_law_one"] ["_law_found", "_law_many"] (defScope s_law_numbers) := ⟨rfl, rfl, rfl, by decide +kernel, rfl, by decide +kernel, by decide +kernel⟩
abbrev s_law_kinds : Stmt := topS 46
theorem sc_law_kinds : FnScope ["_law_error", "_law_found"] ["_law_error"] (defScope s_law_kinds) := ⟨rfl, rfl, rfl, by decide +kernel, rfl, by decide +kernel, by decide +kernel⟩
abbrev s_law_with_row : Stmt := topS 47
theorem sc_law_with_row : FnScope ["_law_door", "_law_row_here"] ["_law_door", "_law_row_here"] (defScope s_law_with_row) := ⟨rfl, rfl, rfl, by decide +kernel, rfl, by decide +kernel, by decide +kernel⟩
abbrev s_law_with_amount : Stmt := topS 48
theorem sc_law_with_amount : FnScope ["_law_door", "_law_thing"] ["_law_door", "_law_thing"] (defScope s_law_with_amount) := ⟨rfl, rfl, rfl, by decide +kernel, rfl, by decide +kernel, by decide +kernel⟩
abbrev s_law_with_gifts : Stmt := topS 49
theorem sc_law_with_gifts : FnScope ["_law_row_here", "_law_gifts"] ["_law_row_here", "_law_gifts"] (defScope s_law_with_gifts) := ⟨rfl, rfl, rfl, by decide +kernel, rfl, by decide +kernel, by decide +kernel⟩
abbrev s_law_with_two : Stmt := topS 50
theorem sc_law_with_two : FnScope ["_law_one", "_law_other_here"] ["_law_one", "_law_other_here"] (defScope s_law_with_two) := ⟨rfl, rfl, rfl, by decide +kernel, rfl, by decide +kernel, by decide +kernel⟩
abbrev s_law_with_wholes : Stmt := topS 51
theorem sc_law_with_wholes : FnScope ["_law_one", "_law_other_here"] ["_law_one", "_law_other_here"] (defScope s_law_with_wholes) := ⟨rfl, rfl, rfl, by decide +kernel, rfl, by decide +kernel, by decide +kernel⟩
abbrev s_law_told : Stmt := topS 52
theorem sc_law_told : FnScope ["_law_ask", "_law_one", "_law_other_here", "_law_error"] ["_law_ask", "_law_one", "_law_other_here"] (defScope s_law_told) := ⟨rfl, rfl, rfl, by decide +kernel, rfl, by decide +kernel, by decide +kernel⟩
abbrev s_law_all : Stmt := topS 53
theorem sc_law_all : FnScope ["_law_ask", "_law_doors", "_law_things", "_law_due", "_law_door", "_law_thing"] ["_law_ask", "_law_doors", "_law_things", "_law_due"] (defScope s_law_all) := ⟨rfl, rfl, rfl, by decide +kernel, rfl, by decide +kernel, by decide +kernel⟩
abbrev s_law_edges_right : Stmt := topS 54
theorem sc_law_edges_right : FnScope ["_law_due", "_law_low", "_law_high", "_law_ask", "_law_share"] ["_law_due"] (defScope s_law_edges_right) := ⟨rfl, rfl, rfl, by decide +kernel, rfl, by decide +kernel, by decide +kernel⟩
abbrev s_law_taken : Stmt := topS 55
theorem sc_law_taken : FnScope ["_law_row_here", "_law_amount"] ["_law_row_here", "_law_amount"] (defScope s_law_taken) := ⟨rfl, rfl, rfl, by decide +kernel, rfl, by decide +kernel, by decide +kernel⟩
abbrev s_law_poured : Stmt := topS 56
theorem sc_law_poured : FnScope ["_law_row_here", "_law_amount"] ["_law_row_here", "_law_amount"] (defScope s_law_poured) := ⟨rfl, rfl, rfl, by decide +kernel, rfl, by decide +kernel, by decide +kernel⟩
abbrev s_law_bounds_right : Stmt := topS 57
theorem sc_law_bounds_right : FnScope ["_law_due", "_law_low", "_law_high"] ["_law_due"] (defScope s_law_bounds_right) := ⟨rfl, rfl, rfl, by decide +kernel, rfl, by decide +kernel, by decide +kernel⟩
abbrev s_law_with_taken : Stmt := topS 58
theorem sc_law_with_taken : FnScope ["_law_one", "_law_other_here"] ["_law_one", "_law_other_here"] (defScope s_law_with_taken) := ⟨rfl, rfl, rfl, by decide +kernel, rfl, by decide +kernel, by decide +kernel⟩
abbrev s_law_with_poured : Stmt := topS 59
theorem sc_law_with_poured : FnScope ["_law_one", "_law_other_here"] ["_law_one", "_law_other_here"] (defScope s_law_with_poured) := ⟨rfl, rfl, rfl, by decide +kernel, rfl, by decide +kernel, by decide +kernel⟩
abbrev s_law_some_beyond : Stmt := topS 60
theorem sc_law_some_beyond : FnScope ["_law_due", "_law_low", "_law_high", "_law_amount"] ["_law_due"] (defScope s_law_some_beyond) := ⟨rfl, rfl, rfl, by decide +kernel, rfl, by decide +kernel, by decide +kernel⟩
abbrev s_law : Stmt := topS 61
theorem sc_law : FnScope ["_law_script", "_law_far", "_law_due", "_law_k", "_law_row_here", "_law_kept", "_law_rows", "_law_at", "_law_amounts", "_law_gifts", "_law_one", "_law_two"] ["_law_script"] (defScope s_law) := ⟨rfl, rfl, rfl, by decide +kernel, rfl, by decide +kernel, by decide +kernel⟩
structure Txt (K : PySem.W.Frag) (mg : Str → Option Value) : Prop where
  n_len : mg "len" = none
  n_all : mg "all" = none
  n_any : mg "any" = none
  n_sum : mg "sum" = none
  n_max : mg "max" = none
  n_min : mg "min" = none
  n_sorted : mg "sorted" = none
  n_isinstance : mg "isinstance" = none
  n_range : mg "range" = none
  n_reversed : mg "reversed" = none
  n_zip : mg "zip" = none
  n_list : mg "list" = none
  n_abs : mg "abs" = none
  n_str : mg "str" = none
  n_int : mg "int" = none
  n_set : mg "set" = none
  n_bool : mg "bool" = none
  n_tuple : mg "tuple" = none
  n_ValueError : mg "ValueError" = none
  g_GREATEST : ∃ t, mg "GREATEST" = some (.int 1000000 t)
  g_MOST : ∃ t, mg "MOST" = some (.int 1000000000 t)
end Ev

set_option Elab.async false
set_option linter.all false
set_option maxRecDepth 100000
set_option maxHeartbeats 4000000
namespace Ev
open PySem PySem.Spec L2 Evl Wk
/-! ### rows: is_whole, is_share, check_row, running, over -/
local macro_rules | `(tactic| walk_at "ev") => `(tactic| first
  | exact ev_c | exact ev_var rfl | assumption
  | (refine ev_op ?_ ?_ rv_I0 <;> walk_at "ev")
  | (refine ev_un ?_ ru_neg; walk_at "ev"))
def tyns : List String := ["int", "bool", "str", "list", "tuple", "dict", "NoneType"]
def spWhole (K : PySem.W.Frag) : Sp := fun vs H Q _ => ∃ (x : V) (n : String), vs = [x] ∧ TyX K H x (.type n) ∧ n ∈ tyns ∧ RetV (.bl (n == "int")) H Q
section
variable {P : Program} {w : World} {K : PySem.W.Frag} {mg : Str → Option Value} {base : Heap}
theorem def_is_whole (R : Raw K mg "is_whole" s_is_whole ["thing"]) (T : Txt K mg) : Def P w K mg base CX0 1 "is_whole" ["thing"] (spWhole K) := by
  refine R.ok fun f fd F => F.ok sc_is_whole (fun vs H Q E h => ?_) (fun cdv A outer s H vs Q E hr h => ?_)
  · obtain ⟨x, n, rfl, _⟩ := h
    rfl
  · obtain ⟨x, n, rfl, ty, hn, q⟩ := h
    refine ⟨_, (pss_cons (ps_ret (pe_and (pe_callB (r := rIsi K) call_isi (by rfl) T.n_isinstance (by decide +kernel) (pa_cons (pv 0) (pa_cons (pe_bltn (v := .ty "int") (u := .type "int") (by rfl) T.n_int (by decide +kernel) rfl) pa_nil))) (pe_one (pe_not (pe_callB (r := rIsi K) call_isi (by rfl) T.n_isinstance (by decide +kernel) (pa_cons (pv 0) (pa_cons (pe_bltn (v := .ty "bool") (u := .type "bool") (by rfl) T.n_bool (by decide +kernel) rfl) pa_nil)))))))
      pss_nil), ?_⟩
    have k1 : ∃ a b : Bool, PySem.W.kitOne K (.type n) (.type "int") = some a ∧ PySem.W.kitOne K (.type n) (.type "bool") = some b ∧ (a && !b) = (n == "int") := by
      simp only [tyns, List.mem_cons, List.not_mem_nil, or_false] at hn
      rcases hn with rfl | rfl | rfl | rfl | rfl | rfl | rfl
      · exact ⟨true, false, kit_ty (by decide +kernel), kit_ty (by decide +kernel), by decide +kernel⟩
      · exact ⟨true, true, kit_ty (by decide +kernel), kit_ty (by decide +kernel), by decide +kernel⟩
      · exact ⟨false, false, kit_ty (by decide +kernel), kit_ty (by decide +kernel), by decide +kernel⟩
      · exact ⟨false, false, kit_ty (by decide +kernel), kit_ty (by decide +kernel), by decide +kernel⟩
      · exact ⟨false, false, kit_ty (by decide +kernel), kit_ty (by decide +kernel), by decide +kernel⟩
      · exact ⟨false, false, kit_ty (by decide +kernel), kit_ty (by decide +kernel), by decide +kernel⟩
      · exact ⟨false, false, kit_ty (by decide +kernel), kit_ty (by decide +kernel), by decide +kernel⟩
    obtain ⟨a, b, k2, k3, k4⟩ := k1
    refine Sv.go (w_ret (v := .bl (a && !b)) (ev_andV (ev_isi (ev_var rfl) ev_c (.ty _) ty k2) fun _ => ev_notV (ev_isi (ev_var rfl) ev_c (.ty _) ty k3)) fun H1 e1 => ?_)
    rw [k4]
    exact q H1 e1
def isSh (i : Int) : Bool := decide (-1000000 ≤ i) && decide (i ≤ 1000000)
/-- what is_share says of a value -/
def shV : V → Bool
  | .int i => isSh i
  | _ => false
def spShare (K : PySem.W.Frag) : Sp := fun vs H Q _ => ∃ (x : V) (n : String), vs = [x] ∧ TyX K H x (.type n) ∧ n ∈ tyns ∧ ((n == "int") = true → ∃ i, x = .int i) ∧ RetV (.bl ((n == "int") && shV x)) H Q
theorem def_is_share (R : Raw K mg "is_share" s_is_share ["thing"]) (T : Txt K mg) (d_is_whole : Def P w K mg base CX0 1 "is_whole" ["thing"] (spWhole K)) : Def P w K mg base CX0 2 "is_share" ["thing"] (spShare K) := by
  refine R.ok fun f fd F => F.ok sc_is_share (fun vs H Q E h => ?_) (fun cdv A outer s H vs Q E hr h => ?_)
  · obtain ⟨x, n, rfl, _⟩ := h
    rfl
  · obtain ⟨x, n, rfl, ty, hn, hi, q⟩ := h
    refine ⟨_, (pss_cons (ps_ret (pe_and (pe_def d_is_whole hr (by decide) (by rfl) pass0 (pa_cons (pv 0) pa_nil)) (pe_one (pe_chain op_le op_le (pe_un un_neg (pe_glob (v := .int 1000000) rfl T.g_GREATEST.choose_spec ⟨_, rfl⟩)) (pv 0) (pe_glob (v := .int 1000000) rfl T.g_GREATEST.choose_spec ⟨_, rfl⟩)))))
      pss_nil), ?_⟩
    refine Sv.go (w_ret (v := .bl ((n == "int") && shV x)) (ev_andV (ev_call (dvs := []) (ea_cons (ev_var rfl) ea_nil) fun H1 e1 Q q E => ⟨x, n, rfl, tyx_mono e1 ty, hn, q⟩) fun hb => ?_) fun H1 e1 => q H1 e1)
    obtain ⟨i, rfl⟩ := hi hb
    exact ev_chain (ev_un ev_c ru_neg) (ev_var rfl) rv_I0 fun _ => ⟨ev_c, rv_I0⟩
/-- a row of shares -/
def RowOk (ns : List Int) : Prop := ns ≠ [] ∧ (∀ x ∈ ns, isSh x = true) ∧ ns.length ≤ 100000
theorem isSh_iff {i : Int} : isSh i = true ↔ -1000000 ≤ i ∧ i ≤ 1000000 := by simp [isSh]
theorem ints_all {α : Type} {f : α → Bool} {l : List α} (h : ∀ x ∈ l, f x = true) : (l.map f).all id = true := by
  rw [List.all_eq_true]
  intro b hb
  obtain ⟨x, hx, rfl⟩ := List.mem_map.mp hb
  exact h x hx
theorem map_bl {α : Type} (f : α → Bool) (l : List α) : l.map (fun x => V.bl (f x)) = (l.map f).map V.bl := by rw [List.map_map]; rfl
theorem map_int {α : Type} (f : α → Int) (l : List α) : l.map (fun x => V.int (f x)) = (l.map f).map V.int := by rw [List.map_map]; rfl
/-- all([is_share(x) for x in row]) -/
theorem ev_shares {s : L2.St} {H : Hp} {tl : TE} {E : XK} {j : Nat} {a : Addr} (ns : List Int) (h : Ev tl s H (.ref a)) (hx : H a = some (.lst (ns.map V.int))) (hz : ns.length ≤ 100000) (hw : ∀ x, wipe ((wipe s [j]).set j (some x)) [j] = wipe s [j])
    (hj : ∀ x, ((wipe s [j]).set j (some x))[j]? = some (some x)) :
    Ev (tCB (rAll K) (tCons (tLc (iList K tl) (gName j) tYes (tCall (spShare K) [] E (tCons (tVar j) tNil)) [j]) tNil)) s H (.bl ((ns.map isSh).all id)) := by
  have h2 := el_map (K := K) (te := tCall (spShare K) [] E (tCons (tVar j) tNil)) ns V.int (fun x => V.bl (isSh x)) h (sq_of hx) hz hw (fun x _ => ev_call (dvs := []) (ea_cons (ev_var (hj _)) ea_nil) fun H1 e1 Q q E => ⟨.int x, "int", rfl, .base (.int x), by simp [tyns], fun _ => ⟨x, rfl⟩, q⟩)
  rw [map_bl] at h2
  exact ev_all h2.p
def spCheckRow : Sp := fun vs H Q _ => ∃ (a : Addr) (ns : List Int), vs = [.ref a] ∧ H a = some (.lst (ns.map V.int)) ∧ RowOk ns ∧ RetV .non H Q
theorem def_check_row (R : Raw K mg "check_row" s_check_row ["row"]) (T : Txt K mg) (d_is_share : Def P w K mg base CX0 2 "is_share" ["thing"] (spShare K)) : Def P w K mg base CX0 3 "check_row" ["row"] spCheckRow := by
  refine R.ok fun f fd F => F.ok sc_check_row (fun vs H Q E h => ?_) (fun cdv A outer s H vs Q E hr h => ?_)
  · obtain ⟨a, ns, rfl, _⟩ := h
    rfl
  · obtain ⟨a, ns, rfl, ha, ⟨h1, h2, h3⟩, q⟩ := h
    refine ⟨_, (pss_cons (ps_if (PW.pt (pw_or (pt_not (pt_val (pe_callB (r := rIsi K) call_isi (by rfl) T.n_isinstance (by decide +kernel) (pa_cons (pv 0) (pa_cons (pe_bltn (v := .ty "list") (u := .type "list") (by rfl) T.n_list (by decide +kernel) rfl) pa_nil))))) (pw_or (pt_cmpR op_eq (pe_callB (r := rLenS K) call_len_seq (by rfl) T.n_len PySem.boot_len (pa_cons (pv 0) pa_nil)) pe_int (nomark _)) (pw_or1 (pt_not (pt_val (pe_callB (r := rAll K) (cr_all rfl) (by rfl) T.n_all (by decide +kernel) (pa_cons (pe_lc (own := [("share", 1)]) (g := gName 1) rfl sc_check_row.nd (pi_list (pv 0)) (blkOk_by (own := [("share", 1)]) (N := ["row", "share"]) (sc := defScope s_check_row) (by decide +kernel)) (fun _ _ _ _ _ => pg_name (i := 1) sc_check_row.nd rfl (Or.inl rfl)) (fun _ _ _ _ _ => pts_nil) (fun _ _ _ _ _ => (pe_def d_is_share hr (by decide) (by rfl) pass0 (pa_cons (pv 1) pa_nil)))) pa_nil))))))))
        (pss_cons ps_never
          pss_nil)
        pss_nil)
      pss_nil), ?_⟩
    have hl : (V.int (((ns.map V.int).length : Nat) : Int) = V.int 0) = False := by
      simp only [V.int.injEq, List.length_map, eq_iff_iff, iff_false]
      have := List.length_pos_iff.mpr h1
      omega
    refine Sv.go (w_if (b := false) (et_is (et_or (et_not (et_B (ev_isi (b := true) (ev_var rfl) ev_c (.ty _) (.base (.lst ha)) (kit_ty (by decide +kernel))))) fun _ => et_or (et_test (ev_op (ev_lenL (ev_var' rfl ha)) ev_c (rv_eq rfl))) fun _ => et_not (et_B (ev_shares ns (ev_var rfl) ha h3 (fun _ => rfl) (fun _ => rfl)))) ?_) (fun h => nomatch h) fun _ => w_nx fun H1 e1 => q H1 e1)
    rw [ints_all h2]
    simp only [hl]
    rfl
/-- the running sums -/
def runs : Int → List Int → List Int
  | _, [] => []
  | t, x :: r => (t + x) :: runs (t + x) r
theorem runs_len : ∀ (t : Int) (l : List Int), (runs t l).length = l.length
  | _, [] => rfl
  | t, x :: r => by simp [runs, runs_len (t + x) r]
theorem runs_snoc : ∀ (t : Int) (l : List Int) (x : Int), runs t (l ++ [x]) = runs t l ++ [t + l.sum + x]
  | t, [], x => by simp [runs]
  | t, y :: l, x => by
    show (t + y) :: runs (t + y) (l ++ [x]) = (t + y) :: (runs (t + y) l ++ [t + (y :: l).sum + x])
    rw [runs_snoc (t + y) l x, List.sum_cons]
    have e : t + y + l.sum + x = t + (y + l.sum) + x := by omega
    rw [e]
theorem int_at {ns : List Int} {i : Nat} {x : V} (h : (ns.map V.int)[i]? = some x) : ∃ n, ns[i]? = some n ∧ x = .int n := by
  rw [List.getElem?_map] at h
  cases e : ns[i]? with
  | none => rw [e] at h; cases h
  | some n => rw [e] at h; exact ⟨n, rfl, (Option.some.inj h).symm⟩
def spRunning : Sp := fun vs H Q _ => ∃ (a : Addr) (ns : List Int), vs = [.ref a] ∧ H a = some (.lst (ns.map V.int)) ∧ ns.length ≤ 10000 ∧ RetL ((runs 0 ns).map V.int) H Q
theorem def_running (R : Raw K mg "running" s_running ["shares"]) (T : Txt K mg) : Def P w K mg base CX0 1 "running" ["shares"] spRunning := by
  refine R.ok fun f fd F => F.ok sc_running (fun vs H Q E h => ?_) (fun cdv A outer s H vs Q E hr h => ?_)
  · obtain ⟨a, ns, rfl, _⟩ := h
    rfl
  · obtain ⟨a, ns, rfl, ha, hz, q⟩ := h
    refine ⟨_, (pss_cons (ps_set (i := 1) sc_running.nd rfl (Or.inl rfl) (pe_lst pa_nil))
      (pss_cons (ps_set (i := 2) sc_running.nd rfl (Or.inl rfl) pe_int)
      (pss_cons (ps_for PassesOwn.never rfl (pi_list (pv 0)) (pg_name (i := 3) sc_running.nd rfl (Or.inl rfl))
        (pss_cons (ps_aug (i := 2) sc_running.nd rfl (Or.inl rfl) (pv 3) ip_add)
          (pss_cons (ps_expr (pe_bm PySem.F.plainAttrs_list PySem.F.slot_list_append PySem.F.type_list_append mt_append (pv 1) (pa_cons (pv 2) pa_nil)))
          pss_nil)))
      (pss_cons (ps_ret (pv 1))
      pss_nil)))), ?_⟩
    refine Sv.go (w_asgL (el_lst ea_nil (by decide)) fun p H1 np e1 hp => w_asg ev_c (w_forL (ev_var rfl) (sq_of (e1 _ _ ha)) (fun i s' H' => ∃ y, s' = [some (.ref a), some (.ref p), some (.int (ns.take i).sum), y] ∧ Ex H H' ∧ H' p = some (.lst ((runs 0 (ns.take i)).map V.int))) (fun H2 e2 => ⟨none, rfl, e1.trans e2, e2 _ _ hp⟩) (fun i s' H' hi ⟨y, _, ex, _⟩ => sq_of (ex _ _ ha)) ?_ ?_))
    · rintro i x s' H' hi ⟨y, rfl, ex, hp'⟩
      obtain ⟨n, hn, rfl⟩ := int_at hi
      have hlt : i < ns.length := (List.getElem?_eq_some_iff.mp hn).1
      have et : ns.take (i + 1) = ns.take i ++ [n] := by rw [List.take_add_one, hn]; rfl
      refine w_aug rfl (ev_var rfl) (w_app hp' (ev_var rfl) (ev_var rfl) ?_ fun H2 pt => w_nx fun H3 e3 => ⟨some (.int n), ?_, (pt.ex ex np).trans e3, ?_⟩)
      · rw [List.length_map, runs_len, List.length_take]
        omega
      · rw [et, List.sum_append]
        simp
      · rw [et, runs_snoc, List.map_append, e3 _ _ pt.new]
        simp
    · rintro s' H' ⟨y, rfl, ex, hp'⟩
      refine w_ret (ev_var rfl) fun H2 e2 => ?_
      rw [List.length_map, List.take_length] at hp'
      exact q p H2 np (ex.trans e2) (e2 _ _ hp')
end
end Ev

set_option Elab.async false
set_option linter.all false
set_option maxRecDepth 100000
set_option maxHeartbeats 4000000
namespace Ev
open PySem PySem.Spec L2 Evl Wk
/-! ### the classes of errors; values of any type; rows and what is none -/
structure Errs (K : PySem.W.Frag) (mg : Str → Option Value) (cS cB cG cA cU cT : Addr) : Prop where
  g_ShareError : mg "ShareError" = some (.ref cS)
  e_BadRow : ErrC K mg "BadRow" cB
  e_BadGifts : ErrC K mg "BadGifts" cG
  e_BadAmount : ErrC K mg "BadAmount" cA
  e_Unlike : ErrC K mg "Unlike" cU
  e_BadText : ErrC K mg "BadText" cT
section
variable {K : PySem.W.Frag} {mg : Str → Option Value} {cS cB cG cA cU cT : Addr}
theorem Errs.g_BadRow (h : Errs K mg cS cB cG cA cU cT) : mg "BadRow" = some (.ref cB) := h.e_BadRow.g
theorem Errs.g_BadGifts (h : Errs K mg cS cB cG cA cU cT) : mg "BadGifts" = some (.ref cG) := h.e_BadGifts.g
theorem Errs.g_BadAmount (h : Errs K mg cS cB cG cA cU cT) : mg "BadAmount" = some (.ref cA) := h.e_BadAmount.g
theorem Errs.g_Unlike (h : Errs K mg cS cB cG cA cU cT) : mg "Unlike" = some (.ref cU) := h.e_Unlike.g
theorem Errs.g_BadText (h : Errs K mg cS cB cG cA cU cT) : mg "BadText" = some (.ref cT) := h.e_BadText.g
end
/-- what isinstance says of built-in types -/
def subT (n m : String) : Bool := n == m || (n == "bool" && m == "int")
theorem kit_tyns {K : PySem.W.Frag} {n m : String} (hn : n ∈ tyns) (hm : m ∈ ["int", "bool", "list", "tuple", "str"]) : PySem.W.kitOne K (.type n) (.type m) = some (subT n m) := by
  simp only [tyns, List.mem_cons, List.not_mem_nil, or_false] at hn hm
  rcases hn with rfl | rfl | rfl | rfl | rfl | rfl | rfl <;> rcases hm with rfl | rfl | rfl | rfl | rfl <;> exact kit_ty (by decide +kernel)
/-- a value of the type n -/
def ValT (K : PySem.W.Frag) (n : String) : V → Hp → Prop := fun x H => TyX K H x (.type n) ∧ n ∈ tyns ∧ ((n == "int") = true → ∃ i, x = .int i) ∧ ((n == "int") = false → shV x = false)
instance {K : PySem.W.Frag} {n : String} : MonoP (ValT K n) := ⟨fun e h => ⟨tyx_mono e h.1, h.2⟩⟩
section
variable {K : PySem.W.Frag} {s : L2.St} {H H' : Hp} {te : TE} {x y : V} {n : String} {E : XK} {a : Addr} {xs : List V} {cB : Addr}
theorem valT_int (i : Int) : ValT K "int" (.int i) H := ⟨.base (.int i), by simp [tyns], fun _ => ⟨i, rfl⟩, fun h => absurd h (by decide)⟩
theorem valT_non : ValT K "NoneType" .non H := ⟨.base .non, by simp [tyns], fun h => absurd h (by decide), fun _ => rfl⟩
theorem valT_bl (b : Bool) : ValT K "bool" (.bl b) H := ⟨.base (.bl b), by simp [tyns], fun h => absurd h (by decide), fun _ => rfl⟩
theorem valT_str (z : Str) : ValT K "str" (.str z) H := ⟨.base (.str z), by simp [tyns], fun h => absurd h (by decide), fun _ => rfl⟩
theorem valT_lst (h : H a = some (.lst xs)) : ValT K "list" (.ref a) H := ⟨.base (.lst h), by simp [tyns], fun h => absurd h (by decide), fun _ => rfl⟩
theorem valT_tup (h : H a = some (.tup xs)) : ValT K "tuple" (.ref a) H := ⟨.base (.tup h), by simp [tyns], fun h => absurd h (by decide), fun _ => rfl⟩
theorem valT_dk {kvs} (h : H a = some (.dK kvs)) : ValT K "dict" (.ref a) H := ⟨.base (.dK h), by simp [tyns], fun h => absurd h (by decide), fun _ => rfl⟩
theorem ev_vshare (h : Ev te s H x) (hv : ValT K n x H) : Ev (tCall (spShare K) [] E (tCons te tNil)) s H (.bl (shV x)) :=
  ev_call (dvs := []) (ea_cons h ea_nil) fun H1 e1 Q q E => ⟨x, n, rfl, tyx_mono e1 hv.1, hv.2.1, hv.2.2.1, by
    have e : ((n == "int") && shV x) = shV x := by
      cases hn : n == "int" with
      | true => rfl
      | false => rw [hv.2.2.2 hn]; rfl
    rw [e]
    exact q⟩
theorem ev_vwhole (h : Ev te s H x) (hv : ValT K n x H) : Ev (tCall (spWhole K) [] E (tCons te tNil)) s H (.bl (n == "int")) :=
  ev_call (dvs := []) (ea_cons h ea_nil) fun H1 e1 Q q E => ⟨x, n, rfl, tyx_mono e1 hv.1, hv.2.1, q⟩
theorem ev_visi {m : String} (h : Ev te s H x) (hv : ValT K n x H) (hm : m ∈ ["int", "bool", "list", "tuple", "str"]) : Ev (tCB (rIsi K) (tCons te (tCons (tC (.ty m)) tNil))) s H (.bl (subT n m)) :=
  ev_isi h ev_c (.ty _) hv.1 (kit_tyns hv.2.1 hm)
/-- what is no row -/
def BadRowV (K : PySem.W.Frag) : V → Hp → Prop := fun x H => (∃ n, ValT K n x H ∧ n ≠ "list") ∨ (∃ a xs, x = .ref a ∧ H a = some (.lst xs) ∧ xs.length ≤ 10000 ∧ (∀ y ∈ xs, ∃ n, ValT K n y H) ∧ (xs.map shV).all id = false) ∨ (∃ a, x = .ref a ∧ H a = some (.lst []))
instance : MonoP (BadRowV K) := ⟨fun e h => h.imp (fun ⟨n, h1, h2⟩ => ⟨n, MonoP.mono e h1, h2⟩) (Or.imp (fun ⟨a, xs, h1, h2, h3, h4, h5⟩ => ⟨a, xs, h1, e _ _ h2, h3, (fun y hy => let ⟨n, h⟩ := h4 y hy; ⟨n, MonoP.mono e h⟩), h5⟩) fun ⟨a, h1, h2⟩ => ⟨a, h1, e _ _ h2⟩)⟩
theorem subT_list (h : n ≠ "list") : subT n "list" = false := by
  unfold subT
  rw [beq_eq_false_iff_ne.mpr h]
  simp
theorem subT_tuple (h : n ≠ "tuple") : subT n "tuple" = false := by
  unfold subT
  rw [beq_eq_false_iff_ne.mpr h]
  simp
def spCheckRowX (K : PySem.W.Frag) (cB : Addr) : Sp := fun vs H Q E => (∃ (a : Addr) (ns : List Int), vs = [.ref a] ∧ H a = some (.lst (ns.map V.int)) ∧ RowOk ns ∧ RetV .non H Q) ∨ (∃ x, vs = [x] ∧ BadRowV K x H ∧ Err cB H E)
theorem ev_rowok {ns : List Int} (h : Ev te s H (.ref a)) (ha : H a = some (.lst (ns.map V.int))) (hR : RowOk ns) : Ev (tCall (spCheckRowX K cB) [] E (tCons te tNil)) s H .non :=
  ev_call (dvs := []) (ea_cons h ea_nil) fun H1 e1 Q q E => .inl ⟨a, ns, rfl, e1 _ _ ha, hR, q⟩
theorem evx_row (h : Ev te s H x) (hx : BadRowV K x H) (er : Err cB H E) : EvX (tCall (spCheckRowX K cB) [] E (tCons te tNil)) s H :=
  evx_call (ap_one h.p) fun vs H1 e1 ⟨v, ev, pv⟩ Q => .inr ⟨x, by rw [ev, pv], MonoP.mono e1 hx, er.mono e1⟩
end
section
variable {P : Program} {w : World} {K : PySem.W.Frag} {mg : Str → Option Value} {base : Heap} {cS cB cG cA cU cT : Addr}
theorem defX_check_row (R : Raw K mg "check_row" s_check_row ["row"]) (T : Txt K mg) (ER : Errs K mg cS cB cG cA cU cT) (d_is_share : Def P w K mg base CX0 2 "is_share" ["thing"] (spShare K)) : Def P w K mg base (L2N.CX P w) 3 "check_row" ["row"] (spCheckRowX K cB) := by
  refine R.ok fun f fd F => F.okN sc_check_row (fun vs H Q E h => ?_) (fun cdv A outer s H vs Q E hr h => ?_)
  · rcases h with ⟨a, ns, rfl, _⟩ | ⟨x, rfl, _⟩ <;> rfl
  · refine ⟨_, (pss_cons (ps_if (PW.pt (pw_or (pt_not (pt_val (pe_callB (r := rIsi K) call_isi (by rfl) T.n_isinstance (by decide +kernel) (pa_cons (pv 0) (pa_cons (pe_bltn (v := .ty "list") (u := .type "list") (by rfl) T.n_list (by decide +kernel) rfl) pa_nil))))) (pw_or (pt_cmpR op_eq (pe_callB (r := rLenS K) call_len_seq (by rfl) T.n_len PySem.boot_len (pa_cons (pv 0) pa_nil)) pe_int (nomark _)) (pw_or1 (pt_not (pt_val (pe_callB (r := rAll K) (cr_all rfl) (by rfl) T.n_all (by decide +kernel) (pa_cons (pe_lc (own := [("share", 1)]) (g := gName 1) rfl sc_check_row.nd (pi_list (pv 0)) (blkOk_by (own := [("share", 1)]) (N := ["row", "share"]) (sc := defScope s_check_row) (by decide +kernel)) (fun _ _ _ _ _ => pg_name (i := 1) sc_check_row.nd rfl (Or.inl rfl)) (fun _ _ _ _ _ => pts_nil) (fun _ _ _ _ _ => (pe_def d_is_share hr (by decide) (by rfl) pass0 (pa_cons (pv 1) pa_nil)))) pa_nil))))))))
        (pss_cons (L2N.ps_raise rfl (L2N.takes_of rfl rfl rfl rfl) (L2N.pmk_own PySem.F.excBase_ValueError ER.e_BadRow.ex ER.e_BadRow.g ER.e_BadRow.kp (raises_own ER.e_BadRow.sb ER.e_BadRow.ty) rfl))
          pss_nil)
        pss_nil)
      pss_nil), ?_⟩
    rcases h with ⟨a, ns, rfl, ha, ⟨h1, h2, h3⟩, q⟩ | ⟨x, rfl, hx, er⟩
    · have hl : (V.int (((ns.map V.int).length : Nat) : Int) = V.int 0) = False := by
        simp only [V.int.injEq, List.length_map, eq_iff_iff, iff_false]
        have := List.length_pos_iff.mpr h1
        omega
      refine Sv.go (w_if (b := false) (et_is (et_or (et_not (et_B (ev_isi (b := true) (ev_var rfl) ev_c (.ty _) (.base (.lst ha)) (kit_ty (by decide +kernel))))) fun _ => et_or (et_test (ev_op (ev_lenL (ev_var' rfl ha)) ev_c (rv_eq rfl))) fun _ => et_not (et_B (ev_shares ns (ev_var rfl) ha h3 (fun _ => rfl) (fun _ => rfl)))) ?_) (fun h => nomatch h) fun _ => w_nx fun H1 e1 => q H1 e1)
      rw [ints_all h2]
      simp only [hl]
      rfl
    · refine Sv.go (w_when (b := true) ?_ (fun _ => w_raise er) (fun h => nomatch h))
      rcases hx with ⟨n, hv, hn⟩ | ⟨a, xs, rfl, ha, hz, hy, hf⟩ | ⟨a, rfl, ha⟩
      · refine et_is (et_or (et_not (et_B (ev_visi (ev_var rfl) hv (by simp)))) (b := true) fun h => ?_) ?_
        · rw [subT_list hn] at h
          cases h
        · rw [subT_list hn]
          rfl
      · refine et_is (et_or (et_not (et_B (ev_isi (b := true) (ev_var rfl) ev_c (.ty _) (.base (.lst ha)) (kit_ty (by decide +kernel))))) fun _ => et_or (et_test (ev_op (ev_lenL (ev_var' rfl ha)) ev_c (rv_eq rfl))) fun _ => et_not (et_B (ev_all (bs := xs.map shV) (EvL.p ?_)))) ?_
        · rw [← map_bl]
          refine el_map xs id (fun x => V.bl (shV x)) (ev_var rfl) (by rw [List.map_id]; exact sq_of ha) (by omega) (fun _ => rfl) fun x hx => ?_
          obtain ⟨n, hv⟩ := hy x hx
          exact ev_vshare (ev_var rfl) hv
        · rw [hf]
          simp
      · refine et_is (et_or (et_not (et_B (ev_isi (b := true) (ev_var rfl) ev_c (.ty _) (.base (.lst ha)) (kit_ty (by decide +kernel))))) fun _ => et_or (et_test (ev_op (ev_lenL (ev_var' rfl ha)) ev_c (rv_eq rfl))) (b := true) fun h => ?_) rfl
        simp at h
end
end Ev

set_option Elab.async false
set_option linter.all false
set_option maxRecDepth 100000
set_option maxHeartbeats 4000000
namespace Ev
open PySem PySem.Spec L2 Evl Wk
/-- what a row has above a mark -/
def overF (ns : List Int) (m : Int) : Int := ((ns.filter fun x => decide (m < x)).map fun x => x - m).sum
section
variable {P : Program} {w : World} {K : PySem.W.Frag} {mg : Str → Option Value} {base : Heap}
def spOver : Sp := fun vs H Q _ => ∃ (a : Addr) (ns : List Int) (m : Int), vs = [.ref a, .int m] ∧ H a = some (.lst (ns.map V.int)) ∧ ns.length ≤ 10000 ∧ RetV (.int (overF ns m)) H Q
theorem def_over (R : Raw K mg "over" s_over ["row", "mark"]) (T : Txt K mg) : Def P w K mg base CX0 1 "over" ["row", "mark"] spOver := by
  refine R.ok fun f fd F => F.ok sc_over (fun vs H Q E h => ?_) (fun cdv A outer s H vs Q E hr h => ?_)
  · obtain ⟨a, ns, m, rfl, _⟩ := h
    rfl
  · obtain ⟨a, ns, m, rfl, ha, hz, q⟩ := h
    refine ⟨_, (pss_cons (ps_ret (pe_callB (r := rSum K) (cr_sum rfl) (by rfl) T.n_sum (by decide +kernel) (pa_cons (pe_lc (own := [("share", 2)]) (g := gName 2) rfl sc_over.nd (pi_list (pv 0)) (blkOk_by (own := [("share", 2)]) (N := ["row", "mark", "share"]) (sc := defScope s_over) (by decide +kernel)) (fun _ _ _ _ _ => pg_name (i := 2) sc_over.nd rfl (Or.inl rfl)) (fun _ _ _ _ _ => pts_one (pt_cmpR op_gt (pv 2) (pv 1) (nomark _))) (fun _ _ _ _ _ => (pe_op op_sub (pv 2) (pv 1)))) pa_nil)))
      pss_nil), ?_⟩
    refine Sv.go (w_ret (ev_sum (ns := (ns.filter fun x => decide (m < x)).map fun x => x - m) (EvL.p ?_)) fun H1 e1 => q H1 e1)
    rw [← map_int]
    exact el_comp ns V.int (fun x => decide (m < x)) (fun x => V.int (x - m)) (ev_var rfl) (sq_of ha) (by omega) (fun _ => rfl) (fun x _ => et_test (ev_op (ev_var rfl) (ev_var rfl) rv_I0)) (fun x _ _ => ev_op (ev_var rfl) (ev_var rfl) rv_I0)
end
end Ev

set_option Elab.async false
set_option linter.all false
set_option maxRecDepth 100000
set_option maxHeartbeats 4000000
namespace Ev
open PySem PySem.Spec L2 Evl Wk
/-! ### levels -/
local macro_rules | `(tactic| walk_at "ev") => `(tactic| first
  | exact ev_c | exact ev_var rfl | assumption
  | (refine ev_op ?_ ?_ rv_I0 <;> walk_at "ev")
  | (refine ev_un ?_ ru_neg; walk_at "ev"))
def levelF (ns : List Int) (m : Int) : Int := mx ((List.range ns.length).map fun k => ((runs 0 (srtD ns)).getD k 0 - m) / ((k : Int) + 1))
/-- from the right: those above L become L, the last so many L + 1 -/
def cutR (L left : Int) : List Int → List Int × Int
  | [] => ([], left)
  | x :: r => if L < x then (if 0 < (cutR L left r).2 then ((L + 1) :: (cutR L left r).1, (cutR L left r).2 - 1) else (L :: (cutR L left r).1, (cutR L left r).2)) else (x :: (cutR L left r).1, (cutR L left r).2)
def lowF (ns : List Int) (m : Int) : List Int := (cutR (levelF ns m) (overF ns (levelF ns m) - m) ns).1
def takeF (ns : List Int) (m : Int) : List Int := if m = 0 then ns else lowF ns m
def negs (ns : List Int) : List Int := ns.map fun x => -x
def pourF (ns : List Int) (m : Int) : List Int := if m = 0 then ns else negs (lowF (negs ns) m)
theorem cutR_len (L left : Int) : ∀ l : List Int, (cutR L left l).1.length = l.length
  | [] => rfl
  | x :: r => by
    have ih := cutR_len L left r
    unfold cutR
    split
    · split <;> simp [ih]
    · simp [ih]
theorem lowF_len (ns : List Int) (m : Int) : (lowF ns m).length = ns.length := cutR_len _ _ _
section
variable {P : Program} {w : World} {K : PySem.W.Frag} {mg : Str → Option Value} {base : Heap}
def spLevel : Sp := fun vs H Q _ => ∃ (a : Addr) (ns : List Int) (m : Int), vs = [.ref a, .int m] ∧ H a = some (.lst (ns.map V.int)) ∧ ns ≠ [] ∧ ns.length ≤ 10000 ∧ RetV (.int (levelF ns m)) H Q
theorem def_level_of (R : Raw K mg "level_of" s_level_of ["row", "amount"]) (T : Txt K mg) (d_running : Def P w K mg base CX0 1 "running" ["shares"] spRunning) : Def P w K mg base CX0 2 "level_of" ["row", "amount"] spLevel := by
  refine R.ok fun f fd F => F.ok sc_level_of (fun vs H Q E h => ?_) (fun cdv A outer s H vs Q E hr h => ?_)
  · obtain ⟨a, ns, m, rfl, _⟩ := h
    rfl
  · obtain ⟨a, ns, m, rfl, ha, h1, hz, q⟩ := h
    refine ⟨_, (pss_cons (ps_set (i := 2) sc_level_of.nd rfl (Or.inr rfl) (pe_def d_running hr (by decide) (by rfl) pass0 (pa_cons (pe_callBK (r := rSortedKw K true [.bl true]) (cr_sortedRev (b := true)) (by rfl) T.n_sorted (by decide +kernel) (pa_cons (pv 0) pa_nil) (pk_cons pe_bl pk_nil)) pa_nil)))
      (pss_cons (ps_ret (pe_callB (r := rMax K) (cr_max rfl) (by rfl) T.n_max (by decide +kernel) (pa_cons (pe_lc (own := [("k", 3)]) (g := gName 3) rfl sc_level_of.nd (pi_range1 (by rfl) T.n_range (pa_cons (pe_callB (r := rLenS K) call_len_seq (by rfl) T.n_len PySem.boot_len (pa_cons (pv 2) pa_nil)) pa_nil)) (blkOk_by (own := [("k", 3)]) (N := ["row", "amount", "sums", "k"]) (sc := defScope s_level_of) (by decide +kernel)) (fun _ _ _ _ _ => pg_name (i := 3) sc_level_of.nd rfl (Or.inl rfl)) (fun _ _ _ _ _ => pts_nil) (fun _ _ _ _ _ => (pe_op op_fdiv (pe_op op_sub (pe_ix (r := rIxL K) ix_list (pv 2) (pv 3) (fun _ _ => rfl)) (pv 1)) (pe_op op_add (pv 3) pe_int)))) pa_nil)))
      pss_nil)), ?_⟩
    have hl : (runs 0 (srtD ns)).length = ns.length := by rw [runs_len, srtD_len]
    refine Sv.go (w_asgL (xs := (runs 0 (srtD ns)).map V.int) (el_callP (ap_one (EvL.p (el_sortedRev (ev_var' rfl ha) fun s H Q q => q))) fun vs H1 e1 ⟨v, ev, p, pv, hp⟩ Q q => ⟨p, srtD ns, by rw [ev, pv], hp, by rw [srtD_len]; exact hz, q⟩) fun p H1 np e1 hp => w_ret (ev_max (ns := (List.range ns.length).map fun k => ((runs 0 (srtD ns)).getD k 0 - m) / ((k : Int) + 1)) (EvL.p ?_) ?_) fun H2 e2 => q H2 (e1.trans e2))
    · have e0 : ns.length = ((((runs 0 (srtD ns)).map V.int).length : Nat) : Int).toNat := by
        rw [List.length_map, hl]
        rfl
      rw [← map_int]
      conv => rhs; rw [e0]
      refine el_mapR (fun k => V.int (((runs 0 (srtD ns)).getD k 0 - m) / ((k : Int) + 1))) (ea_cons (ev_lenL (ev_var' rfl hp)) ea_nil) (by rw [List.length_map, hl]; omega) (fun _ => rfl) fun i hi => ?_
      rw [List.length_map, hl] at hi
      have hi2 : i < (runs 0 (srtD ns)).length := by rw [hl]; omega
      refine ev_op (ev_op (ev_ixL (v := .int ((runs 0 (srtD ns)).getD i 0)) (ev_var' rfl hp) (ev_var rfl) (atI_nat ?_)) (ev_var rfl) rv_I0) (ev_op (ev_var rfl) ev_c rv_I0) (rv_I ⟨?_, ?_⟩)
      · rw [List.getElem?_map, List.getD_eq_getElem?_getD, List.getElem?_eq_getElem hi2]
        rfl
      · omega
      · omega
    · intro h
      have := congrArg List.length h
      simp at this
      exact h1 this
def spLowered : Sp := fun vs H Q _ => ∃ (a : Addr) (ns : List Int) (m : Int), vs = [.ref a, .int m] ∧ H a = some (.lst (ns.map V.int)) ∧ ns ≠ [] ∧ ns.length ≤ 10000 ∧ RetL ((lowF ns m).map V.int) H Q
theorem def_lowered (R : Raw K mg "lowered" s_lowered ["row", "amount"]) (T : Txt K mg) (d_level_of : Def P w K mg base CX0 2 "level_of" ["row", "amount"] spLevel) (d_over : Def P w K mg base CX0 1 "over" ["row", "mark"] spOver) : Def P w K mg base CX0 3 "lowered" ["row", "amount"] spLowered := by
  refine R.ok fun f fd F => F.ok sc_lowered (fun vs H Q E h => ?_) (fun cdv A outer s H vs Q E hr h => ?_)
  · obtain ⟨a, ns, m, rfl, _⟩ := h
    rfl
  · obtain ⟨a, ns, m, rfl, ha, h1, hz, q⟩ := h
    refine ⟨_, (pss_cons (ps_set (i := 2) sc_lowered.nd rfl (Or.inl rfl) (pe_def d_level_of hr (by decide) (by rfl) pass0 (pa_cons (pv 0) (pa_cons (pv 1) pa_nil))))
      (pss_cons (ps_set (i := 3) sc_lowered.nd rfl (Or.inl rfl) (pe_op op_sub (pe_def d_over hr (by decide) (by rfl) pass0 (pa_cons (pv 0) (pa_cons (pv 2) pa_nil))) (pv 1)))
      (pss_cons (ps_set (i := 4) sc_lowered.nd rfl (Or.inl rfl) (pe_callTy (r := rListS K) call_list_of (by rfl) T.n_list (by decide +kernel) (pa_cons (pv 0) pa_nil)))
      (pss_cons (ps_for PassesOwn.never rfl (pi_revR (by rfl) T.n_reversed (prg_1 (by rfl) T.n_range (pe_callB (r := rLenS K) call_len_seq (by rfl) T.n_len PySem.boot_len (pa_cons (pv 0) pa_nil)))) (pg_name (i := 5) sc_lowered.nd rfl (Or.inl rfl))
        (pss_cons (ps_if (pt_cmpR op_gt (pe_ix (r := rIxL K) ix_list (pv 0) (pv 5) (fun _ _ => rfl)) (pv 2) (nomark _))
            (pss_cons (ps_asg (pv 2) (pg_sub (pv 4) (pv 5) set_list))
              (pss_cons (ps_if (pt_cmpR op_gt (pv 3) pe_int (nomark _))
                (pss_cons (ps_asg (pe_op op_add (pv 2) pe_int) (pg_sub (pv 4) (pv 5) set_list))
                  (pss_cons (ps_aug (i := 3) sc_lowered.nd rfl (Or.inl rfl) pe_int ip_sub)
                  pss_nil))
                pss_nil)
              pss_nil))
            pss_nil)
          pss_nil))
      (pss_cons (ps_ret (pv 4))
      pss_nil))))), ?_⟩
    refine Sv.go (w_asg (v := .int (levelF ns m)) (ev_call (dvs := []) (ea_cons (ev_var rfl) (ea_cons (ev_var rfl) ea_nil)) fun H1 e1 Q q E => ⟨a, ns, m, rfl, e1 _ _ ha, h1, hz, q⟩)
      (w_asg (v := .int (overF ns (levelF ns m) - m)) (ev_op (ev_call (dvs := []) (z := .int (overF ns (levelF ns m))) (ea_cons (ev_var rfl) (ea_cons (ev_var rfl) ea_nil)) fun H1 e1 Q q E => ⟨a, ns, levelF ns m, rfl, e1 _ _ ha, hz, q⟩) (ev_var rfl) rv_I0)
      (w_asgL (el_listL (ev_var' rfl ha)) fun p H1 np e1 hp => w_forRev (n := ns.length) (by have h := ev_lenL (K := K) (ev_var' (s := [some (.ref a), some (.int m), some (.int (levelF ns m)), some (.int (overF ns (levelF ns m) - m)), some (.ref p), none]) (i := 0) rfl (e1 _ _ ha)); rw [List.length_map] at h; exact h) (by omega)
        (fun i s' H' => ∃ y, s' = [some (.ref a), some (.int m), some (.int (levelF ns m)), some (.int (cutR (levelF ns m) (overF ns (levelF ns m) - m) (ns.drop (ns.length - i))).2), some (.ref p), y] ∧ Ex H H' ∧ H' p = some (.lst ((ns.take (ns.length - i) ++ (cutR (levelF ns m) (overF ns (levelF ns m) - m) (ns.drop (ns.length - i))).1).map V.int)))
        (fun H2 e2 => ⟨none, by rw [Nat.sub_zero, List.drop_length]; rfl, e1.trans e2, by rw [Nat.sub_zero, List.drop_length, List.take_length]; exact (e2 _ _ hp).trans (by simp [cutR])⟩) ?_ ?_)))
    · rintro i k s' H' hik ⟨y, rfl, ex, hp'⟩
      have hk : k < ns.length := by omega
      have e2 : ns.length - i = k + 1 := by omega
      have e3 : ns.length - (i + 1) = k := by omega
      rw [e2] at hp'
      rw [e2, e3]
      have ed : ns.drop k = ns[k] :: ns.drop (k + 1) := List.drop_eq_getElem_cons hk
      have et : ns.take (k + 1) = ns.take k ++ [ns[k]] := by rw [List.take_add_one, List.getElem?_eq_getElem hk]; rfl
      have ec : cutR (levelF ns m) (overF ns (levelF ns m) - m) (ns.drop k) = cutR (levelF ns m) (overF ns (levelF ns m) - m) (ns[k] :: ns.drop (k + 1)) := by rw [ed]
      have hat : atI (ns.map V.int) (k : Int) = some (.int ns[k]) := atI_nat (by rw [List.getElem?_map, List.getElem?_eq_getElem hk]; rfl)
      have hset : ∀ (t : List Int) (v : Int), ((ns.take (k + 1) ++ t).map V.int).set k (.int v) = (ns.take k ++ v :: t).map V.int := fun t v => by
        rw [← List.map_set, et, List.append_assoc, List.set_append_right _ _ (by rw [List.length_take]; omega), List.length_take, Nat.min_eq_left (by omega), Nat.sub_self]
        rfl
      have hlen : k < ((ns.take (k + 1) ++ (cutR (levelF ns m) (overF ns (levelF ns m) - m) (ns.drop (k + 1))).1).map V.int).length := by
        rw [List.length_map, List.length_append, List.length_take]
        omega
      have hne : ∀ {b : Addr} {u : HO}, H b = some u → b ≠ p := fun hb => ne_of_none hb np
      refine w_if (b := decide (levelF ns m < ns[k])) (et_test (ev_op (ev_ixL (ev_var' rfl (ex _ _ ha)) (ev_var rfl) hat) (ev_var rfl) rv_I0)) (fun hb => ?_) (fun hb => ?_)
      · have hb' : levelF ns m < ns[k] := of_decide_eq_true hb
        refine w_setL hp' (ev_var rfl) (ev_var rfl) (ev_var rfl) hlen fun H2 pt => ?_
        rw [hset] at pt
        refine w_if (b := decide (0 < (cutR (levelF ns m) (overF ns (levelF ns m) - m) (ns.drop (k + 1))).2)) (et_test (ev_op (ev_var rfl) ev_c rv_I0)) (fun hc => ?_) (fun hc => ?_)
        · have hc' := of_decide_eq_true hc
          have hlen2 : k < ((ns.take k ++ levelF ns m :: (cutR (levelF ns m) (overF ns (levelF ns m) - m) (ns.drop (k + 1))).1).map V.int).length := by
            rw [List.length_map, List.length_append, List.length_take, List.length_cons]
            omega
          refine w_setL pt.new (ev_op (ev_var rfl) ev_c rv_I0) (ev_var rfl) (ev_var rfl) hlen2 fun H3 pt3 => w_aug rfl ev_c (w_nx fun H4 e4 => Exists.intro (some (.int (k : Int))) ⟨?_, (pt3.ex (pt.ex ex np) np).trans e4, ?_⟩)
          · rw [ec]
            simp only [cutR, if_pos hb', if_pos hc']
            rfl
          · rw [e4 _ _ pt3.new, ec, ← List.map_set, List.set_append_right _ _ (by rw [List.length_take]; omega), List.length_take, Nat.min_eq_left (by omega), Nat.sub_self]
            simp only [cutR, if_pos hb', if_pos hc']
            rfl
        · have hc' : ¬ (0 < (cutR (levelF ns m) (overF ns (levelF ns m) - m) (ns.drop (k + 1))).2) := of_decide_eq_false hc
          refine w_nx fun H4 e4 => Exists.intro (some (.int (k : Int))) ⟨?_, (pt.ex ex np).trans e4, ?_⟩
          · rw [ec]
            simp only [cutR, if_pos hb', if_neg hc']
            rfl
          · rw [e4 _ _ pt.new, ec]
            simp only [cutR, if_pos hb', if_neg hc']
      · have hb' : ¬ (levelF ns m < ns[k]) := of_decide_eq_false hb
        refine w_nx fun H4 e4 => Exists.intro (some (.int (k : Int))) ⟨?_, ex.trans e4, ?_⟩
        · rw [ec]
          simp only [cutR, if_neg hb']
          rfl
        · rw [e4 _ _ hp', ec, et]
          simp only [cutR, if_neg hb', List.append_assoc]
          rfl
    · rintro s' H' ⟨y, rfl, ex, hp'⟩
      rw [Nat.sub_self, List.take_zero, List.drop_zero] at hp'
      exact w_ret (ev_var rfl) fun H2 e2 => q p H2 np (ex.trans e2) (e2 _ _ hp')
end
end Ev

set_option Elab.async false
set_option linter.all false
set_option maxRecDepth 100000
set_option maxHeartbeats 4000000
namespace Ev
open PySem PySem.Spec L2 Evl Wk
/-! ### the doors: what they tell, what they refuse -/
/-- a row of a list -/
def RowAt (x : V) (ns : List Int) (H : Hp) : Prop := ∃ a, x = .ref a ∧ H a = some (.lst (ns.map V.int)) ∧ RowOk ns ∧ ns.length ≤ 10000
theorem RowAt.mono {x : V} {ns : List Int} {H H' : Hp} (h : RowAt x ns H) (e : Ex H H') : RowAt x ns H' := let ⟨a, h1, h2, h3⟩ := h; ⟨a, h1, e _ _ h2, h3⟩
section
variable {P : Program} {w : World} {K : PySem.W.Frag} {mg : Str → Option Value} {base : Heap} {cS cB cG cA cU cT : Addr}
/-- the row alone is looked at -/
def spBad1 (K : PySem.W.Frag) (cB : Addr) : Sp := fun vs H Q E => ∃ x, vs = [x] ∧ BadRowV K x H ∧ Err cB H E
theorem defX_rising_sums (R : Raw K mg "rising_sums" s_rising_sums ["row"]) (T : Txt K mg) (x_check_row : Def P w K mg base (L2N.CX P w) 3 "check_row" ["row"] (spCheckRowX K cB)) : Def P w K mg base (L2N.CX P w) 4 "rising_sums" ["row"] (spBad1 K cB) := by
  refine R.ok fun f fd F => F.okN sc_rising_sums (fun vs H Q E h => ?_) (fun cdv A outer s H vs Q E hr h => ?_)
  · obtain ⟨x, rfl, _⟩ := h; rfl
  · obtain ⟨x, rfl, hx, er⟩ := h
    refine ⟨_, (pss_cons (ps_expr (pe_def x_check_row hr (by decide) (by rfl) (L2N.passes_call (L2N.takes_of rfl rfl rfl rfl) (fun _ _ _ _ h => h)) (pa_cons (pv 0) pa_nil))) (pss_cons ps_never pss_nil)), ?_⟩
    exact Sv.go (w_dropX (evx_row (ev_var rfl) hx er))
theorem defX_evenest (R : Raw K mg "evenest" s_evenest ["row"]) (T : Txt K mg) (x_check_row : Def P w K mg base (L2N.CX P w) 3 "check_row" ["row"] (spCheckRowX K cB)) : Def P w K mg base (L2N.CX P w) 4 "evenest" ["row"] (spBad1 K cB) := by
  refine R.ok fun f fd F => F.okN sc_evenest (fun vs H Q E h => ?_) (fun cdv A outer s H vs Q E hr h => ?_)
  · obtain ⟨x, rfl, _⟩ := h; rfl
  · obtain ⟨x, rfl, hx, er⟩ := h
    refine ⟨_, (pss_cons (ps_expr (pe_def x_check_row hr (by decide) (by rfl) (L2N.passes_call (L2N.takes_of rfl rfl rfl rfl) (fun _ _ _ _ h => h)) (pa_cons (pv 0) pa_nil))) (pss_cons ps_never (pss_cons ps_never (pss_cons ps_never pss_nil)))), ?_⟩
    exact Sv.go (w_dropX (evx_row (ev_var rfl) hx er))
theorem defX_written (R : Raw K mg "written" s_written ["row"]) (T : Txt K mg) (x_check_row : Def P w K mg base (L2N.CX P w) 3 "check_row" ["row"] (spCheckRowX K cB)) : Def P w K mg base (L2N.CX P w) 4 "written" ["row"] (spBad1 K cB) := by
  refine R.ok fun f fd F => F.okN sc_written (fun vs H Q E h => ?_) (fun cdv A outer s H vs Q E hr h => ?_)
  · obtain ⟨x, rfl, _⟩ := h; rfl
  · obtain ⟨x, rfl, hx, er⟩ := h
    refine ⟨_, (pss_cons (ps_expr (pe_def x_check_row hr (by decide) (by rfl) (L2N.passes_call (L2N.takes_of rfl rfl rfl rfl) (fun _ _ _ _ h => h)) (pa_cons (pv 0) pa_nil))) (pss_cons ps_never pss_nil)), ?_⟩
    exact Sv.go (w_dropX (evx_row (ev_var rfl) hx er))
/-! above -/
def spAboveX (K : PySem.W.Frag) (cB cA : Addr) : Sp := fun vs H Q E => ∃ x y, vs = [x, y] ∧ ((BadRowV K x H ∧ Err cB H E) ∨ (∃ ns, RowAt x ns H ∧ ((∃ n, ValT K n y H ∧ n ≠ "int" ∧ Err cA H E) ∨ (∃ m : Int, y = .int m ∧ RetV (.int (overF ns m)) H Q))))
theorem defX_above (R : Raw K mg "above" s_above ["row", "mark"]) (T : Txt K mg) (ER : Errs K mg cS cB cG cA cU cT) (x_check_row : Def P w K mg base (L2N.CX P w) 3 "check_row" ["row"] (spCheckRowX K cB)) (d_is_whole : Def P w K mg base CX0 1 "is_whole" ["thing"] (spWhole K)) (d_over : Def P w K mg base CX0 1 "over" ["row", "mark"] spOver) :
    Def P w K mg base (L2N.CX P w) 4 "above" ["row", "mark"] (spAboveX K cB cA) := by
  refine R.ok fun f fd F => F.okN sc_above (fun vs H Q E h => ?_) (fun cdv A outer s H vs Q E hr h => ?_)
  · obtain ⟨x, y, rfl, _⟩ := h; rfl
  · obtain ⟨x, y, rfl, h⟩ := h
    refine ⟨_, (pss_cons (ps_expr (pe_def x_check_row hr (by decide) (by rfl) (L2N.passes_call (L2N.takes_of rfl rfl rfl rfl) (fun _ _ _ _ h => h)) (pa_cons (pv 0) pa_nil)))
      (pss_cons (ps_if (pt_not (pt_val (pe_def d_is_whole hr (by decide) (by rfl) pass0 (pa_cons (pv 1) pa_nil))))
        (pss_cons (L2N.ps_raise rfl (L2N.takes_of rfl rfl rfl rfl) (L2N.pmk_own PySem.F.excBase_ValueError ER.e_BadAmount.ex ER.e_BadAmount.g ER.e_BadAmount.kp (raises_own ER.e_BadAmount.sb ER.e_BadAmount.ty) rfl))
          pss_nil)
        pss_nil)
      (pss_cons (ps_ret (pe_def d_over hr (by decide) (by rfl) pass0 (pa_cons (pv 0) (pa_cons (pv 1) pa_nil))))
      pss_nil))), ?_⟩
    rcases h with ⟨hx, er⟩ | ⟨ns, ⟨a, rfl, ha, hR, hz⟩, h⟩
    · exact Sv.go (w_dropX (evx_row (ev_var rfl) hx er))
    · refine Sv.go (w_drop (ev_rowok (ev_var rfl) ha hR) ?_)
      rcases h with ⟨n, hv, hn, er⟩ | ⟨m, rfl, q⟩
      · refine w_when (b := true) (et_is (et_not (et_B (ev_vwhole (ev_var rfl) hv))) ?_) (fun _ => w_raise er) (fun h => nomatch h)
        rw [beq_eq_false_iff_ne.mpr hn]
        rfl
      · exact w_skip (et_is (et_not (et_B (ev_vwhole (ev_var rfl) (valT_int m)))) rfl) (w_ret (v := .int (overF ns m)) (ev_call (dvs := []) (ea_cons (ev_var rfl) (ea_cons (ev_var rfl) ea_nil)) fun H1 e1 Q q E => ⟨a, ns, m, rfl, e1 _ _ ha, hz, q⟩) q)
/-! amounts -/
def BadAmtV (K : PySem.W.Frag) : V → Hp → Prop := fun y H => (∃ n, ValT K n y H ∧ n ≠ "int") ∨ (∃ i : Int, y = .int i ∧ ¬ (0 ≤ i ∧ i ≤ 1000000000))
instance : MonoP (BadAmtV K) := ⟨fun e h => h.imp (fun ⟨n, h1, h2⟩ => ⟨n, MonoP.mono e h1, h2⟩) id⟩
def spCheckAmountX (K : PySem.W.Frag) (cA : Addr) : Sp := fun vs H Q E => ∃ y, vs = [y] ∧ ((BadAmtV K y H ∧ Err cA H E) ∨ (∃ m : Int, y = .int m ∧ 0 ≤ m ∧ m ≤ 1000000000 ∧ RetV .non H Q))
theorem defX_check_amount (R : Raw K mg "check_amount" s_check_amount ["amount"]) (T : Txt K mg) (ER : Errs K mg cS cB cG cA cU cT) (d_is_whole : Def P w K mg base CX0 1 "is_whole" ["thing"] (spWhole K)) : Def P w K mg base (L2N.CX P w) 2 "check_amount" ["amount"] (spCheckAmountX K cA) := by
  refine R.ok fun f fd F => F.okN sc_check_amount (fun vs H Q E h => ?_) (fun cdv A outer s H vs Q E hr h => ?_)
  · obtain ⟨y, rfl, _⟩ := h; rfl
  · obtain ⟨y, rfl, h⟩ := h
    refine ⟨_, (pss_cons (ps_if (PW.pt (pw_or (pt_not (pt_val (pe_def d_is_whole hr (by decide) (by rfl) pass0 (pa_cons (pv 0) pa_nil)))) (pw_or1 (pt_not (pt_chain op_le op_le pe_int (pv 0) (pe_glob (v := .int 1000000000) rfl T.g_MOST.choose_spec ⟨_, rfl⟩))))))
        (pss_cons (L2N.ps_raise rfl (L2N.takes_of rfl rfl rfl rfl) (L2N.pmk_own PySem.F.excBase_ValueError ER.e_BadAmount.ex ER.e_BadAmount.g ER.e_BadAmount.kp (raises_own ER.e_BadAmount.sb ER.e_BadAmount.ty) rfl))
          pss_nil)
        pss_nil)
      pss_nil), ?_⟩
    rcases h with ⟨h, er⟩ | ⟨m, rfl, h1, h2, q⟩
    · refine Sv.go (w_when (b := true) ?_ (fun _ => w_raise er) (fun h => nomatch h))
      rcases h with ⟨n, hv, hn⟩ | ⟨i, rfl, hi⟩
      · refine et_is (et_or (et_not (et_B (ev_vwhole (ev_var rfl) hv))) (b := true) fun h => ?_) ?_
        · rw [beq_eq_false_iff_ne.mpr hn] at h
          cases h
        · rw [beq_eq_false_iff_ne.mpr hn]
          rfl
      · refine et_is (et_or (et_not (et_B (ev_vwhole (ev_var rfl) (valT_int i)))) fun _ => et_not (et_test (ev_chain ev_c (ev_var rfl) rv_I0 fun _ => ⟨ev_c, rv_I0⟩))) ?_
        by_cases h0 : 0 ≤ i
        · have h1 : ¬ i ≤ 1000000000 := fun h => hi ⟨h0, h⟩
          simp [h0, h1]
        · simp [h0]
    · refine Sv.go (w_if (b := false) (et_is (et_or (et_not (et_B (ev_vwhole (ev_var rfl) (valT_int m)))) fun _ => et_not (et_test (ev_chain ev_c (ev_var rfl) rv_I0 fun _ => ⟨ev_c, rv_I0⟩))) ?_) (fun h => nomatch h) fun _ => w_nx fun H1 e1 => q H1 e1)
      simp [h1, h2]
def spCheckedX (cA : Addr) : Sp := fun vs H Q E => ∃ (a : Addr) (ns : List Int), vs = [.ref a] ∧ H a = some (.lst (ns.map V.int)) ∧ ns.length ≤ 100000 ∧ (((∀ x ∈ ns, isSh x = true) ∧ RetV (.ref a) H Q) ∨ ((ns.map isSh).all id = false ∧ Err cA H E))
theorem defX_checked (R : Raw K mg "checked" s_checked ["row"]) (T : Txt K mg) (ER : Errs K mg cS cB cG cA cU cT) (d_is_share : Def P w K mg base CX0 2 "is_share" ["thing"] (spShare K)) : Def P w K mg base (L2N.CX P w) 3 "checked" ["row"] (spCheckedX cA) := by
  refine R.ok fun f fd F => F.okN sc_checked (fun vs H Q E h => ?_) (fun cdv A outer s H vs Q E hr h => ?_)
  · obtain ⟨a, ns, rfl, _⟩ := h; rfl
  · obtain ⟨a, ns, rfl, ha, h3, h⟩ := h
    refine ⟨_, (pss_cons (ps_if (pt_not (pt_val (pe_callB (r := rAll K) (cr_all rfl) (by rfl) T.n_all (by decide +kernel) (pa_cons (pe_lc (own := [("share", 1)]) (g := gName 1) rfl sc_checked.nd (pi_list (pv 0)) (blkOk_by (own := [("share", 1)]) (N := ["row", "share"]) (sc := defScope s_checked) (by decide +kernel)) (fun _ _ _ _ _ => pg_name (i := 1) sc_checked.nd rfl (Or.inl rfl)) (fun _ _ _ _ _ => pts_nil) (fun _ _ _ _ _ => (pe_def d_is_share hr (by decide) (by rfl) pass0 (pa_cons (pv 1) pa_nil)))) pa_nil))))
        (pss_cons (L2N.ps_raise rfl (L2N.takes_of rfl rfl rfl rfl) (L2N.pmk_own PySem.F.excBase_ValueError ER.e_BadAmount.ex ER.e_BadAmount.g ER.e_BadAmount.kp (raises_own ER.e_BadAmount.sb ER.e_BadAmount.ty) rfl))
          pss_nil)
        pss_nil)
      (pss_cons (ps_ret (pv 0))
      pss_nil)), ?_⟩
    rcases h with ⟨h2, q⟩ | ⟨h2, er⟩
    · refine Sv.go (w_if (b := false) (et_is (et_not (et_B (ev_shares ns (ev_var rfl) ha h3 (fun _ => rfl) (fun _ => rfl)))) ?_) (fun h => nomatch h) fun _ => w_nx fun H1 e1 => (w_ret (D := { nx := fun _ H' => Q .non H', rt := Q }) (ev_var rfl) fun H2 e2 => q H2 (e1.trans e2)).go)
      rw [ints_all h2]
      rfl
    · refine Sv.go (w_when (b := true) (et_is (et_not (et_B (ev_shares ns (ev_var rfl) ha h3 (fun _ => rfl) (fun _ => rfl)))) ?_) (fun _ => w_raise er) (fun h => nomatch h))
      rw [h2]
      rfl
/-! taken, poured -/
def spTakenX (K : PySem.W.Frag) (cB cA : Addr) (F : List Int → Int → List Int) : Sp := fun vs H Q E => ∃ x y, vs = [x, y] ∧ ((BadRowV K x H ∧ Err cB H E) ∨ (∃ ns, RowAt x ns H ∧ ((BadAmtV K y H ∧ Err cA H E) ∨
  (∃ m : Int, y = .int m ∧ 0 ≤ m ∧ m ≤ 1000000000 ∧ (((∀ x ∈ F ns m, isSh x = true) ∧ RetL ((F ns m).map V.int) H Q) ∨ (m ≠ 0 ∧ ((F ns m).map isSh).all id = false ∧ Err cA H E))))))
section
variable {s : L2.St} {H : Hp} {te : TE} {x y : V} {E : XK}
theorem ev_amt {m : Int} (h : Ev te s H (.int m)) (h0 : 0 ≤ m) (h1 : m ≤ 1000000000) : Ev (tCall (spCheckAmountX K cA) [] E (tCons te tNil)) s H .non := ev_call (dvs := []) (ea_cons h ea_nil) fun H1 e1 Q q E => ⟨_, rfl, .inr ⟨m, rfl, h0, h1, q⟩⟩
theorem evx_amt (h : Ev te s H y) (hy : BadAmtV K y H) (er : Err cA H E) : EvX (tCall (spCheckAmountX K cA) [] E (tCons te tNil)) s H := evx_call (ap_one h.p) fun vs H1 e1 ⟨v, ev, pv⟩ Q => ⟨y, by rw [ev, pv], .inl ⟨MonoP.mono e1 hy, er.mono e1⟩⟩
theorem evx_argL {sp : Sp} {PP : V → Hp → Prop} (h : EvP te s H PP) (hs : ∀ v H1, Ex H H1 → PP v H1 → ∀ Q, sp [v] H1 Q E) : EvX (tCall sp [] E (tCons te tNil)) s H := evx_call (ap_one h) fun vs H1 e1 ⟨v, ev, pv⟩ Q => by
  rw [ev]
  exact hs v H1 e1 pv Q
theorem lowF_ne {ns : List Int} (h : ns ≠ []) (m : Int) : lowF ns m ≠ [] := fun e => h (List.eq_nil_of_length_eq_zero (by rw [← lowF_len ns m, e]; rfl))
end
theorem defX_taken (R : Raw K mg "taken" s_taken ["row", "amount"]) (T : Txt K mg) (x_check_row : Def P w K mg base (L2N.CX P w) 3 "check_row" ["row"] (spCheckRowX K cB)) (x_check_amount : Def P w K mg base (L2N.CX P w) 2 "check_amount" ["amount"] (spCheckAmountX K cA)) (d_lowered : Def P w K mg base CX0 3 "lowered" ["row", "amount"] spLowered)
    (x_checked : Def P w K mg base (L2N.CX P w) 3 "checked" ["row"] (spCheckedX cA)) : Def P w K mg base (L2N.CX P w) 4 "taken" ["row", "amount"] (spTakenX K cB cA takeF) := by
  refine R.ok fun f fd F => F.okN sc_taken (fun vs H Q E h => ?_) (fun cdv A outer s H vs Q E hr h => ?_)
  · obtain ⟨x, y, rfl, _⟩ := h; rfl
  · obtain ⟨x, y, rfl, h⟩ := h
    refine ⟨_, (pss_cons (ps_expr (pe_def x_check_row hr (by decide) (by rfl) (L2N.passes_call (L2N.takes_of rfl rfl rfl rfl) (fun _ _ _ _ h => h)) (pa_cons (pv 0) pa_nil)))
      (pss_cons (ps_expr (pe_def x_check_amount hr (by decide) (by rfl) (L2N.passes_call (L2N.takes_of rfl rfl rfl rfl) (fun _ _ _ _ h => h)) (pa_cons (pv 1) pa_nil)))
      (pss_cons (ps_if (pt_cmpR op_eq (pv 1) pe_int (nomark _))
        (pss_cons (ps_ret (pe_callTy (r := rListS K) call_list_of (by rfl) T.n_list (by decide +kernel) (pa_cons (pv 0) pa_nil)))
          pss_nil)
        pss_nil)
      (pss_cons (ps_ret (pe_def x_checked hr (by decide) (by rfl) (L2N.passes_call (L2N.takes_of rfl rfl rfl rfl) (fun _ _ _ _ h => h)) (pa_cons (pe_def d_lowered hr (by decide) (by rfl) pass0 (pa_cons (pv 0) (pa_cons (pv 1) pa_nil))) pa_nil)))
      pss_nil)))), ?_⟩
    rcases h with ⟨hx, er⟩ | ⟨ns, ⟨a, rfl, ha, hR, hz⟩, h⟩
    · exact Sv.go (w_dropX (evx_row (ev_var rfl) hx er))
    · refine Sv.go (w_drop (ev_rowok (ev_var rfl) ha hR) ?_)
      rcases h with ⟨hy, er⟩ | ⟨m, rfl, h0, h1, h⟩
      · exact w_dropX (evx_amt (ev_var rfl) hy er)
      · refine w_drop (ev_amt (ev_var rfl) h0 h1) (w_when (et_test (ev_op (ev_var rfl) ev_c (rv_eq rfl))) (fun hb => ?_) fun hb => ?_)
        · have hm : m = 0 := by simpa using hb
          rcases h with ⟨_, q⟩ | ⟨h, _⟩
          · refine w_retL (el_listL (ev_var' rfl ha)) fun p H1 np e1 hp => q p H1 np e1 ?_
            rw [hp]
            simp [takeF, hm]
          · exact absurd hm h
        · have hm : ¬ m = 0 := by simpa using hb
          have et : takeF ns m = lowF ns m := if_neg hm
          rw [et] at h
          have lo : EvL (tCall spLowered [] E0 (tCons (tVar 0) (tCons (tVar 1) tNil))) [some (.ref a), some (.int m)] H ((lowF ns m).map V.int) := el_call (dvs := []) (ea_cons (ev_var rfl) (ea_cons (ev_var rfl) ea_nil)) fun H2 e2 Q q E => ⟨a, ns, m, rfl, e2 _ _ ha, hR.1, hz, q⟩
          rcases h with ⟨h2, q⟩ | ⟨_, h2, er⟩
          · exact w_retL (el_through lo fun p H2 e2 hp Q q => ⟨p, lowF ns m, rfl, hp, by rw [lowF_len]; omega, .inl ⟨h2, q⟩⟩) q
          · exact w_retX (evx_argL lo.p fun v H1 e1 ⟨p, pv, hp⟩ Q => ⟨p, lowF ns m, by rw [pv], hp, by rw [lowF_len]; omega, .inr ⟨h2, er.mono e1⟩⟩)
theorem negs_len (ns : List Int) : (negs ns).length = ns.length := List.length_map _
theorem defX_poured (R : Raw K mg "poured" s_poured ["row", "amount"]) (T : Txt K mg) (x_check_row : Def P w K mg base (L2N.CX P w) 3 "check_row" ["row"] (spCheckRowX K cB)) (x_check_amount : Def P w K mg base (L2N.CX P w) 2 "check_amount" ["amount"] (spCheckAmountX K cA)) (d_lowered : Def P w K mg base CX0 3 "lowered" ["row", "amount"] spLowered)
    (x_checked : Def P w K mg base (L2N.CX P w) 3 "checked" ["row"] (spCheckedX cA)) : Def P w K mg base (L2N.CX P w) 4 "poured" ["row", "amount"] (spTakenX K cB cA pourF) := by
  refine R.ok fun f fd F => F.okN sc_poured (fun vs H Q E h => ?_) (fun cdv A outer s H vs Q E hr h => ?_)
  · obtain ⟨x, y, rfl, _⟩ := h; rfl
  · obtain ⟨x, y, rfl, h⟩ := h
    refine ⟨_, (pss_cons (ps_expr (pe_def x_check_row hr (by decide) (by rfl) (L2N.passes_call (L2N.takes_of rfl rfl rfl rfl) (fun _ _ _ _ h => h)) (pa_cons (pv 0) pa_nil)))
      (pss_cons (ps_expr (pe_def x_check_amount hr (by decide) (by rfl) (L2N.passes_call (L2N.takes_of rfl rfl rfl rfl) (fun _ _ _ _ h => h)) (pa_cons (pv 1) pa_nil)))
      (pss_cons (ps_if (pt_cmpR op_eq (pv 1) pe_int (nomark _))
        (pss_cons (ps_ret (pe_callTy (r := rListS K) call_list_of (by rfl) T.n_list (by decide +kernel) (pa_cons (pv 0) pa_nil)))
          pss_nil)
        pss_nil)
      (pss_cons (ps_ret (pe_def x_checked hr (by decide) (by rfl) (L2N.passes_call (L2N.takes_of rfl rfl rfl rfl) (fun _ _ _ _ h => h)) (pa_cons (pe_lc (own := [("share", 2)]) (g := gName 2) rfl sc_poured.nd (pi_list (pe_def d_lowered hr (by decide) (by rfl) pass0 (pa_cons (pe_lc (own := [("share", 2)]) (g := gName 2) rfl sc_poured.nd (pi_list (pv 0)) (blkOk_by (own := [("share", 2)]) (N := ["row", "amount", "share"]) (sc := defScope s_poured) (by decide +kernel)) (fun _ _ _ _ _ => pg_name (i := 2) sc_poured.nd rfl (Or.inl rfl)) (fun _ _ _ _ _ => pts_nil) (fun _ _ _ _ _ => (pe_un un_neg (pv 2)))) (pa_cons (pv 1) pa_nil)))) (blkOk_by (own := [("share", 2)]) (N := ["row", "amount", "share"]) (sc := defScope s_poured) (by decide +kernel)) (fun _ _ _ _ _ => pg_name (i := 2) sc_poured.nd rfl (Or.inl rfl)) (fun _ _ _ _ _ => pts_nil) (fun _ _ _ _ _ => (pe_un un_neg (pv 2)))) pa_nil)))
      pss_nil)))), ?_⟩
    rcases h with ⟨hx, er⟩ | ⟨ns, ⟨a, rfl, ha, hR, hz⟩, h⟩
    · exact Sv.go (w_dropX (evx_row (ev_var rfl) hx er))
    · refine Sv.go (w_drop (ev_rowok (ev_var rfl) ha hR) ?_)
      rcases h with ⟨hy, er⟩ | ⟨m, rfl, h0, h1, h⟩
      · exact w_dropX (evx_amt (ev_var rfl) hy er)
      · refine w_drop (ev_amt (ev_var rfl) h0 h1) (w_when (et_test (ev_op (ev_var rfl) ev_c (rv_eq rfl))) (fun hb => ?_) fun hb => ?_)
        · have hm : m = 0 := by simpa using hb
          rcases h with ⟨_, q⟩ | ⟨h, _⟩
          · refine w_retL (el_listL (ev_var' rfl ha)) fun p H1 np e1 hp => q p H1 np e1 ?_
            rw [hp]
            simp [pourF, hm]
          · exact absurd hm h
        · have hm : ¬ m = 0 := by simpa using hb
          have et : pourF ns m = negs (lowF (negs ns) m) := if_neg hm
          rw [et] at h
          have hn : negs ns ≠ [] := fun h => hR.1 (by have := congrArg List.length h; rw [negs_len] at this; exact List.eq_nil_of_length_eq_zero this)
          have c1 := el_map (K := K) (s := [some (.ref a), some (.int m), none]) (H := H) (tl := tVar 0) (te := tUn (rU fun i => .int (-i)) (tVar 2)) (j := 2) (vs := [2]) ns V.int (fun x => V.int (-x)) (ev_var rfl) (sq_of ha) (by omega) (fun _ => rfl) (fun x _ => ev_un (ev_var rfl) ru_neg)
          rw [map_int] at c1
          have c2 : EvL (tCall spLowered [] E0 (tCons (tLc (iList K (tVar 0)) (gName 2) tYes (tUn (rU fun i => .int (-i)) (tVar 2)) [2]) (tCons (tVar 1) tNil))) [some (.ref a), some (.int m), none] H ((lowF (negs ns) m).map V.int) :=
            el_callP (ap_two c1.p (ev_var rfl).p) fun vs H2 e2 ⟨v, w, ev, ⟨p, pv, hp⟩, pw⟩ Q q => ⟨p, negs ns, m, by rw [ev, pv, pw], hp, hn, by rw [negs_len]; exact hz, q⟩
          have c3 := el_mapN (K := K) (s := [some (.ref a), some (.int m), none]) (H := H) (te := tUn (rU fun i => .int (-i)) (tVar 2)) (j := 2) (vs := [2]) (lowF (negs ns) m) V.int (fun x => V.int (-x)) c2.p (by rw [lowF_len, negs_len]; omega) (fun _ => rfl) (fun x _ => ev_un (ev_var rfl) ru_neg)
          rw [map_int] at c3
          have hl : (negs (lowF (negs ns) m)).length ≤ 100000 := by rw [negs_len, lowF_len, negs_len]; omega
          rcases h with ⟨h2, q⟩ | ⟨_, h2, er⟩
          · exact w_retL (el_through c3 fun p H2 e2 hp Q q => ⟨p, negs (lowF (negs ns) m), rfl, hp, hl, .inl ⟨h2, q⟩⟩) q
          · exact w_retX (evx_argL c3.p fun v H1 e1 ⟨p, pv, hp⟩ Q => ⟨p, negs (lowF (negs ns) m), by rw [pv], hp, hl, .inr ⟨h2, er.mono e1⟩⟩)
/-! two rows -/
/-- what is refused of two -/
def Bad2 (K : PySem.W.Frag) (cB cU : Addr) (x y : V) (H : Hp) (E : XK) : Prop := (BadRowV K x H ∧ Err cB H E) ∨ (∃ ns, RowAt x ns H ∧ ((BadRowV K y H ∧ Err cB H E) ∨ (∃ ms, RowAt y ms H ∧ ms.length ≠ ns.length ∧ Err cU H E)))
def spCheckTwoX (K : PySem.W.Frag) (cB cU : Addr) : Sp := fun vs H Q E => ∃ x y, vs = [x, y] ∧ (Bad2 K cB cU x y H E ∨ (∃ ns ms, RowAt x ns H ∧ RowAt y ms H ∧ ms.length = ns.length ∧ RetV .non H Q))
theorem ev_lenX {s : L2.St} {H : Hp} {i : Nat} {p : Addr} {ns : List Int} (h : s[i]? = some (some (.ref p))) (hp : H p = some (.lst (ns.map V.int))) : Ev (tCB (rLenS K) (tCons (tVar i) tNil)) s H (.int (ns.length : Int)) := by
  have h2 := ev_lenL (K := K) (ev_var' h hp)
  rw [List.length_map] at h2
  exact h2
theorem natX_ne (a b : Nat) : (!decide (V.int (a : Int) = V.int (b : Int))) = !decide (a = b) := by
  have e : (V.int (a : Int) = V.int (b : Int)) ↔ a = b := ⟨fun h => by injection h with h; omega, fun h => by rw [h]⟩
  rw [decide_eq_decide.mpr e]
theorem defX_check_two (R : Raw K mg "check_two" s_check_two ["one", "other"]) (T : Txt K mg) (ER : Errs K mg cS cB cG cA cU cT) (x_check_row : Def P w K mg base (L2N.CX P w) 3 "check_row" ["row"] (spCheckRowX K cB)) : Def P w K mg base (L2N.CX P w) 4 "check_two" ["one", "other"] (spCheckTwoX K cB cU) := by
  refine R.ok fun f fd F => F.okN sc_check_two (fun vs H Q E h => ?_) (fun cdv A outer s H vs Q E hr h => ?_)
  · obtain ⟨x, y, rfl, _⟩ := h; rfl
  · obtain ⟨x, y, rfl, h⟩ := h
    refine ⟨_, (pss_cons (ps_expr (pe_def x_check_row hr (by decide) (by rfl) (L2N.passes_call (L2N.takes_of rfl rfl rfl rfl) (fun _ _ _ _ h => h)) (pa_cons (pv 0) pa_nil)))
      (pss_cons (ps_expr (pe_def x_check_row hr (by decide) (by rfl) (L2N.passes_call (L2N.takes_of rfl rfl rfl rfl) (fun _ _ _ _ h => h)) (pa_cons (pv 1) pa_nil)))
      (pss_cons (ps_if (pt_cmpR op_ne (pe_callB (r := rLenS K) call_len_seq (by rfl) T.n_len PySem.boot_len (pa_cons (pv 0) pa_nil)) (pe_callB (r := rLenS K) call_len_seq (by rfl) T.n_len PySem.boot_len (pa_cons (pv 1) pa_nil)) (nomark _))
        (pss_cons (L2N.ps_raise rfl (L2N.takes_of rfl rfl rfl rfl) (L2N.pmk_own PySem.F.excBase_ValueError ER.e_Unlike.ex ER.e_Unlike.g ER.e_Unlike.kp (raises_own ER.e_Unlike.sb ER.e_Unlike.ty) rfl))
          pss_nil)
        pss_nil)
      pss_nil))), ?_⟩
    rcases h with (⟨hx, er⟩ | ⟨ns, ⟨a, rfl, ha, hR, hz⟩, ⟨hy, er⟩ | ⟨ms, ⟨b, rfl, hb, hS, hy⟩, hl, er⟩⟩) | ⟨ns, ms, ⟨a, rfl, ha, hR, hz⟩, ⟨b, rfl, hb, hS, hy⟩, hl, q⟩
    · exact Sv.go (w_dropX (evx_row (ev_var rfl) hx er))
    · exact Sv.go (w_drop (ev_rowok (ev_var rfl) ha hR) (w_dropX (evx_row (ev_var rfl) hy er)))
    · refine Sv.go (w_drop (ev_rowok (ev_var rfl) ha hR) (w_drop (ev_rowok (ev_var rfl) hb hS) (w_when (b := true) (et_is (et_test (ev_op (ev_lenX rfl ha) (ev_lenX rfl hb) (rv_ne rfl))) ?_) (fun _ => w_raise er) fun h => nomatch h)))
      rw [natX_ne, decide_eq_false (fun e => hl e.symm)]
      rfl
    · refine Sv.go (w_drop (ev_rowok (ev_var rfl) ha hR) (w_drop (ev_rowok (ev_var rfl) hb hS) (w_if (b := false) (et_is (et_test (ev_op (ev_lenX rfl ha) (ev_lenX rfl hb) (rv_ne rfl))) ?_) (fun h => nomatch h) fun _ => w_nx fun H1 e1 => w_nx (fun H2 e2 => q H2 (e1.trans e2)) H1 (Ex.refl _))))
      rw [natX_ne, hl]
      simp
theorem Bad2.mono {x y : V} {H H' : Hp} {E : XK} (h : Bad2 K cB cU x y H E) (e : Ex H H') : Bad2 K cB cU x y H' E :=
  h.imp (fun ⟨h1, h2⟩ => ⟨MonoP.mono e h1, h2.mono e⟩) fun ⟨ns, h1, h2⟩ => ⟨ns, h1.mono e, h2.imp (fun ⟨h3, h4⟩ => ⟨MonoP.mono e h3, h4.mono e⟩) fun ⟨ms, h3, h4, h5⟩ => ⟨ms, h3.mono e, h4, h5.mono e⟩⟩
/-- of two, refused outright -/
def spBad2 (K : PySem.W.Frag) (cB cU : Addr) : Sp := fun vs H Q E => ∃ x y, vs = [x, y] ∧ Bad2 K cB cU x y H E
theorem defX_compared (R : Raw K mg "compared" s_compared ["one", "other"]) (T : Txt K mg) (x_check_two : Def P w K mg base (L2N.CX P w) 4 "check_two" ["one", "other"] (spCheckTwoX K cB cU)) : Def P w K mg base (L2N.CX P w) 5 "compared" ["one", "other"] (spBad2 K cB cU) := by
  refine R.ok fun f fd F => F.okN sc_compared (fun vs H Q E h => ?_) (fun cdv A outer s H vs Q E hr h => ?_)
  · obtain ⟨x, y, rfl, _⟩ := h; rfl
  · obtain ⟨x, y, rfl, h⟩ := h
    refine ⟨_, (pss_cons (ps_expr (pe_def x_check_two hr (by decide) (by rfl) (L2N.passes_call (L2N.takes_of rfl rfl rfl rfl) (fun _ _ _ _ h => h)) (pa_cons (pv 0) (pa_cons (pv 1) pa_nil)))) (pss_cons ps_never (pss_cons ps_never (pss_cons ps_never (pss_cons ps_never (pss_cons ps_never pss_nil)))))), ?_⟩
    exact Sv.go (w_dropX (evx_call (ap_two (ev_var rfl).p (ev_var rfl).p) fun vs H1 e1 ⟨v, z, ev, pv, pz⟩ Q => ⟨x, y, by rw [ev, pv, pz], .inl (h.mono e1)⟩))
def spUnderX (K : PySem.W.Frag) (cB cU : Addr) : Sp := fun vs H Q E => ∃ x y, vs = [x, y] ∧ (Bad2 K cB cU x y H E ∨ (∃ ns ms, RowAt x ns H ∧ RowAt y ms H ∧ ms.length = ns.length ∧ ns.sum ≠ ms.sum ∧ Err cU H E))
theorem defX_under (R : Raw K mg "under" s_under ["one", "other"]) (T : Txt K mg) (ER : Errs K mg cS cB cG cA cU cT) (x_check_two : Def P w K mg base (L2N.CX P w) 4 "check_two" ["one", "other"] (spCheckTwoX K cB cU)) : Def P w K mg base (L2N.CX P w) 5 "under" ["one", "other"] (spUnderX K cB cU) := by
  refine R.ok fun f fd F => F.okN sc_under (fun vs H Q E h => ?_) (fun cdv A outer s H vs Q E hr h => ?_)
  · obtain ⟨x, y, rfl, _⟩ := h; rfl
  · obtain ⟨x, y, rfl, h⟩ := h
    refine ⟨_, (pss_cons (ps_expr (pe_def x_check_two hr (by decide) (by rfl) (L2N.passes_call (L2N.takes_of rfl rfl rfl rfl) (fun _ _ _ _ h => h)) (pa_cons (pv 0) (pa_cons (pv 1) pa_nil)))) (pss_cons (ps_if (pt_cmpR op_ne (pe_callB (r := rSum K) (cr_sum rfl) (by rfl) T.n_sum (by decide +kernel) (pa_cons (pv 0) pa_nil)) (pe_callB (r := rSum K) (cr_sum rfl) (by rfl) T.n_sum (by decide +kernel) (pa_cons (pv 1) pa_nil)) (nomark _))
        (pss_cons (L2N.ps_raise rfl (L2N.takes_of rfl rfl rfl rfl) (L2N.pmk_own PySem.F.excBase_ValueError ER.e_Unlike.ex ER.e_Unlike.g ER.e_Unlike.kp (raises_own ER.e_Unlike.sb ER.e_Unlike.ty) rfl))
          pss_nil)
        pss_nil) (pss_cons ps_never (pss_cons ps_never (pss_cons ps_never (pss_cons ps_never pss_nil)))))), ?_⟩
    rcases h with h | ⟨ns, ms, hx, hy, hl, hs, er⟩
    · exact Sv.go (w_dropX (evx_call (ap_two (ev_var rfl).p (ev_var rfl).p) fun vs H1 e1 ⟨v, z, ev, pv, pz⟩ Q => ⟨x, y, by rw [ev, pv, pz], .inl (h.mono e1)⟩))
    · refine Sv.go (w_drop (ev_call (dvs := []) (z := .non) (ea_cons (ev_var rfl) (ea_cons (ev_var rfl) ea_nil)) fun H1 e1 Q q E => ⟨x, y, rfl, .inr ⟨ns, ms, hx.mono e1, hy.mono e1, hl, q⟩⟩) ?_)
      obtain ⟨a, rfl, ha, _⟩ := hx
      obtain ⟨b, rfl, hb, _⟩ := hy
      refine w_when (b := true) (et_is (et_test (ev_op (ev_sum (ev_var' rfl ha)) (ev_sum (ev_var' rfl hb)) (rv_ne rfl))) ?_) (fun _ => w_raise er) fun h => nomatch h
      simp [hs]
end
end Ev

set_option Elab.async false
set_option linter.all false
set_option maxRecDepth 100000
set_option maxHeartbeats 4000000
namespace Ev
open Wk
/-! ### the plain law of points 2 and 3: gifts that lead from a row to another one -/
abbrev Gv := Nat × Nat × Int
/-- so much for t, of the givers on the pile: the gifts, the pile behind -/
def give (t : Nat) : Int → List (Nat × Int) → List Gv × List (Nat × Int)
  | _, [] => ([], [])
  | d, (g, sp) :: r => if d ≤ 0 then ([], (g, sp) :: r) else if d < sp then ([(g, t, d)], (g, sp - d) :: r) else ((g, t, sp) :: (give t (d - sp) r).1, (give t (d - sp) r).2)
/-- places with what they lack; the pile -/
def goG : List (Nat × Int) → List (Nat × Int) → List Gv
  | [], _ => []
  | (p, d) :: R, st => if d < 0 then goG R ((p, -d) :: st) else (give p d st).1 ++ goG R (give p d st).2
def stepG (c : Nat → Int) (x : Gv) : Nat → Int := fun q => if q = x.1 then c q - x.2.2 else if q = x.2.1 then c q + x.2.2 else c q
def AllFair (n : Nat) : (Nat → Int) → List Gv → Prop
  | _, [] => True
  | c, x :: r => (x.1 < n ∧ x.2.1 < n ∧ x.1 ≠ x.2.1 ∧ 0 < x.2.2 ∧ stepG c x x.2.1 ≤ stepG c x x.1) ∧ AllFair n (stepG c x) r
def runG : (Nat → Int) → List Gv → (Nat → Int)
  | c, [] => c
  | c, x :: r => runG (stepG c x) r
theorem runG_app : ∀ (c : Nat → Int) (a b : List Gv), runG c (a ++ b) = runG (runG c a) b
  | _, [], _ => rfl
  | c, x :: a, b => runG_app (stepG c x) a b
theorem allFair_app {n : Nat} : ∀ (c : Nat → Int) (a b : List Gv), AllFair n c a → AllFair n (runG c a) b → AllFair n c (a ++ b)
  | _, [], _, _, h => h
  | c, x :: a, b, h1, h2 => ⟨h1.1, allFair_app (stepG c x) a b h1.2 h2⟩
def sumS (l : List (Nat × Int)) : Int := (l.map (·.2)).sum
theorem sumS_cons (z : Nat × Int) (l : List (Nat × Int)) : sumS (z :: l) = z.2 + sumS l := by simp [sumS]
theorem sumS_nn {l : List (Nat × Int)} (h : ∀ z ∈ l, 0 < z.2) : 0 ≤ sumS l := by
  induction l with
  | nil => exact Int.le_refl _
  | cons z l ih =>
    rw [sumS_cons]
    have h1 := h z List.mem_cons_self
    have h2 := ih fun y hy => h y (List.mem_cons_of_mem _ hy)
    omega
structure GiveOk (n t : Nat) (W c : Nat → Int) (d : Int) (st : List (Nat × Int)) : Prop where
  fair : AllFair n c (give t d st).1
  full : runG c (give t d st).1 t = W t
  other : ∀ q, q ≠ t → q ∉ st.map (·.1) → runG c (give t d st).1 q = c q
  left : ∀ z ∈ (give t d st).2, 0 < z.2 ∧ runG c (give t d st).1 z.1 = W z.1 + z.2 ∧ z.1 ∈ st.map (·.1)
  gone : ∀ q ∈ st.map (·.1), q ∉ (give t d st).2.map (·.1) → runG c (give t d st).1 q = W q
  nd : ((give t d st).2.map (·.1)).Nodup
  sum : sumS (give t d st).2 = sumS st - d
  len : (give t d st).1.length + (give t d st).2.length ≤ st.length + 1
  len0 : (give t d st).2 = [] → (give t d st).1.length ≤ st.length
theorem give_ok {n t : Nat} {W : Nat → Int} (ht : t < n) : ∀ (st : List (Nat × Int)) (c : Nat → Int) (d : Int),
    (∀ z ∈ st, z.1 < n ∧ z.1 ≠ t ∧ 0 < z.2 ∧ c z.1 = W z.1 + z.2 ∧ W t ≤ W z.1) → (st.map (·.1)).Nodup → 0 ≤ d → d ≤ sumS st → c t + d = W t → GiveOk n t W c d st
  | [], c, d, _, _, h0, h1, hc => by
    have : sumS [] = 0 := rfl
    have hd : d = 0 := by omega
    subst hd
    exact ⟨trivial, by show c t = W t; omega, fun _ _ _ => rfl, fun _ h => by simp [give] at h, fun _ h => by simp at h, by simp [give], by simp [give, this], by simp [give], fun _ => by simp [give]⟩
  | (g, sp) :: r, c, d, hst, hnd, h0, h1, hc => by
    obtain ⟨g1, g2, g3, g4, g5⟩ := hst (g, sp) List.mem_cons_self
    have hnd' := List.nodup_cons.mp (show (g :: r.map (·.1)).Nodup from hnd)
    rw [sumS_cons] at h1
    simp only at g1 g2 g3 g4 g5 h1
    by_cases hd : d ≤ 0
    · have hd0 : d = 0 := by omega
      have e : give t d ((g, sp) :: r) = ([], (g, sp) :: r) := by simp [give, hd]
      refine ⟨by rw [e]; trivial, by rw [e]; show c t = W t; omega, fun _ _ _ => by rw [e]; rfl, fun z hz => ?_, fun q hq hq2 => ?_, by rw [e]; exact hnd, by rw [e]; show sumS ((g, sp) :: r) = _; omega, by rw [e]; simp, fun h => by rw [e] at h; cases h⟩
      · rw [e] at hz ⊢
        obtain ⟨a1, a2, a3, a4, a5⟩ := hst z hz
        exact ⟨a3, a4, List.mem_map.mpr ⟨z, hz, rfl⟩⟩
      · rw [e] at hq2
        exact absurd hq hq2
    · by_cases hs : d < sp
      · have e : give t d ((g, sp) :: r) = ([(g, t, d)], (g, sp - d) :: r) := by simp [give, hd, hs]
        have st1 : stepG c (g, t, d) t = W t := by
          show (if t = g then c t - d else if t = t then c t + d else c t) = W t
          rw [if_neg (Ne.symm g2), if_pos rfl]
          omega
        have st2 : stepG c (g, t, d) g = W g + (sp - d) := by
          show (if g = g then c g - d else _) = _
          rw [if_pos rfl]
          omega
        have st3 : ∀ q, q ≠ g → q ≠ t → stepG c (g, t, d) q = c q := fun q q1 q2 => by
          show (if q = g then c q - d else if q = t then c q + d else c q) = c q
          rw [if_neg q1, if_neg q2]
        refine ⟨by rw [e]; exact ⟨⟨g1, ht, g2, by show 0 < d; omega, by show stepG c (g, t, d) t ≤ stepG c (g, t, d) g; omega⟩, trivial⟩, by rw [e]; exact st1, fun q q1 q2 => ?_, fun z hz => ?_, fun q hq hq2 => ?_, by rw [e]; exact hnd, by rw [e, sumS_cons, sumS_cons]; show sp - d + sumS r = sp + sumS r - d; omega, by rw [e]; simp only [List.length_cons, List.length_nil]; omega, fun h => by rw [e] at h; cases h⟩
        · rw [e]
          exact st3 q (fun z => q2 (by rw [z]; simp)) q1
        · rw [e] at hz ⊢
          rcases List.mem_cons.mp hz with rfl | hz
          · exact ⟨by show 0 < sp - d; omega, st2, by simp⟩
          · obtain ⟨a1, a2, a3, a4, a5⟩ := hst z (List.mem_cons_of_mem _ hz)
            have hzr : z.1 ∈ r.map (·.1) := List.mem_map.mpr ⟨z, hz, rfl⟩
            have ne : z.1 ≠ g := fun q => hnd'.1 (by rw [← q]; exact hzr)
            refine ⟨a3, ?_, List.mem_cons_of_mem _ hzr⟩
            show stepG c (g, t, d) z.1 = _
            rw [st3 z.1 ne a2, a4]
        · rw [e] at hq2
          exact absurd hq hq2
      · have e : give t d ((g, sp) :: r) = ((g, t, sp) :: (give t (d - sp) r).1, (give t (d - sp) r).2) := by simp [give, hd, hs]
        have st1 : stepG c (g, t, sp) t = c t + sp := by
          show (if t = g then c t - sp else if t = t then c t + sp else c t) = _
          rw [if_neg (Ne.symm g2), if_pos rfl]
        have st2 : stepG c (g, t, sp) g = W g := by
          show (if g = g then c g - sp else _) = _
          rw [if_pos rfl]
          omega
        have st3 : ∀ q, q ≠ g → q ≠ t → stepG c (g, t, sp) q = c q := fun q q1 q2 => by
          show (if q = g then c q - sp else if q = t then c q + sp else c q) = c q
          rw [if_neg q1, if_neg q2]
        have ih := give_ok ht r (stepG c (g, t, sp)) (d - sp) (fun z hz => by
          obtain ⟨a1, a2, a3, a4, a5⟩ := hst z (List.mem_cons_of_mem _ hz)
          have hzr : z.1 ∈ r.map (·.1) := List.mem_map.mpr ⟨z, hz, rfl⟩
          have ne : z.1 ≠ g := fun q => hnd'.1 (by rw [← q]; exact hzr)
          exact ⟨a1, a2, a3, by rw [st3 z.1 ne a2, a4], a5⟩) hnd'.2 (by omega) (by omega) (by rw [st1]; omega)
        refine ⟨by rw [e]; exact ⟨⟨g1, ht, g2, g3, by show stepG c (g, t, sp) t ≤ stepG c (g, t, sp) g; omega⟩, ih.fair⟩, by rw [e]; exact ih.full, fun q q1 q2 => ?_, fun z hz => ?_, fun q hq hq2 => ?_, by rw [e]; exact ih.nd, by rw [e, sumS_cons]; show sumS (give t (d - sp) r).2 = sp + sumS r - d; rw [ih.sum]; omega, ?_, fun h => ?_⟩
        · have q3 : q ≠ g := fun z => q2 (by rw [z]; simp)
          have q4 : q ∉ r.map (·.1) := fun z => q2 (List.mem_cons_of_mem _ z)
          rw [e]
          show runG (stepG c (g, t, sp)) _ q = c q
          rw [ih.other q q1 q4, st3 q q3 q1]
        · rw [e] at hz ⊢
          obtain ⟨a1, a2, a3⟩ := ih.left z hz
          exact ⟨a1, a2, List.mem_cons_of_mem _ a3⟩
        · rw [e] at hq2 ⊢
          show runG (stepG c (g, t, sp)) _ q = W q
          by_cases hqr : q ∈ r.map (·.1)
          · exact ih.gone q hqr hq2
          · have hqg : q = g := by
              rcases List.mem_cons.mp (show q ∈ g :: r.map (·.1) from hq) with z | z
              · exact z
              · exact absurd z hqr
            subst hqg
            rw [ih.other q g2 hqr, st2]
        · rw [e]
          have := ih.len
          simp only [List.length_cons]
          omega
        · rw [e] at h ⊢
          have := ih.len0 h
          simp only [List.length_cons]
          omega
/-- the whole way -/
theorem goG_ok {n : Nat} {W : Nat → Int} : ∀ (R st : List (Nat × Int)) (c : Nat → Int),
    (∀ z ∈ R, z.1 < n ∧ c z.1 + z.2 = W z.1) → (R.map (·.1)).Nodup → (∀ z ∈ st, z.1 < n ∧ 0 < z.2 ∧ c z.1 = W z.1 + z.2 ∧ z.1 ∉ R.map (·.1)) → (st.map (·.1)).Nodup →
    R.Pairwise (fun a b => W b.1 ≤ W a.1) → (∀ z ∈ st, ∀ y ∈ R, W y.1 ≤ W z.1) → (∀ k, sumS (R.take k) ≤ sumS st) → (∀ q, q < n → q ∉ R.map (·.1) → q ∉ st.map (·.1) → c q = W q) → sumS R = sumS st →
    AllFair n c (goG R st) ∧ (∀ q, q < n → runG c (goG R st) q = W q) ∧ ((R ≠ [] ∨ st ≠ []) → (goG R st).length + 1 ≤ st.length + R.length)
  | [], st, c, hR, ndR, hst, ndst, hp, hW, hs, hr, ht => by
    have e : st = [] := by
      cases st with
      | nil => rfl
      | cons z l =>
        have h1 := (hst z List.mem_cons_self).2.1
        have h2 := sumS_nn (l := l) fun y hy => (hst y (List.mem_cons_of_mem _ hy)).2.1
        have h3 : sumS [] = 0 := rfl
        rw [h3, sumS_cons] at ht
        omega
    subst e
    exact ⟨trivial, fun q hq => hr q hq (by simp) (by simp), fun h => by rcases h with h | h <;> exact absurd rfl h⟩
  | (p, d) :: R, st, c, hR, ndR, hst, ndst, hp, hW, hs, hr, ht => by
    obtain ⟨p1, p2⟩ := hR (p, d) List.mem_cons_self
    have ndc := List.nodup_cons.mp (show (p :: R.map (·.1)).Nodup from ndR)
    have hpc := List.pairwise_cons.mp hp
    simp only at p1 p2
    rw [sumS_cons] at ht
    simp only at ht
    have hs' : ∀ k, d + sumS (R.take k) ≤ sumS st := fun k => by
      have h := hs (k + 1)
      rw [List.take_succ_cons, sumS_cons] at h
      exact h
    have pst : ∀ z ∈ st, z.1 ≠ p := fun z hz q => (hst z hz).2.2.2 (by rw [q]; simp)
    by_cases hd : d < 0
    · have e : goG ((p, d) :: R) st = goG R ((p, -d) :: st) := by simp [goG, hd]
      have ih := goG_ok R ((p, -d) :: st) c (fun z hz => hR z (List.mem_cons_of_mem _ hz)) ndc.2 (fun z hz => by
          rcases List.mem_cons.mp hz with rfl | hz
          · exact ⟨p1, by show 0 < -d; omega, by show c p = W p + -d; omega, ndc.1⟩
          · obtain ⟨a1, a2, a3, a4⟩ := hst z hz
            exact ⟨a1, a2, a3, fun q => a4 (List.mem_cons_of_mem _ q)⟩)
        (List.nodup_cons.mpr ⟨fun q => by
          obtain ⟨z, hz, e⟩ := List.mem_map.mp q
          exact pst z hz e, ndst⟩) hpc.2 (fun z hz y hy => by
          rcases List.mem_cons.mp hz with rfl | hz
          · exact hpc.1 y hy
          · exact hW z hz y (List.mem_cons_of_mem _ hy)) (fun k => by
          have := hs' k
          rw [sumS_cons]
          show sumS (R.take k) ≤ -d + sumS st
          omega) (fun q hq h1 h2 => hr q hq (fun z => by
            rcases List.mem_cons.mp (show q ∈ p :: R.map (·.1) from z) with z | z
            · exact h2 (by rw [z]; simp)
            · exact h1 z) fun z => h2 (List.mem_cons_of_mem _ z)) (by rw [sumS_cons]; show sumS R = -d + sumS st; omega)
      rw [e]
      refine ⟨ih.1, ih.2.1, fun _ => ?_⟩
      have := ih.2.2 (.inr (by simp))
      simp only [List.length_cons] at this ⊢
      omega
    · have e : goG ((p, d) :: R) st = (give p d st).1 ++ goG R (give p d st).2 := by simp [goG, hd]
      have G := give_ok (W := W) (n := n) p1 st c d (fun z hz => by
        obtain ⟨a1, a2, a3, a4⟩ := hst z hz
        exact ⟨a1, pst z hz, a2, a3, hW z hz (p, d) List.mem_cons_self⟩) ndst (by omega) (by have := hs' 0; rw [List.take_zero] at this; have h0 : sumS [] = 0 := rfl; omega) p2
      have Rne : ∀ z ∈ R, z.1 ≠ p := fun z hz q => ndc.1 (List.mem_map.mpr ⟨z, hz, q⟩)
      have Rst : ∀ z ∈ R, z.1 ∉ st.map (·.1) := fun z hz q => by
        obtain ⟨y, hy, e⟩ := List.mem_map.mp q
        exact (hst y hy).2.2.2 (by rw [e]; exact List.mem_cons_of_mem _ (List.mem_map.mpr ⟨z, hz, rfl⟩))
      have sub : ∀ z ∈ (give p d st).2, ∃ y ∈ st, y.1 = z.1 := fun z hz => by
        obtain ⟨y, hy, e⟩ := List.mem_map.mp (G.left z hz).2.2
        exact ⟨y, hy, e⟩
      have ih := goG_ok R (give p d st).2 (runG c (give p d st).1) (fun z hz => by
          obtain ⟨a1, a2⟩ := hR z (List.mem_cons_of_mem _ hz)
          exact ⟨a1, by rw [G.other z.1 (Rne z hz) (Rst z hz)]; exact a2⟩) ndc.2 (fun z hz => by
          obtain ⟨a1, a2, a3⟩ := G.left z hz
          obtain ⟨y, hy, e⟩ := sub z hz
          have b := hst y hy
          rw [e] at b
          exact ⟨b.1, a1, a2, fun q => b.2.2.2 (List.mem_cons_of_mem _ q)⟩) G.nd hpc.2 (fun z hz y hy => by
          obtain ⟨u, hu, e⟩ := sub z hz
          rw [← e]
          exact hW u hu y (List.mem_cons_of_mem _ hy)) (fun k => by
          have := hs' k
          rw [G.sum]
          omega) (fun q hq h1 h2 => by
          by_cases hqp : q = p
          · rw [hqp]
            exact G.full
          · by_cases hqs : q ∈ st.map (·.1)
            · exact G.gone q hqs h2
            · rw [G.other q hqp hqs]
              refine hr q hq (fun z => ?_) hqs
              rcases List.mem_cons.mp (show q ∈ p :: R.map (·.1) from z) with z | z
              · exact hqp z
              · exact h1 z) (by rw [G.sum]; omega)
      rw [e]
      refine ⟨allFair_app _ _ _ G.fair ih.1, fun q hq => by rw [runG_app]; exact ih.2.1 q hq, fun _ => ?_⟩
      rw [List.length_append, List.length_cons]
      have hl := G.len
      by_cases h2 : R ≠ [] ∨ (give p d st).2 ≠ []
      · have := ih.2.2 h2
        omega
      · have hR0 : R = [] := Classical.byContradiction fun q => h2 (.inl q)
        have hs0 : (give p d st).2 = [] := Classical.byContradiction fun q => h2 (.inr q)
        have h3 := G.len0 hs0
        rw [hR0, hs0]
        simp only [goG, List.length_nil]
        omega
end Ev

set_option Elab.async false
set_option linter.all false
set_option maxRecDepth 100000
set_option maxHeartbeats 4000000
namespace Ev
open Wk Sk
/-! ### the places in order, the gifts, on lists -/
def ordI (ns : List Int) : List Int := (ups ns.length).mergeSort fun a b => decide (ns.getD b.toNat 0 ≤ ns.getD a.toNat 0)
def ordN (ns : List Int) : List Nat := (ordI ns).map Int.toNat
theorem ordI_perm (ns : List Int) : (ordI ns).Perm (ups ns.length) := List.mergeSort_perm _ _
theorem ordN_perm (ns : List Int) : (ordN ns).Perm (List.range ns.length) := by
  have h := (ordI_perm ns).map Int.toNat
  have e : (ups ns.length).map Int.toNat = List.range ns.length := by
    unfold ups
    rw [List.map_map]
    conv => rhs; rw [← List.map_id (List.range ns.length)]
    exact List.map_congr_left fun x _ => rfl
  rw [e] at h
  exact h
theorem ordN_len (ns : List Int) : (ordN ns).length = ns.length := by rw [(ordN_perm ns).length_eq, List.length_range]
theorem ordI_len (ns : List Int) : (ordI ns).length = ns.length := by rw [← ordN_len ns, ordN, List.length_map]
theorem ordI_get {ns : List Int} {k : Nat} {z : Int} (h : (ordI ns)[k]? = some z) : ∃ p : Nat, z = (p : Int) ∧ p < ns.length ∧ (ordN ns)[k]? = some p := by
  have hm : z ∈ ups ns.length := (ordI_perm ns).mem_iff.mp (List.mem_of_getElem? h)
  obtain ⟨p, hp, rfl⟩ := List.mem_map.mp hm
  exact ⟨p, rfl, List.mem_range.mp hp, by rw [ordN, List.getElem?_map, h]; rfl⟩
theorem map_getD_range (ns : List Int) : (List.range ns.length).map (fun p => ns.getD p 0) = ns := by
  refine List.ext_getElem (by simp) fun i h1 h2 => ?_
  simp [List.getD_eq_getElem?_getD, List.getElem?_eq_getElem h2]
theorem ord_srtD (ns : List Int) : (ordN ns).map (fun p => ns.getD p 0) = srtD ns := by
  refine srtD_eq ?_ ?_
  · have h := (ordN_perm ns).map (fun p => ns.getD p 0)
    rw [map_getD_range] at h
    exact h
  · rw [ordN, List.map_map, List.pairwise_map]
    have h := List.pairwise_mergeSort (le := fun a b : Int => decide (ns.getD b.toNat 0 ≤ ns.getD a.toNat 0)) (fun a b c h1 h2 => by
      simp only [decide_eq_true_eq] at *
      omega) (fun a b => by
      by_cases h : ns.getD b.toNat 0 ≤ ns.getD a.toNat 0
      · rw [decide_eq_true h]; rfl
      · have h2 : ns.getD a.toNat 0 ≤ ns.getD b.toNat 0 := by omega
        rw [decide_eq_true h2, Bool.or_true]) (ups ns.length)
    exact h.imp fun {a b} h => by
      have := of_decide_eq_true h
      exact this
/-- what each place lacks, in order -/
def lacks (ns ws : List Int) : List (Nat × Int) := List.zipWith (fun p w => (p, w - ns.getD p 0)) (ordN ns) ws
def gF (ns ws : List Int) : List Gv := goG (lacks ns ws) []
theorem zipW_fst (f : Nat → Int → Int) : ∀ (a : List Nat) (b : List Int), a.length = b.length → (List.zipWith (fun p w => (p, f p w)) a b).map (·.1) = a
  | [], [], _ => rfl
  | [], _ :: _, h => by cases h
  | _ :: _, [], h => by cases h
  | x :: a, y :: b, h => by
    have ih := zipW_fst f a b (by simpa using h)
    simp only [List.zipWith_cons_cons, List.map_cons, ih]
theorem sum_lacks (ns : List Int) : ∀ (a : List Nat) (b : List Int), a.length = b.length → sumS (List.zipWith (fun p w => (p, w - ns.getD p 0)) a b) = b.sum - (a.map fun p => ns.getD p 0).sum
  | [], [], _ => rfl
  | [], _ :: _, h => by cases h
  | _ :: _, [], h => by cases h
  | x :: a, y :: b, h => by
    have ih := sum_lacks ns a b (by simpa using h)
    rw [List.zipWith_cons_cons, sumS_cons, ih, List.map_cons, List.sum_cons, List.sum_cons]
    show y - ns.getD x 0 + _ = _
    omega
/-- what is wanted at a place -/
def want (a : List Nat) (b : List Int) (q : Nat) : Int := ((a.zip b).lookup q).getD 0
theorem want_cons_self (x : Nat) (y : Int) (a : List Nat) (b : List Int) : want (x :: a) (y :: b) x = y := by simp [want, List.lookup]
theorem want_cons_ne {x q : Nat} (y : Int) (a : List Nat) (b : List Int) (h : q ≠ x) : want (x :: a) (y :: b) q = want a b q := by
  have h2 : (q == x) = false := by simpa using h
  simp [want, List.lookup, h2]
theorem want_map : ∀ (a : List Nat) (b : List Int), a.Nodup → a.length = b.length → a.map (want a b) = b
  | [], [], _, _ => rfl
  | [], _ :: _, _, h => by cases h
  | _ :: _, [], _, h => by cases h
  | x :: a, y :: b, hn, h => by
    have hc := List.nodup_cons.mp hn
    have ih := want_map a b hc.2 (by simpa using h)
    rw [List.map_cons, want_cons_self]
    congr 1
    exact (List.map_congr_left fun q hq => want_cons_ne y a b fun z => hc.1 (by rw [← z]; exact hq)).trans ih
theorem pairwise_want {a : List Nat} {b : List Int} (hn : a.Nodup) (hl : a.length = b.length) (hb : b.Pairwise (· ≥ ·)) : a.Pairwise fun x y => want a b y ≤ want a b x := by
  have h := want_map a b hn hl
  rw [← h, List.pairwise_map] at hb
  exact hb.imp fun {x y} h2 => h2
theorem gifts_fair {ns ws : List Int} (hl : ws.length = ns.length) (hne : ns ≠ []) (hw : ws.Pairwise (· ≥ ·)) (hs : ns.sum = ws.sum) (hd : ∀ k, (ws.take k).sum ≤ ((srtD ns).take k).sum) :
    ∃ W : Nat → Int, ((List.range ns.length).map W).Perm ws ∧ AllFair ns.length (fun p => ns.getD p 0) (gF ns ws) ∧ (∀ q, q < ns.length → runG (fun p => ns.getD p 0) (gF ns ws) q = W q) ∧ (gF ns ws).length < ns.length := by
  have hlen : (ordN ns).length = ws.length := by rw [ordN_len, hl]
  have hnd : (ordN ns).Nodup := (ordN_perm ns).nodup_iff.mpr List.nodup_range
  have hmem : ∀ q, q < ns.length → q ∈ ordN ns := fun q hq => (ordN_perm ns).mem_iff.mpr (List.mem_range.mpr hq)
  have hfst : (lacks ns ws).map (·.1) = ordN ns := zipW_fst (fun p w => w - ns.getD p 0) _ _ hlen
  have hval : ∀ z ∈ lacks ns ws, z.1 < ns.length ∧ ns.getD z.1 0 + z.2 = want (ordN ns) ws z.1 := by
    intro z hz
    have hz1 : z.1 ∈ ordN ns := by
      rw [← hfst]
      exact List.mem_map.mpr ⟨z, hz, rfl⟩
    refine ⟨List.mem_range.mp ((ordN_perm ns).mem_iff.mp hz1), ?_⟩
    have aux : ∀ (a : List Nat) (b : List Int), a.Nodup → a.length = b.length → ∀ z ∈ List.zipWith (fun p w => (p, w - ns.getD p 0)) a b, ns.getD z.1 0 + z.2 = want a b z.1 := by
      intro a
      induction a with
      | nil => intro b _ _ z hz; simp at hz
      | cons x a ih =>
        intro b hn h z hz
        cases b with
        | nil => cases h
        | cons y b =>
          have hc := List.nodup_cons.mp hn
          rw [List.zipWith_cons_cons] at hz
          rcases List.mem_cons.mp hz with rfl | hz
          · rw [want_cons_self]
            show ns.getD x 0 + (y - ns.getD x 0) = y
            omega
          · have hza : z.1 ∈ a := by
              have e := zipW_fst (fun p w => w - ns.getD p 0) a b (by simpa using h)
              rw [← e]
              exact List.mem_map.mpr ⟨z, hz, rfl⟩
            rw [want_cons_ne y a b fun q => hc.1 (by rw [← q]; exact hza)]
            exact ih b hc.2 (by simpa using h) z hz
    exact aux _ _ hnd hlen z hz
  have G := goG_ok (n := ns.length) (W := want (ordN ns) ws) (lacks ns ws) [] (fun p => ns.getD p 0) hval (by rw [hfst]; exact hnd) (fun z hz => by cases hz) List.nodup_nil (by
      have h := pairwise_want hnd hlen hw
      rw [← hfst, List.pairwise_map] at h
      rw [hfst] at h
      exact h) (fun z hz => by cases hz) (fun k => by
      have e : (lacks ns ws).take k = List.zipWith (fun p w => (p, w - ns.getD p 0)) ((ordN ns).take k) (ws.take k) := List.take_zipWith
      rw [e, sum_lacks ns _ _ (by rw [List.length_take, List.length_take, hlen]), List.map_take, ord_srtD]
      have := hd k
      have h0 : sumS [] = 0 := rfl
      omega) (fun q hq h1 h2 => absurd (hmem q hq) (by rw [← hfst]; exact h1)) (by
      unfold lacks
      rw [sum_lacks ns _ _ hlen, ord_srtD]
      have : (srtD ns).sum = ns.sum := by
        have p := srtD_perm ns
        have aux : ∀ {a b : List Int}, a.Perm b → a.sum = b.sum := fun {a b} p => by
          induction p with
          | nil => rfl
          | cons x _ ih => rw [List.sum_cons, List.sum_cons, ih]
          | swap x y l => rw [List.sum_cons, List.sum_cons, List.sum_cons, List.sum_cons]; omega
          | trans _ _ i1 i2 => rw [i1, i2]
        exact aux p
      have h0 : sumS [] = 0 := rfl
      omega)
  refine ⟨want (ordN ns) ws, ?_, G.1, G.2.1, ?_⟩
  · have h := (ordN_perm ns).symm.map (want (ordN ns) ws)
    rw [want_map _ _ hnd hlen] at h
    exact h
  · have hll : (lacks ns ws).length = ns.length := by
      have := congrArg List.length hfst
      rw [List.length_map, ordN_len] at this
      exact this
    have hn0 : 0 < ns.length := List.length_pos_iff.mpr hne
    have := G.2.2 (.inl fun h => by rw [h] at hll; simp at hll; omega)
    rw [hll] at this
    show (goG (lacks ns ws) []).length < ns.length
    simp only [List.length_nil] at this
    omega
theorem sum_perm {a b : List Int} (p : a.Perm b) : a.sum = b.sum := by
  induction p with
  | nil => rfl
  | cons x _ ih => rw [List.sum_cons, List.sum_cons, ih]
  | swap x y l => rw [List.sum_cons, List.sum_cons, List.sum_cons, List.sum_cons]; omega
  | trans _ _ i1 i2 => rw [i1, i2]
/-! on lists, as Python does them -/
abbrev T3 := Int × Int × Int
def g3 (x : Gv) : T3 := ((x.1 : Int), (x.2.1 : Int), x.2.2)
def gOk (m : Int) (x : T3) : Bool := decide (0 ≤ x.1 ∧ 0 ≤ x.2.1 ∧ x.1 < m ∧ x.2.1 < m ∧ x.1 ≠ x.2.1 ∧ 0 < x.2.2)
def step1 (l : List Int) (x : T3) : List Int := l.set x.1.toNat (l.getD x.1.toNat 0 - x.2.2)
def stepL (l : List Int) (x : T3) : List Int := (step1 l x).set x.2.1.toNat ((step1 l x).getD x.2.1.toNat 0 + x.2.2)
def fairL : List Int → List T3 → Option (List Int)
  | l, [] => some l
  | l, x :: r => if gOk l.length x then (if (stepL l x).getD x.1.toNat 0 < (stepL l x).getD x.2.1.toNat 0 then none else fairL (stepL l x) r) else none
theorem stepL_len (l : List Int) (x : T3) : (stepL l x).length = l.length := by simp [stepL, step1]
theorem fairL_len : ∀ {gs : List T3} {l l' : List Int}, fairL l gs = some l' → l'.length = l.length
  | [], l, l', h => by cases h; rfl
  | x :: r, l, l', h => by
    unfold fairL at h
    split at h
    · split at h
      · cases h
      · rw [fairL_len h, stepL_len]
    · cases h
def ofC (n : Nat) (c : Nat → Int) : List Int := (List.range n).map c
theorem ofC_len (n : Nat) (c : Nat → Int) : (ofC n c).length = n := by simp [ofC]
theorem ofC_getD {n : Nat} {c : Nat → Int} {q : Nat} (h : q < n) : (ofC n c).getD q 0 = c q := by simp [ofC, List.getD_eq_getElem?_getD, h]
theorem ofC_set (n : Nat) (c : Nat → Int) (q : Nat) (v : Int) : (ofC n c).set q v = ofC n fun p => if p = q then v else c p := by
  refine List.ext_getElem (by simp [ofC]) fun i h1 h2 => ?_
  simp only [ofC, List.getElem_set, List.getElem_map, List.getElem_range]
  by_cases h : q = i
  · simp [h]
  · have h' : ¬ i = q := fun e => h e.symm
    simp [h, h']
theorem stepL_ofC {n : Nat} {c : Nat → Int} {x : Gv} (h1 : x.1 < n) (h2 : x.2.1 < n) (h3 : x.1 ≠ x.2.1) : stepL (ofC n c) (g3 x) = ofC n (stepG c x) := by
  have e1 : step1 (ofC n c) (g3 x) = ofC n fun p => if p = x.1 then c x.1 - x.2.2 else c p := by
    show (ofC n c).set (x.1 : Int).toNat ((ofC n c).getD (x.1 : Int).toNat 0 - x.2.2) = _
    rw [Int.toNat_natCast, ofC_set, ofC_getD h1]
  show (step1 (ofC n c) (g3 x)).set (x.2.1 : Int).toNat ((step1 (ofC n c) (g3 x)).getD (x.2.1 : Int).toNat 0 + x.2.2) = _
  rw [e1, Int.toNat_natCast, ofC_set, ofC_getD h2]
  congr 1
  funext q
  unfold stepG
  by_cases hq1 : q = x.1
  · have hq2 : ¬ q = x.2.1 := fun z => h3 (hq1.symm.trans z)
    rw [if_neg hq2, if_pos hq1, if_pos hq1, hq1]
  · by_cases hq2 : q = x.2.1
    · rw [if_pos hq2, if_neg hq1, if_pos hq2, if_neg (Ne.symm h3), hq2]
    · rw [if_neg hq2, if_neg hq1, if_neg hq1, if_neg hq2]
theorem fairL_ofC {n : Nat} : ∀ (gs : List Gv) (c : Nat → Int), AllFair n c gs → fairL (ofC n c) (gs.map g3) = some (ofC n (runG c gs))
  | [], c, _ => rfl
  | x :: r, c, ⟨⟨h1, h2, h3, h4, h5⟩, hr⟩ => by
    have hok : gOk ((ofC n c).length : Int) (g3 x) = true := by
      rw [ofC_len]
      exact decide_eq_true ⟨Int.natCast_nonneg _, Int.natCast_nonneg _, by show (x.1 : Int) < n; omega, by show (x.2.1 : Int) < n; omega, by show (x.1 : Int) ≠ x.2.1; omega, h4⟩
    have e := stepL_ofC (c := c) h1 h2 h3
    rw [List.map_cons, fairL, if_pos hok, e]
    have g1 : (ofC n (stepG c x)).getD (g3 x).1.toNat 0 = stepG c x x.1 := by
      show (ofC n (stepG c x)).getD (x.1 : Int).toNat 0 = _
      rw [Int.toNat_natCast, ofC_getD h1]
    have g2 : (ofC n (stepG c x)).getD (g3 x).2.1.toNat 0 = stepG c x x.2.1 := by
      show (ofC n (stepG c x)).getD (x.2.1 : Int).toNat 0 = _
      rw [Int.toNat_natCast, ofC_getD h2]
    rw [g1, g2, if_neg (by omega)]
    exact fairL_ofC r (stepG c x) hr
/-- whether gifts show what they tell -/
def showsG (one other : List Int) (gs : List T3) : Bool := decide (one.length = other.length) && (decide (gs.length < one.length) && (match fairL one gs with | none => false | some l => decide (srt l = srt other)))
theorem srt_perm_eq {a b : List Int} (p : a.Perm b) : srt a = srt b := srt_eq ((srt_perm a).trans p) (srt_le a)
theorem gifts_show {ns other : List Int} (hl : other.length = ns.length) (hne : ns ≠ []) (hs : ns.sum = other.sum) (hd : ∀ k, ((srtD other).take k).sum ≤ ((srtD ns).take k).sum) : showsG ns other ((gF ns (srtD other)).map g3) = true := by
  obtain ⟨W, h1, h2, h3, h4⟩ := gifts_fair (ws := srtD other) (by rw [srtD_len, hl]) hne (srtD_ge other) (by rw [sum_perm (srtD_perm other), hs]) hd
  have hf := fairL_ofC _ _ h2
  have e0 : ofC ns.length (fun p => ns.getD p 0) = ns := map_getD_range ns
  rw [e0] at hf
  unfold showsG
  rw [hf]
  have e1 : ofC ns.length (runG (fun p => ns.getD p 0) (gF ns (srtD other))) = (List.range ns.length).map W := List.map_congr_left fun q hq => h3 q (List.mem_range.mp hq)
  have e2 : srt (ofC ns.length (runG (fun p => ns.getD p 0) (gF ns (srtD other)))) = srt other := by
    rw [e1]
    exact srt_perm_eq (h1.trans (srtD_perm other))
  simp only [e2, hl, List.length_map, h4, decide_true, Bool.and_self]
/-! the count by whose greatest the other has more -/
def topA : Nat → List Int → List Int → Int
  | k, a :: as, b :: bs => if a < b then (k : Int) + 1 else topA (k + 1) as bs
  | _, _, _ => 0
theorem topA_zero : ∀ (k : Nat) (a b : List Int), topA k a b = 0 → a.length = b.length → ∀ i, a.getD i 0 ≥ b.getD i 0
  | k, [], [], _, _, i => by simp
  | _, [], _ :: _, _, h, _ => by cases h
  | _, _ :: _, [], _, h, _ => by cases h
  | k, x :: a, y :: b, h, hl, i => by
    unfold topA at h
    split at h
    · omega
    · cases i with
      | zero => simp; omega
      | succ i => simpa using topA_zero (k + 1) a b h (by simpa using hl) i
theorem topA_pos : ∀ (k : Nat) (a b : List Int), a.length = b.length → topA k a b ≠ 0 → ∃ j, j < a.length ∧ topA k a b = ((k + j : Nat) : Int) + 1 ∧ a.getD j 0 < b.getD j 0
  | k, [], [], _, h => absurd rfl h
  | _, [], _ :: _, h, _ => by cases h
  | _, _ :: _, [], h, _ => by cases h
  | k, x :: a, y :: b, hl, h => by
    by_cases hxy : x < y
    · exact ⟨0, by simp, by simp [topA, hxy], by simpa using hxy⟩
    · have e : topA k (x :: a) (y :: b) = topA (k + 1) a b := by simp [topA, hxy]
      rw [e] at h ⊢
      obtain ⟨j, h1, h2, h3⟩ := topA_pos (k + 1) a b (by simpa using hl) h
      refine ⟨j + 1, by simpa using h1, ?_, by simpa using h3⟩
      rw [h2]
      omega
def topF (a b : List Int) : Int := topA 0 (runs 0 a) (runs 0 b)
theorem runs_getD : ∀ (t : Int) (l : List Int) (k : Nat), k < l.length → (runs t l).getD k 0 = t + (l.take (k + 1)).sum
  | t, [], k, h => by simp at h
  | t, x :: l, 0, h => by simp [runs]
  | t, x :: l, k + 1, h => by
    have ih := runs_getD (t + x) l k (by simpa using h)
    show (runs (t + x) l).getD k 0 = _
    rw [ih, List.take_succ_cons, List.sum_cons]
    omega
theorem topF_zero {a b : List Int} (hl : a.length = b.length) (h : topF a b = 0) (k : Nat) (hs : a.sum = b.sum) : (b.take k).sum ≤ (a.take k).sum := by
  by_cases hk : k ≤ a.length
  · cases k with
    | zero => simp
    | succ j =>
      have h1 := topA_zero 0 _ _ h (by rw [runs_len, runs_len, hl]) j
      rw [runs_getD 0 a j (by omega), runs_getD 0 b j (by omega)] at h1
      omega
  · rw [List.take_of_length_le (by omega), List.take_of_length_le (by omega)]
    omega
theorem topF_pos {a b : List Int} (hl : a.length = b.length) (h : topF a b ≠ 0) : ∃ j : Nat, topF a b = (j : Int) ∧ 1 ≤ j ∧ j ≤ a.length ∧ (a.take j).sum < (b.take j).sum := by
  obtain ⟨j, h1, h2, h3⟩ := topA_pos 0 _ _ (by rw [runs_len, runs_len, hl]) h
  rw [runs_len] at h1
  refine ⟨j + 1, by show topF a b = _; unfold topF; rw [h2]; omega, by omega, by omega, ?_⟩
  rw [runs_getD 0 a j (by omega), runs_getD 0 b j (by omega)] at h3
  omega
theorem topF_self (a : List Int) : topF a a = 0 := by
  by_cases h : topF a a = 0
  · exact h
  · obtain ⟨j, _, _, _, h4⟩ := topF_pos (a := a) (b := a) rfl h
    omega
theorem topF_nn {a b : List Int} (hl : a.length = b.length) : 0 ≤ topF a b := by
  by_cases h : topF a b = 0
  · omega
  · obtain ⟨j, h1, _⟩ := topF_pos hl h
    omega
/-! answers -/
inductive Ans where
  | gifts (gs : List T3)
  | top (m : Int)
  | wholes (a b : Int)
def tops (l : List Int) (m : Int) : Int := ((srt l).drop (l.length - m.toNat)).sum
def showsT (one other : List Int) (m : Int) : Bool := decide (one.length = other.length) && (decide (one.sum = other.sum) && (decide (1 ≤ m) && (decide (m ≤ (one.length : Int)) && decide (tops one m < tops other m))))
def showsW (one other : List Int) (a b : Int) : Bool := decide (one.length = other.length) && (!decide (a = b) && (decide (a = one.sum) && decide (b = other.sum)))
def showsF (one other : List Int) : Ans → Bool
  | .gifts gs => showsG one other gs
  | .top m => showsT one other m
  | .wholes a b => showsW one other a b
def cmpF (one other : List Int) : Ans := if one.sum = other.sum then (if 0 < topF (srtD one) (srtD other) then .top (topF (srtD one) (srtD other)) else .gifts ((gF one (srtD other)).map g3)) else .wholes one.sum other.sum
theorem tops_take {l : List Int} {j : Nat} (h : j ≤ l.length) : tops l (j : Int) = ((srtD l).take j).sum := by
  unfold tops srtD
  rw [List.take_reverse, srt_len, Int.toNat_natCast, sum_perm (List.reverse_perm _)]
theorem cmp_shows {one other : List Int} (hl : other.length = one.length) (hne : one ≠ []) : showsF one other (cmpF one other) = true := by
  unfold cmpF
  have hl2 : (srtD one).length = (srtD other).length := by rw [srtD_len, srtD_len, hl]
  by_cases hs : one.sum = other.sum
  · rw [if_pos hs]
    by_cases ht : 0 < topF (srtD one) (srtD other)
    · rw [if_pos ht]
      obtain ⟨j, h1, h2, h3, h4⟩ := topF_pos hl2 (by omega)
      rw [srtD_len] at h3
      show showsT one other _ = true
      unfold showsT
      rw [h1, tops_take h3, tops_take (by omega)]
      simp [hl, hs, h4]
      omega
    · rw [if_neg ht]
      have h0 := topF_nn hl2
      refine gifts_show hl hne hs fun k => topF_zero hl2 (by omega) k ?_
      rw [sum_perm (srtD_perm one), sum_perm (srtD_perm other), hs]
  · rw [if_neg hs]
    show showsW one other _ _ = true
    simp [showsW, hl, hs]
end Ev

set_option Elab.async false
set_option linter.all false
set_option maxRecDepth 100000
set_option maxHeartbeats 4000000
namespace Ev
open PySem PySem.Spec L2 Evl Wk
/-! ### gifts, and what are none -/
def tupV (g : T3) : List V := [.int g.1, .int g.2.1, .int g.2.2]
theorem mn2 (a b : Int) : mn [a, b] = if a ≤ b then a else b := rfl
theorem mx2 (a b : Int) : mx [a, b] = if b ≤ a then a else b := rfl
theorem intX_ne (a b : Int) : (!decide (V.int a = V.int b)) = !decide (a = b) := by simp
theorem int_at2 {ns : List Int} {i : Nat} (h : i < ns.length) : (ns.map V.int)[i]? = some (.int (ns.getD i 0)) := by
  rw [List.getElem?_map, List.getD_eq_getElem?_getD, List.getElem?_eq_getElem h]
  rfl
def whV : V → Bool
  | .int _ => true
  | _ => false
section
variable {K : PySem.W.Frag}
theorem wh_of {n : String} {x : V} {H : Hp} (h : ValT K n x H) : (n == "int") = whV x := by
  cases hn : n == "int" with
  | true => obtain ⟨i, rfl⟩ := h.2.2.1 hn; rfl
  | false =>
    cases x with
    | int i =>
      have ty := h.1
      have e : n = "int" := by
        cases ty with
        | base b => cases b; rfl
      rw [e] at hn
      cases hn
    | _ => rfl
/-- what is_gift says of a value -/
def GiftV (K : PySem.W.Frag) (m : Int) (z : V) (b : Bool) : Hp → Prop := fun H => (∃ r g, z = .ref r ∧ H r = some (.tup (tupV g)) ∧ b = gOk m g) ∨ (b = false ∧ ((∃ n, ValT K n z H ∧ n ≠ "tuple") ∨ (∃ r xs, z = .ref r ∧ H r = some (.tup xs) ∧ xs.length ≠ 3) ∨
  (∃ r xs, z = .ref r ∧ H r = some (.tup xs) ∧ xs.length = 3 ∧ (∀ y ∈ xs, ∃ n, ValT K n y H) ∧ (xs.map whV).all id = false)))
theorem GiftV.mono {m : Int} {z : V} {b : Bool} {H H' : Hp} (h : GiftV K m z b H) (e : Ex H H') : GiftV K m z b H' :=
  h.imp (fun ⟨r, g, h1, h2, h3⟩ => ⟨r, g, h1, e _ _ h2, h3⟩) fun ⟨hb, h⟩ => ⟨hb, h.imp (fun ⟨n, h1, h2⟩ => ⟨n, MonoP.mono e h1, h2⟩) (Or.imp (fun ⟨r, xs, h1, h2, h3⟩ => ⟨r, xs, h1, e _ _ h2, h3⟩) fun ⟨r, xs, h1, h2, h3, h4, h5⟩ => ⟨r, xs, h1, e _ _ h2, h3, (fun y hy => let ⟨n, h⟩ := h4 y hy; ⟨n, MonoP.mono e h⟩), h5⟩)⟩
def spGiftX (K : PySem.W.Frag) : Sp := fun vs H Q _ => ∃ z m b, vs = [z, .int m] ∧ GiftV K m z b H ∧ RetV (.bl b) H Q
end
section
variable {P : Program} {w : World} {K : PySem.W.Frag} {mg : Str → Option Value} {base : Heap} {cS cB cG cA cU cT : Addr}
theorem def_is_gift (R : Raw K mg "is_gift" s_is_gift ["gift", "many"]) (T : Txt K mg) (d_is_whole : Def P w K mg base CX0 1 "is_whole" ["thing"] (spWhole K)) : Def P w K mg base CX0 2 "is_gift" ["gift", "many"] (spGiftX K) := by
  refine R.ok fun f fd F => F.ok sc_is_gift (fun vs H Q E h => ?_) (fun cdv A outer s H vs Q E hr h => ?_)
  · obtain ⟨z, m, b, rfl, _⟩ := h
    rfl
  · obtain ⟨z, m, b, rfl, h, q⟩ := h
    refine ⟨_, (pss_cons (ps_if (PW.pt (pw_or (pt_not (pt_val (pe_callB (r := rIsi K) call_isi (by rfl) T.n_isinstance (by decide +kernel) (pa_cons (pv 0) (pa_cons (pe_bltn (v := .ty "tuple") (u := .type "tuple") (by rfl) T.n_tuple (by decide +kernel) rfl) pa_nil))))) (pw_or (pt_cmpR op_ne (pe_callB (r := rLenS K) call_len_seq (by rfl) T.n_len PySem.boot_len (pa_cons (pv 0) pa_nil)) pe_int (nomark _)) (pw_or1 (pt_not (pt_val (pe_callB (r := rAll K) (cr_all rfl) (by rfl) T.n_all (by decide +kernel) (pa_cons (pe_lc (own := [("part", 2)]) (g := gName 2) rfl sc_is_gift.nd (pi_tup (pv 0)) (blkOk_by (own := [("part", 2)]) (N := ["gift", "many", "part"]) (sc := defScope s_is_gift) (by decide +kernel)) (fun _ _ _ _ _ => pg_name (i := 2) sc_is_gift.nd rfl (Or.inl rfl)) (fun _ _ _ _ _ => pts_nil) (fun _ _ _ _ _ => (pe_def d_is_whole hr (by decide) (by rfl) pass0 (pa_cons (pv 2) pa_nil)))) pa_nil))))))))
        (pss_cons (ps_ret pe_bl)
          pss_nil)
        pss_nil)
      (pss_cons (ps_ret (pe_and (pe_cmpR op_le pe_int (pe_callB (r := rMinT K) (Wk.cr_minT rfl hr.units) (by rfl) T.n_min (by decide +kernel) (pa_cons (pe_slice (r := rSlT K) sl_tup (pv 0) po_none (po_some pe_int)) pa_nil)) (nomark _)) (pe_and (pe_cmpR op_lt (pe_callB (r := rMaxT K) (Wk.cr_maxT rfl hr.units) (by rfl) T.n_max (by decide +kernel) (pa_cons (pe_slice (r := rSlT K) sl_tup (pv 0) po_none (po_some pe_int)) pa_nil)) (pv 1) (nomark _)) (pe_and (pe_cmpR op_ne (pe_ix (r := rIxT K) ix_tup (pv 0) pe_int (fun _ _ => rfl)) (pe_ix (r := rIxT K) ix_tup (pv 0) pe_int (fun _ _ => rfl)) (nomark _)) (pe_one (pe_cmpR op_gt (pe_ix (r := rIxT K) ix_tup (pv 0) pe_int (fun _ _ => rfl)) pe_int (nomark _)))))))
      pss_nil)), ?_⟩
    have all3 : ∀ {s : L2.St} {r : Addr} {xs : List V}, s[0]? = some (some (.ref r)) → H r = some (.tup xs) → xs.length = 3 → (∀ y ∈ xs, ∃ n, ValT K n y H) → s.length = 3 → EvL (tLc (iTup K (tVar 0)) (gName 2) tYes (tCall (spWhole K) [] E0 (tCons (tVar 2) tNil)) [2]) s H ((xs.map whV).map V.bl) := fun {s r xs} h0 hr hl hy hs => by
      rw [← map_bl]
      have hg : ∀ x : V, ((wipe s [2]).set 2 (some x))[2]? = some (some x) := fun x => by
        rw [List.getElem?_set_self (by rw [wipe_length, hs]; decide)]
      refine el_mapT xs id (fun y => V.bl (whV y)) (ev_var h0) (by rw [List.map_id]; exact hr) (by omega) (fun x => ?_) fun x hx => ?_
      · match s, hs with
        | [a, b, c], _ => rfl
      · obtain ⟨n, hv⟩ := hy x hx
        have h2 := ev_vwhole (K := K) (E := E0) (ev_var (hg x)) hv
        rw [wh_of hv] at h2
        exact h2
    rcases h with ⟨r, ⟨a, b, c⟩, rfl, hr0, rfl⟩ | ⟨rfl, h⟩
    · have hr1 : H r = some (.tup (([a, b, c] : List Int).map V.int)) := hr0
      have two : ∀ {s : L2.St}, s[0]? = some (some (.ref r)) → EvP (tSl (rSlT K) (tVar 0) tNoPart (tPart (tC (.int 2)))) s H (IsU (([a, b] : List Int).map V.int)) := fun h => eu_slice (lo := none) (hi := some 2) (ev_varU h hr1) eo_none (eo_some ev_c) (by intro z; have := z.2; simp [HT.sIx] at this)
      refine Sv.go (w_if (b := false) (et_is (et_or (et_not (et_B (ev_isi (b := true) (ev_var rfl) ev_c (.ty _) (.base (.tup hr0)) (kit_ty (by decide +kernel))))) fun _ => et_or (et_test (ev_op (ev_lenU (ev_varU rfl hr0)) ev_c (rv_ne rfl))) fun _ => et_not (et_B (ev_all (bs := [true, true, true]) (EvL.p ?_)))) ?_) (fun h => nomatch h) fun _ => w_nx fun H1 e1 => ?_)
      · exact all3 rfl hr0 rfl (fun y hy => ⟨"int", by
          have hy : y = .int a ∨ y = .int b ∨ y = .int c := by simpa [tupV] using hy
          rcases hy with rfl | rfl | rfl <;> exact valT_int _⟩) rfl
      · rfl
      · refine (w_ret (v := .bl (gOk m (a, b, c))) (ev_is (ev_andV (ev_op ev_c (ev_minT (two rfl) (by simp)) rv_I0) fun _ => ev_andV (ev_op (ev_maxT (two rfl) (by simp)) (ev_var rfl) rv_I0) fun _ => ev_andV (ev_op (ev_ixU (v := .int a) (ev_varU rfl hr0) ev_c rfl) (ev_ixU (v := .int b) (ev_varU rfl hr0) ev_c rfl) (rv_ne rfl)) fun _ => ev_op (ev_ixU (v := .int c) (ev_varU rfl hr0) ev_c rfl) ev_c rv_I0) ?_) fun H2 e2 => q H2 e2) H1 e1
        rw [intX_ne, mn2, mx2]
        congr 1
        rw [Bool.eq_iff_iff]
        unfold gOk
        simp only [Bool.and_eq_true, decide_eq_true_eq, Bool.not_eq_true', decide_eq_false_iff_not]
        constructor
        · rintro ⟨h1, h2, h3, h4⟩
          split at h1 <;> split at h2 <;> omega
        · rintro ⟨h1, h2, h3, h4, h5, h6⟩
          refine ⟨?_, ?_, h5, h6⟩ <;> split <;> omega
    · refine Sv.go (w_when (b := true) ?_ (fun _ => w_ret ev_c fun H1 e1 => q H1 e1) (fun h => nomatch h))
      rcases h with ⟨n, hv, hn⟩ | ⟨r, xs, rfl, hr0, hl⟩ | ⟨r, xs, rfl, hr0, hl, hy, hf⟩
      · refine et_is (et_or (et_not (et_B (ev_visi (ev_var rfl) hv (by simp)))) (b := true) fun h => ?_) ?_
        · rw [subT_tuple hn] at h
          cases h
        · rw [subT_tuple hn]
          rfl
      · refine et_is (et_or (et_not (et_B (ev_isi (b := true) (ev_var rfl) ev_c (.ty _) (.base (.tup hr0)) (kit_ty (by decide +kernel))))) fun _ => et_or (et_test (ev_op (ev_lenU (ev_varU rfl hr0)) ev_c (rv_ne rfl))) (b := true) fun h => ?_) ?_
        · have e : ¬ ((xs.length : Int) = 3) := by omega
          rw [intX_ne, decide_eq_false e] at h
          cases h
        · simp
      · refine et_is (et_or (et_not (et_B (ev_isi (b := true) (ev_var rfl) ev_c (.ty _) (.base (.tup hr0)) (kit_ty (by decide +kernel))))) fun _ => et_or (et_test (ev_op (ev_lenU (ev_varU rfl hr0)) ev_c (rv_ne rfl))) fun _ => et_not (et_B (ev_all (bs := xs.map whV) (EvL.p (all3 rfl hr0 hl hy rfl))))) ?_
        rw [hf]
        simp
/-! done -/
def runB : List Int → List T3 → Option (List Int)
  | l, [] => some l
  | l, g :: r => if (isSh ((stepL l g).getD g.1.toNat 0) && isSh ((stepL l g).getD g.2.1.toNat 0)) = true then runB (stepL l g) r else none
/-- what are no gifts of a row of so many -/
def BadGiftsV (K : PySem.W.Frag) (m : Nat) : V → Hp → Prop := fun y H => (∃ n, ValT K n y H ∧ n ≠ "list") ∨ (∃ a xs, ∃ f : V → Bool, y = .ref a ∧ H a = some (.lst xs) ∧ xs.length ≤ 10000 ∧ (∀ z ∈ xs, GiftV K (m : Int) z (f z) H) ∧ (xs.map f).all id = false)
instance {m : Nat} : MonoP (BadGiftsV K m) := ⟨fun e h => h.imp (fun ⟨n, h1, h2⟩ => ⟨n, MonoP.mono e h1, h2⟩) fun ⟨a, xs, f, h1, h2, h3, h4, h5⟩ => ⟨a, xs, f, h1, e _ _ h2, h3, (fun z hz => (h4 z hz).mono e), h5⟩⟩
/-- gifts of a row of so many, a list of tuples -/
def GsX (m : Nat) (gs : List T3) (y : V) (H : Hp) : Prop := ∃ l us, y = .ref l ∧ H l = some (.lst us) ∧ TupsAt (gs.map tupV) us H ∧ gs.length ≤ 10000 ∧ ∀ g ∈ gs, gOk (m : Int) g = true
theorem GsX.mono {m : Nat} {gs : List T3} {y : V} {H H' : Hp} (h : GsX m gs y H) (e : Ex H H') : GsX m gs y H' := let ⟨l, us, h1, h2, h3, h4, h5⟩ := h; ⟨l, us, h1, e _ _ h2, h3.ex e, h4, h5⟩
def spDoneX (K : PySem.W.Frag) (cB cG : Addr) : Sp := fun vs H Q E => ∃ x y, vs = [x, y] ∧ ((BadRowV K x H ∧ Err cB H E) ∨ (∃ ns, RowAt x ns H ∧ ((BadGiftsV K ns.length y H ∧ Err cG H E) ∨ (∃ gs, GsX ns.length gs y H ∧ ((∃ ms : List Int, runB ns gs = some ms ∧ RetL (ms.map V.int) H Q) ∨ (runB ns gs = none ∧ Err cG H E))))))
theorem drop_at2 {α : Type} {l : List α} {k : Nat} {x : α} (h : l[k]? = some x) : l.drop k = x :: l.drop (k + 1) := by
  obtain ⟨hk, e⟩ := List.getElem?_eq_some_iff.mp h
  rw [List.drop_eq_getElem_cons hk, e]
theorem defX_done (R : Raw K mg "done" s_done ["row", "gifts"]) (T : Txt K mg) (ER : Errs K mg cS cB cG cA cU cT) (x_check_row : Def P w K mg base (L2N.CX P w) 3 "check_row" ["row"] (spCheckRowX K cB)) (d_is_share : Def P w K mg base CX0 2 "is_share" ["thing"] (spShare K)) (d_is_gift : Def P w K mg base CX0 2 "is_gift" ["gift", "many"] (spGiftX K)) :
    Def P w K mg base (L2N.CX P w) 4 "done" ["row", "gifts"] (spDoneX K cB cG) := by
  refine R.ok fun f fd F => F.okN sc_done (fun vs H Q E h => ?_) (fun cdv A outer s H vs Q E hr h => ?_)
  · obtain ⟨x, y, rfl, _⟩ := h; rfl
  · obtain ⟨x, y, rfl, h⟩ := h
    refine ⟨_, (pss_cons (ps_expr (pe_def x_check_row hr (by decide) (by rfl) (L2N.passes_call (L2N.takes_of rfl rfl rfl rfl) (fun _ _ _ _ h => h)) (pa_cons (pv 0) pa_nil)))
      (pss_cons (ps_if (PW.pt (pw_or (pt_not (pt_val (pe_callB (r := rIsi K) call_isi (by rfl) T.n_isinstance (by decide +kernel) (pa_cons (pv 1) (pa_cons (pe_bltn (v := .ty "list") (u := .type "list") (by rfl) T.n_list (by decide +kernel) rfl) pa_nil))))) (pw_or1 (pt_not (pt_val (pe_callB (r := rAll K) (cr_all rfl) (by rfl) T.n_all (by decide +kernel) (pa_cons (pe_lc (own := [("gift", 6)]) (g := gName 6) rfl sc_done.nd (pi_list (pv 1)) (blkOk_by (own := [("gift", 6)]) (N := ["row", "gifts", "found", "giver", "taker", "amount", "gift"]) (sc := defScope s_done) (by decide +kernel)) (fun _ _ _ _ _ => pg_name (i := 6) sc_done.nd rfl (Or.inl rfl)) (fun _ _ _ _ _ => pts_nil) (fun _ _ _ _ _ => (pe_def d_is_gift hr (by decide) (by rfl) pass0 (pa_cons (pv 6) (pa_cons (pe_callB (r := rLenS K) call_len_seq (by rfl) T.n_len PySem.boot_len (pa_cons (pv 0) pa_nil)) pa_nil))))) pa_nil)))))))
        (pss_cons (L2N.ps_raise rfl (L2N.takes_of rfl rfl rfl rfl) (L2N.pmk_own PySem.F.excBase_ValueError ER.e_BadGifts.ex ER.e_BadGifts.g ER.e_BadGifts.kp (raises_own ER.e_BadGifts.sb ER.e_BadGifts.ty) rfl))
          pss_nil)
        pss_nil)
      (pss_cons (ps_set (i := 2) sc_done.nd rfl (Or.inl rfl) (pe_callTy (r := rListS K) call_list_of (by rfl) T.n_list (by decide +kernel) (pa_cons (pv 0) pa_nil)))
      (pss_cons (ps_for (passes_of rfl) rfl (pi_list (pv 1)) (pg_tup rfl (pgs_cons (pg_name (i := 3) sc_done.nd rfl (Or.inl rfl)) (pgs_cons (pg_name (i := 4) sc_done.nd rfl (Or.inl rfl)) (pgs_cons (pg_name (i := 5) sc_done.nd rfl (Or.inl rfl)) pgs_nil))))
        (pss_cons (ps_augS (pv 2) (pv 3) Wk.pget_list (pv 5) ip_sub set_list)
          (pss_cons (ps_augS (pv 2) (pv 4) Wk.pget_list (pv 5) ip_add set_list)
          (pss_cons (ps_if (PW.pt (pw_or (pt_not (pt_val (pe_def d_is_share hr (by decide) (by rfl) pass0 (pa_cons (pe_ix (r := rIxL K) ix_list (pv 2) (pv 3) (fun _ _ => rfl)) pa_nil)))) (pw_or1 (pt_not (pt_val (pe_def d_is_share hr (by decide) (by rfl) pass0 (pa_cons (pe_ix (r := rIxL K) ix_list (pv 2) (pv 4) (fun _ _ => rfl)) pa_nil)))))))
            (pss_cons (L2N.ps_raise rfl (L2N.takes_of rfl rfl rfl rfl) (L2N.pmk_own PySem.F.excBase_ValueError ER.e_BadGifts.ex ER.e_BadGifts.g ER.e_BadGifts.kp (raises_own ER.e_BadGifts.sb ER.e_BadGifts.ty) rfl))
              pss_nil)
            pss_nil)
          pss_nil))))
      (pss_cons (ps_ret (pv 2))
      pss_nil))))), ?_⟩
    rcases h with ⟨hx, er⟩ | ⟨ns, ⟨a, rfl, ha, hR, hz⟩, h⟩
    · exact Sv.go (w_dropX (evx_row (ev_var rfl) hx er))
    · refine Sv.go (w_drop (ev_rowok (ev_var rfl) ha hR) ?_)
      have gl : ∀ {l : Addr} {us : List V} (f : V → Bool), H l = some (.lst us) → us.length ≤ 10000 → (∀ z ∈ us, GiftV K (ns.length : Int) z (f z) H) → EvL (tLc (iList K (tVar 1)) (gName 6) tYes (tCall (spGiftX K) [] E0 (tCons (tVar 6) (tCons (tCB (rLenS K) (tCons (tVar 0) tNil)) tNil))) [6]) [some (.ref a), some (.ref l), none, none, none, none, none] H ((us.map f).map V.bl) := fun {l us} f hl hn hg => by
        rw [← map_bl]
        exact el_map us id (fun z => V.bl (f z)) (ev_var rfl) (by rw [List.map_id]; exact sq_of hl) (by omega) (fun _ => rfl) fun z hz => ev_call (dvs := []) (ea_cons (ev_var rfl) (ea_cons (ev_lenX rfl ha) ea_nil)) fun H1 e1 Q q E => ⟨z, _, f z, rfl, (hg z hz).mono e1, q⟩
      rcases h with ⟨hy, er⟩ | ⟨gs, ⟨l, us, rfl, hl, hts, hgz, hgo⟩, h⟩
      · refine w_when (b := true) ?_ (fun _ => w_raise er) (fun h => nomatch h)
        rcases hy with ⟨n, hv, hn⟩ | ⟨l, us, f, rfl, hl, hlen, hg, hf⟩
        · refine et_is (et_or (et_not (et_B (ev_visi (ev_var rfl) hv (by simp)))) (b := true) fun h => ?_) ?_
          · rw [subT_list hn] at h
            cases h
          · rw [subT_list hn]
            rfl
        · refine et_is (et_or (et_not (et_B (ev_isi (b := true) (ev_var rfl) ev_c (.ty _) (.base (.lst hl)) (kit_ty (by decide +kernel))))) fun _ => et_not (et_B (ev_all (bs := us.map f) (EvL.p (gl f hl hlen hg))))) ?_
          rw [hf]
          rfl
      · have hul : us.length = gs.length := by rw [hts.1, List.length_map]
        have get : ∀ {i : Nat} {v : V}, us[i]? = some v → ∃ g r, gs[i]? = some g ∧ v = .ref r ∧ H r = some (.tup (tupV g)) := fun {i v} hi => by
          obtain ⟨t, r, ht, ev, hr0⟩ := hts.at hi
          rw [List.getElem?_map] at ht
          obtain ⟨g, hg, rfl⟩ := Option.map_eq_some_iff.mp ht
          exact ⟨g, r, hg, ev, hr0⟩
        refine w_skip (et_is (et_or (et_not (et_B (ev_isi (b := true) (ev_var rfl) ev_c (.ty _) (.base (.lst hl)) (kit_ty (by decide +kernel))))) fun _ => et_not (et_B (ev_all (bs := us.map fun _ => true) (EvL.p (gl (fun _ => true) hl (by omega) fun z hz => ?_))))) ?_) ?_
        · obtain ⟨i, hi⟩ := List.mem_iff_getElem?.mp hz
          obtain ⟨g, r, hgi, rfl, hr0⟩ := get hi
          exact .inl ⟨r, g, rfl, hr0, (hgo g (List.mem_of_getElem? hgi)).symm⟩
        · rw [ints_all (fun _ _ => rfl)]
          rfl
        · refine w_asgL (el_listL (ev_var' rfl ha)) fun ps H1 nps e1 hps => ?_
          refine w_forG (ev_var rfl) (sq_of (e1 _ _ hl)) (fun i s' H' => ∃ (xs : List Int) (y3 y4 y5 : Option V), s' = [some (.ref a), some (.ref l), some (.ref ps), y3, y4, y5, none] ∧ Ex H H' ∧ H' ps = some (.lst (xs.map V.int)) ∧ xs.length = ns.length ∧ runB ns gs = runB xs (gs.drop i))
            (fun H2 e2 => ⟨ns, none, none, none, rfl, e1.trans e2, e2 _ _ hps, rfl, rfl⟩) (fun i s' H' hi ⟨_, _, _, _, _, ex, _⟩ => sq_of (ex _ _ hl)) ?_ ?_
          · rintro i v s' H' hi ⟨xs, y3, y4, y5, rfl, ex, hxs, hxl, hrun⟩
            obtain ⟨⟨ga, gb, gc⟩, r, hgi, rfl, hr0⟩ := get hi
            rw [drop_at2 hgi] at hrun
            obtain ⟨g1, g2, g3, g4, g5, g6⟩ := of_decide_eq_true (hgo _ (List.mem_of_getElem? hgi))
            simp only at g1 g2 g3 g4 g5 g6
            obtain ⟨na, rfl⟩ := Int.eq_ofNat_of_zero_le g1
            obtain ⟨nb, rfl⟩ := Int.eq_ofNat_of_zero_le g2
            have lna : na < xs.length := by omega
            have lnb : nb < xs.length := by omega
            refine g_tup3 (ex _ _ hr0) ?_
            refine (w_augS hxs (by rw [List.length_map, hxl]; omega) (ev_var rfl) (ev_var rfl) (int_at2 lna) (ev_var rfl) fun H2 p2 => ?_).go
            have ex2 := p2.ex ex nps
            have e2 : (xs.map V.int).set na (.int (xs.getD na 0 - gc)) = (step1 xs ((na : Int), (nb : Int), gc)).map V.int := by
              show _ = (xs.set (na : Int).toNat _).map V.int
              rw [List.map_set]
              rfl
            have p2n := p2.new
            rw [e2] at p2n
            have l1 : (step1 xs ((na : Int), (nb : Int), gc)).length = xs.length := by simp [step1]
            refine w_augS p2n (by rw [List.length_map, l1, hxl]; omega) (ev_var rfl) (ev_var rfl) (int_at2 (by omega)) (ev_var rfl) fun H3 p3 => ?_
            have ex3 := p3.ex ex2 nps
            have e3 : ((step1 xs ((na : Int), (nb : Int), gc)).map V.int).set nb (.int ((step1 xs ((na : Int), (nb : Int), gc)).getD nb 0 + gc)) = (stepL xs ((na : Int), (nb : Int), gc)).map V.int := by
              show _ = ((step1 xs ((na : Int), (nb : Int), gc)).set (nb : Int).toNat _).map V.int
              rw [List.map_set]
              rfl
            have p3n := p3.new
            rw [e3] at p3n
            have l2 := stepL_len xs ((na : Int), (nb : Int), gc)
            have shr : ∀ {j : Nat} {s : L2.St} {k : Nat}, s[2]? = some (some (.ref ps)) → s[k]? = some (some (.int (j : Int))) → j < xs.length → EvT (tNot (tB (tCall (spShare K) [] E (tCons (tOp (rIxL K) (tVar 2) (tVar k)) tNil)))) s H3 (!isSh ((stepL xs ((na : Int), (nb : Int), gc)).getD j 0)) := fun {j s k} h2 hk hj =>
              et_not (et_B (ev_vshare (ev_ixL (v := .int ((stepL xs ((na : Int), (nb : Int), gc)).getD j 0)) (ev_var' h2 p3n) (ev_var hk) (atI_nat (int_at2 (by omega)))) (valT_int _)))
            have hrun : runB ns gs = if (isSh ((stepL xs ((na : Int), (nb : Int), gc)).getD na 0) && isSh ((stepL xs ((na : Int), (nb : Int), gc)).getD nb 0)) = true then runB (stepL xs ((na : Int), (nb : Int), gc)) (gs.drop (i + 1)) else none := hrun
            refine w_when (et_or (shr rfl rfl lna) fun _ => shr rfl rfl lnb) (fun hb => ?_) fun hb => w_nx fun H4 e4 => ?_
            · have e : (isSh ((stepL xs ((na : Int), (nb : Int), gc)).getD na 0) && isSh ((stepL xs ((na : Int), (nb : Int), gc)).getD nb 0)) = false := (by decide : ∀ p q : Bool, (!p || !q) = true → (p && q) = false) _ _ hb
              rw [e] at hrun
              rcases h with ⟨ms, hm, _⟩ | ⟨_, er⟩
              · rw [hrun] at hm
                cases hm
              · exact w_raise (er.mono ex3)
            · have e : (isSh ((stepL xs ((na : Int), (nb : Int), gc)).getD na 0) && isSh ((stepL xs ((na : Int), (nb : Int), gc)).getD nb 0)) = true := (by decide : ∀ p q : Bool, (!p || !q) = false → (p && q) = true) _ _ hb
              rw [if_pos e] at hrun
              exact Exists.intro _ ⟨_, _, _, rfl, ex3.trans e4, e4 _ _ p3n, by omega, hrun⟩
          · rintro s' H' ⟨xs, y3, y4, y5, rfl, ex, hxs, hxl, hrun⟩
            have e0 : gs.drop us.length = [] := List.drop_of_length_le (by omega)
            rw [e0] at hrun
            rcases h with ⟨ms, hm, q⟩ | ⟨hm, _⟩
            · rw [hrun] at hm
              cases hm
              exact w_ret (ev_var rfl) fun H2 e2 => q ps H2 nps (ex.trans e2) (e2 _ _ hxs)
            · rw [hrun] at hm
              cases hm
end
end Ev

set_option Elab.async false
set_option linter.all false
set_option maxRecDepth 100000
set_option maxHeartbeats 4000000
namespace Ev
open PySem PySem.Spec L2 Evl Wk
/-! ### who is asked, what is told -/
structure KnownE (K : PySem.W.Frag) (cS cB cG cA cU cT C : Addr) (b0 b1 b2 b3 : Bool) : Prop where
  ex : PySem.W.exmOne K (.ref C) (.ref cS) = some true
  ec : ExcC K C
  k0 : PySem.W.kitOne K (.ref C) (.ref cB) = some b0
  k1 : PySem.W.kitOne K (.ref C) (.ref cG) = some b1
  k2 : PySem.W.kitOne K (.ref C) (.ref cA) = some b2
  k3 : PySem.W.kitOne K (.ref C) (.ref cU) = some b3
  k4 : PySem.W.kitOne K (.ref C) (.ref cT) = some false
  k5 : PySem.W.kitOne K (.ref C) (.type "ValueError") = some true
def kindsL (b0 b1 b2 b3 : Bool) : List Bool := [b0, b1, b2, b3, false, true]
/-- asked of two things, it raises C -/
def Asks (sp : Sp) (x y : V) (C : Addr) (H : Hp) : Prop := ∀ H1, Ex H H1 → ∀ (Q : VK) (E : XK), Err C H1 E → sp [x, y] H1 Q E
theorem Asks.mono {sp : Sp} {x y : V} {C : Addr} {H H' : Hp} (h : Asks sp x y C H) (e : Ex H H') : Asks sp x y C H' := fun H1 e1 => h H1 (e.trans e1)
def spThru (g : Sp) : Sp := fun vs H Q E => ∃ x y C, vs = [x, y] ∧ Asks g x y C H ∧ Err C H E
theorem asks_thru {g : Sp} {x y : V} {C : Addr} {H : Hp} (h : Asks g x y C H) : Asks (spThru g) x y C H := fun H1 e Q E er => ⟨x, y, C, rfl, h.mono e, er⟩
theorem evx_ask {sp : Sp} {x y : V} {C : Addr} {s : L2.St} {H : Hp} {E : XK} {ta tb : TE} (h1 : Ev ta s H x) (h2 : Ev tb s H y) (h : Asks sp x y C H) (er : Err C H E) : EvX (tCall sp [] E (tCons ta (tCons tb tNil))) s H :=
  evx_call (ap_two h1.p h2.p) fun vs H1 e1 ⟨v, z, ev, pv, pz⟩ Q => by
    rw [ev, pv, pz]
    exact h H1 e1 Q E (er.mono e1)
section
variable {P : Program} {w : World} {K : PySem.W.Frag} {mg : Str → Option Value} {base : Heap} {cS cB cG cA cU cT : Addr}
def spKinds (K : PySem.W.Frag) (cS cB cG cA cU cT : Addr) (p : Addr × Obj) : Sp := fun vs H Q _ => ∃ C b0 b1 b2 b3, vs = [.ref p.1] ∧ p.2.cls = .ref C ∧ p.2.dict = none ∧ (∃ us, p.2.data = .fields us) ∧ KnownE K cS cB cG cA cU cT C b0 b1 b2 b3 ∧ RetL ((kindsL b0 b1 b2 b3).map V.bl) H Q
def DefP (P : Program) (w : World) (K : PySem.W.Frag) (mg : Str → Option Value) (base : Heap) (k : Nat) (x : Str) (ps : List Str) (sp : Addr × Obj → Sp) : Prop := ∃ f fd, FnP P w K mg base k f fd ps sp ∧ mg x = some (.ref f) ∧ PySem.W.keepIn K (.ref f) = true ∧ Binds K fd ps []
theorem defX_law_kinds (R : Raw K mg "_law_kinds" s_law_kinds ["_law_error"]) (T : Txt K mg) (ER : Errs K mg cS cB cG cA cU cT) : DefP P w K mg base 1 "_law_kinds" ["_law_error"] (spKinds K cS cB cG cA cU cT) := by
  obtain ⟨f, fd, F, g, b⟩ := R
  refine ⟨f, fd, F.okP sc_law_kinds (fun p vs H Q E h => ?_) (fun cdv A outer s H vs Q E p h => ?_), g, F.kp, b⟩
  · obtain ⟨_, _, _, _, _, rfl, _⟩ := h
    rfl
  · obtain ⟨C, b0, b1, b2, b3, rfl, hc, hd, hf, KE, q⟩ := h
    refine ⟨_, (pss_cons (ps_set (i := 1) sc_law_kinds.nd rfl (Or.inl rfl) (pe_lst (pa_cons (pe_callB (r := rIsP K p.1 C) (call_isP KE.ec hc hd hf (List.mem_singleton.mpr rfl)) (by rfl) T.n_isinstance (by decide +kernel) (pa_cons (pv 0) (pa_cons (pe_glob (v := .ref _) rfl ER.g_BadRow rfl) pa_nil))) (pa_cons (pe_callB (r := rIsP K p.1 C) (call_isP KE.ec hc hd hf (List.mem_singleton.mpr rfl)) (by rfl) T.n_isinstance (by decide +kernel) (pa_cons (pv 0) (pa_cons (pe_glob (v := .ref _) rfl ER.g_BadGifts rfl) pa_nil))) (pa_cons (pe_callB (r := rIsP K p.1 C) (call_isP KE.ec hc hd hf (List.mem_singleton.mpr rfl)) (by rfl) T.n_isinstance (by decide +kernel) (pa_cons (pv 0) (pa_cons (pe_glob (v := .ref _) rfl ER.g_BadAmount rfl) pa_nil))) pa_nil)))))
      (pss_cons (ps_ret (pe_op op_cat (pv 1) (pe_lst (pa_cons (pe_callB (r := rIsP K p.1 C) (call_isP KE.ec hc hd hf (List.mem_singleton.mpr rfl)) (by rfl) T.n_isinstance (by decide +kernel) (pa_cons (pv 0) (pa_cons (pe_glob (v := .ref _) rfl ER.g_Unlike rfl) pa_nil))) (pa_cons (pe_callB (r := rIsP K p.1 C) (call_isP KE.ec hc hd hf (List.mem_singleton.mpr rfl)) (by rfl) T.n_isinstance (by decide +kernel) (pa_cons (pv 0) (pa_cons (pe_glob (v := .ref _) rfl ER.g_BadText rfl) pa_nil))) (pa_cons (pe_callB (r := rIsP K p.1 C) (call_isP KE.ec hc hd hf (List.mem_singleton.mpr rfl)) (by rfl) T.n_isinstance (by decide +kernel) (pa_cons (pv 0) (pa_cons (pe_bltn (v := .ty "ValueError") (u := .type "ValueError") (by rfl) T.n_ValueError (by decide +kernel) rfl) pa_nil))) pa_nil))))))
      pss_nil)), ?_⟩
    refine Sv.go (w_asgL (xs := [V.bl b0, V.bl b1, V.bl b2]) (el_lst (ea_cons (ev_isp (ev_var rfl) ev_c (.own _) KE.k0) (ea_cons (ev_isp (ev_var rfl) ev_c (.own _) KE.k1) (ea_cons (ev_isp (ev_var rfl) ev_c (.own _) KE.k2) ea_nil))) (by show 3 ≤ 100000; decide)) fun pf H1 nf e1 hpf => ?_)
    exact w_retL (el_cat (ev_var' rfl hpf) (EvL.p (el_lst (vs := [V.bl b3, V.bl false, V.bl true]) (ea_cons (ev_isp (ev_var rfl) ev_c (.own _) KE.k3) (ea_cons (ev_isp (ev_var rfl) ev_c (.own _) KE.k4) (ea_cons (ev_isp (ev_var rfl) ev_c (.ty _) KE.k5) ea_nil))) (by show 3 ≤ 100000; decide))) (by show 6 ≤ 100000; decide)) fun p H2 np e2 hp => q p H2 (fresh_back e1 np) (e1.trans e2) hp
/-! _law_told -/
def spKindsA (K : PySem.W.Frag) (cS cB cG cA cU cT a : Addr) (cls : Value) (d : Option Addr) : Sp := fun vs H Q _ => ∃ C b0 b1 b2 b3, vs = [.ref a] ∧ cls = .ref C ∧ d = none ∧ KnownE K cS cB cG cA cU cT C b0 b1 b2 b3 ∧ RetL ((kindsL b0 b1 b2 b3).map V.bl) H Q
def spTold (P : Program) (w : World) (K : PySem.W.Frag) (mg : Str → Option Value) (base : Heap) (cS cB cG cA cU cT : Addr) : Sp := fun vs H Q _ => ∃ f sp x y C b0 b1 b2 b3, vs = [.ref f, x, y] ∧ AskAt P w K mg base 6 f sp ∧ Asks sp x y C H ∧ KnownE K cS cB cG cA cU cT C b0 b1 b2 b3 ∧ RetL ((kindsL b0 b1 b2 b3).map V.bl) H Q
theorem def_law_told (R : Raw K mg "_law_told" s_law_told ["_law_ask", "_law_one", "_law_other_here"]) (T : Txt K mg) (ER : Errs K mg cS cB cG cA cU cT) (x_law_kinds : DefP P w K mg base 1 "_law_kinds" ["_law_error"] (spKinds K cS cB cG cA cU cT)) :
    Def P w K mg base CX0 7 "_law_told" ["_law_ask", "_law_one", "_law_other_here"] (spTold P w K mg base cS cB cG cA cU cT) := by
  obtain ⟨fk, fdk, Fk, gk, kk, bk⟩ := x_law_kinds
  refine R.ok fun f fd F => F.ok sc_law_told (fun vs H Q E h => ?_) (fun cdv A outer s H vs Q E hr h => ?_)
  · obtain ⟨_, _, _, _, _, _, _, _, _, rfl, _⟩ := h
    rfl
  · obtain ⟨f1, sp, x, y, C, b0, b1, b2, b3, rfl, ask, asks, KE, q⟩ := h
    refine ⟨_, pss_cons (L2N.ps_try_as (i := 3) (tb := fun W => tDrop (tCallI P w K mg base 6 0 W (tCons (tVar 1) (tCons (tVar 2) tNil)))) (ts := fun a cls d => tRet (tCall (spKindsA K cS cB cG cA cU cT a cls d) [] E0 (tCons (tVar 3) tNil))) (Wout := fun _ _ _ _ => False) rfl rfl sc_law_told.nd rfl rfl ⟨rfl, by decide, Or.inl ER.g_ShareError⟩ takesN0
        (fun W pn xe tk _ => pss_one (ps_expr (pe_callI hr rfl (Or.inl rfl) tk (pa_cons (pv 1) (pa_cons (pv 2) pa_nil)))))
        (fun a oe cls d pn hz hf => pss_one (ps_ret (pe_callP (p := (a, oe)) Fk ⟨(hr.mono (j := 1) (by decide)).dp, (hr.mono (j := 1) (by decide)).un⟩ ⟨rfl, let ⟨us, hu⟩ := hf; ⟨us, hu, hz.2.2 us hu⟩⟩ List.mem_cons_self rfl gk kk bk (pa_cons (pv 3) pa_nil)
          (fun vs H Q ⟨C, b0, b1, b2, b3, e1, e2, e3, KE, q⟩ => ⟨C, b0, b1, b2, b3, e1, hz.1.trans e2, hz.2.1.trans e3, hf, KE, q⟩)))))
      (pss_cons (ps_ret (pe_lst pa_nil)) pss_nil), ?_⟩
    refine ⟨f1, sp, rfl, ask, ⟨_, rfl, _, rfl, asks H (Ex.refl H) _ _ fun H1 e1 => ⟨true, KE.ex, fun _ a na => ⟨_, rfl, C, b0, b1, b2, b3, rfl, rfl, rfl, KE, fun p H2 np e2 hp => q p H2 (fresh_back e1 np) (e1.trans e2) hp⟩, fun z => nomatch z⟩⟩⟩
/-! those who are asked -/
theorem defX_law_with_gifts (R : Raw K mg "_law_with_gifts" s_law_with_gifts ["_law_row_here", "_law_gifts"]) (T : Txt K mg) (x_done : Def P w K mg base (L2N.CX P w) 4 "done" ["row", "gifts"] (spDoneX K cB cG)) : Def P w K mg base (L2N.CX P w) 5 "_law_with_gifts" ["_law_row_here", "_law_gifts"] (spThru (spDoneX K cB cG)) := by
  refine R.ok fun f fd F => F.okN sc_law_with_gifts (fun vs H Q E h => ?_) (fun cdv A outer s H vs Q E hr h => ?_)
  · obtain ⟨x, y, C, rfl, _⟩ := h; rfl
  · obtain ⟨x, y, C, rfl, h, er⟩ := h
    refine ⟨_, (pss_cons (ps_ret (pe_def x_done hr (by decide) (by rfl) (L2N.passes_call (L2N.takes_of rfl rfl rfl rfl) (fun _ _ _ _ h => h)) (pa_cons (pv 0) (pa_cons (pv 1) pa_nil))))
      pss_nil), ?_⟩
    exact Sv.go (w_retX (evx_ask (ev_var rfl) (ev_var rfl) h er))
theorem defX_law_with_two (R : Raw K mg "_law_with_two" s_law_with_two ["_law_one", "_law_other_here"]) (T : Txt K mg) (x_compared : Def P w K mg base (L2N.CX P w) 5 "compared" ["one", "other"] (spBad2 K cB cU)) : Def P w K mg base (L2N.CX P w) 6 "_law_with_two" ["_law_one", "_law_other_here"] (spThru (spBad2 K cB cU)) := by
  refine R.ok fun f fd F => F.okN sc_law_with_two (fun vs H Q E h => ?_) (fun cdv A outer s H vs Q E hr h => ?_)
  · obtain ⟨x, y, C, rfl, _⟩ := h; rfl
  · obtain ⟨x, y, C, rfl, h, er⟩ := h
    refine ⟨_, (pss_cons (ps_ret (pe_def x_compared hr (by decide) (by rfl) (L2N.passes_call (L2N.takes_of rfl rfl rfl rfl) (fun _ _ _ _ h => h)) (pa_cons (pv 0) (pa_cons (pv 1) pa_nil))))
      pss_nil), ?_⟩
    exact Sv.go (w_retX (evx_ask (ev_var rfl) (ev_var rfl) h er))
theorem defX_law_with_wholes (R : Raw K mg "_law_with_wholes" s_law_with_wholes ["_law_one", "_law_other_here"]) (T : Txt K mg) (x_under : Def P w K mg base (L2N.CX P w) 5 "under" ["one", "other"] (spUnderX K cB cU)) : Def P w K mg base (L2N.CX P w) 6 "_law_with_wholes" ["_law_one", "_law_other_here"] (spThru (spUnderX K cB cU)) := by
  refine R.ok fun f fd F => F.okN sc_law_with_wholes (fun vs H Q E h => ?_) (fun cdv A outer s H vs Q E hr h => ?_)
  · obtain ⟨x, y, C, rfl, _⟩ := h; rfl
  · obtain ⟨x, y, C, rfl, h, er⟩ := h
    refine ⟨_, (pss_cons (ps_ret (pe_def x_under hr (by decide) (by rfl) (L2N.passes_call (L2N.takes_of rfl rfl rfl rfl) (fun _ _ _ _ h => h)) (pa_cons (pv 0) (pa_cons (pv 1) pa_nil))))
      pss_nil), ?_⟩
    exact Sv.go (w_retX (evx_ask (ev_var rfl) (ev_var rfl) h er))
theorem defX_law_taken (R : Raw K mg "_law_taken" s_law_taken ["_law_row_here", "_law_amount"]) (T : Txt K mg) (x_taken : Def P w K mg base (L2N.CX P w) 4 "taken" ["row", "amount"] (spTakenX K cB cA takeF)) : Def P w K mg base (L2N.CX P w) 5 "_law_taken" ["_law_row_here", "_law_amount"] (spThru (spTakenX K cB cA takeF)) := by
  refine R.ok fun f fd F => F.okN sc_law_taken (fun vs H Q E h => ?_) (fun cdv A outer s H vs Q E hr h => ?_)
  · obtain ⟨x, y, C, rfl, _⟩ := h; rfl
  · obtain ⟨x, y, C, rfl, h, er⟩ := h
    refine ⟨_, (pss_cons (ps_ret (pe_def x_taken hr (by decide) (by rfl) (L2N.passes_call (L2N.takes_of rfl rfl rfl rfl) (fun _ _ _ _ h => h)) (pa_cons (pv 0) (pa_cons (pv 1) pa_nil))))
      pss_nil), ?_⟩
    exact Sv.go (w_retX (evx_ask (ev_var rfl) (ev_var rfl) h er))
theorem defX_law_poured (R : Raw K mg "_law_poured" s_law_poured ["_law_row_here", "_law_amount"]) (T : Txt K mg) (x_poured : Def P w K mg base (L2N.CX P w) 4 "poured" ["row", "amount"] (spTakenX K cB cA pourF)) : Def P w K mg base (L2N.CX P w) 5 "_law_poured" ["_law_row_here", "_law_amount"] (spThru (spTakenX K cB cA pourF)) := by
  refine R.ok fun f fd F => F.okN sc_law_poured (fun vs H Q E h => ?_) (fun cdv A outer s H vs Q E hr h => ?_)
  · obtain ⟨x, y, C, rfl, _⟩ := h; rfl
  · obtain ⟨x, y, C, rfl, h, er⟩ := h
    refine ⟨_, (pss_cons (ps_ret (pe_def x_poured hr (by decide) (by rfl) (L2N.passes_call (L2N.takes_of rfl rfl rfl rfl) (fun _ _ _ _ h => h)) (pa_cons (pv 0) (pa_cons (pv 1) pa_nil))))
      pss_nil), ?_⟩
    exact Sv.go (w_retX (evx_ask (ev_var rfl) (ev_var rfl) h er))
theorem defX_law_with_taken (R : Raw K mg "_law_with_taken" s_law_with_taken ["_law_one", "_law_other_here"]) (T : Txt K mg) (x_taken : Def P w K mg base (L2N.CX P w) 4 "taken" ["row", "amount"] (spTakenX K cB cA takeF)) : Def P w K mg base (L2N.CX P w) 5 "_law_with_taken" ["_law_one", "_law_other_here"] (spThru (spTakenX K cB cA takeF)) := by
  refine R.ok fun f fd F => F.okN sc_law_with_taken (fun vs H Q E h => ?_) (fun cdv A outer s H vs Q E hr h => ?_)
  · obtain ⟨x, y, C, rfl, _⟩ := h; rfl
  · obtain ⟨x, y, C, rfl, h, er⟩ := h
    refine ⟨_, (pss_cons (ps_ret (pe_def x_taken hr (by decide) (by rfl) (L2N.passes_call (L2N.takes_of rfl rfl rfl rfl) (fun _ _ _ _ h => h)) (pa_cons (pv 0) (pa_cons (pv 1) pa_nil))))
      pss_nil), ?_⟩
    exact Sv.go (w_retX (evx_ask (ev_var rfl) (ev_var rfl) h er))
theorem defX_law_with_poured (R : Raw K mg "_law_with_poured" s_law_with_poured ["_law_one", "_law_other_here"]) (T : Txt K mg) (x_poured : Def P w K mg base (L2N.CX P w) 4 "poured" ["row", "amount"] (spTakenX K cB cA pourF)) : Def P w K mg base (L2N.CX P w) 5 "_law_with_poured" ["_law_one", "_law_other_here"] (spThru (spTakenX K cB cA pourF)) := by
  refine R.ok fun f fd F => F.okN sc_law_with_poured (fun vs H Q E h => ?_) (fun cdv A outer s H vs Q E hr h => ?_)
  · obtain ⟨x, y, C, rfl, _⟩ := h; rfl
  · obtain ⟨x, y, C, rfl, h, er⟩ := h
    refine ⟨_, (pss_cons (ps_ret (pe_def x_poured hr (by decide) (by rfl) (L2N.passes_call (L2N.takes_of rfl rfl rfl rfl) (fun _ _ _ _ h => h)) (pa_cons (pv 0) (pa_cons (pv 1) pa_nil))))
      pss_nil), ?_⟩
    exact Sv.go (w_retX (evx_ask (ev_var rfl) (ev_var rfl) h er))
/-- whatever is asked by number, of what is no row -/
def spWithRow (K : PySem.W.Frag) (cB : Addr) : Sp := fun vs H Q E => ∃ (d : Int) (x : V), vs = [.int d, x] ∧ BadRowV K x H ∧ Err cB H E
theorem el_one {s : L2.St} {H : Hp} (i : Int) : EvL (tLst (tCons (tC (.int i)) tNil)) s H (([i] : List Int).map V.int) := el_lst (vs := [V.int i]) (ea_cons ev_c ea_nil) (by simp)
theorem rowOk_one {i : Int} (h : isSh i = true) : RowOk [i] := ⟨by simp, fun x hx => by rw [List.mem_singleton.mp hx]; exact h, by simp⟩
theorem defX_law_with_row (R : Raw K mg "_law_with_row" s_law_with_row ["_law_door", "_law_row_here"]) (T : Txt K mg) (x_rising_sums : Def P w K mg base (L2N.CX P w) 4 "rising_sums" ["row"] (spBad1 K cB)) (x_evenest : Def P w K mg base (L2N.CX P w) 4 "evenest" ["row"] (spBad1 K cB)) (x_written : Def P w K mg base (L2N.CX P w) 4 "written" ["row"] (spBad1 K cB))
    (x_above : Def P w K mg base (L2N.CX P w) 4 "above" ["row", "mark"] (spAboveX K cB cA)) (x_done : Def P w K mg base (L2N.CX P w) 4 "done" ["row", "gifts"] (spDoneX K cB cG)) (x_taken : Def P w K mg base (L2N.CX P w) 4 "taken" ["row", "amount"] (spTakenX K cB cA takeF)) (x_poured : Def P w K mg base (L2N.CX P w) 4 "poured" ["row", "amount"] (spTakenX K cB cA pourF))
    (x_compared : Def P w K mg base (L2N.CX P w) 5 "compared" ["one", "other"] (spBad2 K cB cU)) (x_under : Def P w K mg base (L2N.CX P w) 5 "under" ["one", "other"] (spUnderX K cB cU)) : Def P w K mg base (L2N.CX P w) 6 "_law_with_row" ["_law_door", "_law_row_here"] (spWithRow K cB) := by
  refine R.ok fun f fd F => F.okN sc_law_with_row (fun vs H Q E h => ?_) (fun cdv A outer s H vs Q E hr h => ?_)
  · obtain ⟨d, x, rfl, _⟩ := h; rfl
  · obtain ⟨d, x, rfl, hx, er⟩ := h
    refine ⟨_, (pss_cons (ps_if (pt_cmpR op_lt (pv 0) pe_int (nomark _))
        (pss_cons (ps_ret (pe_ifExp (pt_cmpR op_eq (pv 0) pe_int (nomark _)) (pe_def x_rising_sums hr (by decide) (by rfl) (L2N.passes_call (L2N.takes_of rfl rfl rfl rfl) (fun _ _ _ _ h => h)) (pa_cons (pv 1) pa_nil)) (pe_ifExp (pt_cmpR op_eq (pv 0) pe_int (nomark _)) (pe_def x_evenest hr (by decide) (by rfl) (L2N.passes_call (L2N.takes_of rfl rfl rfl rfl) (fun _ _ _ _ h => h)) (pa_cons (pv 1) pa_nil)) (pe_def x_written hr (by decide) (by rfl) (L2N.passes_call (L2N.takes_of rfl rfl rfl rfl) (fun _ _ _ _ h => h)) (pa_cons (pv 1) pa_nil)))))
          pss_nil)
        pss_nil)
      (pss_cons (ps_if (pt_cmpR op_lt (pv 0) pe_int (nomark _))
        (pss_cons (ps_ret (pe_ifExp (pt_cmpR op_eq (pv 0) pe_int (nomark _)) (pe_def x_above hr (by decide) (by rfl) (L2N.passes_call (L2N.takes_of rfl rfl rfl rfl) (fun _ _ _ _ h => h)) (pa_cons (pv 1) (pa_cons pe_non pa_nil))) (pe_ifExp (pt_cmpR op_eq (pv 0) pe_int (nomark _)) (pe_def x_done hr (by decide) (by rfl) (L2N.passes_call (L2N.takes_of rfl rfl rfl rfl) (fun _ _ _ _ h => h)) (pa_cons (pv 1) (pa_cons pe_non pa_nil))) (pe_def x_taken hr (by decide) (by rfl) (L2N.passes_call (L2N.takes_of rfl rfl rfl rfl) (fun _ _ _ _ h => h)) (pa_cons (pv 1) (pa_cons pe_non pa_nil))))))
          pss_nil)
        pss_nil)
      (pss_cons (ps_if (pt_cmpR op_lt (pv 0) pe_int (nomark _))
        (pss_cons (ps_ret (pe_ifExp (pt_cmpR op_eq (pv 0) pe_int (nomark _)) (pe_def x_poured hr (by decide) (by rfl) (L2N.passes_call (L2N.takes_of rfl rfl rfl rfl) (fun _ _ _ _ h => h)) (pa_cons (pv 1) (pa_cons (pe_un un_neg pe_int) pa_nil))) (pe_ifExp (pt_cmpR op_eq (pv 0) pe_int (nomark _)) (pe_def x_compared hr (by decide) (by rfl) (L2N.passes_call (L2N.takes_of rfl rfl rfl rfl) (fun _ _ _ _ h => h)) (pa_cons (pv 1) (pa_cons (pe_lst (pa_cons pe_int pa_nil)) pa_nil))) (pe_def x_compared hr (by decide) (by rfl) (L2N.passes_call (L2N.takes_of rfl rfl rfl rfl) (fun _ _ _ _ h => h)) (pa_cons (pe_lst (pa_cons pe_int pa_nil)) (pa_cons (pv 1) pa_nil))))))
          pss_nil)
        pss_nil)
      (pss_cons (ps_ret (pe_ifExp (pt_cmpR op_eq (pv 0) pe_int (nomark _)) (pe_def x_under hr (by decide) (by rfl) (L2N.passes_call (L2N.takes_of rfl rfl rfl rfl) (fun _ _ _ _ h => h)) (pa_cons (pv 1) (pa_cons (pe_lst (pa_cons pe_int pa_nil)) pa_nil))) (pe_def x_under hr (by decide) (by rfl) (L2N.passes_call (L2N.takes_of rfl rfl rfl rfl) (fun _ _ _ _ h => h)) (pa_cons (pe_lst (pa_cons pe_int pa_nil)) (pa_cons (pv 1) pa_nil)))))
      pss_nil)))), ?_⟩
    have one : ∀ {s : L2.St}, s[1]? = some (some x) → EvX (tCall (spBad1 K cB) [] E (tCons (tVar 1) tNil)) s H := fun h => evx_call (ap_one (ev_var h).p) fun vs H1 e1 ⟨v, ev, pv⟩ Q => ⟨x, by rw [ev, pv], MonoP.mono e1 hx, er.mono e1⟩
    have two : ∀ {s : L2.St} {sp : Sp} {te : TE} {y : V}, s[1]? = some (some x) → Ev te s H y → Asks sp x y cB H → EvX (tCall sp [] E (tCons (tVar 1) (tCons te tNil))) s H := fun h1 h2 h => evx_ask (ev_var h1) h2 h er
    have l1 : ∀ {s : L2.St} {sp : Sp}, s[1]? = some (some x) → (∀ y H1, Ex H H1 → ∀ Q, sp [x, y] H1 Q E) → EvX (tCall sp [] E (tCons (tVar 1) (tCons (tLst (tCons (tC (.int 0)) tNil)) tNil))) s H := fun h1 h => evx_call (ap_two (ev_var h1).p (EvL.p (el_one 0))) fun vs H1 e1 ⟨v, z, ev, pv, pz⟩ Q => by
      rw [ev, pv]
      exact h _ H1 e1 Q
    have l2 : ∀ {s : L2.St} {sp : Sp}, s[1]? = some (some x) → (∀ y H1, Ex H H1 → RowAt y [0] H1 → ∀ Q, sp [y, x] H1 Q E) → EvX (tCall sp [] E (tCons (tLst (tCons (tC (.int 0)) tNil)) (tCons (tVar 1) tNil))) s H := fun h1 h => evx_call (ap_two (EvL.p (el_one 0)) (ev_var h1).p) fun vs H1 e1 ⟨v, z, ev, ⟨p, pv, hp⟩, pz⟩ Q => by
      rw [ev, pz]
      exact h _ H1 e1 ⟨p, pv, hp, rowOk_one (by decide), by decide⟩ Q
    have cmp : ∀ {ta tb : TE} {i j : Int} {s : L2.St}, Ev ta s H (.int i) → Ev tb s H (.int j) → EvT (tTest (tOp rEq ta tb)) s H (decide (V.int i = V.int j)) := fun h1 h2 => et_test (ev_op h1 h2 (rv_eq rfl))
    refine Sv.go (w_when (et_test (ev_op (ev_var rfl) ev_c rv_I0)) (fun _ => w_retX (evx_ifB (cmp (ev_var rfl) ev_c) (fun _ => one rfl) fun _ => evx_ifB (cmp (ev_var rfl) ev_c) (fun _ => one rfl) fun _ => one rfl)) fun _ => w_when (et_test (ev_op (ev_var rfl) ev_c rv_I0)) (fun _ => w_retX (evx_ifB (cmp (ev_var rfl) ev_c) (fun _ => two rfl ev_c fun H1 e1 Q E er => ⟨_, _, rfl, .inl ⟨MonoP.mono e1 hx, er⟩⟩) fun _ => evx_ifB (cmp (ev_var rfl) ev_c) (fun _ => two rfl ev_c fun H1 e1 Q E er => ⟨_, _, rfl, .inl ⟨MonoP.mono e1 hx, er⟩⟩) fun _ => two rfl ev_c fun H1 e1 Q E er => ⟨_, _, rfl, .inl ⟨MonoP.mono e1 hx, er⟩⟩))
      fun _ => w_when (et_test (ev_op (ev_var rfl) ev_c rv_I0)) (fun _ => w_retX (evx_ifB (cmp (ev_var rfl) ev_c) (fun _ => two rfl (ev_un ev_c ru_neg) fun H1 e1 Q E er => ⟨_, _, rfl, .inl ⟨MonoP.mono e1 hx, er⟩⟩) fun _ => evx_ifB (cmp (ev_var rfl) ev_c) (fun _ => l1 rfl fun y H1 e1 Q => ⟨_, _, rfl, .inl ⟨MonoP.mono e1 hx, er.mono e1⟩⟩) fun _ => l2 rfl fun y H1 e1 hy Q => ⟨_, _, rfl, .inr ⟨_, hy, .inl ⟨MonoP.mono e1 hx, er.mono e1⟩⟩⟩))
      fun _ => w_retX (evx_ifB (cmp (ev_var rfl) ev_c) (fun _ => l1 rfl fun y H1 e1 Q => ⟨_, _, rfl, .inl (.inl ⟨MonoP.mono e1 hx, er.mono e1⟩)⟩) fun _ => l2 rfl fun y H1 e1 hy Q => ⟨_, _, rfl, .inl (.inr ⟨_, hy, .inl ⟨MonoP.mono e1 hx, er.mono e1⟩⟩)⟩))
/-- of the row 5, 3 -/
def BadTake (K : PySem.W.Frag) (F : List Int → Int → List Int) (y : V) (H : Hp) : Prop := BadAmtV K y H ∨ ∃ m : Int, y = .int m ∧ 0 ≤ m ∧ m ≤ 1000000000 ∧ m ≠ 0 ∧ ((F [5, 3] m).map isSh).all id = false
theorem BadTake.mono {F : List Int → Int → List Int} {y : V} {H H' : Hp} (h : BadTake K F y H) (e : Ex H H') : BadTake K F y H' := h.imp (fun h => MonoP.mono e h) id
def spWithAmount (K : PySem.W.Frag) (cA : Addr) : Sp := fun vs H Q E => ∃ (d : Int) (y : V), vs = [.int d, y] ∧ ((d = 0 ∧ BadTake K takeF y H) ∨ (d = 1 ∧ BadTake K pourF y H) ∨ (d = 2 ∧ ∃ n, ValT K n y H ∧ n ≠ "int")) ∧ Err cA H E
theorem defX_law_with_amount (R : Raw K mg "_law_with_amount" s_law_with_amount ["_law_door", "_law_thing"]) (T : Txt K mg) (x_above : Def P w K mg base (L2N.CX P w) 4 "above" ["row", "mark"] (spAboveX K cB cA)) (x_taken : Def P w K mg base (L2N.CX P w) 4 "taken" ["row", "amount"] (spTakenX K cB cA takeF)) (x_poured : Def P w K mg base (L2N.CX P w) 4 "poured" ["row", "amount"] (spTakenX K cB cA pourF)) :
    Def P w K mg base (L2N.CX P w) 5 "_law_with_amount" ["_law_door", "_law_thing"] (spWithAmount K cA) := by
  refine R.ok fun f fd F => F.okN sc_law_with_amount (fun vs H Q E h => ?_) (fun cdv A outer s H vs Q E hr h => ?_)
  · obtain ⟨d, x, rfl, _⟩ := h; rfl
  · obtain ⟨d, y, rfl, h, er⟩ := h
    refine ⟨_, (pss_cons (ps_ret (pe_ifExp (pt_cmpR op_eq (pv 0) pe_int (nomark _)) (pe_def x_taken hr (by decide) (by rfl) (L2N.passes_call (L2N.takes_of rfl rfl rfl rfl) (fun _ _ _ _ h => h)) (pa_cons (pe_lst (pa_cons pe_int (pa_cons pe_int pa_nil))) (pa_cons (pv 1) pa_nil))) (pe_ifExp (pt_cmpR op_eq (pv 0) pe_int (nomark _)) (pe_def x_poured hr (by decide) (by rfl) (L2N.passes_call (L2N.takes_of rfl rfl rfl rfl) (fun _ _ _ _ h => h)) (pa_cons (pe_lst (pa_cons pe_int (pa_cons pe_int pa_nil))) (pa_cons (pv 1) pa_nil))) (pe_def x_above hr (by decide) (by rfl) (L2N.passes_call (L2N.takes_of rfl rfl rfl rfl) (fun _ _ _ _ h => h)) (pa_cons (pe_lst (pa_cons pe_int (pa_cons pe_int pa_nil))) (pa_cons (pv 1) pa_nil))))))
      pss_nil), ?_⟩
    have l2 : ∀ {s : L2.St} {sp : Sp}, s[1]? = some (some y) → (∀ x H1, Ex H H1 → RowAt x [5, 3] H1 → ∀ Q, sp [x, y] H1 Q E) → EvX (tCall sp [] E (tCons (tLst (tCons (tC (.int 5)) (tCons (tC (.int 3)) tNil))) (tCons (tVar 1) tNil))) s H := fun h1 h => evx_call (ap_two (EvL.p (el_lst (vs := ([5, 3] : List Int).map V.int) (ea_cons ev_c (ea_cons ev_c ea_nil)) (by show 2 ≤ 100000; decide))) (ev_var h1).p) fun vs H1 e1 ⟨v, z, ev, ⟨p, pv, hp⟩, pz⟩ Q => by
      rw [ev, pz]
      exact h _ H1 e1 ⟨p, pv, hp, ⟨by simp, by decide, by decide⟩, by decide⟩ Q
    have tk : ∀ {F : List Int → Int → List Int} {x : V} {H1 : Hp} {Q : VK}, BadTake K F y H → Ex H H1 → RowAt x [5, 3] H1 → spTakenX K cB cA F [x, y] H1 Q E := fun h e1 hx => ⟨_, _, rfl, .inr ⟨_, hx, (h.mono e1).elim (fun h => .inl ⟨h, er.mono e1⟩) fun ⟨m, h1, h2, h3, h4, h5⟩ => .inr ⟨m, h1, h2, h3, .inr ⟨h4, h5, er.mono e1⟩⟩⟩⟩
    refine Sv.go (w_retX (evx_ifB (et_test (ev_op (ev_var rfl) ev_c (rv_eq rfl))) (fun hb => l2 rfl fun x H1 e1 hx Q => ?_) fun hb => evx_ifB (et_test (ev_op (ev_var rfl) ev_c (rv_eq rfl))) (fun hb1 => l2 rfl fun x H1 e1 hx Q => ?_) fun hb1 => l2 rfl fun x H1 e1 hx Q => ?_))
    · have hd : d = 0 := by simpa using hb
      rcases h with ⟨_, h⟩ | ⟨h, _⟩ | ⟨h, _⟩
      · exact tk h e1 hx
      · omega
      · omega
    · have hd : d = 1 := by simpa using hb1
      rcases h with ⟨h, _⟩ | ⟨_, h⟩ | ⟨h, _⟩
      · omega
      · exact tk h e1 hx
      · omega
    · have hd0 : d ≠ 0 := by simpa using hb
      have hd1 : d ≠ 1 := by simpa using hb1
      rcases h with ⟨h, _⟩ | ⟨h, _⟩ | ⟨_, n, hv, hn⟩
      · exact absurd h hd0
      · exact absurd h hd1
      · exact ⟨_, _, rfl, .inr ⟨_, hx, .inl ⟨n, MonoP.mono e1 hv, hn, er.mono e1⟩⟩⟩
/-! _law_all -/
def dBl (bs : List Bool) : PyData := .list (bs.map PyData.bool)
theorem bls_dp {H : Hp} : ∀ bs : List Bool, DpAll K H (bs.map V.bl) (bs.map PyData.bool)
  | [] => .nil
  | b :: r => .cons (.bl b) (bls_dp r)
theorem isL_bl {x : V} {H : Hp} {bs : List Bool} : IsL (bs.map V.bl) x H → IsD K (dBl bs) x H := fun ⟨p, e, hp⟩ => by
  subst e
  exact .lst (sq_of hp) (bls_dp bs)
theorem dBl_lay0 : ∀ bs : List Bool, PyData.canLayAll0 (bs.map PyData.bool) = true
  | [] => by simp [PyData.canLayAll0]
  | b :: r => by simp [PyData.canLayAll0, PyData.canLay0, dBl_lay0 r]
theorem dBl_depth : ∀ bs : List Bool, PyData.depthAll (bs.map PyData.bool) = 0
  | [] => by simp [PyData.depthAll]
  | b :: r => by simp [PyData.depthAll, PyData.depth, dBl_depth r]
theorem dBl_shaped (bs : List Bool) : SeqAt.shaped (dBl bs) = true := by
  simp [SeqAt.shaped, dBl, PyData.canLay0, PyData.depth, dBl_lay0, dBl_depth]
theorem dBl_self : ∀ bs : List Bool, PyData.eqvAll (bs.map PyData.bool) (bs.map PyData.bool) = true
  | [] => by simp [PyData.eqvAll]
  | b :: r => by simp [PyData.eqvAll, PyData.eqv, dBl_self r]
theorem dBl_eqv (bs : List Bool) : PyData.eqv (dBl bs) (dBl bs) = true := by
  show PyData.eqv (.list _) (.list _) = true
  rw [PyData.eqv, dBl_self]
theorem ev_eqB {s : L2.St} {H : Hp} {ta tb : TE} {bs : List Bool} (ha : EvP ta s H (IsL (bs.map V.bl))) (hb : EvP tb s H (IsL (bs.map V.bl))) : Ev (tOp (rEqD K) ta tb) s H (.bl true) := by
  rw [← dBl_eqv bs]
  exact ev_eqD (ha.imp fun _ _ _ p => isL_bl p) (hb.imp fun _ _ _ p => isL_bl p) (dBl_shaped bs) (dBl_shaped bs)
theorem ev_neB {s : L2.St} {H : Hp} {ta tb : TE} {bs : List Bool} (ha : EvP ta s H (IsL (bs.map V.bl))) (hb : EvP tb s H (IsL (bs.map V.bl))) : Ev (tOp (rNeD K) ta tb) s H (.bl false) := by
  have h := ev_neD (K := K) (ha.imp fun _ _ _ p => isL_bl p) (hb.imp fun _ _ _ p => isL_bl p) (dBl_shaped bs) (dBl_shaped bs)
  rw [dBl_eqv] at h
  exact h
/-- a call of _law_told -/
theorem el_told {s : L2.St} {H : Hp} {ta tb tc : TE} {f : Addr} {sp : Sp} {x y : V} {C : Addr} {b0 b1 b2 b3 : Bool} (ha : Ev ta s H (.ref f)) (hb : Ev tb s H x) (hc : Ev tc s H y) (ask : AskAt P w K mg base 6 f sp) (asks : Asks sp x y C H) (KE : KnownE K cS cB cG cA cU cT C b0 b1 b2 b3) :
    EvL (tCall (spTold P w K mg base cS cB cG cA cU cT) [] E0 (tCons ta (tCons tb (tCons tc tNil)))) s H ((kindsL b0 b1 b2 b3).map V.bl) :=
  el_callP (ap_three ha.p hb.p hc.p) fun vs H1 e1 ⟨u, v, z, ev, pu, pv, pz⟩ Q q => ⟨f, sp, x, y, C, b0, b1, b2, b3, by rw [ev, pu, pv, pz], ask, asks.mono e1, KE, q⟩
def spAll (P : Program) (w : World) (K : PySem.W.Frag) (mg : Str → Option Value) (base : Heap) (cS cB cG cA cU cT : Addr) : Sp := fun vs H Q _ => ∃ f sp pd pt pu ds ts C b0 b1 b2 b3, vs = [.ref f, .ref pd, .ref pt, .ref pu] ∧ H pd = some (.lst ds) ∧ H pt = some (.lst ts) ∧ H pu = some (.lst ((kindsL b0 b1 b2 b3).map V.bl)) ∧ ds.length ≤ 10000 ∧ ts.length ≤ 10000 ∧
  AskAt P w K mg base 6 f sp ∧ (∀ d ∈ ds, ∀ t ∈ ts, Asks sp d t C H) ∧ KnownE K cS cB cG cA cU cT C b0 b1 b2 b3 ∧ RetV (.bl true) H Q
theorem def_law_all (R : Raw K mg "_law_all" s_law_all ["_law_ask", "_law_doors", "_law_things", "_law_due"]) (T : Txt K mg) (d_law_told : Def P w K mg base CX0 7 "_law_told" ["_law_ask", "_law_one", "_law_other_here"] (spTold P w K mg base cS cB cG cA cU cT)) :
    Def P w K mg base CX0 8 "_law_all" ["_law_ask", "_law_doors", "_law_things", "_law_due"] (spAll P w K mg base cS cB cG cA cU cT) := by
  refine R.ok fun f fd F => F.ok sc_law_all (fun vs H Q E h => ?_) (fun cdv A outer s H vs Q E hr h => ?_)
  · obtain ⟨_, _, _, _, _, _, _, _, _, _, _, _, rfl, _⟩ := h
    rfl
  · obtain ⟨f1, sp, pd, pt, pu, ds, ts, C, b0, b1, b2, b3, rfl, hd, ht, hu, hdz, htz, ask, asks, KE, q⟩ := h
    refine ⟨_, (pss_cons (ps_for PassesOwn.never rfl (pi_list (pv 1)) (pg_name (i := 4) sc_law_all.nd rfl (Or.inr rfl))
        (pss_cons (ps_if (pt_not (pt_val (pe_callB (r := rAll K) (cr_all rfl) (by rfl) T.n_all (by decide +kernel) (pa_cons (pe_lc (own := [("_law_thing", 5)]) (g := gName 5) rfl sc_law_all.nd (pi_list (pv 2)) (blkOk_by (own := [("_law_thing", 5)]) (N := ["_law_ask", "_law_doors", "_law_things", "_law_due", "_law_door", "_law_thing"]) (sc := defScope s_law_all) (by decide +kernel)) (fun _ _ _ _ _ => pg_name (i := 5) sc_law_all.nd rfl (Or.inl rfl)) (fun _ _ _ _ _ => pts_nil) (fun _ _ _ _ _ => (pe_cmpR (r := rEqD K) (op_eqD hr.units) (pe_def d_law_told hr (by decide) (by rfl) pass0 (pa_cons (pv 0) (pa_cons (pv 4) (pa_cons (pv 5) pa_nil)))) (pv 3) (nomark _)))) pa_nil))))
            (pss_cons (ps_ret pe_bl)
              pss_nil)
            pss_nil)
          pss_nil))
      (pss_cons (ps_ret pe_bl)
      pss_nil)), ?_⟩
    refine Sv.go (w_forL (ev_var rfl) (sq_of hd) (fun i s' H' => ∃ y, s' = [some (.ref f1), some (.ref pd), some (.ref pt), some (.ref pu), y, none] ∧ Ex H H') (fun H2 e2 => ⟨none, rfl, e2⟩) (fun i s' H' hi ⟨y, _, ex⟩ => sq_of (ex _ _ hd)) ?_ ?_)
    · rintro i x s' H' hi ⟨y, rfl, ex⟩
      have hx := List.mem_of_getElem? hi
      refine w_skip (et_is (et_not (et_B (ev_all (bs := ts.map fun _ => true) (EvL.p ?_)))) ?_) (w_nx fun H2 e2 => Exists.intro _ ⟨rfl, ex.trans e2⟩)
      · rw [← map_bl]
        exact el_map ts id (fun _ => V.bl true) (ev_var rfl) (by rw [List.map_id]; exact sq_of (ex _ _ ht)) (by omega) (fun _ => rfl) fun t hm => ev_eqB (EvL.p (el_told (ev_var rfl) (ev_var rfl) (ev_var rfl) ask ((asks x hx t hm).mono ex) KE)) (ev_var' rfl (ex _ _ hu))
      · rw [ints_all (fun _ _ => rfl)]
        rfl
    · rintro s' H' ⟨y, rfl, ex⟩
      exact w_ret ev_c fun H2 e2 => q H2 (ex.trans e2)
end
end Ev

set_option Elab.async false
set_option linter.all false
set_option maxRecDepth 100000
set_option maxHeartbeats 4000000
namespace Ev
open Wk
/-! ### taken and given, as far as law 7 asks -/
def cnt (L : Int) (ns : List Int) : Int := ((ns.filter fun x => decide (L < x)).length : Nat)
theorem cnt_nil (L : Int) : cnt L [] = 0 := rfl
theorem cnt_cons (L x : Int) (r : List Int) : cnt L (x :: r) = (if L < x then 1 else 0) + cnt L r := by
  unfold cnt
  by_cases h : L < x
  · simp [List.filter_cons, h]; omega
  · simp [List.filter_cons, h]
theorem cnt_nn (L : Int) (r : List Int) : 0 ≤ cnt L r := by unfold cnt; omega
theorem over_nil (L : Int) : overF [] L = 0 := rfl
theorem over_cons (L x : Int) (r : List Int) : overF (x :: r) L = (if L < x then x - L else 0) + overF r L := by
  unfold overF
  by_cases h : L < x
  · simp [List.filter_cons, h]
  · simp [List.filter_cons, h]
theorem over_cnt (L : Int) : ∀ r : List Int, cnt L r ≤ overF r L
  | [] => by simp [cnt_nil, over_nil]
  | x :: r => by
    have ih := over_cnt L r
    rw [cnt_cons, over_cons]
    split <;> omega
theorem over_nn (L : Int) (r : List Int) : 0 ≤ overF r L := Int.le_trans (cnt_nn L r) (over_cnt L r)
theorem over_succ (L : Int) : ∀ r : List Int, overF r (L + 1) = overF r L - cnt L r
  | [] => rfl
  | x :: r => by
    have ih := over_succ L r
    rw [cnt_cons, over_cons, over_cons, ih]
    by_cases h : L < x
    · by_cases h2 : L + 1 < x
      · simp only [h, h2, if_true]; omega
      · have : x = L + 1 := by omega
        simp only [h, h2, if_true, if_false]; omega
    · have h2 : ¬ L + 1 < x := by omega
      simp only [h, h2, if_false]; omega
theorem cnt_pos_of_over {L : Int} : ∀ {r : List Int}, 0 < overF r L → 0 < cnt L r
  | [], h => by rw [over_nil] at h; omega
  | x :: r, h => by
    rw [over_cons] at h
    rw [cnt_cons]
    by_cases hx : L < x
    · have := cnt_nn L r
      simp only [hx, if_true]; omega
    · simp only [hx, if_false] at h ⊢
      have := cnt_pos_of_over (L := L) (r := r) (by omega)
      omega
theorem cutR_snd (L : Int) : ∀ (left : Int) (r : List Int), 0 ≤ left → (cutR L left r).2 = (if cnt L r ≤ left then left - cnt L r else 0)
  | left, [], h => by simp [cutR, cnt_nil, h]
  | left, x :: r, h => by
    have ih := cutR_snd L left r h
    have hn := cnt_nn L r
    rw [cnt_cons]
    unfold cutR
    by_cases hx : L < x
    · simp only [hx, if_true]
      by_cases hc : cnt L r ≤ left
      · simp only [hc, if_true] at ih
        by_cases h2 : 0 < (cutR L left r).2
        · simp only [h2, if_true]
          have h3 : 1 + cnt L r ≤ left := by omega
          simp only [h3, if_true]
          omega
        · simp only [h2, if_false]
          have h3 : ¬ (1 + cnt L r ≤ left) := by omega
          simp only [h3, if_false]
          omega
      · simp only [hc, if_false] at ih
        have h2 : ¬ (0 < (cutR L left r).2) := by omega
        have h3 : ¬ (1 + cnt L r ≤ left) := by omega
        simp only [h2, h3, if_false]
        exact ih
    · simp only [hx, if_false, Int.zero_add]
      exact ih
theorem cutR_none (L : Int) : ∀ (r : List Int), (cutR L 0 r).1 = r.map fun x => if L < x then L else x
  | [] => rfl
  | x :: r => by
    have ih := cutR_none L r
    have h2 := cutR_snd L 0 r (Int.le_refl _)
    have hn := cnt_nn L r
    have h3 : ¬ (0 < (cutR L 0 r).2) := by
      rw [h2]
      split <;> omega
    by_cases hx : L < x
    · simp [cutR, hx, h3, ih]
    · simp [cutR, hx, ih]
theorem over_perm {a b : List Int} (p : a.Perm b) (t : Int) : overF a t = overF b t := by
  induction p with
  | nil => rfl
  | cons x _ ih => rw [over_cons, over_cons, ih]
  | swap x y l => rw [over_cons, over_cons, over_cons, over_cons]; omega
  | trans _ _ ih1 ih2 => rw [ih1, ih2]
theorem take_le_over (t : Int) : ∀ (s : List Int) (j : Nat), j ≤ s.length → (s.take j).sum - (j : Int) * t ≤ overF s t
  | s, 0, _ => by
    have := over_nn t s
    simpa using this
  | [], j + 1, h => by simp at h
  | x :: s, j + 1, h => by
    have ih := take_le_over t s j (by simpa using h)
    rw [List.take_succ_cons, List.sum_cons, over_cons]
    have e : ((j + 1 : Nat) : Int) * t = (j : Int) * t + t := by rw [Int.natCast_add, Int.add_mul]; simp
    rw [e]
    split <;> omega
theorem over_zero {t : Int} : ∀ {s : List Int}, (∀ x ∈ s, x ≤ t) → overF s t = 0
  | [], _ => rfl
  | x :: s, h => by
    have h1 := h x List.mem_cons_self
    rw [over_cons, if_neg (by omega), over_zero fun y hy => h y (List.mem_cons_of_mem _ hy)]
    rfl
theorem over_take (t : Int) : ∀ (s : List Int), s.Pairwise (· ≥ ·) → ∃ j, j ≤ s.length ∧ overF s t = (s.take j).sum - (j : Int) * t
  | [], _ => ⟨0, Nat.le_refl _, by simp [over_nil]⟩
  | x :: s, h => by
    have hc := List.pairwise_cons.mp h
    by_cases hx : t < x
    · obtain ⟨j, hj, e⟩ := over_take t s hc.2
      refine ⟨j + 1, by simpa using hj, ?_⟩
      rw [List.take_succ_cons, List.sum_cons, over_cons, if_pos hx, e]
      have e : ((j + 1 : Nat) : Int) * t = (j : Int) * t + t := by rw [Int.natCast_add, Int.add_mul]; simp
      rw [e]
      omega
    · refine ⟨0, Nat.zero_le _, ?_⟩
      rw [over_zero fun y hy => ?_]
      · simp
      · rcases List.mem_cons.mp hy with rfl | hy
        · omega
        · have := hc.1 y hy
          omega
theorem runs_get : ∀ (t : Int) (l : List Int) (k : Nat), k < l.length → (runs t l).getD k 0 = t + (l.take (k + 1)).sum
  | t, [], k, h => by simp at h
  | t, x :: l, 0, h => by simp [runs]
  | t, x :: l, k + 1, h => by
    have ih := runs_get (t + x) l k (by simpa using h)
    show (runs (t + x) l).getD k 0 = _
    rw [ih, List.take_succ_cons, List.sum_cons]
    omega
theorem le_mx {l : List Int} (h : l ≠ []) (t : Int) : t ≤ mx l ↔ ∃ y ∈ l, t ≤ y :=
  ⟨fun h2 => ⟨mx l, mx_mem h, h2⟩, fun ⟨y, hy, h2⟩ => Int.le_trans h2 (mx_ge hy)⟩
theorem level_iff {ns : List Int} (hne : ns ≠ []) {m : Int} (hm : 1 ≤ m) (t : Int) : t ≤ levelF ns m ↔ m ≤ overF ns t := by
  have hl : (srtD ns).length = ns.length := srtD_len ns
  have hpos : 0 < ns.length := List.length_pos_iff.mpr hne
  have hne2 : ((List.range ns.length).map fun k => ((runs 0 (srtD ns)).getD k 0 - m) / ((k : Int) + 1)) ≠ [] := by
    intro h
    have := congrArg List.length h
    simp at this
    exact hne this
  unfold levelF
  rw [le_mx hne2, ← over_perm (srtD_perm ns) t]
  constructor
  · rintro ⟨y, hy, h2⟩
    obtain ⟨k, hk, rfl⟩ := List.mem_map.mp hy
    have hk2 : k < ns.length := List.mem_range.mp hk
    rw [runs_get _ _ _ (by omega), Int.zero_add] at h2
    have h3 := (Int.le_ediv_iff_mul_le (by omega : (0 : Int) < (k : Int) + 1)).mp h2
    have h4 := take_le_over t (srtD ns) (k + 1) (by omega)
    have e : ((k + 1 : Nat) : Int) * t = t * ((k : Int) + 1) := by rw [Int.mul_comm]; simp
    rw [e] at h4
    omega
  · intro h2
    obtain ⟨j, hj, e⟩ := over_take t (srtD ns) (srtD_ge ns)
    cases j with
    | zero =>
      simp at e
      omega
    | succ k =>
      refine ⟨_, List.mem_map.mpr ⟨k, List.mem_range.mpr (by omega), rfl⟩, ?_⟩
      rw [runs_get _ _ _ (by omega), Int.zero_add]
      refine (Int.le_ediv_iff_mul_le (by omega : (0 : Int) < (k : Int) + 1)).mpr ?_
      have e2 : ((k + 1 : Nat) : Int) * t = t * ((k : Int) + 1) := by rw [Int.mul_comm]; simp
      rw [e2] at e
      omega
theorem level_state {ns : List Int} (hne : ns ≠ []) {m : Int} (hm : 1 ≤ m) : m ≤ overF ns (levelF ns m) ∧ overF ns (levelF ns m) - m < cnt (levelF ns m) ns := by
  have h1 := (level_iff hne hm (levelF ns m)).mp (Int.le_refl _)
  have h2 : ¬ m ≤ overF ns (levelF ns m + 1) := fun h => by
    have := (level_iff hne hm _).mpr h
    omega
  rw [over_succ] at h2
  omega
theorem negs_negs (ns : List Int) : negs (negs ns) = ns := by
  unfold negs
  rw [List.map_map]
  conv => rhs; rw [← List.map_id ns]
  refine List.map_congr_left fun x _ => ?_
  show - -x = x
  omega
theorem pour_take (ns : List Int) (m : Int) : pourF ns m = negs (takeF (negs ns) m) := by
  unfold pourF takeF
  split
  · rw [negs_negs]
  · rfl

theorem cutR_sum (L left : Int) : ∀ r : List Int, (cutR L left r).1.sum = r.sum - overF r L + (left - (cutR L left r).2)
  | [] => by simp [cutR, over_nil]
  | x :: r => by
    have ih := cutR_sum L left r
    rw [over_cons]
    unfold cutR
    by_cases h : L < x
    · rw [if_pos h, if_pos h]
      by_cases h2 : 0 < (cutR L left r).2
      · rw [if_pos h2]
        simp only [List.sum_cons]
        omega
      · rw [if_neg h2]
        simp only [List.sum_cons]
        omega
    · rw [if_neg h, if_neg h]
      simp only [List.sum_cons]
      omega
theorem takeF_all {ns : List Int} (hne : ns ≠ []) {m : Int} (hm : 1 ≤ m) : (takeF ns m).sum = ns.sum - m := by
  obtain ⟨h1, h2⟩ := level_state hne hm
  have e : takeF ns m = lowF ns m := if_neg (by omega)
  rw [e]
  unfold lowF
  rw [cutR_sum, cutR_snd _ _ _ (by omega), if_neg (by omega)]
  omega
theorem sumX_ge {c : Int} : ∀ {l : List Int}, (∀ x ∈ l, c ≤ x) → (l.length : Int) * c ≤ l.sum
  | [], _ => by simp
  | x :: l, h => by
    have ih := sumX_ge fun y hy => h y (List.mem_cons_of_mem _ hy)
    have h1 := h x List.mem_cons_self
    rw [List.sum_cons, List.length_cons]
    have e : ((l.length + 1 : Nat) : Int) * c = (l.length : Int) * c + c := by rw [Int.natCast_add, Int.add_mul]; simp
    rw [e]
    omega
theorem takeX_len (ns : List Int) (m : Int) : (takeF ns m).length = ns.length := by
  unfold takeF
  split
  · rfl
  · exact lowF_len ns m
theorem all_sh {l : List Int} (h : (l.map isSh).all id = true) : ∀ x ∈ l, isSh x = true := fun x hx => List.all_eq_true.mp h _ (List.mem_map.mpr ⟨x, hx, rfl⟩)
theorem take_beyond {ns : List Int} (hne : ns ≠ []) {m : Int} (hm : 1 ≤ m) (h : ns.sum - m < (ns.length : Int) * -1000000) : ((takeF ns m).map isSh).all id = false := by
  cases e : ((takeF ns m).map isSh).all id with
  | false => rfl
  | true =>
    have h1 := sumX_ge (c := -1000000) fun x hx => (isSh_iff.mp (all_sh e x hx)).1
    rw [takeX_len, takeF_all hne hm] at h1
    omega
theorem isSh_neg (x : Int) : isSh (-x) = isSh x := by
  rw [Bool.eq_iff_iff, isSh_iff, isSh_iff]
  omega
theorem negs_sh (l : List Int) : (negs l).map isSh = l.map isSh := by
  unfold negs
  rw [List.map_map]
  exact List.map_congr_left fun x _ => isSh_neg x
theorem negs_sum : ∀ l : List Int, (negs l).sum = -l.sum
  | [] => rfl
  | x :: l => by
    have ih := negs_sum l
    show -x + (negs l).sum = _
    rw [ih, List.sum_cons]
    omega
theorem pour_beyond {ns : List Int} (hne : ns ≠ []) {m : Int} (hm : 1 ≤ m) (h : (ns.length : Int) * 1000000 < ns.sum + m) : ((pourF ns m).map isSh).all id = false := by
  rw [pour_take, negs_sh]
  have e : (negs ns).length = ns.length := List.length_map _
  exact take_beyond (ns := negs ns) (fun e => hne (List.map_eq_nil_iff.mp e)) hm (by rw [negs_sum, e]; omega)
theorem take_flat {ns : List Int} (hne : ns ≠ []) {m L : Int} (hm : 1 ≤ m) (h : overF ns L = m) : takeF ns m = ns.map fun x => if L < x then L else x := by
  have h1 : L ≤ levelF ns m := (level_iff hne hm L).mpr (by omega)
  have h2 : ¬ L + 1 ≤ levelF ns m := fun h3 => by
    have h4 := (level_iff hne hm (L + 1)).mp h3
    have h5 := cnt_pos_of_over (L := L) (r := ns) (by omega)
    rw [over_succ] at h4
    omega
  have e : takeF ns m = lowF ns m := if_neg (by omega)
  have eL : levelF ns m = L := by omega
  rw [e]
  unfold lowF
  rw [eL, h, Int.sub_self]
  exact cutR_none L ns
theorem over_rep (c t : Int) (h : t < c) : ∀ n : Nat, overF (List.replicate n c) t = (n : Int) * (c - t)
  | 0 => by simp [over_nil]
  | n + 1 => by
    rw [List.replicate_succ, over_cons, if_pos h, over_rep c t h n]
    have e : ((n + 1 : Nat) : Int) * (c - t) = (n : Int) * (c - t) + (c - t) := by rw [Int.natCast_add, Int.add_mul]; simp
    rw [e]
    omega
theorem take_rep {n : Nat} {c d m : Int} (hn : 0 < n) (hd : 1 ≤ d) (hm : m = (n : Int) * d) : takeF (List.replicate n c) m = List.replicate n (c - d) := by
  have h0 : (1 : Int) * 1 ≤ (n : Int) * d := Int.mul_le_mul (by omega) hd (by omega) (by omega)
  rw [take_flat (L := c - d) (by intro e; rw [List.replicate_eq_nil_iff] at e; omega) (by omega) ?_]
  · rw [List.map_replicate]
    congr 1
    rw [if_pos (by omega)]
  · rw [over_rep c (c - d) (by omega), hm]
    congr 1
    omega
theorem negs_rep (n : Nat) (c : Int) : negs (List.replicate n c) = List.replicate n (-c) := by
  unfold negs
  rw [List.map_replicate]
theorem pour_rep {n : Nat} {c d m : Int} (hn : 0 < n) (hd : 1 ≤ d) (hm : m = (n : Int) * d) : pourF (List.replicate n c) m = List.replicate n (c + d) := by
  rw [pour_take, negs_rep, take_rep hn hd hm, negs_rep]
  congr 1
  omega
end Ev

set_option Elab.async false
set_option linter.all false
set_option maxRecDepth 100000
set_option maxHeartbeats 4000000
namespace Ev
open PySem PySem.Spec L2 Evl Wk
/-! ### at the bounds -/
theorem flat_rep {α : Type} (x : α) : ∀ n : Nat, (List.replicate n [x]).flatten = List.replicate n x
  | 0 => rfl
  | n + 1 => by rw [List.replicate_succ, List.flatten_cons, flat_rep x n]; rfl
theorem rowOk_rep {n : Nat} {c : Int} (h0 : 0 < n) (h1 : n ≤ 100000) (h : isSh c = true) : RowOk (List.replicate n c) := ⟨by intro e; rw [List.replicate_eq_nil_iff] at e; omega, fun x hx => by rw [(List.mem_replicate.mp hx).2]; exact h, by rw [List.length_replicate]; exact h1⟩
section
variable {P : Program} {w : World} {K : PySem.W.Frag} {mg : Str → Option Value} {base : Heap} {cS cB cG cA cU cT : Addr} {s : L2.St} {H : Hp} {te ta tb tc : TE} {E : XK}
/-- [c] * n -/
theorem el_repI {c n : Int} (h : Ev te s H (.int c)) (h0 : 0 ≤ n) (h1 : n ≤ 1000) : EvL (tOp rRep (tLst (tCons te tNil)) (tC (.int n))) s H ((List.replicate n.toNat c).map V.int) := by
  have h2 := el_rep (ta := tLst (tCons te tNil)) (EvL.p (el_lst (vs := [V.int c]) (ea_cons h ea_nil) (by simp))) (ev_c (v := .int n)) h0 (by omega) (by simp only [List.length_cons, List.length_nil]; omega)
  rw [flat_rep] at h2
  rw [List.map_replicate]
  exact h2
theorem rowAt_of {v : V} {ns : List Int} (h : IsL (ns.map V.int) v H) (hR : RowOk ns) (hz : ns.length ≤ 10000) : RowAt v ns H := let ⟨p, pv, hp⟩ := h; ⟨p, pv, hp, hR, hz⟩
/-- _law_told, asked of what is told by a word -/
theorem el_toldP {PB PC : V → Hp → Prop} [MonoP PB] {f : Addr} {sp : Sp} {C : Addr} {b0 b1 b2 b3 : Bool} (ha : Ev ta s H (.ref f)) (hb : EvP tb s H PB) (hc : EvP tc s H PC) (ask : AskAt P w K mg base 6 f sp) (asks : ∀ x y H1, Ex H H1 → PB x H1 → PC y H1 → Asks sp x y C H1) (KE : KnownE K cS cB cG cA cU cT C b0 b1 b2 b3) :
    EvL (tCall (spTold P w K mg base cS cB cG cA cU cT) [] E0 (tCons ta (tCons tb (tCons tc tNil)))) s H ((kindsL b0 b1 b2 b3).map V.bl) :=
  el_callP (ap_three ha.p hb hc) fun vs H1 e1 ⟨u, v, z, ev, pu, pv, pz⟩ Q q => ⟨f, sp, v, z, C, b0, b1, b2, b3, by rw [ev, pu], ask, asks v z H1 e1 pv pz, KE, q⟩
/-- told: just what is due -/
theorem et_toldP {PB PC : V → Hp → Prop} [MonoP PB] {td : TE} {f : Addr} {sp : Sp} {C : Addr} {b0 b1 b2 b3 : Bool} (ha : Ev ta s H (.ref f)) (hb : EvP tb s H PB) (hc : EvP tc s H PC) (hd : EvP td s H (IsL ((kindsL b0 b1 b2 b3).map V.bl))) (ask : AskAt P w K mg base 6 f sp) (asks : ∀ x y H1, Ex H H1 → PB x H1 → PC y H1 → Asks sp x y C H1) (KE : KnownE K cS cB cG cA cU cT C b0 b1 b2 b3) :
    EvT (tTest (tOp (rNeD K) (tCall (spTold P w K mg base cS cB cG cA cU cT) [] E0 (tCons ta (tCons tb (tCons tc tNil)))) td)) s H false := et_test (ev_neB (EvL.p (el_toldP ha hb hc ask asks KE)) hd)
/-- tuples in a list -/
theorem evp_oneU {xs : List V} (h1 : EvU ta s H xs) : EvP (tLst (tCons ta tNil)) s H (fun v H2 => ∃ p x, v = .ref p ∧ H p = none ∧ H2 p = some (.lst [V.ref x]) ∧ H2 x = some (.tup xs)) := fun H1 e Q q =>
  h1 H1 e _ fun x H2 nx e2 hx => ⟨by show 1 ≤ sizeLine; decide, fun p hp => by
    have n2 : x ≠ p := ne_of_none hx hp
    exact q _ _ (e2.trans (Ex.new hp)) ⟨p, x, rfl, fresh_back (e.trans e2) hp, upd_same, by rw [upd_ne n2]; exact hx⟩⟩
theorem evp_twoU {xs ys : List V} (h1 : EvU ta s H xs) (h2 : EvU tb s H ys) : EvP (tLst (tCons ta (tCons tb tNil))) s H (fun v H2 => ∃ p x y, v = .ref p ∧ H2 p = some (.lst [V.ref x, V.ref y]) ∧ H2 x = some (.tup xs) ∧ H2 y = some (.tup ys)) := fun H1 e Q q =>
  h1 H1 e _ fun x H2 nx e2 hx => h2 H2 (e.trans e2) _ fun y H3 ny e3 hy => ⟨by show 2 ≤ sizeLine; decide, fun p hp => by
    have hx3 := e3 _ _ hx
    have n2 : x ≠ p := ne_of_none hx3 hp
    have n3 : y ≠ p := ne_of_none hy hp
    exact q _ _ ((e2.trans e3).trans (Ex.new hp)) ⟨p, x, y, rfl, upd_same, by rw [upd_ne n2]; exact hx3, by rw [upd_ne n3]; exact hy⟩⟩
theorem evp_pairs {a b c d : V} {t1 t2 t3 t4 : TE} (h1 : Ev t1 s H a) (h2 : Ev t2 s H b) (h3 : Ev t3 s H c) (h4 : Ev t4 s H d) :
    EvP (tLst (tCons (tTup (tCons t1 (tCons t2 tNil))) (tCons (tTup (tCons t3 (tCons t4 tNil))) tNil))) s H (fun v H2 => ∃ p x y, v = .ref p ∧ H2 p = some (.lst [V.ref x, V.ref y]) ∧ H2 x = some (.tup [a, b]) ∧ H2 y = some (.tup [c, d])) :=
  evp_twoU (eu_tup (vs := [a, b]) (ea_cons h1 (ea_cons h2 ea_nil)) (by show 2 ≤ 100000; decide)) (eu_tup (vs := [c, d]) (ea_cons h3 (ea_cons h4 ea_nil)) (by show 2 ≤ 100000; decide))
/-- the gifts of a list of one, of two -/
theorem evp_gs1 {a b c : Int} {m : Nat} (h1 : Ev ta s H (.int a)) (h2 : Ev tb s H (.int b)) (h3 : Ev tc s H (.int c)) (hg : gOk (m : Int) (a, b, c) = true) : EvP (tLst (tCons (tTup (tCons ta (tCons tb (tCons tc tNil)))) tNil)) s H (GsX m [(a, b, c)]) :=
  (evp_oneU (eu_tup (vs := tupV (a, b, c)) (ea_cons h1 (ea_cons h2 (ea_cons h3 ea_nil))) (by show 3 ≤ 100000; decide))).imp fun v H2 _ ⟨p, x, ev, _, hp, hx⟩ => ⟨p, _, ev, hp, .one hx, by simp, fun g hg2 => by rw [List.mem_singleton.mp hg2]; exact hg⟩
theorem evp_gs2 {a b c d e f : Int} {m : Nat} {t1 t2 t3 t4 t5 t6 : TE} (h1 : Ev t1 s H (.int a)) (h2 : Ev t2 s H (.int b)) (h3 : Ev t3 s H (.int c)) (h4 : Ev t4 s H (.int d)) (h5 : Ev t5 s H (.int e)) (h6 : Ev t6 s H (.int f)) (hg : gOk (m : Int) (a, b, c) = true) (hh : gOk (m : Int) (d, e, f) = true) :
    EvP (tLst (tCons (tTup (tCons t1 (tCons t2 (tCons t3 tNil)))) (tCons (tTup (tCons t4 (tCons t5 (tCons t6 tNil)))) tNil))) s H (GsX m [(a, b, c), (d, e, f)]) :=
  (evp_twoU (eu_tup (vs := tupV (a, b, c)) (ea_cons h1 (ea_cons h2 (ea_cons h3 ea_nil))) (by show 3 ≤ 100000; decide)) (eu_tup (vs := tupV (d, e, f)) (ea_cons h4 (ea_cons h5 (ea_cons h6 ea_nil))) (by show 3 ≤ 100000; decide))).imp fun v H2 _ ⟨p, x, y, ev, hp, hx, hy⟩ =>
    ⟨p, _, ev, hp, TupsAt.app (.one hx) (.one hy), by simp, fun g hg2 => by
      rcases List.mem_cons.mp hg2 with rfl | hg2
      · exact hg
      · rw [List.mem_singleton.mp hg2]; exact hh⟩
instance {m : Nat} {gs : List T3} : MonoP (GsX m gs) := ⟨fun e h => h.mono e⟩
instance {ns : List Int} : MonoP (fun x H => RowAt x ns H) := ⟨fun e h => h.mono e⟩
/-- a call of done, as law 7 has it -/
theorem el_done {ns ms : List Int} {gs : List T3} (ha : EvP ta s H (IsL (ns.map V.int))) (hb : EvP tb s H (GsX ns.length gs)) (hR : RowOk ns) (hz : ns.length ≤ 10000) (hm : runB ns gs = some ms) : EvL (tCall (spDoneX K cB cG) [] E (tCons ta (tCons tb tNil))) s H (ms.map V.int) :=
  el_callP (ap_two ha hb) fun vs H1 e1 ⟨v, z, ev, pv, pz⟩ Q q => ⟨v, z, ev, .inr ⟨ns, rowAt_of pv hR hz, .inr ⟨gs, pz, .inl ⟨ms, hm, q⟩⟩⟩⟩
theorem el_taken {F : List Int → Int → List Int} {ns : List Int} {m : Int} (ha : EvP ta s H (IsL (ns.map V.int))) (hb : Ev tb s H (.int m)) (hR : RowOk ns) (hz : ns.length ≤ 10000) (h0 : 0 ≤ m) (h1 : m ≤ 1000000000) (h2 : ∀ x ∈ F ns m, isSh x = true) : EvL (tCall (spTakenX K cB cA F) [] E (tCons ta (tCons tb tNil))) s H ((F ns m).map V.int) :=
  el_callP (ap_two ha hb.p) fun vs H1 e1 ⟨v, z, ev, pv, pz⟩ Q q => ⟨v, z, ev, .inr ⟨ns, rowAt_of pv hR hz, .inr ⟨m, pz, h0, h1, .inl ⟨h2, q⟩⟩⟩⟩
theorem asks_amt {F : List Int → Int → List Int} {x : V} {ns : List Int} {m : Int} (hx : RowAt x ns H) (hm : ¬ (0 ≤ m ∧ m ≤ 1000000000)) : Asks (spThru (spTakenX K cB cA F)) x (.int m) cA H := asks_thru fun H1 e1 Q E er => ⟨_, _, rfl, .inr ⟨ns, hx.mono e1, .inl ⟨.inr ⟨m, rfl, hm⟩, er⟩⟩⟩
theorem asks_out {F : List Int → Int → List Int} {x : V} {ns : List Int} {m : Int} (hx : RowAt x ns H) (h0 : 1 ≤ m) (h1 : m ≤ 1000000000) (h : ((F ns m).map isSh).all id = false) : Asks (spThru (spTakenX K cB cA F)) x (.int m) cA H := asks_thru fun H1 e1 Q E er => ⟨_, _, rfl, .inr ⟨ns, hx.mono e1, .inr ⟨m, rfl, by omega, h1, .inr ⟨by omega, h, er⟩⟩⟩⟩
theorem all_rep {n : Nat} {c : Int} (h : isSh c = true) : ∀ x ∈ List.replicate n c, isSh x = true := fun x hx => by rw [(List.mem_replicate.mp hx).2]; exact h
def spEdges (cA : Addr) : Sp := fun vs H Q _ => ∃ pu, vs = [.ref pu] ∧ H pu = some (.lst ((kindsL false false true false).map V.bl)) ∧ RetV (.bl true) H Q
theorem askAt_of {k : Nat} {x : Str} {ps : List Str} {sp : Sp} (d : Def P w K mg base (L2N.CX P w) k x ps sp) (h : k ≤ 6) : ∃ f, mg x = some (.ref f) ∧ AskAt P w K mg base 6 f sp := by
  obtain ⟨f, fd, F, g, kp, b⟩ := d
  exact ⟨f, g, ⟨fd, ps, F.mono h, kp, b⟩⟩
theorem def_law_edges_right (R : Raw K mg "_law_edges_right" s_law_edges_right ["_law_due"]) (T : Txt K mg) (KA : KnownE K cS cB cG cA cU cT cA false false true false) (d_law_told : Def P w K mg base CX0 7 "_law_told" ["_law_ask", "_law_one", "_law_other_here"] (spTold P w K mg base cS cB cG cA cU cT))
    (x_taken : Def P w K mg base (L2N.CX P w) 4 "taken" ["row", "amount"] (spTakenX K cB cA takeF)) (x_poured : Def P w K mg base (L2N.CX P w) 4 "poured" ["row", "amount"] (spTakenX K cB cA pourF))
    (x_law_taken : Def P w K mg base (L2N.CX P w) 5 "_law_taken" ["_law_row_here", "_law_amount"] (spThru (spTakenX K cB cA takeF))) (x_law_poured : Def P w K mg base (L2N.CX P w) 5 "_law_poured" ["_law_row_here", "_law_amount"] (spThru (spTakenX K cB cA pourF))) :
    Def P w K mg base CX0 8 "_law_edges_right" ["_law_due"] (spEdges cA) := by
  obtain ⟨f1, g_law_taken, ask1⟩ := askAt_of x_law_taken (by decide)
  obtain ⟨f2, g_law_poured, ask2⟩ := askAt_of x_law_poured (by decide)
  refine R.ok fun f fd F => F.ok sc_law_edges_right (fun vs H Q E h => ?_) (fun cdv A outer s H vs Q E hr h => ?_)
  · obtain ⟨pu, rfl, _⟩ := h; rfl
  · obtain ⟨pu, rfl, hu, q⟩ := h
    refine ⟨_, (pss_cons (ps_par (i := 1) (j := 2) rfl sc_law_edges_right.nd rfl rfl (by decide) rfl rfl (pa_cons (pe_op op_rep (pe_lst (pa_cons (pe_un un_neg pe_int) pa_nil)) pe_int) (pa_cons (pe_op op_rep (pe_lst (pa_cons pe_int pa_nil)) pe_int) pa_nil)) (by rfl))
      (pss_cons (ps_if (PW.pt (pw_or (pt_cmpR (r := rNeD K) (op_neD hr.units) (pe_def x_taken hr (by decide) (by rfl) passN (pa_cons (pv 2) (pa_cons pe_int pa_nil))) (pv 1) (nomark _)) (pw_or1 (pt_cmpR (r := rNeD K) (op_neD hr.units) (pe_def x_poured hr (by decide) (by rfl) passN (pa_cons (pv 1) (pa_cons pe_int pa_nil))) (pv 2) (nomark _)))))
        (pss_cons (ps_ret pe_bl)
          pss_nil)
        pss_nil)
      (pss_cons (ps_for PassesOwn.never rfl (pi_list (pe_lst (pa_cons (pe_tup (pa_cons (pe_glob (v := .ref _) rfl g_law_taken rfl) (pa_cons pe_int pa_nil))) (pa_cons (pe_tup (pa_cons (pe_glob (v := .ref _) rfl g_law_poured rfl) (pa_cons (pe_un un_neg pe_int) pa_nil))) pa_nil)))) (pg_tup rfl (pgs_cons (pg_name (i := 3) sc_law_edges_right.nd rfl (Or.inl rfl)) (pgs_cons (pg_name (i := 4) sc_law_edges_right.nd rfl (Or.inl rfl)) pgs_nil)))
        (pss_cons (ps_if (PW.pt (pw_or (pt_cmpR (r := rNeD K) (op_neD hr.units) (pe_def d_law_told hr (by decide) (by rfl) pass0 (pa_cons (pv 3) (pa_cons (pe_op op_rep (pe_lst (pa_cons (pv 4) pa_nil)) pe_int) (pa_cons pe_int pa_nil)))) (pv 0) (nomark _)) (pw_or1 (pt_cmpR (r := rNeD K) (op_neD hr.units) (pe_def d_law_told hr (by decide) (by rfl) pass0 (pa_cons (pv 3) (pa_cons (pe_lst (pa_cons (pe_un un_neg (pv 4)) pa_nil)) (pa_cons pe_int pa_nil)))) (pv 0) (nomark _)))))
            (pss_cons (ps_ret pe_bl)
              pss_nil)
            pss_nil)
          pss_nil))
      (pss_cons (ps_ret pe_bl)
      pss_nil)))), ?_⟩
    have eL : ∀ {s : L2.St}, EvL (tOp rRep (tLst (tCons (tUn (rU fun i => .int (-i)) (tC (.int 1000000))) tNil)) (tC (.int 500))) s H ((List.replicate 500 (-1000000)).map V.int) := fun {s} => el_repI (c := -1000000) (n := 500) (ev_un ev_c ru_neg) (by decide) (by decide)
    have eH : ∀ {s : L2.St}, EvL (tOp rRep (tLst (tCons (tC (.int 1000000)) tNil)) (tC (.int 500))) s H ((List.replicate 500 1000000).map V.int) := fun {s} => el_repI (c := 1000000) (n := 500) ev_c (by decide) (by decide)
    refine Sv.go (w_parP (ap_two (el_n eL) (el_n eH)) ?_)
    rintro vs H1 e1 ⟨_, _, rfl, ⟨pl, rfl, _, hpl⟩, ⟨ph, rfl, _, hph⟩⟩
    refine ⟨_, _, rfl, ?_⟩
    have t1 : takeF (List.replicate 500 1000000) 1000000000 = List.replicate 500 (-1000000) := take_rep (d := 2000000) (by decide) (by decide) (by decide)
    have t2 : pourF (List.replicate 500 (-1000000)) 1000000000 = List.replicate 500 1000000 := pour_rep (d := 2000000) (by decide) (by decide) (by decide)
    have m1 : ∀ x ∈ takeF (List.replicate 500 1000000) 1000000000, isSh x = true := by rw [t1]; exact all_rep (by decide)
    have m2 : ∀ x ∈ pourF (List.replicate 500 (-1000000)) 1000000000, isSh x = true := by rw [t2]; exact all_rep (by decide)
    have k1 := fun {s : L2.St} (h : s[2]? = some (some (.ref ph))) => el_taken (K := K) (cB := cB) (cA := cA) (E := E0) (F := takeF) (s := s) (tb := tC (.int 1000000000)) (ev_var' h hph) ev_c (rowOk_rep (by decide) (by decide) (by decide)) (by rw [List.length_replicate]; decide) (by decide) (by decide) m1
    have k2 := fun {s : L2.St} (h : s[1]? = some (some (.ref pl))) => el_taken (K := K) (cB := cB) (cA := cA) (E := E0) (F := pourF) (s := s) (tb := tC (.int 1000000000)) (ev_var' h hpl) ev_c (rowOk_rep (by decide) (by decide) (by decide)) (by rw [List.length_replicate]; decide) (by decide) (by decide) m2
    rw [t1] at k1
    rw [t2] at k2
    refine w_skip (et_is (et_or (et_test (ev_neL (EvL.p (k1 rfl)) (ev_var' rfl hpl))) fun _ => et_test (ev_neL (EvL.p (k2 rfl)) (ev_var' rfl hph))) (by simp)) ?_
    refine w_forGP (evp_pairs (a := .ref f1) (b := .int 1000000) (c := .ref f2) (d := .int (-1000000)) ev_c ev_c ev_c (ev_un ev_c ru_neg)) ?_
    rintro v H2 e2 ⟨p, x, y, rfl, hp, hx, hy⟩
    refine ⟨p, _, fun i s' H' => ∃ y3 y4, s' = [some (.ref pu), some (.ref pl), some (.ref ph), y3, y4] ∧ Ex H2 H', rfl, sq_of hp, fun H3 e3 => ⟨none, none, rfl, e3⟩, fun i s' H' _ ⟨_, _, _, ex⟩ => sq_of (ex _ _ hp), ?_, ?_⟩
    · rintro i z s' H' hi ⟨y3, y4, rfl, ex⟩
      have key : ∃ r g sp c, z = .ref r ∧ H' r = some (.tup [.ref g, .int c]) ∧ AskAt P w K mg base 6 g sp ∧ (c = 1000000 ∨ c = -1000000) ∧ (∀ x G, RowAt x (List.replicate 501 c) G → Asks sp x (.int 1000000001) cA G) ∧ (∀ x G, RowAt x [-c] G → Asks sp x (.int 1) cA G) := by
        match i, hi with
        | 0, hi =>
          cases hi
          exact ⟨x, f1, _, _, rfl, ex _ _ hx, ask1, .inl rfl, fun x G h => asks_amt h (by decide), fun x G h => asks_out h (by decide) (by decide) (take_beyond (by simp) (by decide) (by decide))⟩
        | 1, hi =>
          cases hi
          exact ⟨y, f2, _, _, rfl, ex _ _ hy, ask2, .inr rfl, fun x G h => asks_amt h (by decide), fun x G h => asks_out h (by decide) (by decide) (pour_beyond (by simp) (by decide) (by decide))⟩
        | (i + 2), hi => simp at hi
      obtain ⟨r, g, sp, c, rfl, hr0, ask, hc, k1, k2⟩ := key
      have sc : isSh c = true := by rcases hc with rfl | rfl <;> decide
      have sc2 : isSh (-c) = true := by rcases hc with rfl | rfl <;> decide
      have hu2 := ex _ _ (e2 _ _ (e1 _ _ hu))
      refine g_tup2 hr0 ?_
      refine (w_skip (et_is (et_or (et_toldP (PB := fun x G => RowAt x (List.replicate 501 c) G) (PC := Is (.int 1000000001)) (ev_var rfl) ((EvL.p (el_repI (c := c) (n := 501) (ev_var rfl) (by decide) (by decide))).imp fun v G _ h => rowAt_of h (rowOk_rep (by decide) (by decide) sc) (by rw [List.length_replicate]; decide)) (ev_c (v := .int 1000000001)).p (ev_var' rfl hu2) ask (fun x y G _ h1 h2 => by rw [h2]; exact k1 x G h1) KA)
        fun _ => et_toldP (PB := fun x G => RowAt x [-c] G) (PC := Is (.int 1)) (ev_var rfl) ((EvL.p (el_lst (vs := ([-c] : List Int).map V.int) (ea_cons (ev_un (ev_var rfl) ru_neg) ea_nil) (by simp))).imp fun v G _ h => rowAt_of h (rowOk_one sc2) (by simp)) (ev_c (v := .int 1)).p (ev_var' rfl hu2) ask (fun x y G _ h1 h2 => by rw [h2]; exact k2 x G h1) KA) rfl) (w_nx fun H3 e3 => Exists.intro _ ⟨_, rfl, ex.trans e3⟩)).go
    · rintro s' H' ⟨y3, y4, rfl, ex⟩
      exact w_ret ev_c fun H3 e3 => q H3 (((e1.trans e2).trans ex).trans e3)
/-! some beyond -/
def spBeyond (cA : Addr) : Sp := spEdges cA
theorem def_law_some_beyond (R : Raw K mg "_law_some_beyond" s_law_some_beyond ["_law_due"]) (T : Txt K mg) (KA : KnownE K cS cB cG cA cU cT cA false false true false) (d_law_told : Def P w K mg base CX0 7 "_law_told" ["_law_ask", "_law_one", "_law_other_here"] (spTold P w K mg base cS cB cG cA cU cT))
    (x_taken : Def P w K mg base (L2N.CX P w) 4 "taken" ["row", "amount"] (spTakenX K cB cA takeF)) (x_poured : Def P w K mg base (L2N.CX P w) 4 "poured" ["row", "amount"] (spTakenX K cB cA pourF))
    (x_law_with_taken : Def P w K mg base (L2N.CX P w) 5 "_law_with_taken" ["_law_one", "_law_other_here"] (spThru (spTakenX K cB cA takeF))) (x_law_with_poured : Def P w K mg base (L2N.CX P w) 5 "_law_with_poured" ["_law_one", "_law_other_here"] (spThru (spTakenX K cB cA pourF))) :
    Def P w K mg base CX0 8 "_law_some_beyond" ["_law_due"] (spBeyond cA) := by
  obtain ⟨f1, g_law_with_taken, ask1⟩ := askAt_of x_law_with_taken (by decide)
  obtain ⟨f2, g_law_with_poured, ask2⟩ := askAt_of x_law_with_poured (by decide)
  refine R.ok fun f fd F => F.ok sc_law_some_beyond (fun vs H Q E h => ?_) (fun cdv A outer s H vs Q E hr h => ?_)
  · obtain ⟨pu, rfl, _⟩ := h; rfl
  · obtain ⟨pu, rfl, hu, q⟩ := h
    refine ⟨_, (pss_cons (ps_par (i := 1) (j := 2) rfl sc_law_some_beyond.nd rfl rfl (by decide) rfl rfl (pa_cons (pe_lst (pa_cons (pe_un un_neg pe_int) (pa_cons (pe_un un_neg pe_int) (pa_cons (pe_un un_neg pe_int) pa_nil)))) (pa_cons (pe_lst (pa_cons pe_int (pa_cons pe_int (pa_cons pe_int pa_nil)))) pa_nil)) (by rfl))
      (pss_cons (ps_for PassesOwn.never rfl (pi_tup (pe_tup (pa_cons pe_int (pa_cons pe_int pa_nil)))) (pg_name (i := 3) sc_law_some_beyond.nd rfl (Or.inl rfl))
        (pss_cons (ps_if (PW.pt (pw_or (pt_cmpR (r := rNeD K) (op_neD hr.units) (pe_def d_law_told hr (by decide) (by rfl) pass0 (pa_cons (pe_glob (v := .ref _) rfl g_law_with_taken rfl) (pa_cons (pv 1) (pa_cons (pv 3) pa_nil)))) (pv 0) (nomark _)) (pw_or1 (pt_cmpR (r := rNeD K) (op_neD hr.units) (pe_def d_law_told hr (by decide) (by rfl) pass0 (pa_cons (pe_glob (v := .ref _) rfl g_law_with_poured rfl) (pa_cons (pv 2) (pa_cons (pv 3) pa_nil)))) (pv 0) (nomark _)))))
            (pss_cons (ps_ret pe_bl)
              pss_nil)
            pss_nil)
          pss_nil))
      (pss_cons (ps_ret (pe_and (pe_cmpR (r := rEqD K) (op_eqD hr.units) (pe_def x_taken hr (by decide) (by rfl) passN (pa_cons (pv 1) (pa_cons pe_int pa_nil))) (pe_op op_rep (pe_lst (pa_cons (pe_un un_neg pe_int) pa_nil)) pe_int) (nomark _)) (pe_one (pe_cmpR (r := rEqD K) (op_eqD hr.units) (pe_def x_poured hr (by decide) (by rfl) passN (pa_cons (pv 2) (pa_cons pe_int pa_nil))) (pe_op op_rep (pe_lst (pa_cons pe_int pa_nil)) pe_int) (nomark _)))))
      pss_nil))), ?_⟩
    have ng : ∀ {s : L2.St} {i : Int}, Ev (tUn (rU fun i => .int (-i)) (tC (.int i))) s H (.int (-i)) := fun {s i} => ev_un ev_c ru_neg
    refine Sv.go (w_parP (ap_two (el_n (el_lst (vs := ([-1000000, -1000000, -999999] : List Int).map V.int) (ea_cons ng (ea_cons ng (ea_cons ng ea_nil))) (by show 3 ≤ 100000; decide))) (el_n (el_lst (vs := ([999999, 1000000, 1000000] : List Int).map V.int) (ea_cons ev_c (ea_cons ev_c (ea_cons ev_c ea_nil))) (by show 3 ≤ 100000; decide)))) ?_)
    rintro vs H1 e1 ⟨_, _, rfl, ⟨pl, rfl, _, hpl⟩, ⟨ph, rfl, _, hph⟩⟩
    refine ⟨_, _, rfl, ?_⟩
    have R1 : RowOk [-1000000, -1000000, -999999] := ⟨by simp, by decide, by decide⟩
    have R2 : RowOk [999999, 1000000, 1000000] := ⟨by simp, by decide, by decide⟩
    refine w_forGTP (P := fun v H2 => ∃ p, v = .ref p ∧ H2 p = some (.tup [V.int 2, V.int 3])) ((evU_p (eu_tup (vs := [V.int 2, V.int 3]) (ea_cons ev_c (ea_cons ev_c ea_nil)) (by show 2 ≤ 100000; decide))).imp fun v H2 _ ⟨p, pv, hp⟩ => ⟨p, pv, hp⟩) ?_
    rintro v H2 e2 ⟨p, rfl, hp⟩
    refine ⟨p, _, fun i s' H' => ∃ y3, s' = [some (.ref pu), some (.ref pl), some (.ref ph), y3] ∧ Ex H2 H', rfl, st_of hp, fun H3 e3 => ⟨none, rfl, e3⟩, fun i s' H' _ ⟨_, _, ex⟩ => st_of (ex _ _ hp), ?_, ?_⟩
    · rintro i z s' H' hi ⟨y3, rfl, ex⟩
      have key : ∃ m : Int, z = .int m ∧ (m = 2 ∨ m = 3) := by
        match i, hi with
        | 0, hi => cases hi; exact ⟨2, rfl, .inl rfl⟩
        | 1, hi => cases hi; exact ⟨3, rfl, .inr rfl⟩
        | (i + 2), hi => simp at hi
      obtain ⟨m, rfl, hm⟩ := key
      have ex1 := e2.trans ex
      have hu2 := ex1 _ _ (e1 _ _ hu)
      have hl2 := ex1 _ _ hpl
      have hh2 := ex1 _ _ hph
      have b1 : ((takeF [-1000000, -1000000, -999999] m).map isSh).all id = false := take_beyond (by simp) (by omega) (by show (-2999999 : Int) - m < 3 * -1000000; omega)
      have b2 : ((pourF [999999, 1000000, 1000000] m).map isSh).all id = false := pour_beyond (by simp) (by omega) (by show 3 * 1000000 < (2999999 : Int) + m; omega)
      refine (w_skip (et_is (et_or (et_toldP (PB := fun x G => RowAt x [-1000000, -1000000, -999999] G) (PC := Is (.int m)) ev_c ((ev_var' rfl hl2).imp fun v G _ h => rowAt_of h R1 (by decide)) (ev_var rfl).p (ev_var' rfl hu2) ask1 (fun x y G _ h1 h2 => by rw [h2]; exact asks_out h1 (by omega) (by omega) b1) KA)
        fun _ => et_toldP (PB := fun x G => RowAt x [999999, 1000000, 1000000] G) (PC := Is (.int m)) ev_c ((ev_var' rfl hh2).imp fun v G _ h => rowAt_of h R2 (by decide)) (ev_var rfl).p (ev_var' rfl hu2) ask2 (fun x y G _ h1 h2 => by rw [h2]; exact asks_out h1 (by omega) (by omega) b2) KA) rfl) (w_nx fun H3 e3 => Exists.intro _ ⟨rfl, ex.trans e3⟩)).go
    · rintro s' H' ⟨y3, rfl, ex⟩
      have ex1 := e2.trans ex
      have hl2 := ex1 _ _ hpl
      have hh2 := ex1 _ _ hph
      have t1 : takeF [-1000000, -1000000, -999999] 1 = List.replicate 3 (-1000000) := by
        rw [take_flat (L := -1000000) (by simp) (by decide) (by decide)]
        decide
      have t2 : pourF [999999, 1000000, 1000000] 1 = List.replicate 3 1000000 := by
        rw [pour_take, show negs [999999, 1000000, 1000000] = [-999999, -1000000, -1000000] by decide, take_flat (L := -1000000) (by simp) (by decide) (by decide)]
        decide
      have k1 := fun {s : L2.St} (h : s[1]? = some (some (.ref pl))) => el_taken (K := K) (cB := cB) (cA := cA) (E := E0) (F := takeF) (s := s) (tb := tC (.int 1)) (ev_var' h hl2) ev_c R1 (by decide) (by decide) (by decide) (by rw [t1]; exact all_rep (by decide))
      have k2 := fun {s : L2.St} (h : s[2]? = some (some (.ref ph))) => el_taken (K := K) (cB := cB) (cA := cA) (E := E0) (F := pourF) (s := s) (tb := tC (.int 1)) (ev_var' h hh2) ev_c R2 (by decide) (by decide) (by decide) (by rw [t2]; exact all_rep (by decide))
      rw [t1] at k1
      rw [t2] at k2
      have eL : ∀ {s : L2.St}, EvL (tOp rRep (tLst (tCons (tUn (rU fun i => .int (-i)) (tC (.int 1000000))) tNil)) (tC (.int 3))) s H' ((List.replicate 3 (-1000000)).map V.int) := fun {s} => el_repI (c := -1000000) (n := 3) (ev_un ev_c ru_neg) (by decide) (by decide)
      have eH : ∀ {s : L2.St}, EvL (tOp rRep (tLst (tCons (tC (.int 1000000)) tNil)) (tC (.int 3))) s H' ((List.replicate 3 1000000).map V.int) := fun {s} => el_repI (c := 1000000) (n := 3) ev_c (by decide) (by decide)
      exact w_ret (v := .bl true) (ev_is (ev_andV (ev_eqL (EvL.p (k1 rfl)) (EvL.p eL)) fun _ => ev_eqL (EvL.p (k2 rfl)) (EvL.p eH)) (by simp)) fun H3 e3 => q H3 ((e1.trans ex1).trans e3)
end
end Ev

set_option Elab.async false
set_option linter.all false
set_option maxRecDepth 100000
set_option maxHeartbeats 4000000
namespace Ev
open PySem PySem.Spec L2 Evl Wk
/-! ### lists of things; the bounds -/
/-- a list of things of which a word holds -/
def AllL (Pv : V → Hp → Prop) : V → Hp → Prop := fun v H => ∃ p ts, v = .ref p ∧ H p = some (.lst ts) ∧ ts.length ≤ 1000 ∧ ∀ t ∈ ts, Pv t H
instance {Pv : V → Hp → Prop} [MonoP Pv] : MonoP (AllL Pv) := ⟨fun e ⟨p, ts, h1, h2, h3, h4⟩ => ⟨p, ts, h1, e _ _ h2, h3, fun t ht => MonoP.mono e (h4 t ht)⟩⟩
/-- a list that grows: what stands in it was told of a heap without it -/
def Grd (Pv : V → Hp → Prop) (l : Addr) (H : Hp) (xs : List V) : Prop := H l = some (.lst xs) ∧ ∃ G, G l = none ∧ Ex G H ∧ ∀ v ∈ xs, Pv v G
def hide (l : Addr) (H : Hp) : Hp := fun a => if a = l then none else H a
theorem hide_at {l : Addr} {H : Hp} : hide l H l = none := if_pos rfl
theorem hide_ne {l a : Addr} {H : Hp} (h : a ≠ l) : hide l H a = H a := if_neg h
section
variable {K : PySem.W.Frag} {Pv P : V → Hp → Prop} {l : Addr} {H H' : Hp} {xs ys : List V} {s : L2.St} {ta tb tc td te : TE} {tr : TA} {D : Ends} {tu tz : TS} {v : V}
theorem Grd.ex (h : Grd Pv l H xs) (e : Ex H H') : Grd Pv l H' xs := let ⟨h1, G, g1, g2, g3⟩ := h; ⟨e _ _ h1, G, g1, g2.trans e, g3⟩
theorem Grd.all [MonoP Pv] (h : Grd Pv l H xs) : ∀ v ∈ xs, Pv v H := fun v hv => let ⟨_, G, _, g2, g3⟩ := h; MonoP.mono g2 (g3 v hv)
theorem ap_all_nil : EvAP tNil s H (fun vs H1 => vs.length = 0 ∧ ∀ v ∈ vs, Pv v H1) := fun H1 e Q q => q _ H1 (Ex.refl H1) ⟨rfl, fun v hv => by cases hv⟩
theorem ap_all_cons [MonoP Pv] {n : Nat} (h : EvP te s H Pv) (hr : EvAP tr s H (fun vs H1 => vs.length = n ∧ ∀ v ∈ vs, Pv v H1)) : EvAP (tCons te tr) s H (fun vs H1 => vs.length = n + 1 ∧ ∀ v ∈ vs, Pv v H1) := fun H1 e Q q =>
  h H1 e _ fun v H2 e2 pv => hr H2 (e.trans e2) _ fun vs H3 e3 ⟨hn, p3⟩ => q _ H3 (e2.trans e3) ⟨by rw [List.length_cons, hn], fun u hu => by
    rcases List.mem_cons.mp hu with rfl | hu
    · exact MonoP.mono e3 pv
    · exact p3 u hu⟩
/-- a display of such things -/
theorem evp_lstG {n : Nat} (h : EvAP tr s H (fun vs H1 => vs.length = n ∧ ∀ v ∈ vs, Pv v H1)) (hn : n ≤ 1000) : EvP (tLst tr) s H (fun v H2 => ∃ l xs, v = .ref l ∧ H l = none ∧ Grd Pv l H2 xs ∧ xs.length = n) := fun H1 e Q q =>
  h H1 e _ fun vs H2 e2 ⟨hl, pv⟩ => ⟨sz_of (by omega), fun p hp => q _ _ (e2.trans (Ex.new hp)) ⟨p, vs, rfl, fresh_back (e.trans e2) hp, ⟨upd_same, H2, hp, Ex.new hp, pv⟩, hl⟩⟩
theorem evp_allL [MonoP Pv] {n : Nat} (h : EvAP tr s H (fun vs H1 => vs.length = n ∧ ∀ v ∈ vs, Pv v H1)) (hn : n ≤ 1000) : EvP (tLst tr) s H (AllL Pv) := (evp_lstG h hn).imp fun v H1 _ ⟨l, xs, ev, _, g, hl⟩ => ⟨l, xs, ev, g.1, by omega, g.all⟩
/-- l.append(e) -/
theorem w_appG [MonoP Pv] (hg : Grd Pv l H xs) (ha : Ev ta s H (.ref l)) (h : EvP te s H P) (hP : ∀ v H2, Ex H H2 → P v H2 → Pv v (hide l H2)) (hz : xs.length < 100000) (k : ∀ v H1, Grd Pv l H1 (xs ++ [v]) → (∀ a u, a ≠ l → H a = some u → H1 a = some u) → Sv tz D s H1) :
    Sv (tSeq (tDrop (tBM K "list" rAppend ta (tCons te tNil))) tz) D s H := fun H1 e1 =>
  ha H1 e1 _ fun H2 e2 => ⟨Or.inl ⟨rfl, xs, sq_of (e2 _ _ (e1 _ _ hg.1))⟩, h H2 (e1.trans e2) _ fun v H3 e3 p => ⟨l, xs, v, rfl, rfl, e3 _ _ (e2 _ _ (e1 _ _ hg.1)), sz_lt hz, by
    have e13 := (e1.trans e2).trans e3
    obtain ⟨_, G, g1, g2, g3⟩ := hg
    have nl : ∀ {a : Addr} {u : HO}, G a = some u → a ≠ l := fun ha z => by rw [z, g1] at ha; cases ha
    refine k v _ ⟨upd_same, hide l H3, hide_at, fun a u hu => ?_, fun y hy => ?_⟩ (fun a u n hu => by rw [upd_ne n]; exact e13 _ _ hu) _ (Ex.refl _)
    · by_cases hal : a = l
      · rw [hal, hide_at] at hu; cases hu
      · rw [hide_ne hal] at hu
        rw [upd_ne hal]
        exact hu
    · rcases List.mem_append.mp hy with hy | hy
      · exact MonoP.mono (fun a u hu => by rw [hide_ne (nl hu)]; exact e13 _ _ (g2 _ _ hu)) (g3 y hy)
      · rw [List.mem_singleton.mp hy]
        exact hP v H3 e13 p⟩⟩
/-- l.append(e), e a new list -/
theorem w_appNL (hl : H l = some (.lst xs)) (ha : Ev ta s H (.ref l)) (h : EvL te s H ys) (hz : xs.length < 100000) (k : ∀ p H1, H p = none → p ≠ l → H1 p = some (.lst ys) → Put l (.lst (xs ++ [.ref p])) H H1 → Sv tz D s H1) :
    Sv (tSeq (tDrop (tBM K "list" rAppend ta (tCons te tNil))) tz) D s H := fun H1 e1 =>
  ha H1 e1 _ fun H2 e2 => ⟨Or.inl ⟨rfl, xs, sq_of (e2 _ _ (e1 _ _ hl))⟩, h H2 (e1.trans e2) _ fun p H3 np e3 hp => ⟨l, xs, .ref p, rfl, rfl, e3 _ _ (e2 _ _ (e1 _ _ hl)), sz_lt hz, by
    have n1 : p ≠ l := (ne_of_none (e2 _ _ (e1 _ _ hl)) np).symm
    exact k p _ (fresh_back (e1.trans e2) np) n1 (by rw [upd_ne n1]; exact hp) (put_upd ((e1.trans e2).trans e3)) _ (Ex.refl _)⟩⟩
theorem w_forR3 {j n : Nat} {lo hi c : Int} (h : EvA tr s H [.int lo, .int hi, .int c]) (hr : RgC lo hi c n) (Pq : Nat → L2.St → Hp → Prop) (h0 : ∀ H1, Ex H H1 → Pq 0 s H1)
    (hs : ∀ (i : Nat) s' H', i < n → Pq i s' H' → Sv tu { D with nx := Pq (i + 1), ct := Pq (i + 1), bk := tz D } (s'.set j (some (.int (lo + (i : Nat) * c)))) H') (hd : ∀ s' H', Pq n s' H' → Sv tz D s' H') : Sv (tSeq (tFor (iRng3 tr) (gName j) tu) tz) D s H := fun H1 e1 =>
  h H1 e1 _ fun H2 e2 => ⟨lo, hi, c, n, rfl, hr, for_rangeC (D := { D with nx := tz D }) Pq (h0 H2 (e1.trans e2)) (fun i s' H' hi p => (hs i s' H' hi p).go) (fun s' H' p => (hd s' H' p).go)⟩
theorem evp_catL {Pw : V → Hp → Prop} [MonoP Pw] {m n : Nat} (ha : EvP ta s H (fun v H1 => ∃ p ts, v = .ref p ∧ H1 p = some (.lst ts) ∧ ts.length ≤ m ∧ ∀ t ∈ ts, Pw t H1)) (hb : EvP tb s H (fun v H1 => ∃ p ts, v = .ref p ∧ H1 p = some (.lst ts) ∧ ts.length ≤ n ∧ ∀ t ∈ ts, Pw t H1)) (hz : m + n ≤ 100000) :
    EvP (tOp rCat ta tb) s H (fun v H1 => ∃ p ts, v = .ref p ∧ H1 p = some (.lst ts) ∧ ts.length ≤ m + n ∧ ∀ t ∈ ts, Pw t H1) := fun H1 e Q q =>
  ha H1 e _ fun a H2 e2 ⟨p, xs, pa, hp, l1, h1⟩ => hb H2 (e.trans e2) _ fun b H3 e3 ⟨p2, ys, pb, hp2, l2, h2⟩ => ⟨p, p2, xs, ys, pa, pb, e3 _ _ hp, hp2, sz_of (by omega), fun l hl => q _ _ ((e2.trans e3).trans (Ex.new hl)) ⟨l, xs ++ ys, rfl, upd_same, by rw [List.length_append]; omega, fun t ht => by
    rcases List.mem_append.mp ht with ht | ht
    · exact MonoP.mono (e3.trans (Ex.new hl)) (h1 t ht)
    · exact MonoP.mono (Ex.new hl) (h2 t ht)⟩⟩
theorem el_is (h : EvL te s H xs) (e : xs = ys) : EvL te s H ys := by
  rw [← e]
  exact h
end
section
variable {P : Program} {w : World} {K : PySem.W.Frag} {mg : Str → Option Value} {base : Heap} {cS cB cG cA cU cT : Addr} {s : L2.St} {H : Hp} {te ta tb tc td : TE} {E : XK}
/-- not _law_all(..) is False -/
theorem et_all {Pd Pt : V → Hp → Prop} [MonoP Pd] [MonoP Pt] {f : Addr} {sp : Sp} {C : Addr} {b0 b1 b2 b3 : Bool} (ha : Ev ta s H (.ref f)) (hb : EvP tb s H (AllL Pd)) (hc : EvP tc s H (AllL Pt)) (hd : EvP td s H (IsL ((kindsL b0 b1 b2 b3).map V.bl))) (ask : AskAt P w K mg base 6 f sp) (asks : ∀ x y H1, Ex H H1 → Pd x H1 → Pt y H1 → Asks sp x y C H1)
    (KE : KnownE K cS cB cG cA cU cT C b0 b1 b2 b3) : EvT (tNot (tB (tCall (spAll P w K mg base cS cB cG cA cU cT) [] E0 (tCons ta (tCons tb (tCons tc (tCons td tNil))))))) s H false := by
  have h : EvP (tCall (spAll P w K mg base cS cB cG cA cU cT) [] E0 (tCons ta (tCons tb (tCons tc (tCons td tNil))))) s H (Is (.bl true)) := evp_callP (ap_cons ha.p (ap_three hb hc hd)) fun vs H1 e1 ⟨u, r, ev, pu, v1, v2, v3, er, ⟨pd, ds, q1, q2, q3, q4⟩, ⟨pt, ts, r1, r2, r3, r4⟩, ⟨pk, t1, t2⟩⟩ Q q =>
    ⟨f, sp, pd, pt, pk, ds, ts, C, b0, b1, b2, b3, by rw [ev, er, pu, q1, r1, t1], q2, r2, t2, by omega, by omega, ask, fun d hd t ht => asks d t H1 e1 (q4 d hd) (r4 t ht), KE, fun H2 e2 => q _ H2 e2 rfl⟩
  exact et_is (et_not (et_B (evp_is h))) rfl
/-- the four lists that are due -/
def DueAt (pu : Addr) (H : Hp) : Prop := ∃ p0 p1 p2 p3 : Addr, H pu = some (.lst [V.ref p0, V.ref p1, V.ref p2, V.ref p3]) ∧ H p0 = some (.lst ((kindsL true false false false).map V.bl)) ∧ H p1 = some (.lst ((kindsL false true false false).map V.bl)) ∧ H p2 = some (.lst ((kindsL false false true false).map V.bl)) ∧ H p3 = some (.lst ((kindsL false false false true).map V.bl))
theorem DueAt.ex {pu : Addr} {H H' : Hp} (h : DueAt pu H) (e : Ex H H') : DueAt pu H' := let ⟨p0, p1, p2, p3, h0, h1, h2, h3, h4⟩ := h; ⟨p0, p1, p2, p3, e _ _ h0, e _ _ h1, e _ _ h2, e _ _ h3, e _ _ h4⟩
theorem evp_due {i : Nat} {pu p : Addr} {j : Int} {xs ys : List V} (hi : s[i]? = some (some (.ref pu))) (hu : H pu = some (.lst xs)) (hj : atI xs j = some (.ref p)) (hp : H p = some (.lst ys)) : EvP (tOp (rIxL K) (tVar i) (tC (.int j))) s H (IsL ys) :=
  (ev_ixL (ev_var' hi hu) ev_c hj).p.imp fun v H1 e1 ev => ⟨p, ev, e1 _ _ hp⟩
theorem due0 {i : Nat} {pu : Addr} (hi : s[i]? = some (some (.ref pu))) (h : DueAt pu H) : EvP (tOp (rIxL K) (tVar i) (tC (.int 0))) s H (IsL ((kindsL true false false false).map V.bl)) := let ⟨_, _, _, _, h0, h1, _, _, _⟩ := h; evp_due hi h0 rfl h1
theorem due1 {i : Nat} {pu : Addr} (hi : s[i]? = some (some (.ref pu))) (h : DueAt pu H) : EvP (tOp (rIxL K) (tVar i) (tC (.int 1))) s H (IsL ((kindsL false true false false).map V.bl)) := let ⟨_, _, _, _, h0, _, h1, _, _⟩ := h; evp_due hi h0 rfl h1
theorem due2 {i : Nat} {pu : Addr} (hi : s[i]? = some (some (.ref pu))) (h : DueAt pu H) : EvP (tOp (rIxL K) (tVar i) (tC (.int 2))) s H (IsL ((kindsL false false true false).map V.bl)) := let ⟨_, _, _, _, h0, _, _, h1, _⟩ := h; evp_due hi h0 rfl h1
theorem due3 {i : Nat} {pu : Addr} (hi : s[i]? = some (some (.ref pu))) (h : DueAt pu H) : EvP (tOp (rIxL K) (tVar i) (tC (.int 3))) s H (IsL ((kindsL false false false true).map V.bl)) := let ⟨_, _, _, _, h0, _, _, _, h1⟩ := h; evp_due hi h0 rfl h1
theorem asks_done {x y : V} {ns : List Int} {gs : List T3} (hx : RowAt x ns H) (hy : GsX ns.length gs y H) (h : runB ns gs = none) : Asks (spThru (spDoneX K cB cG)) x y cG H := asks_thru fun H1 e1 Q E er => ⟨_, _, rfl, .inr ⟨ns, hx.mono e1, .inr ⟨gs, hy.mono e1, .inr ⟨h, er⟩⟩⟩⟩
def spBounds : Sp := fun vs H Q _ => ∃ pu, vs = [.ref pu] ∧ DueAt pu H ∧ RetV (.bl true) H Q
theorem def_law_bounds_right (R : Raw K mg "_law_bounds_right" s_law_bounds_right ["_law_due"]) (T : Txt K mg) (KG : KnownE K cS cB cG cA cU cT cG false true false false) (KA : KnownE K cS cB cG cA cU cT cA false false true false) (d_law_told : Def P w K mg base CX0 7 "_law_told" ["_law_ask", "_law_one", "_law_other_here"] (spTold P w K mg base cS cB cG cA cU cT))
    (x_law_with_amount : Def P w K mg base (L2N.CX P w) 5 "_law_with_amount" ["_law_door", "_law_thing"] (spWithAmount K cA)) (x_law_with_gifts : Def P w K mg base (L2N.CX P w) 5 "_law_with_gifts" ["_law_row_here", "_law_gifts"] (spThru (spDoneX K cB cG)))
    (x_taken : Def P w K mg base (L2N.CX P w) 4 "taken" ["row", "amount"] (spTakenX K cB cA takeF)) (x_poured : Def P w K mg base (L2N.CX P w) 4 "poured" ["row", "amount"] (spTakenX K cB cA pourF)) (x_done : Def P w K mg base (L2N.CX P w) 4 "done" ["row", "gifts"] (spDoneX K cB cG)) :
    Def P w K mg base CX0 8 "_law_bounds_right" ["_law_due"] spBounds := by
  obtain ⟨f1, g_law_with_amount, ask1⟩ := askAt_of x_law_with_amount (by decide)
  obtain ⟨f2, g_law_with_gifts, ask2⟩ := askAt_of x_law_with_gifts (by decide)
  refine R.ok fun f fd F => F.ok sc_law_bounds_right (fun vs H Q E h => ?_) (fun cdv A outer s H vs Q E hr h => ?_)
  · obtain ⟨pu, rfl, _⟩ := h; rfl
  · obtain ⟨pu, rfl, hu, q⟩ := h
    refine ⟨_, (pss_cons (ps_par (i := 1) (j := 2) rfl sc_law_bounds_right.nd rfl rfl (by decide) rfl rfl (pa_cons (pe_op op_rep (pe_lst (pa_cons (pe_un un_neg pe_int) pa_nil)) pe_int) (pa_cons (pe_op op_rep (pe_lst (pa_cons pe_int pa_nil)) pe_int) pa_nil)) (by rfl))
      (pss_cons (ps_if (PW.pt (pw_or (pt_cmpR (r := rNeD K) (op_neD hr.units) (pe_def d_law_told hr (by decide) (by rfl) pass0 (pa_cons (pe_glob (v := .ref _) rfl g_law_with_amount rfl) (pa_cons pe_int (pa_cons pe_int pa_nil)))) (pe_ix (r := rIxL K) ix_list (pv 0) pe_int (fun _ _ => rfl)) (nomark _)) (pw_or1 (pt_cmpR (r := rNeD K) (op_neD hr.units) (pe_def d_law_told hr (by decide) (by rfl) pass0 (pa_cons (pe_glob (v := .ref _) rfl g_law_with_amount rfl) (pa_cons pe_int (pa_cons pe_int pa_nil)))) (pe_ix (r := rIxL K) ix_list (pv 0) pe_int (fun _ _ => rfl)) (nomark _)))))
        (pss_cons (ps_ret pe_bl)
          pss_nil)
        pss_nil)
      (pss_cons (ps_if (PW.pt (pw_or (pt_cmpR (r := rNeD K) (op_neD hr.units) (pe_def x_taken hr (by decide) (by rfl) passN (pa_cons (pv 2) (pa_cons pe_int pa_nil))) (pv 1) (nomark _)) (pw_or1 (pt_cmpR (r := rNeD K) (op_neD hr.units) (pe_def x_poured hr (by decide) (by rfl) passN (pa_cons (pv 1) (pa_cons pe_int pa_nil))) (pv 2) (nomark _)))))
        (pss_cons (ps_ret pe_bl)
          pss_nil)
        pss_nil)
      (pss_cons (ps_if (pt_cmpR (r := rNeD K) (op_neD hr.units) (pe_def d_law_told hr (by decide) (by rfl) pass0 (pa_cons (pe_glob (v := .ref _) rfl g_law_with_gifts rfl) (pa_cons (pe_lst (pa_cons pe_int (pa_cons pe_int pa_nil))) (pa_cons (pe_lst (pa_cons (pe_tup (pa_cons pe_int (pa_cons pe_int (pa_cons pe_int pa_nil)))) pa_nil)) pa_nil)))) (pe_ix (r := rIxL K) ix_list (pv 0) pe_int (fun _ _ => rfl)) (nomark _))
        (pss_cons (ps_ret pe_bl)
          pss_nil)
        pss_nil)
      (pss_cons (ps_if (pt_cmpR (r := rNeD K) (op_neD hr.units) (pe_def x_done hr (by decide) (by rfl) passN (pa_cons (pe_lst (pa_cons pe_int (pa_cons pe_int pa_nil))) (pa_cons (pe_lst (pa_cons (pe_tup (pa_cons pe_int (pa_cons pe_int (pa_cons pe_int pa_nil)))) pa_nil)) pa_nil))) (pe_lst (pa_cons pe_int (pa_cons pe_int pa_nil))) (nomark _))
        (pss_cons (ps_ret pe_bl)
          pss_nil)
        pss_nil)
      (pss_cons (ps_if (pt_cmpR (r := rNeD K) (op_neD hr.units) (pe_def d_law_told hr (by decide) (by rfl) pass0 (pa_cons (pe_glob (v := .ref _) rfl g_law_with_gifts rfl) (pa_cons (pe_lst (pa_cons (pe_un un_neg pe_int) (pa_cons pe_int pa_nil))) (pa_cons (pe_lst (pa_cons (pe_tup (pa_cons pe_int (pa_cons pe_int (pa_cons pe_int pa_nil)))) (pa_cons (pe_tup (pa_cons pe_int (pa_cons pe_int (pa_cons pe_int pa_nil)))) pa_nil))) pa_nil)))) (pe_ix (r := rIxL K) ix_list (pv 0) pe_int (fun _ _ => rfl)) (nomark _))
        (pss_cons (ps_ret pe_bl)
          pss_nil)
        pss_nil)
      (pss_cons (ps_ret (pe_cmpR (r := rEqD K) (op_eqD hr.units) (pe_def d_law_told hr (by decide) (by rfl) pass0 (pa_cons (pe_glob (v := .ref _) rfl g_law_with_gifts rfl) (pa_cons (pe_lst (pa_cons pe_int (pa_cons pe_int pa_nil))) (pa_cons (pe_lst (pa_cons (pe_tup (pa_cons pe_int (pa_cons pe_int (pa_cons pe_int pa_nil)))) (pa_cons (pe_tup (pa_cons pe_int (pa_cons pe_int (pa_cons pe_int pa_nil)))) pa_nil))) pa_nil)))) (pe_ix (r := rIxL K) ix_list (pv 0) pe_int (fun _ _ => rfl)) (nomark _)))
      pss_nil))))))), ?_⟩
    have eL : ∀ {s : L2.St}, EvL (tOp rRep (tLst (tCons (tUn (rU fun i => .int (-i)) (tC (.int 1000000))) tNil)) (tC (.int 3))) s H ((List.replicate 3 (-1000000)).map V.int) := fun {s} => el_repI (c := -1000000) (n := 3) (ev_un ev_c ru_neg) (by decide) (by decide)
    have eH : ∀ {s : L2.St}, EvL (tOp rRep (tLst (tCons (tC (.int 1000000)) tNil)) (tC (.int 3))) s H ((List.replicate 3 1000000).map V.int) := fun {s} => el_repI (c := 1000000) (n := 3) ev_c (by decide) (by decide)
    refine Sv.go (w_parP (ap_two (el_n eL) (el_n eH)) ?_)
    rintro vs H1 e1 ⟨_, _, rfl, ⟨pl, rfl, _, hpl⟩, ⟨ph, rfl, _, hph⟩⟩
    refine ⟨_, _, rfl, ?_⟩
    have hu1 := hu.ex e1
    have t1 : takeF (List.replicate 3 1000000) 6000000 = List.replicate 3 (-1000000) := take_rep (d := 2000000) (by decide) (by decide) (by decide)
    have t2 : pourF (List.replicate 3 (-1000000)) 6000000 = List.replicate 3 1000000 := pour_rep (d := 2000000) (by decide) (by decide) (by decide)
    have m1 : ∀ x ∈ takeF (List.replicate 3 1000000) 6000000, isSh x = true := by rw [t1]; exact all_rep (by decide)
    have m2 : ∀ x ∈ pourF (List.replicate 3 (-1000000)) 6000000, isSh x = true := by rw [t2]; exact all_rep (by decide)
    have k1 := fun {s : L2.St} (h : s[2]? = some (some (.ref ph))) => el_taken (K := K) (cB := cB) (cA := cA) (E := E0) (F := takeF) (s := s) (tb := tC (.int 6000000)) (ev_var' h hph) ev_c (rowOk_rep (by decide) (by decide) (by decide)) (by rw [List.length_replicate]; decide) (by decide) (by decide) m1
    have k2 := fun {s : L2.St} (h : s[1]? = some (some (.ref pl))) => el_taken (K := K) (cB := cB) (cA := cA) (E := E0) (F := pourF) (s := s) (tb := tC (.int 6000000)) (ev_var' h hpl) ev_c (rowOk_rep (by decide) (by decide) (by decide)) (by rw [List.length_replicate]; decide) (by decide) (by decide) m2
    rw [t1] at k1
    rw [t2] at k2
    refine w_skip (et_is (et_or (et_toldP (PB := Is (.int 0)) (PC := Is (.int 3000000)) ev_c (ev_c (v := .int 0)).p (ev_c (v := .int 3000000)).p (due2 rfl hu1) ask1 (fun x y G _ h1 h2 => by
        rw [h1, h2]
        exact fun H1 e1 Q E er => ⟨_, _, rfl, .inl ⟨rfl, .inr ⟨3000000, rfl, by decide, by decide, by decide, take_beyond (by simp) (by decide) (by decide)⟩⟩, er⟩) KA)
      fun _ => et_toldP (PB := Is (.int 1)) (PC := Is (.int 3000000)) ev_c (ev_c (v := .int 1)).p (ev_c (v := .int 3000000)).p (due2 rfl hu1) ask1 (fun x y G _ h1 h2 => by
        rw [h1, h2]
        exact fun H1 e1 Q E er => ⟨_, _, rfl, .inr (.inl ⟨rfl, .inr ⟨3000000, rfl, by decide, by decide, by decide, pour_beyond (by simp) (by decide) (by decide)⟩⟩), er⟩) KA) rfl) ?_
    refine w_skip (et_is (et_or (et_test (ev_neL (EvL.p (k1 rfl)) (ev_var' rfl hpl))) fun _ => et_test (ev_neL (EvL.p (k2 rfl)) (ev_var' rfl hph))) (by simp)) ?_
    have row2 : ∀ {s : L2.St} {ta tb : TE} {a b : Int}, Ev ta s H1 (.int a) → Ev tb s H1 (.int b) → EvL (tLst (tCons ta (tCons tb tNil))) s H1 (([a, b] : List Int).map V.int) := fun h1 h2 => el_lst (ea_cons h1 (ea_cons h2 ea_nil)) (by simp)
    have rowA : ∀ {s : L2.St} {ta tb : TE} {a b : Int}, Ev ta s H1 (.int a) → Ev tb s H1 (.int b) → isSh a = true → isSh b = true → EvP (tLst (tCons ta (tCons tb tNil))) s H1 (fun x G => RowAt x [a, b] G) := fun h1 h2 sa sb => (EvL.p (row2 h1 h2)).imp fun v G _ h => rowAt_of h ⟨by simp, fun x hx => by
      rcases List.mem_cons.mp hx with rfl | hx
      · exact sa
      · rw [List.mem_singleton.mp hx]; exact sb, by simp⟩ (by simp)
    have g1 : ∀ {s : L2.St}, EvP (tLst (tCons (tTup (tCons (tC (.int 0)) (tCons (tC (.int 1)) (tCons (tC (.int 1)) tNil)))) tNil)) s H1 (GsX 2 [(0, 1, 1)]) := fun {s} => evp_gs1 ev_c ev_c ev_c (by decide)
    have g2 : ∀ {s : L2.St}, EvP (tLst (tCons (tTup (tCons (tC (.int 0)) (tCons (tC (.int 1)) (tCons (tC (.int 1)) tNil)))) (tCons (tTup (tCons (tC (.int 1)) (tCons (tC (.int 0)) (tCons (tC (.int 1)) tNil)))) tNil))) s H1 (GsX 2 [(0, 1, 1), (1, 0, 1)]) := fun {s} => evp_gs2 ev_c ev_c ev_c ev_c ev_c ev_c (by decide) (by decide)
    refine w_skip (et_toldP (PB := fun x G => RowAt x [0, 1000000] G) (PC := GsX 2 [(0, 1, 1)]) ev_c (rowA ev_c ev_c (by decide) (by decide)) g1 (due1 rfl hu1) ask2 (fun x y G _ h1 h2 => asks_done h1 h2 (by decide)) KG) ?_
    refine w_skip (et_is (et_test (ev_neL (a := [0, 1000000]) (b := [0, 1000000]) (EvL.p (el_done (ns := [1, 999999]) (gs := [(0, 1, 1)]) (EvL.p (row2 ev_c ev_c)) g1 ⟨by simp, by decide, by decide⟩ (by decide) (by decide))) (EvL.p (row2 ev_c ev_c)))) rfl) ?_
    refine w_skip (et_toldP (PB := fun x G => RowAt x [-1000000, 0] G) (PC := GsX 2 [(0, 1, 1), (1, 0, 1)]) ev_c (rowA (ev_un ev_c ru_neg) ev_c (by decide) (by decide)) g2 (due1 rfl hu1) ask2 (fun x y G _ h1 h2 => asks_done h1 h2 (by decide)) KG) ?_
    exact w_ret (v := .bl true) (ev_eqB (EvL.p (el_toldP (PB := fun x G => RowAt x [0, 1000000] G) (PC := GsX 2 [(0, 1, 1), (1, 0, 1)]) ev_c (rowA ev_c ev_c (by decide) (by decide)) g2 ask2 (fun x y G _ h1 h2 => asks_done h1 h2 (by decide)) KG)) (due1 rfl hu1)) fun H3 e3 => q H3 (e1.trans e3)
end
end Ev

set_option Elab.async false
set_option linter.all false
set_option maxRecDepth 100000
set_option maxHeartbeats 4000000
namespace Ev
open PySem PySem.Spec L2 Evl Wk
/-! ### what every law draws: cells, numbers, a row -/
def primes : List Int := [1000003, 1000033, 1000037, 1000039, 1000081, 1000099, 1000117, 1000121, 1000133, 1000151, 1000159, 1000171, 1000183, 1000187, 1000193, 1000199]
theorem at_ints {ns : List Int} {i : Int} (h0 : 0 ≤ i) (h1 : i < ns.length) : ∃ n, n ∈ ns ∧ atI (ns.map V.int) i = some (.int n) := by
  have hi : i.toNat < ns.length := by omega
  refine ⟨ns[i.toNat], List.getElem_mem hi, ?_⟩
  have h := atI_nat (xs := ns.map V.int) (j := i.toNat) (v := .int ns[i.toNat]) (by rw [List.getElem?_map, List.getElem?_eq_getElem hi]; rfl)
  rw [Int.toNat_of_nonneg h0] at h
  exact h
section
variable {P : Program} {w : World} {K : PySem.W.Frag} {mg : Str → Option Value} {base : Heap}
def spCell (K : PySem.W.Frag) : Sp := fun vs H Q _ => ∃ (a : Addr) (ns : List Int) (k : Int), vs = [.ref a, .int k] ∧ SqL K H a (ns.map V.int) ∧ 0 ≤ k ∧ ∀ i, RetV (.int i) H Q
theorem def_law_cell_at (R : Raw K mg "_law_cell_at" s_law_cell_at ["_law_script", "_law_k"]) (T : Txt K mg) : Def P w K mg base CX0 1 "_law_cell_at" ["_law_script", "_law_k"] (spCell K) := by
  refine R.ok fun f fd F => F.ok sc_law_cell_at (fun vs H Q E h => ?_) (fun cdv A outer s H vs Q E hr h => ?_)
  · obtain ⟨a, ns, k, rfl, _⟩ := h
    rfl
  · obtain ⟨a, ns, k, rfl, ha, h0, q⟩ := h
    refine ⟨_, (pss_cons (ps_if (pt_cmpR op_lt (pv 1) (pe_callB (r := rLenS K) call_len_seq (by rfl) T.n_len PySem.boot_len (pa_cons (pv 0) pa_nil)) (nomark _))
        (pss_cons (ps_ret (pe_ix (r := rIxL K) ix_list (pv 0) (pv 1) (fun _ _ => rfl)))
          pss_nil)
        pss_nil)
      (pss_cons (ps_ret pe_int)
      pss_nil)), ?_⟩
    refine Sv.go (w_when (et_test (ev_op (ev_var rfl) (ev_len (ev_var rfl) ha) rv_I0)) (fun hb => ?_) fun hb => w_ret ev_c fun H1 e1 => q 0 H1 e1)
    have hk := of_decide_eq_true hb
    rw [List.length_map] at hk
    obtain ⟨n, _, hn⟩ := at_ints h0 hk
    exact w_ret (ev_op (ev_var rfl) (ev_var rfl) (rv_ixL ha hn)) fun H1 e1 => q n H1 e1
def spDraw : Sp := fun vs H Q _ => ∃ c k m : Int, vs = [.int c, .int k, .int m] ∧ 0 < m ∧ ∀ d, 0 ≤ d → d < m → RetV (.int d) H Q
theorem def_law_draw (R : Raw K mg "_law_draw" s_law_draw ["_law_cell", "_law_k", "_law_many"]) (T : Txt K mg) : Def P w K mg base CX0 1 "_law_draw" ["_law_cell", "_law_k", "_law_many"] spDraw := by
  refine R.ok fun f fd F => F.ok sc_law_draw (fun vs H Q E h => ?_) (fun cdv A outer s H vs Q E hr h => ?_)
  · obtain ⟨c, k, m, rfl, _⟩ := h
    rfl
  · obtain ⟨c, k, m, rfl, h0, q⟩ := h
    refine ⟨_, (pss_cons (ps_set (i := 3) sc_law_draw.nd rfl (Or.inl rfl) (pe_tup (pa_cons pe_int (pa_cons pe_int (pa_cons pe_int (pa_cons pe_int (pa_cons pe_int (pa_cons pe_int (pa_cons pe_int (pa_cons pe_int (pa_cons pe_int (pa_cons pe_int (pa_cons pe_int (pa_cons pe_int (pa_cons pe_int (pa_cons pe_int (pa_cons pe_int (pa_cons pe_int pa_nil))))))))))))))))))
      (pss_cons (ps_ret (pe_op op_mod (pe_op op_mod (pe_op op_add (pe_op op_mul (pv 0) pe_int) (pe_op op_mul (pv 1) pe_int)) (pe_ix (r := rIxT K) ix_tup (pv 3) (pe_op op_mod (pv 1) pe_int) (fun _ _ => rfl))) (pv 2)))
      pss_nil)), ?_⟩
    have hp : ∃ n, n ∈ primes ∧ atI (primes.map V.int) (k % 16) = some (.int n) := at_ints (by omega) (by show k % 16 < 16; omega)
    obtain ⟨n, hn, hat⟩ := hp
    have hpos : 0 < n := by
      have h : ∀ x ∈ primes, 0 < x := by decide
      exact h n hn
    refine Sv.go (w_asgU (xs := primes.map V.int) (eu_tup (vs := primes.map V.int) (ea_cons ev_c (ea_cons ev_c (ea_cons ev_c (ea_cons ev_c (ea_cons ev_c (ea_cons ev_c (ea_cons ev_c (ea_cons ev_c (ea_cons ev_c (ea_cons ev_c (ea_cons ev_c (ea_cons ev_c (ea_cons ev_c (ea_cons ev_c (ea_cons ev_c (ea_cons ev_c ea_nil)))))))))))))))) (by decide)) fun p H1 np e1 hp => ?_)
    exact w_ret (ev_op (ev_op (ev_op (ev_op (ev_var rfl) ev_c (rv_I (.inr (by omega)))) (ev_op (ev_var rfl) ev_c (rv_I (.inr (by omega)))) rv_I0) (ev_ixU (ev_varU rfl hp) (ev_op (ev_var rfl) ev_c (rv_I (by omega))) hat) (rv_I hpos)) (ev_var rfl) (rv_I h0))
      fun H2 e2 => q _ (Int.emod_nonneg _ (by omega)) (Int.emod_lt_of_pos _ h0) H2 (e1.trans e2)
/-- a call of _law_draw -/
theorem evp_draw {s : L2.St} {H : Hp} {ta tb tc : TE} {p : Int → Prop} {m : Int} (ha : EvP ta s H (IsI p)) (hb : EvP tb s H (IsI fun _ => True)) (hc : Ev tc s H (.int m)) (hm : 0 < m) : EvP (tCall spDraw [] E0 (tCons ta (tCons tb (tCons tc tNil)))) s H (IsI fun d => 0 ≤ d ∧ d < m) :=
  evp_callP (ap_three ha hb hc.p) fun vs H1 e1 ⟨v, w, x, ev, ⟨c, ec, _⟩, ⟨k, ek, _⟩, ex⟩ Q q => ⟨c, k, m, by rw [ev, ec, ek, ex], hm, fun d h0 h1 H2 e2 => q _ H2 e2 ⟨d, rfl, h0, h1⟩⟩
/-- a call of _law_cell_at -/
theorem evp_cell {s : L2.St} {H : Hp} {ta tb : TE} {a : Addr} {ns : List Int} {k : Int} (ha : Ev ta s H (.ref a)) (hs : SqL K H a (ns.map V.int)) (hb : Ev tb s H (.int k)) (h0 : 0 ≤ k) : EvP (tCall (spCell K) [] E0 (tCons ta (tCons tb tNil))) s H (IsI fun _ => True) :=
  evp_callP (ap_two ha.p hb.p) fun vs H1 e1 ⟨v, w, ev, ea, ew⟩ Q q => ⟨a, ns, k, by rw [ev, ea, ew], ex_l e1 hs, h0, fun i H2 e2 => q _ H2 e2 ⟨i, rfl, trivial⟩⟩
theorem evt_of {s : L2.St} {H : Hp} {te : TE} {b : Bool} (h : Ev te s H (.bl b)) : EvT (tTest te) s H b := et_test h
/-- a == b of ints of which little is known, as a test -/
theorem et2_eq {s : L2.St} {H : Hp} {ta tb : TE} {p q : Int → Prop} (ha : EvP ta s H (IsI p)) (hb : EvP tb s H (IsI q)) : ∀ H1, Ex H H1 → ∀ Q : Bool → Hp → Prop, (∀ b H2, Ex H1 H2 → Q b H2) → tTest (tOp rEq ta tb) s H1 Q := fun H1 e Q k =>
  ha H1 e _ fun a H2 e2 ⟨i, ea, _⟩ => hb H2 (e.trans e2) _ fun b H3 e3 ⟨j, eb, _⟩ => by
    subst ea eb
    exact ⟨rfl, _, rfl, k _ H3 (e2.trans e3)⟩
def Within (B : Int) (l : List Int) : Prop := ∀ x ∈ l, -B ≤ x ∧ x ≤ B
def spRow (K : PySem.W.Frag) : Sp := fun vs H Q _ => ∃ (a : Addr) (ns : List Int), vs = [.ref a] ∧ SqL K H a (ns.map V.int) ∧ ns.length ≤ 63 ∧ ∀ rs : List Int, rs.length = ns.length + 1 → Within 900000 rs → RetL (rs.map V.int) H Q
theorem def_law_row (R : Raw K mg "_law_row" s_law_row ["_law_script"]) (T : Txt K mg) (d_law_cell_at : Def P w K mg base CX0 1 "_law_cell_at" ["_law_script", "_law_k"] (spCell K)) (d_law_draw : Def P w K mg base CX0 1 "_law_draw" ["_law_cell", "_law_k", "_law_many"] spDraw) :
    Def P w K mg base CX0 2 "_law_row" ["_law_script"] (spRow K) := by
  refine R.ok fun f fd F => F.ok sc_law_row (fun vs H Q E h => ?_) (fun cdv A outer s H vs Q E hr h => ?_)
  · obtain ⟨a, ns, rfl, _⟩ := h
    rfl
  · obtain ⟨a, ns, rfl, ha, hz, q⟩ := h
    refine ⟨_, (pss_cons (ps_set (i := 1) sc_law_row.nd rfl (Or.inl rfl) (pe_ix (r := rIxT K) ix_tup (pe_tup (pa_cons pe_int (pa_cons pe_int (pa_cons pe_int (pa_cons pe_int pa_nil))))) (pe_def d_law_draw hr (by decide) (by rfl) pass0 (pa_cons (pe_def d_law_cell_at hr (by decide) (by rfl) pass0 (pa_cons (pv 0) (pa_cons pe_int pa_nil))) (pa_cons pe_int (pa_cons pe_int pa_nil)))) (fun _ _ => rfl)))
      (pss_cons (ps_set (i := 2) sc_law_row.nd rfl (Or.inl rfl) (pe_lst (pa_cons (pe_op op_sub (pe_def d_law_draw hr (by decide) (by rfl) pass0 (pa_cons (pe_def d_law_cell_at hr (by decide) (by rfl) pass0 (pa_cons (pv 0) (pa_cons pe_int pa_nil))) (pa_cons pe_int (pa_cons pe_int pa_nil)))) pe_int) pa_nil)))
      (pss_cons (ps_for PassesOwn.never rfl (pi_range1 (by rfl) T.n_range (pa_cons (pe_callB (r := rLenS K) call_len_seq (by rfl) T.n_len PySem.boot_len (pa_cons (pv 0) pa_nil)) pa_nil)) (pg_name (i := 3) sc_law_row.nd rfl (Or.inl rfl))
        (pss_cons (ps_set (i := 4) sc_law_row.nd rfl (Or.inl rfl) (pe_def d_law_draw hr (by decide) (by rfl) pass0 (pa_cons (pe_ix (r := rIxL K) ix_list (pv 0) (pv 3) (fun _ _ => rfl)) (pa_cons (pe_op op_add (pe_op op_mod (pv 3) pe_int) pe_int) (pa_cons (pe_op op_add (pv 1) pe_int) pa_nil)))))
          (pss_cons (ps_expr (pe_bm PySem.F.plainAttrs_list PySem.F.slot_list_append PySem.F.type_list_append mt_append (pv 2) (pa_cons (pe_ifExp (pt_cmpR op_eq (pe_def d_law_draw hr (by decide) (by rfl) pass0 (pa_cons (pe_ix (r := rIxL K) ix_list (pv 0) (pv 3) (fun _ _ => rfl)) (pa_cons (pe_op op_add (pe_op op_mod (pv 3) pe_int) pe_int) (pa_cons pe_int pa_nil)))) pe_int (nomark _)) (pv 4) (pe_un un_neg (pv 4))) pa_nil)))
          pss_nil)))
      (pss_cons (ps_ret (pv 2))
      pss_nil)))), ?_⟩
    refine Sv.go (w_asgP (P := IsI fun m => 0 < m ∧ m ≤ 900000) (evp_op (evU_p (eu_tup (vs := ([2, 9, 400, 900000] : List Int).map V.int) (ea_cons ev_c (ea_cons ev_c (ea_cons ev_c (ea_cons ev_c ea_nil)))) (by decide))) (evp_draw (evp_cell (ev_var rfl) ha ev_c (by omega)) (ev_i ev_c trivial) ev_c (by omega)) ?_) ?_)
    · intro x y H1 e1 ⟨p, ex, hp⟩ ⟨d, ey, h0, h1⟩ H2 e2 Q k
      obtain ⟨n, hn, hat⟩ := at_ints (ns := [2, 9, 400, 900000]) h0 (by simpa using h1)
      refine ⟨p, _, d, .int n, ex, ey, st_of (e2 _ _ hp), hat, k _ H2 (Ex.refl H2) ⟨n, rfl, ?_⟩⟩
      have hall : ∀ x ∈ ([2, 9, 400, 900000] : List Int), 0 < x ∧ x ≤ 900000 := by decide
      exact hall n hn
    · rintro v H1 e1 ⟨m, rfl, hm0, hm1⟩
      have hL : EvP (tLst (tCons (tOp (rI0 fun i j => .int (i - j)) (tCall spDraw [] E0 (tCons (tCall (spCell K) [] E0 (tCons (tVar 0) (tCons (tC (.int 1)) tNil))) (tCons (tC (.int 7)) (tCons (tC (.int 5)) tNil)))) (tC (.int 2))) tNil)) [some (.ref a), some (.int m), none, none, none] H1 (fun x H2 => ∃ p rs, x = .ref p ∧ H1 p = none ∧ H2 p = some (.lst (rs.map V.int)) ∧ rs.length = 1 ∧ Within 900000 rs) := by
        intro H2 e2 Q k
        refine evp_int (w := fun i => -2 ≤ i ∧ i ≤ 2) (evp_draw (evp_cell (ev_var rfl) (ex_l e1 ha) ev_c (by omega)) (ev_i ev_c trivial) ev_c (by omega)) (ev_i (p := fun i => i = 2) ev_c rfl) (fun i j h1 h2 => ⟨by omega, by omega⟩) H2 e2 _ fun x H3 e3 ⟨i, ex, h1, h2⟩ => ?_
        refine ⟨by show 1 ≤ sizeLine; decide, fun p hp => k _ _ (e3.trans (Ex.new hp)) ⟨p, [i], rfl, fresh_back (e2.trans e3) hp, ?_, rfl, fun y hy => ?_⟩⟩
        · subst ex
          exact upd_same
        · have : y = i := by simpa using hy
          subst this
          exact ⟨by omega, by omega⟩
      refine w_asgP hL fun x H2 e2 ⟨p, rs0, ex, np, hp, hl0, hw0⟩ => ?_
      subst ex
      have ha2 : SqL K H2 a (ns.map V.int) := ex_l (e1.trans e2) ha
      have np0 : H p = none := fresh_back e1 np
      refine w_forR1 (ea_cons (ev_len (ev_var rfl) ha2) ea_nil) (by rw [List.length_map]; omega) (fun i s' H' => ∃ y z rs, s' = [some (.ref a), some (.int m), some (.ref p), y, z] ∧ Ex H H' ∧ H' p = some (.lst (rs.map V.int)) ∧ rs.length = i + 1 ∧ Within 900000 rs) (fun H3 e3 => ⟨none, none, rs0, rfl, (e1.trans e2).trans e3, e3 _ _ hp, hl0, hw0⟩) ?_ ?_
      · rintro i s' H' hi ⟨y, z, rs, rfl, ex, hp', hl, hw⟩
        rw [List.length_map] at hi
        obtain ⟨n, _, hn⟩ := at_ints (ns := ns) (i := (i : Int)) (by omega) (by omega)
        have ha3 : SqL K H' a (ns.map V.int) := ex_l ex ha
        refine w_asgP (P := IsI fun d => 0 ≤ d ∧ d < m + 1) (evp_draw (p := fun _ => True) (ev_i (ev_op (ev_var rfl) (ev_var rfl) (rv_ixL ha3 hn)) trivial) (ev_i (ev_op (ev_op (ev_var rfl) ev_c (rv_I (by omega))) ev_c rv_I0) trivial) (ev_op (ev_var rfl) ev_c rv_I0) (by omega)) ?_
        rintro v H3 e3 ⟨d, rfl, d0, d1⟩
        have ha4 := ex_l e3 ha3
        refine w_appP (P := IsI fun v => -900000 ≤ v ∧ v ≤ 900000) (e3 _ _ hp') (ev_var rfl) (evp_if2 (et2_eq (evp_draw (p := fun _ => True) (ev_i (ev_op (ev_var rfl) (ev_var rfl) (rv_ixL ha4 hn)) trivial) (ev_i (ev_op (ev_op (ev_var rfl) ev_c (rv_I (by omega))) ev_c rv_I0) trivial) ev_c (by omega)) (ev_i (p := fun _ => True) ev_c trivial)) (ev_i (ev_var rfl) ⟨by omega, by omega⟩) (evp_neg (p := fun v => v = d) (ev_i (ev_var rfl) rfl) fun i hi => ⟨by omega, by omega⟩)) (by rw [List.length_map]; omega) ?_ (fun v H o h => h)
        rintro v H4 ⟨x, rfl, x0, x1⟩ pt
        refine w_nx fun H5 e5 => Exists.intro (some (.int (i : Int))) ⟨some (.int d), rs ++ [x], rfl, (pt.ex (ex.trans e3) np0).trans e5, ?_, by rw [List.length_append, hl]; rfl, fun y hy => ?_⟩
        · rw [e5 _ _ pt.new, List.map_append]
          rfl
        · rcases List.mem_append.mp hy with hy | hy
          · exact hw y hy
          · have : y = x := by simpa using hy
            subst this
            exact ⟨x0, x1⟩
      · rintro s' H' ⟨y, z, rs, rfl, ex, hp', hl, hw⟩
        rw [List.length_map] at hl
        exact w_ret (ev_var rfl) fun H2 e2 => q rs (by omega) hw p H2 np0 (ex.trans e2) (e2 _ _ hp')
end
end Ev

set_option Elab.async false
set_option linter.all false
set_option maxRecDepth 100000
set_option maxHeartbeats 4000000
namespace Ev
open PySem PySem.Spec L2 Evl Wk
theorem rng_ok : ∀ L : Nat, L < 65 → (((1 : Int) + (L : Int) / 20 ≠ 0 ∧ ((1 : Int) + (L : Int) / 20).natAbs < 1073741824 ∧ Builtin.Range.small 0 (L : Int) (1 + (L : Int) / 20) = true ∧ Builtin.Range.rangeSize 0 (L : Int) (1 + (L : Int) / 20) = ((Builtin.Range.rangeSize 0 (L : Int) (1 + (L : Int) / 20)).toNat : Int)) ∧ (Builtin.Range.rangeSize 0 (L : Int) (1 + (L : Int) / 20)).toNat < 65 ∧
  ∀ i : Nat, i < (Builtin.Range.rangeSize 0 (L : Int) (1 + (L : Int) / 20)).toNat → (0 : Int) + (i : Int) * (1 + (L : Int) / 20) < (L : Int)) := by decide +kernel
section
variable {K : PySem.W.Frag} {s : L2.St} {H : Hp} {te ta tb tc : TE} {xs : List V}
def ValX (K : PySem.W.Frag) (m : String) : V → Hp → Prop := fun v H => ∃ n, ValT K n v H ∧ n ≠ m
instance {m : String} : MonoP (ValX K m) := ⟨fun e ⟨n, h1, h2⟩ => ⟨n, MonoP.mono e h1, h2⟩⟩
theorem vx_non {m : String} (h : "NoneType" ≠ m) : EvP (tC .non) s H (ValX K m) := (ev_c (v := .non)).p.imp fun v H1 _ ev => ⟨_, by rw [ev]; exact valT_non, h⟩
theorem vx_str {m : String} (z : Str) (h : "str" ≠ m) : EvP (tC (.str z)) s H (ValX K m) := (ev_c (v := .str z)).p.imp fun v H1 _ ev => ⟨_, by rw [ev]; exact valT_str z, h⟩
theorem vx_bl {m : String} (b : Bool) (h : "bool" ≠ m) : EvP (tC (.bl b)) s H (ValX K m) := (ev_c (v := .bl b)).p.imp fun v H1 _ ev => ⟨_, by rw [ev]; exact valT_bl b, h⟩
theorem vx_int {m : String} {i : Int} (h0 : Ev te s H (.int i)) (h : "int" ≠ m) : EvP te s H (ValX K m) := h0.p.imp fun v H1 _ ev => ⟨_, by rw [ev]; exact valT_int i, h⟩
theorem vx_tup {m : String} (h0 : EvU te s H xs) (h : "tuple" ≠ m) : EvP te s H (ValX K m) := (evU_p h0).imp fun v H1 _ ⟨p, ev, hp⟩ => ⟨_, by rw [ev]; exact valT_tup hp, h⟩
theorem vx_lst {m : String} (h0 : EvL te s H xs) (h : "list" ≠ m) : EvP te s H (ValX K m) := (EvL.p h0).imp fun v H1 _ ⟨p, ev, hp⟩ => ⟨_, by rw [ev]; exact valT_lst hp, h⟩
theorem vx_dk {m : String} (h : "dict" ≠ m) : EvP tDNewK s H (ValX K m) := fun H1 e Q q => fun p hp => q _ _ (Ex.new hp) ⟨_, valT_dk upd_same, h⟩
theorem eu_0 : EvU (tTup tNil) s H [] := eu_tup (vs := []) ea_nil (by decide)
theorem eu_1 {a : V} (h1 : Ev ta s H a) : EvU (tTup (tCons ta tNil)) s H [a] := eu_tup (vs := [a]) (ea_cons h1 ea_nil) (by simp)
theorem eu_2 {a b : V} (h1 : Ev ta s H a) (h2 : Ev tb s H b) : EvU (tTup (tCons ta (tCons tb tNil))) s H [a, b] := eu_tup (vs := [a, b]) (ea_cons h1 (ea_cons h2 ea_nil)) (by simp)
theorem eu_3 {a b c : V} (h1 : Ev ta s H a) (h2 : Ev tb s H b) (h3 : Ev tc s H c) : EvU (tTup (tCons ta (tCons tb (tCons tc tNil)))) s H [a, b, c] := eu_tup (vs := [a, b, c]) (ea_cons h1 (ea_cons h2 (ea_cons h3 ea_nil))) (by simp)
/-! rows that are none -/
theorem br_val (h : EvP te s H (ValX K "list")) : EvP te s H (BadRowV K) := h.imp fun v H1 _ h => .inl h
theorem br_nil : EvP (tLst tNil) s H (BadRowV K) := (EvL.p (el_lst (vs := []) ea_nil (by decide))).imp fun v H1 _ ⟨p, ev, hp⟩ => .inr (.inr ⟨p, ev, hp⟩)
def BadElV (K : PySem.W.Frag) : V → Hp → Prop := fun v H => (∃ n, ValT K n v H) ∧ shV v = false
theorem be_val {m : String} (h : EvP te s H (ValX K m)) (hm : ∀ v H1, ValX K m v H1 → shV v = false) : EvP te s H (BadElV K) := h.imp fun v H1 _ h => ⟨let ⟨n, hv, _⟩ := h; ⟨n, hv⟩, hm v H1 h⟩
theorem ni {v : V} {H1 : Hp} (h : ValX K "int" v H1) : shV v = false := let ⟨n, hv, hn⟩ := h; hv.2.2.2 (beq_eq_false_iff_ne.mpr hn)
theorem be_int {i : Int} (h0 : Ev te s H (.int i)) (h : isSh i = false) : EvP te s H (BadElV K) := h0.p.imp fun v H1 _ ev => by
  rw [ev]
  exact ⟨⟨_, valT_int i⟩, h⟩
/-- what one new list of one thing makes of it -/
theorem evp_one1 {P : V → Hp → Prop} [MonoP P] (h : EvP te s H P) : EvP (tLst (tCons te tNil)) s H (fun v H1 => ∃ p x, v = .ref p ∧ H1 p = some (.lst [x]) ∧ P x H1) := fun H1 e Q q =>
  h H1 e _ fun x H2 e2 px => ⟨by show 1 ≤ sizeLine; decide, fun p hp => q _ _ (e2.trans (Ex.new hp)) ⟨p, x, rfl, upd_same, MonoP.mono (Ex.new hp) px⟩⟩
instance : MonoP (BadElV K) := ⟨fun e ⟨⟨n, h1⟩, h2⟩ => ⟨⟨n, MonoP.mono e h1⟩, h2⟩⟩
theorem br_one (h : EvP te s H (BadElV K)) : EvP (tLst (tCons te tNil)) s H (BadRowV K) := (evp_one1 h).imp fun v H1 _ ⟨p, x, ev, hp, ⟨n, hv⟩, hx⟩ => .inr (.inl ⟨p, _, ev, hp, by simp, fun y hy => ⟨n, by rw [List.mem_singleton.mp hy]; exact hv⟩, by simp [hx]⟩)
/-! gifts that are none -/
def BadGiftV (K : PySem.W.Frag) : V → Hp → Prop := fun v H => GiftV K 2 v false H
instance : MonoP (BadGiftV K) := ⟨fun e h => GiftV.mono h e⟩
theorem bg_val (h : EvP te s H (ValX K "tuple")) : EvP te s H (BadGiftV K) := h.imp fun v H1 _ h => .inr ⟨rfl, .inl h⟩
theorem bg_len (h : EvU te s H xs) (hl : xs.length ≠ 3) : EvP te s H (BadGiftV K) := (evU_p h).imp fun v H1 _ ⟨p, ev, hp⟩ => .inr ⟨rfl, .inr (.inl ⟨p, xs, ev, hp, hl⟩)⟩
theorem bg_no {a b c : Int} (h : EvU te s H [.int a, .int b, .int c]) (hg : gOk 2 (a, b, c) = false) : EvP te s H (BadGiftV K) := (evU_p h).imp fun v H1 _ ⟨p, ev, hp⟩ => .inl ⟨p, (a, b, c), ev, hp, hg.symm⟩
theorem bg_odd {a b c : V} (h : EvU te s H [a, b, c]) (hv : ∀ y ∈ [a, b, c], ∃ n, ∀ G, ValT K n y G) (hw : (([a, b, c] : List V).map whV).all id = false) : EvP te s H (BadGiftV K) := (evU_p h).imp fun v H1 _ ⟨p, ev, hp⟩ => .inr ⟨rfl, .inr (.inr ⟨p, [a, b, c], ev, hp, rfl, (fun y hy => let ⟨n, h⟩ := hv y hy; ⟨n, h H1⟩), hw⟩)⟩
theorem bgs_val (h : EvP te s H (ValX K "list")) : EvP te s H (BadGiftsV K 2) := h.imp fun v H1 _ h => .inl h
theorem bgs_one (h : EvP te s H (BadGiftV K)) : EvP (tLst (tCons te tNil)) s H (BadGiftsV K 2) := (evp_one1 h).imp fun v H1 _ ⟨p, x, ev, hp, hg⟩ => .inr ⟨p, _, fun _ => false, ev, hp, by simp, fun z hz => by rw [List.mem_singleton.mp hz]; exact hg, by simp⟩
theorem bgs_five {a b c i : Int} (h1 : EvU ta s H [.int a, .int b, .int c]) (hg : gOk 2 (a, b, c) = true) : EvP (tLst (tCons ta (tCons (tC (.int i)) tNil))) s H (BadGiftsV K 2) := fun H1 e Q q =>
  h1 H1 e _ fun x H2 nx e2 hx => ⟨by show 2 ≤ sizeLine; decide, fun p hp => by
    have n2 : x ≠ p := ne_of_none hx hp
    refine q _ _ (e2.trans (Ex.new hp)) (.inr ⟨p, [.ref x, .int i], fun v => match v with | .ref _ => true | _ => false, rfl, upd_same, by simp, fun z hz => ?_, rfl⟩)
    rcases List.mem_cons.mp hz with rfl | hz
    · exact .inl ⟨x, (a, b, c), rfl, by rw [upd_ne n2]; exact hx, hg.symm⟩
    · rw [List.mem_singleton.mp hz]
      exact .inr ⟨rfl, .inl ⟨"int", valT_int i, by decide⟩⟩⟩
/-! amounts that are none -/
theorem ba_val (h : EvP te s H (ValX K "int")) : EvP te s H (BadAmtV K) := h.imp fun v H1 _ h => .inl h
theorem ba_int {i : Int} (h0 : Ev te s H (.int i)) (h : ¬ (0 ≤ i ∧ i ≤ 1000000000)) : EvP te s H (BadAmtV K) := h0.p.imp fun v H1 _ ev => .inr ⟨i, ev, h⟩
/-- list(range(n)) -/
theorem evp_listRg {n : Int} (h : Ev te s H (.int n)) (h0 : 0 ≤ n) (h1 : n ≤ 1000) : EvP (tLstRg (tRg1 te)) s H (AllL fun v _ => ∃ d : Int, v = .int d) := fun H1 e Q q =>
  h H1 e _ fun H2 e2 => ⟨n, rfl, RgOk.of_le (by decide) (by omega) (by decide) h0, fun p hp => q _ _ (e2.trans (Ex.new hp)) ⟨p, rgV 0 n, rfl, upd_same, by rw [rgV_length]; omega, fun t ht => by
    obtain ⟨i, _, rfl⟩ := List.mem_map.mp ht
    exact ⟨_, rfl⟩⟩⟩
instance : MonoP (fun (v : V) (_ : Hp) => ∃ d : Int, v = .int d) := ⟨fun _ h => h⟩
instance {c : Int} : MonoP (fun (v : V) (_ : Hp) => v = .int c) := ⟨fun _ h => h⟩
instance : MonoP (fun (v : V) (_ : Hp) => v = .int 0 ∨ v = .int 1) := ⟨fun _ h => h⟩
/-- two rows of other counts -/
def PairV : V → Hp → Prop := fun v H => ∃ r x y ns ms, v = .ref r ∧ H r = some (.tup [x, y]) ∧ RowAt x ns H ∧ RowAt y ms H ∧ ms.length ≠ ns.length
instance : MonoP PairV := ⟨fun e ⟨r, x, y, ns, ms, h1, h2, h3, h4, h5⟩ => ⟨r, x, y, ns, ms, h1, e _ _ h2, h3.mono e, h4.mono e, h5⟩⟩
theorem evp_pair {ns ms : List Int} (h1 : EvP ta s H (fun x G => RowAt x ns G)) (h2 : EvP tb s H (fun x G => RowAt x ms G)) (hl : ms.length ≠ ns.length) : EvP (tTup (tCons ta (tCons tb tNil))) s H PairV := fun H1 e Q q =>
  h1 H1 e _ fun x H2 e2 hx => h2 H2 (e.trans e2) _ fun y H3 e3 hy => ⟨by show 2 ≤ sizeLine; decide, fun p hp => q _ _ ((e2.trans e3).trans (Ex.new hp)) ⟨p, x, y, ns, ms, rfl, upd_same, hx.mono (e3.trans (Ex.new hp)), hy.mono (Ex.new hp), hl⟩⟩
theorem evk {i j : Nat} {s : L2.St} (h : s[3]? = some (some (.int (i : Int)))) : Ev (tOp rEq (tVar 3) (tC (.int (j : Int)))) s H (.bl (decide (i = j))) := ev_is (ev_op (ev_var h) ev_c (rv_eq rfl)) (by
  have e : (V.int (i : Int) = V.int (j : Int)) ↔ i = j := ⟨fun h => by injection h with h; omega, fun h => by rw [h]⟩
  rw [decide_eq_decide.mpr e])
end
theorem odd1 {K : PySem.W.Frag} (b : Bool) (i j : Int) : ∀ y ∈ [V.bl b, V.int i, V.int j], ∃ n, ∀ G, ValT K n y G := fun y hy => by
  rcases List.mem_cons.mp hy with rfl | hy
  · exact ⟨_, fun G => valT_bl b⟩
  · rcases List.mem_cons.mp hy with rfl | hy
    · exact ⟨_, fun G => valT_int i⟩
    · rw [List.mem_singleton.mp hy]; exact ⟨_, fun G => valT_int j⟩
theorem odd2 {K : PySem.W.Frag} (i : Int) (b : Bool) (j : Int) : ∀ y ∈ [V.int i, V.bl b, V.int j], ∃ n, ∀ G, ValT K n y G := fun y hy => by
  rcases List.mem_cons.mp hy with rfl | hy
  · exact ⟨_, fun G => valT_int i⟩
  · rcases List.mem_cons.mp hy with rfl | hy
    · exact ⟨_, fun G => valT_bl b⟩
    · rw [List.mem_singleton.mp hy]; exact ⟨_, fun G => valT_int j⟩
theorem odd3 {K : PySem.W.Frag} (i j : Int) (b : Bool) : ∀ y ∈ [V.int i, V.int j, V.bl b], ∃ n, ∀ G, ValT K n y G := fun y hy => by
  rcases List.mem_cons.mp hy with rfl | hy
  · exact ⟨_, fun G => valT_int i⟩
  · rcases List.mem_cons.mp hy with rfl | hy
    · exact ⟨_, fun G => valT_int j⟩
    · rw [List.mem_singleton.mp hy]; exact ⟨_, fun G => valT_bl b⟩
theorem odd4 {K : PySem.W.Frag} (z : Str) (i j : Int) : ∀ y ∈ [V.str z, V.int i, V.int j], ∃ n, ∀ G, ValT K n y G := fun y hy => by
  rcases List.mem_cons.mp hy with rfl | hy
  · exact ⟨_, fun G => valT_str z⟩
  · rcases List.mem_cons.mp hy with rfl | hy
    · exact ⟨_, fun G => valT_int i⟩
    · rw [List.mem_singleton.mp hy]; exact ⟨_, fun G => valT_int j⟩
theorem odd5 {K : PySem.W.Frag} (i j : Int) : ∀ y ∈ [V.int i, V.int j, V.non], ∃ n, ∀ G, ValT K n y G := fun y hy => by
  rcases List.mem_cons.mp hy with rfl | hy
  · exact ⟨_, fun G => valT_int i⟩
  · rcases List.mem_cons.mp hy with rfl | hy
    · exact ⟨_, fun G => valT_int j⟩
    · rw [List.mem_singleton.mp hy]; exact ⟨_, fun G => valT_non⟩
def spLawX (K : PySem.W.Frag) : Sp := fun vs H Q _ => ∃ (a : Addr) (ns : List Int), vs = [.ref a] ∧ SqL K H a (ns.map V.int) ∧ ns.length ≤ 63 ∧ ∀ H', Q (.bl true) H'
section
variable {P : Program} {w : World} {K : PySem.W.Frag} {mg : Str → Option Value} {base : Heap} {cS cB cG cA cU cT : Addr}
theorem ok_law {f : Addr} {fd : FuncData} (F : Fun K "law" "law" s_law f fd) (T : Txt K mg) (KB : KnownE K cS cB cG cA cU cT cB true false false false) (KG : KnownE K cS cB cG cA cU cT cG false true false false) (KA : KnownE K cS cB cG cA cU cT cA false false true false) (KU : KnownE K cS cB cG cA cU cT cU false false false true)
    (d_law_cell_at : Def P w K mg base CX0 1 "_law_cell_at" ["_law_script", "_law_k"] (spCell K)) (d_law_row : Def P w K mg base CX0 2 "_law_row" ["_law_script"] (spRow K)) (d_law_told : Def P w K mg base CX0 7 "_law_told" ["_law_ask", "_law_one", "_law_other_here"] (spTold P w K mg base cS cB cG cA cU cT))
    (d_law_all : Def P w K mg base CX0 8 "_law_all" ["_law_ask", "_law_doors", "_law_things", "_law_due"] (spAll P w K mg base cS cB cG cA cU cT)) (x_law_with_row : Def P w K mg base (L2N.CX P w) 6 "_law_with_row" ["_law_door", "_law_row_here"] (spWithRow K cB)) (x_law_with_amount : Def P w K mg base (L2N.CX P w) 5 "_law_with_amount" ["_law_door", "_law_thing"] (spWithAmount K cA))
    (x_law_with_gifts : Def P w K mg base (L2N.CX P w) 5 "_law_with_gifts" ["_law_row_here", "_law_gifts"] (spThru (spDoneX K cB cG))) (x_law_with_two : Def P w K mg base (L2N.CX P w) 6 "_law_with_two" ["_law_one", "_law_other_here"] (spThru (spBad2 K cB cU))) (x_law_with_wholes : Def P w K mg base (L2N.CX P w) 6 "_law_with_wholes" ["_law_one", "_law_other_here"] (spThru (spUnderX K cB cU)))
    (d_law_bounds_right : Def P w K mg base CX0 8 "_law_bounds_right" ["_law_due"] spBounds) (d_law_edges_right : Def P w K mg base CX0 8 "_law_edges_right" ["_law_due"] (spEdges cA)) (d_law_some_beyond : Def P w K mg base CX0 8 "_law_some_beyond" ["_law_due"] (spBeyond cA))
    (x_above : Def P w K mg base (L2N.CX P w) 4 "above" ["row", "mark"] (spAboveX K cB cA)) (x_taken : Def P w K mg base (L2N.CX P w) 4 "taken" ["row", "amount"] (spTakenX K cB cA takeF)) : FnOk P w K mg base CX0 9 f fd ["_law_script"] (spLawX K) := by
  obtain ⟨f1, g_law_with_row, ask1⟩ := askAt_of x_law_with_row (by decide)
  obtain ⟨f2, g_law_with_amount, ask2⟩ := askAt_of x_law_with_amount (by decide)
  obtain ⟨f3, g_law_with_gifts, ask3⟩ := askAt_of x_law_with_gifts (by decide)
  obtain ⟨f4, g_law_with_two, ask4⟩ := askAt_of x_law_with_two (by decide)
  obtain ⟨f5, g_law_with_wholes, ask5⟩ := askAt_of x_law_with_wholes (by decide)
  refine F.ok sc_law (fun vs H Q E h => ?_) (fun cdv A' outer s H vs Q E hr h => ?_)
  · obtain ⟨a, ns, rfl, _⟩ := h
    rfl
  · obtain ⟨a, ns, rfl, ha, hz, q⟩ := h
    refine ⟨_, (pss_cons (ps_set (i := 1) sc_law.nd rfl (Or.inl rfl) (pe_op op_mod (pe_def d_law_cell_at hr (by decide) (by rfl) pass0 (pa_cons (pv 0) (pa_cons pe_int pa_nil))) (pe_op op_pow pe_int pe_int)))
      (pss_cons (ps_set (i := 2) sc_law.nd rfl (Or.inl rfl) (pe_lst pa_nil))
      (pss_cons (ps_for PassesOwn.never rfl (pi_range1 (by rfl) T.n_range (pa_cons pe_int pa_nil)) (pg_name (i := 3) sc_law.nd rfl (Or.inl rfl))
        (pss_cons (ps_expr (pe_bm PySem.F.plainAttrs_list PySem.F.slot_list_append PySem.F.type_list_append mt_append (pv 2) (pa_cons (pe_lst (pa_cons (pe_cmpR op_eq (pv 3) pe_int (nomark _)) (pa_cons (pe_cmpR op_eq (pv 3) pe_int (nomark _)) (pa_cons (pe_cmpR op_eq (pv 3) pe_int (nomark _)) (pa_cons (pe_cmpR op_eq (pv 3) pe_int (nomark _)) (pa_cons pe_bl (pa_cons pe_bl pa_nil))))))) pa_nil)))
          pss_nil))
      (pss_cons (ps_set (i := 4) sc_law.nd rfl (Or.inl rfl) (pe_def d_law_row hr (by decide) (by rfl) pass0 (pa_cons (pv 0) pa_nil)))
      (pss_cons (ps_set (i := 5) sc_law.nd rfl (Or.inl rfl) (pe_callTy (r := rListS K) call_list_of (by rfl) T.n_list (by decide +kernel) (pa_cons (pv 4) pa_nil)))
      (pss_cons (ps_set (i := 6) sc_law.nd rfl (Or.inl rfl) (pe_lst (pa_cons pe_non (pa_cons (pe_tup pa_nil) (pa_cons (pe_lst pa_nil) (pa_cons (pe_tup (pa_cons pe_int (pa_cons pe_int pa_nil))) (pa_cons pe_str (pa_cons pe_dnewK (pa_cons pe_int (pa_cons (pe_lst (pa_cons pe_non pa_nil)) (pa_cons (pe_lst (pa_cons pe_str pa_nil)) (pa_cons (pe_lst (pa_cons pe_bl pa_nil)) (pa_cons (pe_lst (pa_cons pe_int pa_nil)) (pa_cons (pe_lst (pa_cons (pe_op op_sub (pe_un un_neg pe_int) (pv 1)) pa_nil)) (pa_cons (pe_lst (pa_cons (pe_lst (pa_cons pe_int pa_nil)) pa_nil)) pa_nil)))))))))))))))
      (pss_cons (ps_for PassesOwn.never rfl (pi_range3 (by rfl) T.n_range (pa_cons pe_int (pa_cons (pe_callB (r := rLenS K) call_len_seq (by rfl) T.n_len PySem.boot_len (pa_cons (pv 4) pa_nil)) (pa_cons (pe_op op_add pe_int (pe_op op_fdiv (pe_callB (r := rLenS K) call_len_seq (by rfl) T.n_len PySem.boot_len (pa_cons (pv 4) pa_nil)) pe_int)) pa_nil)))) (pg_name (i := 7) sc_law.nd rfl (Or.inl rfl))
        (pss_cons (ps_expr (pe_bm PySem.F.plainAttrs_list PySem.F.slot_list_append PySem.F.type_list_append mt_append (pv 6) (pa_cons (pe_op op_cat (pe_op op_cat (pe_slice (r := rSlL K) sl_list (pv 4) po_none (po_some (pv 7))) (pe_lst (pa_cons (pe_ix (r := rIxT K) ix_tup (pe_tup (pa_cons pe_non (pa_cons pe_str (pa_cons pe_bl (pa_cons (pe_op op_add pe_int (pv 1)) (pa_cons (pe_un un_neg pe_int) pa_nil)))))) (pe_op op_mod (pv 7) pe_int) (fun _ _ => rfl)) pa_nil))) (pe_slice (r := rSlL K) sl_list (pv 4) (po_some (pe_op op_add (pv 7) pe_int)) po_none)) pa_nil)))
          pss_nil))
      (pss_cons (ps_if (pt_not (pt_val (pe_def d_law_all hr (by decide) (by rfl) pass0 (pa_cons (pe_glob (v := .ref _) rfl g_law_with_row rfl) (pa_cons (pe_listRg rfl (by rfl) T.n_list (prg_1 (by rfl) T.n_range pe_int)) (pa_cons (pv 6) (pa_cons (pe_ix (r := rIxL K) ix_list (pv 2) pe_int (fun _ _ => rfl)) pa_nil)))))))
        (pss_cons (ps_ret pe_bl)
          pss_nil)
        pss_nil)
      (pss_cons (ps_set (i := 8) sc_law.nd rfl (Or.inl rfl) (pe_lst (pa_cons pe_non (pa_cons pe_str (pa_cons (pe_un un_neg pe_int) (pa_cons (pe_op op_sub (pe_un un_neg pe_int) (pv 1)) (pa_cons pe_int (pa_cons (pe_op op_add pe_int (pv 1)) (pa_cons pe_bl (pa_cons (pe_lst (pa_cons pe_int pa_nil)) pa_nil))))))))))
      (pss_cons (ps_if (pt_not (pt_val (pe_def d_law_all hr (by decide) (by rfl) pass0 (pa_cons (pe_glob (v := .ref _) rfl g_law_with_amount rfl) (pa_cons (pe_lst (pa_cons pe_int (pa_cons pe_int pa_nil))) (pa_cons (pv 8) (pa_cons (pe_ix (r := rIxL K) ix_list (pv 2) pe_int (fun _ _ => rfl)) pa_nil)))))))
        (pss_cons (ps_ret pe_bl)
          pss_nil)
        pss_nil)
      (pss_cons (ps_if (pt_not (pt_val (pe_def d_law_all hr (by decide) (by rfl) pass0 (pa_cons (pe_glob (v := .ref _) rfl g_law_with_amount rfl) (pa_cons (pe_lst (pa_cons pe_int pa_nil)) (pa_cons (pe_lst (pa_cons pe_non (pa_cons pe_str (pa_cons pe_bl (pa_cons (pe_lst (pa_cons pe_int pa_nil)) (pa_cons (pe_tup (pa_cons pe_int pa_nil)) pa_nil)))))) (pa_cons (pe_ix (r := rIxL K) ix_list (pv 2) pe_int (fun _ _ => rfl)) pa_nil)))))))
        (pss_cons (ps_ret pe_bl)
          pss_nil)
        pss_nil)
      (pss_cons (ps_set (i := 9) sc_law.nd rfl (Or.inl rfl) (pe_lst (pa_cons pe_non (pa_cons (pe_tup pa_nil) (pa_cons pe_str (pa_cons pe_dnewK (pa_cons (pe_lst (pa_cons pe_non pa_nil)) (pa_cons (pe_lst (pa_cons (pe_tup (pa_cons pe_int (pa_cons pe_int pa_nil))) pa_nil)) (pa_cons (pe_lst (pa_cons (pe_lst (pa_cons pe_int (pa_cons pe_int (pa_cons pe_int pa_nil)))) pa_nil)) (pa_cons (pe_lst (pa_cons (pe_tup (pa_cons pe_int (pa_cons pe_int (pa_cons pe_int (pa_cons pe_int pa_nil))))) pa_nil)) (pa_cons (pe_lst (pa_cons (pe_tup (pa_cons pe_int (pa_cons pe_int (pa_cons pe_int pa_nil)))) pa_nil)) (pa_cons (pe_lst (pa_cons (pe_tup (pa_cons pe_int (pa_cons pe_int (pa_cons pe_int pa_nil)))) pa_nil)) (pa_cons (pe_lst (pa_cons (pe_tup (pa_cons (pe_un un_neg pe_int) (pa_cons pe_int (pa_cons pe_int pa_nil)))) pa_nil)) pa_nil)))))))))))))
      (pss_cons (ps_expr (pe_bm PySem.F.plainAttrs_list PySem.F.slot_list_append PySem.F.type_list_append mt_append (pv 9) (pa_cons (pe_lst (pa_cons (pe_tup (pa_cons (pe_op op_add pe_int (pv 1)) (pa_cons pe_int (pa_cons pe_int pa_nil)))) pa_nil)) pa_nil)))
      (pss_cons (ps_set (i := 9) sc_law.nd rfl (Or.inl rfl) (pe_op op_cat (pv 9) (pe_lst (pa_cons (pe_lst (pa_cons (pe_tup (pa_cons pe_int (pa_cons (pe_un un_neg pe_int) (pa_cons pe_int pa_nil)))) pa_nil)) (pa_cons (pe_lst (pa_cons (pe_tup (pa_cons pe_int (pa_cons (pe_op op_sub (pe_un un_neg pe_int) (pv 1)) (pa_cons pe_int pa_nil)))) pa_nil)) (pa_cons (pe_lst (pa_cons (pe_tup (pa_cons pe_bl (pa_cons pe_int (pa_cons pe_int pa_nil)))) pa_nil)) (pa_cons (pe_lst (pa_cons (pe_tup (pa_cons pe_int (pa_cons pe_bl (pa_cons pe_int pa_nil)))) pa_nil)) pa_nil)))))))
      (pss_cons (ps_set (i := 9) sc_law.nd rfl (Or.inl rfl) (pe_op op_cat (pv 9) (pe_lst (pa_cons (pe_lst (pa_cons (pe_tup (pa_cons pe_int (pa_cons pe_int (pa_cons pe_int pa_nil)))) pa_nil)) (pa_cons (pe_lst (pa_cons (pe_tup (pa_cons pe_int (pa_cons pe_int (pa_cons (pe_op op_sub (pe_un un_neg pe_int) (pv 1)) pa_nil)))) pa_nil)) (pa_cons (pe_lst (pa_cons (pe_tup (pa_cons pe_int (pa_cons pe_int (pa_cons pe_bl pa_nil)))) pa_nil)) (pa_cons (pe_lst (pa_cons (pe_tup (pa_cons pe_str (pa_cons pe_int (pa_cons pe_int pa_nil)))) pa_nil)) (pa_cons (pe_lst (pa_cons (pe_tup (pa_cons pe_int (pa_cons pe_int (pa_cons pe_int pa_nil)))) (pa_cons pe_int pa_nil))) (pa_cons (pe_lst (pa_cons (pe_tup (pa_cons pe_int (pa_cons pe_int (pa_cons pe_non pa_nil)))) pa_nil)) pa_nil)))))))))
      (pss_cons (ps_if (pt_not (pt_val (pe_def d_law_all hr (by decide) (by rfl) pass0 (pa_cons (pe_glob (v := .ref _) rfl g_law_with_gifts rfl) (pa_cons (pe_lst (pa_cons (pe_lst (pa_cons pe_int (pa_cons pe_int pa_nil))) pa_nil)) (pa_cons (pv 9) (pa_cons (pe_ix (r := rIxL K) ix_list (pv 2) pe_int (fun _ _ => rfl)) pa_nil)))))))
        (pss_cons (ps_ret pe_bl)
          pss_nil)
        pss_nil)
      (pss_cons (ps_for PassesOwn.never rfl (pi_list (pe_lst (pa_cons (pe_tup (pa_cons (pv 4) (pa_cons (pe_op op_cat (pv 4) (pe_lst (pa_cons pe_int pa_nil))) pa_nil))) (pa_cons (pe_tup (pa_cons (pe_op op_cat (pv 4) (pe_lst (pa_cons pe_int pa_nil))) (pa_cons (pv 4) pa_nil))) pa_nil)))) (pg_tup rfl (pgs_cons (pg_name (i := 10) sc_law.nd rfl (Or.inl rfl)) (pgs_cons (pg_name (i := 11) sc_law.nd rfl (Or.inl rfl)) pgs_nil)))
        (pss_cons (ps_if (PW.pt (pw_or (pt_cmpR (r := rNeD K) (op_neD hr.units) (pe_def d_law_told hr (by decide) (by rfl) pass0 (pa_cons (pe_glob (v := .ref _) rfl g_law_with_two rfl) (pa_cons (pv 10) (pa_cons (pv 11) pa_nil)))) (pe_ix (r := rIxL K) ix_list (pv 2) pe_int (fun _ _ => rfl)) (nomark _)) (pw_or1 (pt_cmpR (r := rNeD K) (op_neD hr.units) (pe_def d_law_told hr (by decide) (by rfl) pass0 (pa_cons (pe_glob (v := .ref _) rfl g_law_with_wholes rfl) (pa_cons (pv 10) (pa_cons (pv 11) pa_nil)))) (pe_ix (r := rIxL K) ix_list (pv 2) pe_int (fun _ _ => rfl)) (nomark _)))))
            (pss_cons (ps_ret pe_bl)
              pss_nil)
            pss_nil)
          pss_nil))
      (pss_cons (ps_if (pt_cmpR (r := rNeD K) (op_neD hr.units) (pe_def d_law_told hr (by decide) (by rfl) pass0 (pa_cons (pe_glob (v := .ref _) rfl g_law_with_wholes rfl) (pa_cons (pe_op op_cat (pe_lst (pa_cons (pe_op op_add (pe_ix (r := rIxL K) ix_list (pv 4) pe_int (fun _ _ => rfl)) pe_int) pa_nil)) (pe_slice (r := rSlL K) sl_list (pv 4) (po_some pe_int) po_none)) (pa_cons (pv 4) pa_nil)))) (pe_ix (r := rIxL K) ix_list (pv 2) pe_int (fun _ _ => rfl)) (nomark _))
        (pss_cons (ps_ret pe_bl)
          pss_nil)
        pss_nil)
      (pss_cons (ps_if (pt_cmpR (r := rNeD K) (op_neD hr.units) (pe_def d_law_told hr (by decide) (by rfl) pass0 (pa_cons (pe_glob (v := .ref _) rfl g_law_with_wholes rfl) (pa_cons (pv 4) (pa_cons (pe_op op_cat (pe_lst (pa_cons (pe_op op_add (pe_ix (r := rIxL K) ix_list (pv 4) pe_int (fun _ _ => rfl)) pe_int) pa_nil)) (pe_slice (r := rSlL K) sl_list (pv 4) (po_some pe_int) po_none)) pa_nil)))) (pe_ix (r := rIxL K) ix_list (pv 2) pe_int (fun _ _ => rfl)) (nomark _))
        (pss_cons (ps_ret pe_bl)
          pss_nil)
        pss_nil)
      (pss_cons (ps_if (PW.pt (pw_or (pt_not (pt_val (pe_def d_law_bounds_right hr (by decide) (by rfl) pass0 (pa_cons (pv 2) pa_nil)))) (pw_or (pt_not (pt_val (pe_def d_law_edges_right hr (by decide) (by rfl) pass0 (pa_cons (pe_ix (r := rIxL K) ix_list (pv 2) pe_int (fun _ _ => rfl)) pa_nil)))) (pw_or1 (pt_not (pt_val (pe_def d_law_some_beyond hr (by decide) (by rfl) pass0 (pa_cons (pe_ix (r := rIxL K) ix_list (pv 2) pe_int (fun _ _ => rfl)) pa_nil))))))))
        (pss_cons (ps_ret pe_bl)
          pss_nil)
        pss_nil)
      (pss_cons (ps_ret (pe_and (pe_cmpR (r := rEqD K) (op_eqD hr.units) (pv 4) (pv 5) (nomark _)) (pe_and (pe_cmpR op_eq (pe_def x_above hr (by decide) (by rfl) passN (pa_cons (pe_lst (pa_cons pe_int pa_nil)) (pa_cons (pe_op op_pow pe_int pe_int) pa_nil))) pe_int (nomark _)) (pe_one (pe_cmpR (r := rEqD K) (op_eqD hr.units) (pe_def x_taken hr (by decide) (by rfl) passN (pa_cons (pe_lst (pa_cons pe_int pa_nil)) (pa_cons pe_int pa_nil))) (pe_lst (pa_cons pe_int pa_nil)) (nomark _))))))
      pss_nil))))))))))))))))))))), ?_⟩
    -- far
    refine Sv.go (w_asgP (P := IsI fun d => 0 ≤ d ∧ d < 1000000) (evp_intC (C := fun _ j => 0 < j) (g := fun i j => i % j) (p := fun _ => True) (q := fun j => j = 1000000) (evp_cell (ev_var rfl) ha ev_c (by omega)) (ev_i (i := 1000000) (ev_is (ev_op (ev_c (v := .int 10)) (ev_c (v := .int 6)) (rv_I ⟨by decide, by decide, by decide⟩)) rfl) rfl) (fun i j _ h => by omega) (fun i j _ h => by subst h; exact ⟨Int.emod_nonneg _ (by decide), Int.emod_lt_of_pos _ (by decide)⟩)) ?_)
    rintro v H1 e1 ⟨far, rfl, far0, far1⟩
    -- what is due
    refine w_asgL (xs := ([] : List Addr).map V.ref) (el_lst ea_nil (by decide)) fun pd H2 nd e2 hpd => ?_
    refine w_forR1 (n := 4) (ea_cons ev_c ea_nil) (by omega) (fun i s' H' => ∃ y, s' = [some (.ref a), some (.int far), some (.ref pd), y, none, none, none, none, none, none, none, none] ∧ Ex H1 H' ∧ ∃ ps : List Addr, H' pd = some (.lst (ps.map V.ref)) ∧ ps.length = i ∧ ∀ (j : Nat) p, ps[j]? = some p → p ≠ pd ∧ H' p = some (.lst ((kindsL (decide (j = 0)) (decide (j = 1)) (decide (j = 2)) (decide (j = 3))).map V.bl)))
      (fun H3 e3 => ⟨none, rfl, e2.trans e3, [], e3 _ _ hpd, rfl, fun j p h => by simp at h⟩) ?_ ?_
    · rintro i s' H' hi ⟨y, rfl, ex, ps, hp, hl, hk⟩
      refine w_appNL hp (ev_var rfl) (el_lst (vs := (kindsL (decide (i = 0)) (decide (i = 1)) (decide (i = 2)) (decide (i = 3))).map V.bl) (ea_cons (evk (j := 0) rfl) (ea_cons (evk (j := 1) rfl) (ea_cons (evk (j := 2) rfl) (ea_cons (evk (j := 3) rfl) (ea_cons ev_c (ea_cons ev_c ea_nil)))))) (by show 6 ≤ 100000; decide)) (by rw [List.length_map]; omega) fun p H3 np n1 hp3 pt => w_nx fun H4 e4 => Exists.intro _ ⟨rfl, (pt.ex ex nd).trans e4, ps ++ [p], by rw [List.map_append]; exact e4 _ _ pt.new, by rw [List.length_append, hl]; rfl, fun j p2 hj => ?_⟩
      by_cases hji : j < ps.length
      · rw [List.getElem?_append_left hji] at hj
        obtain ⟨k1, k2⟩ := hk j p2 hj
        exact ⟨k1, e4 _ _ (pt.old _ _ k1 k2)⟩
      · rw [List.getElem?_append_right (by omega)] at hj
        have hj0 : j - ps.length = 0 := by
          have := (List.getElem?_eq_some_iff.mp hj).1
          simp at this
          omega
        rw [hj0] at hj
        have e : p = p2 := by simpa using hj
        subst e
        have hji2 : j = i := by omega
        subst hji2
        exact ⟨n1, e4 _ _ hp3⟩
    rintro s' H3 ⟨y3, rfl, e3, ps, hps, hpl, hpk⟩
    have hD : DueAt pd H3 := by
      match ps, hpl, hps, hpk with
      | [p0, p1, p2, p3], _, hps, hpk => exact ⟨p0, p1, p2, p3, hps, (hpk 0 p0 rfl).2, (hpk 1 p1 rfl).2, (hpk 2 p2 rfl).2, (hpk 3 p3 rfl).2⟩
    -- the row
    refine w_asgP (P := fun x H2 => ∃ p rs, x = .ref p ∧ H2 p = some (.lst (rs.map V.int)) ∧ rs.length = ns.length + 1 ∧ Within 900000 rs) (evp_callP (ap_one (ev_var rfl).p) fun vs G1 e ⟨v, ev, pv⟩ Q q => ⟨a, ns, by rw [ev, pv], ex_l ((e1.trans e3).trans e) ha, hz, fun rs h1 h2 p G2 np e2 hp => q _ G2 e2 ⟨p, rs, rfl, hp, h1, h2⟩⟩) ?_
    rintro x H4 e4 ⟨pr, rs, rfl, hpr, hl, hw⟩
    have hne : rs ≠ [] := fun h => by rw [h] at hl; simp at hl
    have hl64 : rs.length ≤ 64 := by omega
    have hpos : 0 < rs.length := List.length_pos_iff.mpr hne
    have hsh : ∀ x ∈ rs, isSh x = true := fun x hx => isSh_iff.mpr (by have := hw x hx; omega)
    have hR : RowOk rs := ⟨hne, hsh, by omega⟩
    refine w_asgL (el_listL (ev_var' rfl hpr)) fun pk H5 nk e5 hpk5 => ?_
    have hpr5 := e5 _ _ hpr
    have hD5 := hD.ex (e4.trans e5)
    -- what is no row
    have neg : ∀ {s : L2.St} {G : Hp} {i : Int}, Ev (tUn (rU fun i => .int (-i)) (tC (.int i))) s G (.int (-i)) := fun {s G i} => ev_un ev_c ru_neg
    refine w_asgP (evp_lstG (Pv := BadRowV K) (n := 13) (ap_all_cons (br_val (vx_non (by decide))) (ap_all_cons (br_val (vx_tup eu_0 (by decide))) (ap_all_cons br_nil (ap_all_cons (br_val (vx_tup (eu_2 ev_c ev_c) (by decide))) (ap_all_cons (br_val (vx_str _ (by decide))) (ap_all_cons (br_val (vx_dk (by decide))) (ap_all_cons (br_val (vx_int (ev_c (v := .int 5)) (by decide)))
      (ap_all_cons (br_one (be_val (vx_non (m := "int") (by decide)) fun _ _ => ni)) (ap_all_cons (br_one (be_val (vx_str (m := "int") _ (by decide)) fun _ _ => ni)) (ap_all_cons (br_one (be_val (vx_bl (m := "int") _ (by decide)) fun _ _ => ni)) (ap_all_cons (br_one (be_int (ev_c (v := .int 1000001)) (by decide))) (ap_all_cons (br_one (be_int (i := -1000001 - far) (ev_op neg (ev_var rfl) rv_I0) ?_)) (ap_all_cons (br_one (be_val (vx_lst (m := "int") (el_one 1) (by decide)) fun _ _ => ni)) ap_all_nil))))))))))))) (by decide)) ?_
    · cases h : isSh (-1000001 - far) with
      | false => rfl
      | true => have := isSh_iff.mp h; omega
    rintro v H6 e6 ⟨pl, xs0, rfl, npl, grd0, hx0⟩
    obtain ⟨hrg, hrn, hri⟩ := rng_ok rs.length (by omega)
    refine w_forR3 (hi := (rs.length : Int)) (c := 1 + (rs.length : Int) / 20) (ea_cons ev_c (ea_cons (ev_lenX rfl (e6 _ _ hpr5)) (ea_cons (ev_op ev_c (ev_op (ev_lenX rfl (e6 _ _ hpr5)) ev_c (rv_I ⟨by decide, by decide⟩)) rv_I0) ea_nil))) hrg (fun i s' H' => ∃ y xs, s' = [some (.ref a), some (.int far), some (.ref pd), y3, some (.ref pr), some (.ref pk), some (.ref pl), y, none, none, none, none] ∧ Ex H5 H' ∧ Grd (BadRowV K) pl H' xs ∧ xs.length = 13 + i)
      (fun H7 e7 => ⟨none, xs0, rfl, e6.trans e7, grd0.ex e7, hx0⟩) ?_ ?_
    · rintro i s' H' hi ⟨y, xs, rfl, ex, grd, hxl⟩
      have hat := hri i hi
      have hat0 : 0 ≤ (0 : Int) + (i : Int) * (1 + (rs.length : Int) / 20) := by
        have : 0 ≤ (i : Int) * (1 + (rs.length : Int) / 20) := Int.mul_nonneg (by omega) (by omega)
        omega
      generalize (0 : Int) + (i : Int) * (1 + (rs.length : Int) / 20) = t at hat hat0
      obtain ⟨t, rfl⟩ := Int.eq_ofNat_of_zero_le hat0
      have ht : t < rs.length := by omega
      -- the bad share
      have hx5 : ∃ x, atI [V.non, V.str "1", V.bl true, V.int (1000001 + far), V.int (-1000001)] ((t : Int) % 5) = some x ∧ (∃ n, ∀ G, ValT K n x G) ∧ shV x = false := by
        have h5 : (t : Int) % 5 = 0 ∨ (t : Int) % 5 = 1 ∨ (t : Int) % 5 = 2 ∨ (t : Int) % 5 = 3 ∨ (t : Int) % 5 = 4 := by omega
        have nsh : isSh (1000001 + far) = false := by
          cases h : isSh (1000001 + far) with
          | false => rfl
          | true => have := isSh_iff.mp h; omega
        rcases h5 with e | e | e | e | e <;> rw [e]
        · exact ⟨_, rfl, ⟨_, fun G => valT_non⟩, rfl⟩
        · exact ⟨_, rfl, ⟨_, fun G => valT_str _⟩, rfl⟩
        · exact ⟨_, rfl, ⟨_, fun G => valT_bl _⟩, rfl⟩
        · exact ⟨_, rfl, ⟨_, fun G => valT_int _⟩, nsh⟩
        · exact ⟨_, rfl, ⟨_, fun G => valT_int _⟩, by decide⟩
      obtain ⟨x, hx1, ⟨n, hxv⟩, hxs⟩ := hx5
      have hprH := ex _ _ hpr5
      have five : ∀ {s : L2.St}, s[1]? = some (some (.int far)) → EvU (tTup (tCons (tC .non) (tCons (tC (.str "1")) (tCons (tC (.bl true)) (tCons (tOp (rI0 fun i j => .int (i + j)) (tC (.int 1000001)) (tVar 1)) (tCons (tUn (rU fun i => .int (-i)) (tC (.int 1000001))) tNil)))))) s H' [V.non, V.str "1", V.bl true, V.int (1000001 + far), V.int (-1000001)] := fun h => eu_tup (vs := [V.non, V.str "1", V.bl true, V.int (1000001 + far), V.int (-1000001)]) (ea_cons ev_c (ea_cons ev_c (ea_cons ev_c (ea_cons (ev_op ev_c (ev_var h) rv_I0) (ea_cons neg ea_nil))))) (by simp)
      refine w_appG (P := fun v H2 => ∃ p, v = .ref p ∧ H' p = none ∧ H2 p = some (.lst (((rs.map V.int).take t ++ [x]) ++ (rs.map V.int).drop (t + 1)))) grd (ev_var rfl) (el_n (el_cat (EvL.p (el_cat (EvL.p (el_is (el_sliceL (ev_var' rfl hprH) eo_none (eo_some (ev_var rfl))) cut_to)) (EvL.p (el_lst (vs := [x]) (ea_cons (ev_ixU (evU_p (five rfl)) (ev_op (ev_var rfl) ev_c (rv_I (by decide))) hx1) ea_nil) (by simp))) ?_)) (EvL.p (el_is (el_sliceL (ev_var' rfl hprH) (eo_some (i := ((t + 1 : Nat) : Int)) (ev_is (ev_op (ev_var rfl) ev_c rv_I0) (by rw [Int.natCast_add]; rfl))) eo_none) cut_from)) ?_)) (fun v H2 e2 ⟨p, ev, np, hp⟩ => ?_) (by omega) ?_
      · simp only [List.length_take, List.length_map, List.length_cons, List.length_nil]
        omega
      · simp only [List.length_append, List.length_take, List.length_drop, List.length_map, List.length_cons, List.length_nil]
        omega
      · refine .inr (.inl ⟨p, _, ev, by rw [hide_ne (ne_of_none grd.1 np).symm]; exact hp, ?_, fun y hy => ?_, ?_⟩)
        · simp only [List.length_append, List.length_take, List.length_drop, List.length_map, List.length_cons, List.length_nil]
          omega
        · rcases List.mem_append.mp hy with hy | hy
          · rcases List.mem_append.mp hy with hy | hy
            · obtain ⟨z, _, rfl⟩ := List.mem_map.mp (List.mem_of_mem_take hy)
              exact ⟨_, valT_int z⟩
            · rw [List.mem_singleton.mp hy]
              exact ⟨n, hxv _⟩
          · obtain ⟨z, _, rfl⟩ := List.mem_map.mp (List.mem_of_mem_drop hy)
            exact ⟨_, valT_int z⟩
        · rw [List.map_append, List.map_append, List.all_append, List.all_append]
          simp [hxs]
      · intro v H7 grd7 hold
        refine w_nx fun H8 e8 => Exists.intro _ ⟨xs ++ [v], rfl, Ex.trans (fun b u hb => hold b u (ne_of_none hb npl) (ex b u hb)) e8, grd7.ex e8, by rw [List.length_append, hxl]; rfl⟩
    rintro s' H7 ⟨y7, xs, rfl, e57, grd, hxl⟩
    have hxl2 : xs.length ≤ 1000 := by omega
    have hD7 := hD5.ex e57
    have hpr7 := e57 _ _ hpr5
    have allR : ∀ {s : L2.St}, s[6]? = some (some (.ref pl)) → EvP (tVar 6) s H7 (AllL (BadRowV K)) := fun h => (ev_var h).p.imp fun v G e ev => ⟨pl, xs, ev, e _ _ grd.1, hxl2, fun t ht => MonoP.mono e (grd.all t ht)⟩
    refine w_skip (et_all (Pd := fun v _ => ∃ d : Int, v = .int d) (Pt := BadRowV K) ev_c (evp_listRg ev_c (by decide) (by decide)) (allR rfl) (due0 rfl hD7) ask1 (fun x y G _ ⟨d, hd⟩ hy => by
      rw [hd]
      exact fun G1 e1 Q E er => ⟨d, y, rfl, MonoP.mono e1 hy, er⟩) KB) ?_
    -- amounts
    refine w_asgP (evp_allL (Pv := BadAmtV K) (n := 8) (ap_all_cons (ba_val (vx_non (by decide))) (ap_all_cons (ba_val (vx_str _ (by decide))) (ap_all_cons (ba_int neg (by decide)) (ap_all_cons (ba_int (i := -1 - far) (ev_op neg (ev_var rfl) rv_I0) (by omega)) (ap_all_cons (ba_int (ev_c (v := .int 1000000001)) (by decide)) (ap_all_cons (ba_int (i := 1000000001 + far) (ev_op ev_c (ev_var rfl) rv_I0) (by omega)) (ap_all_cons (ba_val (vx_bl _ (by decide))) (ap_all_cons (ba_val (vx_lst (el_one 1) (by decide))) ap_all_nil)))))))) (by decide)) ?_
    rintro v H8 e8 ⟨pa, as, rfl, hpa, hal, hab⟩
    have hD8 := hD7.ex e8
    have hpr8 := e8 _ _ hpr7
    refine w_skip (et_all (Pd := fun v _ => v = .int 0 ∨ v = .int 1) (Pt := BadAmtV K) ev_c (evp_allL (n := 2) (ap_all_cons ((ev_c (v := .int 0)).p.imp fun v G _ ev => .inl ev) (ap_all_cons ((ev_c (v := .int 1)).p.imp fun v G _ ev => .inr ev) ap_all_nil)) (by decide)) ((ev_var rfl).p.imp fun v G e ev => ⟨pa, as, ev, e _ _ hpa, hal, fun t ht => MonoP.mono e (hab t ht)⟩) (due2 rfl hD8) ask2 (fun x y G _ hd hy => by
      rcases hd with hd | hd <;> rw [hd]
      · exact fun G1 e1 Q E er => ⟨0, y, rfl, .inl ⟨rfl, .inl (MonoP.mono e1 hy)⟩, er⟩
      · exact fun G1 e1 Q E er => ⟨1, y, rfl, .inr (.inl ⟨rfl, .inl (MonoP.mono e1 hy)⟩), er⟩) KA) ?_
    refine w_skip (et_all (Pd := fun v _ => v = .int 2) (Pt := ValX K "int") ev_c (evp_allL (n := 1) (ap_all_cons ((ev_c (v := .int 2)).p.imp fun v G _ ev => ev) ap_all_nil) (by decide)) (evp_allL (n := 5) (ap_all_cons (vx_non (by decide)) (ap_all_cons (vx_str _ (by decide)) (ap_all_cons (vx_bl _ (by decide)) (ap_all_cons (vx_lst (el_one 1) (by decide)) (ap_all_cons (vx_tup (eu_1 ev_c) (by decide)) ap_all_nil))))) (by decide)) (due2 rfl hD8) ask2 (fun x y G _ hd hy => by
      rw [hd]
      exact fun G1 e1 Q E er => ⟨2, y, rfl, .inr (.inr ⟨rfl, let ⟨n, h1, h2⟩ := hy; ⟨n, MonoP.mono e1 h1, h2⟩⟩), er⟩) KA) ?_
    -- gifts
    refine w_asgP (evp_lstG (Pv := BadGiftsV K 2) (n := 11) (ap_all_cons (bgs_val (vx_non (by decide))) (ap_all_cons (bgs_val (vx_tup eu_0 (by decide))) (ap_all_cons (bgs_val (vx_str _ (by decide))) (ap_all_cons (bgs_val (vx_dk (by decide))) (ap_all_cons (bgs_one (bg_val (vx_non (by decide)))) (ap_all_cons (bgs_one (bg_len (eu_2 ev_c ev_c) (by simp)))
      (ap_all_cons (bgs_one (bg_val (vx_lst (el_lst (vs := [V.int 0, V.int 1, V.int 1]) (ea_cons ev_c (ea_cons ev_c (ea_cons ev_c ea_nil))) (by simp)) (by decide)))) (ap_all_cons (bgs_one (bg_len (eu_tup (vs := [V.int 0, V.int 1, V.int 1, V.int 1]) (ea_cons ev_c (ea_cons ev_c (ea_cons ev_c (ea_cons ev_c ea_nil)))) (by simp)) (by simp))) (ap_all_cons (bgs_one (bg_no (eu_3 ev_c ev_c ev_c) (by decide))) (ap_all_cons (bgs_one (bg_no (eu_3 ev_c ev_c ev_c) (by decide))) (ap_all_cons (bgs_one (bg_no (eu_3 neg ev_c ev_c) (by decide))) ap_all_nil))))))))))) (by decide)) ?_
    rintro v H9 e9 ⟨pg, gs0, rfl, npg, grg0, hg0⟩
    have nok : ∀ {g : T3}, (¬ (0 ≤ g.1 ∧ 0 ≤ g.2.1 ∧ g.1 < 2 ∧ g.2.1 < 2 ∧ g.1 ≠ g.2.1 ∧ 0 < g.2.2)) → gOk 2 g = false := fun h => decide_eq_false h
    refine w_appG (P := fun v H2 => ∃ p r, v = .ref p ∧ H9 p = none ∧ H9 r = none ∧ H2 p = some (.lst [V.ref r]) ∧ H2 r = some (.tup [.int (2 + far), .int 0, .int 1])) grg0 (ev_var rfl) (fun G e Q q => ?_) (fun v G e ⟨p, r, ev, np, nr, hp, hr⟩ => ?_) (by omega) ?_
    · have hu : EvU (tTup (tCons (tOp (rI0 fun i j => .int (i + j)) (tC (.int 2)) (tVar 1)) (tCons (tC (.int 0)) (tCons (tC (.int 1)) tNil)))) [some (.ref a), some (.int far), some (.ref pd), y3, some (.ref pr), some (.ref pk), some (.ref pl), y7, some (.ref pa), some (.ref pg), none, none] H9 [.int (2 + far), .int 0, .int 1] := eu_3 (ev_op ev_c (ev_var rfl) rv_I0) ev_c ev_c
      generalize (tTup (tCons (tOp (rI0 fun i j => .int (i + j)) (tC (.int 2)) (tVar 1)) (tCons (tC (.int 0)) (tCons (tC (.int 1)) tNil)))) = tt at hu
      exact hu G e _ fun x G2 nx e2 hx => ⟨by show 1 ≤ sizeLine; decide, fun p hp => q _ _ (e2.trans (Ex.new hp)) ⟨p, x, rfl, fresh_back (e.trans e2) hp, fresh_back e nx, upd_same, by rw [upd_ne (ne_of_none hx hp)]; exact hx⟩⟩
    · have n1 : p ≠ pg := (ne_of_none grg0.1 np).symm
      have n2 : r ≠ pg := (ne_of_none grg0.1 nr).symm
      refine .inr ⟨p, _, fun _ => false, ev, by rw [hide_ne n1]; exact hp, by simp, fun z hz => ?_, by simp⟩
      rw [List.mem_singleton.mp hz]
      exact .inl ⟨r, (2 + far, 0, 1), rfl, by rw [hide_ne n2]; exact hr, (nok (by simp only; omega)).symm⟩
    intro v H10 grg hold
    have e10 : Ex H8 H10 := fun b u hb => hold b u (ne_of_none hb npg) (e9 b u hb)
    refine w_asgP (evp_catL (Pw := BadGiftsV K 2) (m := 12) (n := 4) ((ev_var rfl).p.imp fun v G e ev => ⟨pg, _, ev, e _ _ grg.1, by rw [List.length_append, hg0]; simp, fun t ht => MonoP.mono e (grg.all t ht)⟩)
      ((evp_lstG (Pv := BadGiftsV K 2) (n := 4) (ap_all_cons (bgs_one (bg_no (a := 0) (b := -1) (c := 1) (eu_3 ev_c neg ev_c) (by decide))) (ap_all_cons (bgs_one (bg_no (a := 0) (b := -1 - far) (c := 1) (eu_3 ev_c (ev_op neg (ev_var rfl) rv_I0) ev_c) (nok (by simp only; omega)))) (ap_all_cons (bgs_one (bg_odd (eu_3 (ev_c (v := .bl true)) (ev_c (v := .int 0)) (ev_c (v := .int 1))) (odd1 _ _ _) rfl)) (ap_all_cons (bgs_one (bg_odd (eu_3 (ev_c (v := .int 0)) (ev_c (v := .bl true)) (ev_c (v := .int 1))) (odd2 _ _ _) rfl)) ap_all_nil)))) (by decide)).imp fun v G _ ⟨l, xs, ev, _, g, hl⟩ => ⟨l, xs, ev, g.1, by omega, g.all⟩) (by decide)) ?_
    rintro v H11 e11 ⟨pg1, gs1, rfl, hpg1, hgl1, hgb1⟩
    refine w_asgP (evp_catL (Pw := BadGiftsV K 2) (m := 16) (n := 6) ((ev_var rfl).p.imp fun v G e ev => ⟨pg1, _, ev, e _ _ hpg1, by omega, fun t ht => MonoP.mono e (hgb1 t ht)⟩)
      ((evp_lstG (Pv := BadGiftsV K 2) (n := 6) (ap_all_cons (bgs_one (bg_no (a := 0) (b := 1) (c := 0) (eu_3 ev_c ev_c ev_c) (by decide))) (ap_all_cons (bgs_one (bg_no (a := 0) (b := 1) (c := -1 - far) (eu_3 ev_c ev_c (ev_op neg (ev_var rfl) rv_I0)) (nok (by simp only; omega)))) (ap_all_cons (bgs_one (bg_odd (eu_3 (ev_c (v := .int 0)) (ev_c (v := .int 1)) (ev_c (v := .bl true))) (odd3 _ _ _) rfl)) (ap_all_cons (bgs_one (bg_odd (eu_3 (ev_c (v := .str "0")) (ev_c (v := .int 1)) (ev_c (v := .int 1))) (odd4 _ _ _) rfl)) (ap_all_cons (bgs_five (a := 0) (b := 1) (c := 1) (eu_3 ev_c ev_c ev_c) (by decide)) (ap_all_cons (bgs_one (bg_odd (eu_3 (ev_c (v := .int 0)) (ev_c (v := .int 1)) (ev_c (v := .non))) (odd5 _ _) rfl)) ap_all_nil)))))) (by decide)).imp fun v G _ ⟨l, xs, ev, _, g, hl⟩ => ⟨l, xs, ev, g.1, by omega, g.all⟩) (by decide)) ?_
    rintro v H12 e12 ⟨pg2, gs2, rfl, hpg2, hgl2, hgb2⟩
    have e812 : Ex H8 H12 := (e10.trans e11).trans e12
    have hD12 := hD8.ex e812
    have hpr12 := e812 _ _ hpr8
    have hpk12 := e812 _ _ (e8 _ _ (e57 _ _ hpk5))
    have row53 : ∀ {s : L2.St}, EvP (tLst (tCons (tC (.int 5)) (tCons (tC (.int 3)) tNil))) s H12 (fun x G => RowAt x [5, 3] G) := fun {s} => (EvL.p (el_lst (vs := ([5, 3] : List Int).map V.int) (ea_cons ev_c (ea_cons ev_c ea_nil)) (by simp))).imp fun v G _ h => rowAt_of h ⟨by simp, by decide, by decide⟩ (by decide)
    refine w_skip (et_all (Pd := fun x G => RowAt x [5, 3] G) (Pt := BadGiftsV K 2) ev_c (evp_allL (n := 1) (ap_all_cons row53 ap_all_nil) (by decide)) ((ev_var rfl).p.imp fun v G e ev => ⟨pg2, gs2, ev, e _ _ hpg2, by omega, fun t ht => MonoP.mono e (hgb2 t ht)⟩) (due1 rfl hD12) ask3 (fun x y G _ hx hy => asks_thru fun G1 e1 Q E er => ⟨x, y, rfl, .inr ⟨[5, 3], hx.mono e1, .inl ⟨MonoP.mono e1 hy, er⟩⟩⟩) KG) ?_
    -- two rows
    have rowE : ∀ {s : L2.St} {G : Hp}, s[4]? = some (some (.ref pr)) → Ex H12 G → EvP (tVar 4) s G (fun x G => RowAt x rs G) := fun h e => (ev_var' h (e _ _ hpr12)).imp fun v G _ h => rowAt_of h hR (by omega)
    have rowZ : ∀ {s : L2.St} {G : Hp}, s[4]? = some (some (.ref pr)) → Ex H12 G → EvP (tOp rCat (tVar 4) (tLst (tCons (tC (.int 0)) tNil))) s G (fun x G => RowAt x (rs ++ [0]) G) := fun h e => (EvL.p (el_is (el_cat (ev_var' h (e _ _ hpr12)) (EvL.p (el_one 0)) (by rw [List.length_map]; simp; omega)) (ys := (rs ++ [0]).map V.int) (by rw [List.map_append]))).imp fun v G _ h => rowAt_of h ⟨by simp, fun x hx => by
      rcases List.mem_append.mp hx with hx | hx
      · exact hsh x hx
      · rw [List.mem_singleton.mp hx]; decide, by rw [List.length_append]; simp; omega⟩ (by rw [List.length_append]; simp; omega)
    refine w_forGP (P := AllL PairV) (evp_allL (n := 2) (ap_all_cons (evp_pair (rowE rfl (Ex.refl _)) (rowZ rfl (Ex.refl _)) (by rw [List.length_append]; simp)) (ap_all_cons (evp_pair (rowZ rfl (Ex.refl _)) (rowE rfl (Ex.refl _)) (by rw [List.length_append]; simp)) ap_all_nil)) (by decide)) ?_
    rintro v H13 e13 ⟨pp, ts, rfl, hpp, _, hall⟩
    refine ⟨pp, ts, fun i s' H' => ∃ y10 y11, s' = [some (.ref a), some (.int far), some (.ref pd), y3, some (.ref pr), some (.ref pk), some (.ref pl), y7, some (.ref pa), some (.ref pg2), y10, y11] ∧ Ex H13 H', rfl, sq_of hpp, fun G e => ⟨none, none, rfl, e⟩, fun i s' H' _ ⟨_, _, _, ex⟩ => sq_of (ex _ _ hpp), ?_, ?_⟩
    · rintro i z s' H' hi ⟨y10, y11, rfl, ex⟩
      obtain ⟨r, x, y, ns1, ms1, rfl, hr0, hx, hy, hlen⟩ := hall z (List.mem_of_getElem? hi)
      have hx' := hx.mono ex
      have hy' := hy.mono ex
      have hD' := hD12.ex (e13.trans ex)
      refine g_tup2 (ex _ _ hr0) ?_
      exact (w_skip (et_is (et_or (et_test (ev_neB (EvL.p (el_told ev_c (ev_var rfl) (ev_var rfl) ask4 (asks_thru fun G1 e1 Q E er => ⟨x, y, rfl, .inr ⟨ns1, hx'.mono e1, .inr ⟨ms1, hy'.mono e1, hlen, er⟩⟩⟩) KU)) (due3 rfl hD'))) fun _ => et_test (ev_neB (EvL.p (el_told ev_c (ev_var rfl) (ev_var rfl) ask5 (asks_thru fun G1 e1 Q E er => ⟨x, y, rfl, .inl (.inr ⟨ns1, hx'.mono e1, .inr ⟨ms1, hy'.mono e1, hlen, er⟩⟩)⟩) KU)) (due3 rfl hD'))) rfl) (w_nx fun G e => Exists.intro _ ⟨_, rfl, ex.trans e⟩)).go
    rintro s' H14 ⟨y10, y11, rfl, e14⟩
    have e1214 := e13.trans e14
    have hD14 := hD12.ex e1214
    have hpr14 := e1214 _ _ hpr12
    obtain ⟨r0, rr, rfl⟩ : ∃ r0 rr, rs = r0 :: rr := by
      cases rs with
      | nil => exact absurd rfl hne
      | cons r0 rr => exact ⟨r0, rr, rfl⟩
    have hr0 := hw r0 List.mem_cons_self
    have rowP : ∀ {s : L2.St}, s[4]? = some (some (.ref pr)) → EvP (tOp rCat (tLst (tCons (tOp (rI0 fun i j => .int (i + j)) (tOp (rIxL K) (tVar 4) (tC (.int 0))) (tC (.int 1))) tNil)) (tSl (rSlL K) (tVar 4) (tPart (tC (.int 1))) tNoPart)) s H14 (fun x G => RowAt x ((r0 + 1) :: rr) G) := fun h => (EvL.p (el_is (el_cat (EvL.p (el_lst (vs := [V.int (r0 + 1)]) (ea_cons (ev_op (ev_ixL (v := .int r0) (ev_var' h hpr14) ev_c (atI_nat (j := 0) rfl)) ev_c rv_I0) ea_nil) (by simp))) (EvL.p (el_is (el_sliceL (ev_var' h hpr14) (eo_some (i := ((1 : Nat) : Int)) ev_c) eo_none) cut_from)) (by simp only [List.length_cons, List.length_nil, List.length_drop, List.length_map] at hl64 ⊢; omega)) (ys := ((r0 + 1) :: rr).map V.int) rfl)).imp fun v G _ h => rowAt_of h ⟨by simp, fun x hx => by
      rcases List.mem_cons.mp hx with rfl | hx
      · exact isSh_iff.mpr (by omega)
      · exact hsh x (List.mem_cons_of_mem _ hx), by simp only [List.length_cons] at hl64 ⊢; omega⟩ (by simp only [List.length_cons] at hl64 ⊢; omega)
    have hsum : ((r0 + 1) :: rr).sum ≠ (r0 :: rr).sum := by rw [List.sum_cons, List.sum_cons]; omega
    refine w_skip (et_toldP (PB := fun x G => RowAt x ((r0 + 1) :: rr) G) (PC := fun x G => RowAt x (r0 :: rr) G) ev_c (rowP rfl) (rowE rfl e1214) (due3 rfl hD14) ask5 (fun x y G _ hx hy => asks_thru fun G1 e1 Q E er => ⟨x, y, rfl, .inr ⟨_, _, hx.mono e1, hy.mono e1, rfl, hsum, er⟩⟩) KU) ?_
    refine w_skip (et_toldP (PB := fun x G => RowAt x (r0 :: rr) G) (PC := fun x G => RowAt x ((r0 + 1) :: rr) G) ev_c (rowE rfl e1214) (rowP rfl) (due3 rfl hD14) ask5 (fun x y G _ hx hy => asks_thru fun G1 e1 Q E er => ⟨x, y, rfl, .inr ⟨_, _, hx.mono e1, hy.mono e1, rfl, hsum.symm, er⟩⟩) KU) ?_
    -- the bounds
    have byDue : ∀ {sp : Sp} {s : L2.St}, s[2]? = some (some (.ref pd)) → (∀ p G Q, Ex H14 G → G p = some (.lst ((kindsL false false true false).map V.bl)) → RetV (.bl true) G Q → sp [.ref p] G Q E0) → EvT (tNot (tB (tCall sp [] E0 (tCons (tOp (rIxL K) (tVar 2) (tC (.int 2))) tNil)))) s H14 false := fun h hs => et_is (et_not (et_B (b := true) (evp_is (evp_callP (ap_one (due2 h hD14)) fun vs G e ⟨v, ev, ⟨p, pv, hp⟩⟩ Q q => by
      rw [ev, pv]
      exact hs p G Q e hp fun G2 e2 => q _ G2 e2 rfl)))) rfl
    refine w_skip (et_is (et_or (et_not (et_B (b := true) (ev_call (dvs := []) (z := .bl true) (ea_cons (ev_var rfl) ea_nil) fun G e Q q E => ⟨pd, rfl, hD14.ex e, q⟩))) fun _ => et_or (byDue rfl fun p G Q e hp q => ⟨p, rfl, hp, q⟩) fun _ => byDue rfl fun p G Q e hp q => ⟨p, rfl, hp, q⟩) rfl) ?_
    have ab : ∀ {s : L2.St}, Ev (tCall (spAboveX K cB cA) [] E0 (tCons (tLst (tCons (tC (.int 1)) tNil)) (tCons (tOp (rI CPow fun i j => .int (i ^ j.toNat)) (tC (.int 10)) (tC (.int 9))) tNil))) s H14 (.int 0) := fun {s} => evp_is (evp_callP (ap_two (EvL.p (el_one 1)) (ev_is (w := .int 1000000000) (ev_op (ev_c (v := .int 10)) (ev_c (v := .int 9)) (rv_I ⟨by decide, by decide, by decide⟩)) rfl).p) fun vs G e ⟨v, z, ev, ⟨p, pv, hp⟩, pz⟩ Q q => ⟨v, z, ev, .inr ⟨[1], ⟨p, pv, hp, rowOk_one (by decide), by decide⟩, .inr ⟨1000000000, pz, fun G2 e2 => q _ G2 e2 rfl⟩⟩⟩)
    have tk : ∀ {s : L2.St}, EvL (tCall (spTakenX K cB cA takeF) [] E0 (tCons (tLst (tCons (tC (.int 5)) tNil)) (tCons (tC (.int 0)) tNil))) s H14 (([5] : List Int).map V.int) := fun {s} => el_taken (F := takeF) (ns := [5]) (m := 0) (EvL.p (el_one 5)) ev_c (rowOk_one (by decide)) (by decide) (by decide) (by decide) (by decide)
    exact w_ret (v := .bl true) (ev_is (ev_andV (ev_eqL (ev_var' rfl hpr14) (ev_var' rfl (e1214 _ _ hpk12))) fun _ => ev_andV (ev_op ab ev_c (rv_eq rfl)) fun _ => ev_eqL (EvL.p tk) (EvL.p (el_one 5))) (by simp)) fun G e => q G
end
end Ev

set_option Elab.async false
set_option linter.all false
set_option maxRecDepth 100000
set_option maxHeartbeats 4000000
namespace Ev
open PySem PySem.Spec L2 Evl Wk LamX Sk
theorem all_mk {l : PySem.W.OpenLaw} {w : World} {K : PySem.W.Frag} {h : Heap} {mg : Str → Option Value} {fa cS cB cG cA cU cT : Addr} (X : K.In h) (G : h.Ns mainGlobals mg) (hfa : mg "law" = some (.ref fa))
    {f0 : Addr} {od0 an0 : Option Addr} {sl0 : Array (Option Value)} {oc0 kV0 dc0 pm0 cd0 ct0 : Value}
    {f1 : Addr} {od1 an1 : Option Addr} {sl1 : Array (Option Value)} {oc1 kV1 dc1 pm1 cd1 ct1 : Value}
    {f2 : Addr} {od2 an2 : Option Addr} {sl2 : Array (Option Value)} {oc2 kV2 dc2 pm2 cd2 ct2 : Value}
    {f3 : Addr} {od3 an3 : Option Addr} {sl3 : Array (Option Value)} {oc3 kV3 dc3 pm3 cd3 ct3 : Value}
    {f4 : Addr} {od4 an4 : Option Addr} {sl4 : Array (Option Value)} {oc4 kV4 dc4 pm4 cd4 ct4 : Value}
    {f5 : Addr} {od5 an5 : Option Addr} {sl5 : Array (Option Value)} {oc5 kV5 dc5 pm5 cd5 ct5 : Value}
    {f6 : Addr} {od6 an6 : Option Addr} {sl6 : Array (Option Value)} {oc6 kV6 dc6 pm6 cd6 ct6 : Value}
    {f7 : Addr} {od7 an7 : Option Addr} {sl7 : Array (Option Value)} {oc7 kV7 dc7 pm7 cd7 ct7 : Value}
    {f8 : Addr} {od8 an8 : Option Addr} {sl8 : Array (Option Value)} {oc8 kV8 dc8 pm8 cd8 ct8 : Value}
    {f9 : Addr} {od9 an9 : Option Addr} {sl9 : Array (Option Value)} {oc9 kV9 dc9 pm9 cd9 ct9 : Value}
    {f10 : Addr} {od10 an10 : Option Addr} {sl10 : Array (Option Value)} {oc10 kV10 dc10 pm10 cd10 ct10 : Value}
    {f11 : Addr} {od11 an11 : Option Addr} {sl11 : Array (Option Value)} {oc11 kV11 dc11 pm11 cd11 ct11 : Value}
    {f12 : Addr} {od12 an12 : Option Addr} {sl12 : Array (Option Value)} {oc12 kV12 dc12 pm12 cd12 ct12 : Value}
    {f13 : Addr} {od13 an13 : Option Addr} {sl13 : Array (Option Value)} {oc13 kV13 dc13 pm13 cd13 ct13 : Value}
    {f14 : Addr} {od14 an14 : Option Addr} {sl14 : Array (Option Value)} {oc14 kV14 dc14 pm14 cd14 ct14 : Value}
    {f15 : Addr} {od15 an15 : Option Addr} {sl15 : Array (Option Value)} {oc15 kV15 dc15 pm15 cd15 ct15 : Value}
    {f16 : Addr} {od16 an16 : Option Addr} {sl16 : Array (Option Value)} {oc16 kV16 dc16 pm16 cd16 ct16 : Value}
    {f17 : Addr} {od17 an17 : Option Addr} {sl17 : Array (Option Value)} {oc17 kV17 dc17 pm17 cd17 ct17 : Value}
    {f18 : Addr} {od18 an18 : Option Addr} {sl18 : Array (Option Value)} {oc18 kV18 dc18 pm18 cd18 ct18 : Value}
    {f19 : Addr} {od19 an19 : Option Addr} {sl19 : Array (Option Value)} {oc19 kV19 dc19 pm19 cd19 ct19 : Value}
    {f20 : Addr} {od20 an20 : Option Addr} {sl20 : Array (Option Value)} {oc20 kV20 dc20 pm20 cd20 ct20 : Value}
    {f21 : Addr} {od21 an21 : Option Addr} {sl21 : Array (Option Value)} {oc21 kV21 dc21 pm21 cd21 ct21 : Value}
    {f22 : Addr} {od22 an22 : Option Addr} {sl22 : Array (Option Value)} {oc22 kV22 dc22 pm22 cd22 ct22 : Value}
    {f23 : Addr} {od23 an23 : Option Addr} {sl23 : Array (Option Value)} {oc23 kV23 dc23 pm23 cd23 ct23 : Value}
    {f24 : Addr} {od24 an24 : Option Addr} {sl24 : Array (Option Value)} {oc24 kV24 dc24 pm24 cd24 ct24 : Value}
    {f25 : Addr} {od25 an25 : Option Addr} {sl25 : Array (Option Value)} {oc25 kV25 dc25 pm25 cd25 ct25 : Value}
    {f26 : Addr} {od26 an26 : Option Addr} {sl26 : Array (Option Value)} {oc26 kV26 dc26 pm26 cd26 ct26 : Value}
    {f27 : Addr} {od27 an27 : Option Addr} {sl27 : Array (Option Value)} {oc27 kV27 dc27 pm27 cd27 ct27 : Value}
    {f28 : Addr} {od28 an28 : Option Addr} {sl28 : Array (Option Value)} {oc28 kV28 dc28 pm28 cd28 ct28 : Value}
    {f29 : Addr} {od29 an29 : Option Addr} {sl29 : Array (Option Value)} {oc29 kV29 dc29 pm29 cd29 ct29 : Value}
    {f30 : Addr} {od30 an30 : Option Addr} {sl30 : Array (Option Value)} {oc30 kV30 dc30 pm30 cd30 ct30 : Value}
    {f31 : Addr} {od31 an31 : Option Addr} {sl31 : Array (Option Value)} {oc31 kV31 dc31 pm31 cd31 ct31 : Value}
    {f32 : Addr} {od32 an32 : Option Addr} {sl32 : Array (Option Value)} {oc32 kV32 dc32 pm32 cd32 ct32 : Value}
    {f33 : Addr} {od33 an33 : Option Addr} {sl33 : Array (Option Value)} {oc33 kV33 dc33 pm33 cd33 ct33 : Value}
    {f34 : Addr} {od34 an34 : Option Addr} {sl34 : Array (Option Value)} {oc34 kV34 dc34 pm34 cd34 ct34 : Value}
    {f35 : Addr} {od35 an35 : Option Addr} {sl35 : Array (Option Value)} {oc35 kV35 dc35 pm35 cd35 ct35 : Value}
    {f36 : Addr} {od36 an36 : Option Addr} {sl36 : Array (Option Value)} {oc36 kV36 dc36 pm36 cd36 ct36 : Value}
    {f37 : Addr} {od37 an37 : Option Addr} {sl37 : Array (Option Value)} {oc37 kV37 dc37 pm37 cd37 ct37 : Value}
    {f38 : Addr} {od38 an38 : Option Addr} {sl38 : Array (Option Value)} {oc38 kV38 dc38 pm38 cd38 ct38 : Value}
    {t_GREATEST : Tok}
    {t_MOST : Tok}
    (g_ShareError : PySem.W.nsIn K mainGlobals "ShareError" = some (some (.ref cS)))
    (sbS : PySem.W.subIn K (.ref cS) (.type "BaseException") = some true)
    (tyS : PySem.W.typeIn K (.ref cS) = some (.type "type"))
    (g_BadRow : PySem.W.nsIn K mainGlobals "BadRow" = some (some (.ref cB)))
    (sbB : PySem.W.subIn K (.ref cB) (.type "BaseException") = some true)
    (tyB : PySem.W.typeIn K (.ref cB) = some (.type "type"))
    (exB : PySem.W.excIn K cB [.type "ValueError", .type "Exception", .type "BaseException", .type "object"] "ValueError.__new__" = true)
    (kpB : PySem.W.keepIn K (.ref cB) = true)
    (g_BadGifts : PySem.W.nsIn K mainGlobals "BadGifts" = some (some (.ref cG)))
    (sbG : PySem.W.subIn K (.ref cG) (.type "BaseException") = some true)
    (tyG : PySem.W.typeIn K (.ref cG) = some (.type "type"))
    (exG : PySem.W.excIn K cG [.type "ValueError", .type "Exception", .type "BaseException", .type "object"] "ValueError.__new__" = true)
    (kpG : PySem.W.keepIn K (.ref cG) = true)
    (g_BadAmount : PySem.W.nsIn K mainGlobals "BadAmount" = some (some (.ref cA)))
    (sbA : PySem.W.subIn K (.ref cA) (.type "BaseException") = some true)
    (tyA : PySem.W.typeIn K (.ref cA) = some (.type "type"))
    (exA : PySem.W.excIn K cA [.type "ValueError", .type "Exception", .type "BaseException", .type "object"] "ValueError.__new__" = true)
    (kpA : PySem.W.keepIn K (.ref cA) = true)
    (g_Unlike : PySem.W.nsIn K mainGlobals "Unlike" = some (some (.ref cU)))
    (sbU : PySem.W.subIn K (.ref cU) (.type "BaseException") = some true)
    (tyU : PySem.W.typeIn K (.ref cU) = some (.type "type"))
    (exU : PySem.W.excIn K cU [.type "ValueError", .type "Exception", .type "BaseException", .type "object"] "ValueError.__new__" = true)
    (kpU : PySem.W.keepIn K (.ref cU) = true)
    (g_BadText : PySem.W.nsIn K mainGlobals "BadText" = some (some (.ref cT)))
    (sbT : PySem.W.subIn K (.ref cT) (.type "BaseException") = some true)
    (tyT : PySem.W.typeIn K (.ref cT) = some (.type "type"))
    (exT : PySem.W.excIn K cT [.type "ValueError", .type "Exception", .type "BaseException", .type "object"] "ValueError.__new__" = true)
    (kpT : PySem.W.keepIn K (.ref cT) = true)
    (hdA : PySem.W.hasDictIn K cA = true)
    (hdB : PySem.W.hasDictIn K cB = true)
    (hdG : PySem.W.hasDictIn K cG = true)
    (hdS : PySem.W.hasDictIn K cS = true)
    (hdU : PySem.W.hasDictIn K cU = true)
    (suB : PySem.W.subIn K (.ref cB) (.ref cS) = some true)
    (hgB : PySem.W.findIn K (.ref cB) "__getattribute__" = some (some (.builtin "BaseException.__getattribute__")))
    (hkB : PySem.W.findIn K (.ref cB) "__getattr__" = some none)
    (haB : PySem.W.findIn K (.ref cB) "__class__" = some (some (.builtin "object.__class__")))
    (hmB : PySem.W.mroIn K cB (.type "object") = some true)
    (kBB : PySem.W.kitOne K (.ref cB) (.ref cB) = some true)
    (kBG : PySem.W.kitOne K (.ref cB) (.ref cG) = some false)
    (kBA : PySem.W.kitOne K (.ref cB) (.ref cA) = some false)
    (kBU : PySem.W.kitOne K (.ref cB) (.ref cU) = some false)
    (kBT : PySem.W.kitOne K (.ref cB) (.ref cT) = some false)
    (kvB : PySem.W.kitOne K (.ref cB) (.type "ValueError") = some true)
    (suG : PySem.W.subIn K (.ref cG) (.ref cS) = some true)
    (hgG : PySem.W.findIn K (.ref cG) "__getattribute__" = some (some (.builtin "BaseException.__getattribute__")))
    (hkG : PySem.W.findIn K (.ref cG) "__getattr__" = some none)
    (haG : PySem.W.findIn K (.ref cG) "__class__" = some (some (.builtin "object.__class__")))
    (hmG : PySem.W.mroIn K cG (.type "object") = some true)
    (kGB : PySem.W.kitOne K (.ref cG) (.ref cB) = some false)
    (kGG : PySem.W.kitOne K (.ref cG) (.ref cG) = some true)
    (kGA : PySem.W.kitOne K (.ref cG) (.ref cA) = some false)
    (kGU : PySem.W.kitOne K (.ref cG) (.ref cU) = some false)
    (kGT : PySem.W.kitOne K (.ref cG) (.ref cT) = some false)
    (kvG : PySem.W.kitOne K (.ref cG) (.type "ValueError") = some true)
    (suA : PySem.W.subIn K (.ref cA) (.ref cS) = some true)
    (hgA : PySem.W.findIn K (.ref cA) "__getattribute__" = some (some (.builtin "BaseException.__getattribute__")))
    (hkA : PySem.W.findIn K (.ref cA) "__getattr__" = some none)
    (haA : PySem.W.findIn K (.ref cA) "__class__" = some (some (.builtin "object.__class__")))
    (hmA : PySem.W.mroIn K cA (.type "object") = some true)
    (kAB : PySem.W.kitOne K (.ref cA) (.ref cB) = some false)
    (kAG : PySem.W.kitOne K (.ref cA) (.ref cG) = some false)
    (kAA : PySem.W.kitOne K (.ref cA) (.ref cA) = some true)
    (kAU : PySem.W.kitOne K (.ref cA) (.ref cU) = some false)
    (kAT : PySem.W.kitOne K (.ref cA) (.ref cT) = some false)
    (kvA : PySem.W.kitOne K (.ref cA) (.type "ValueError") = some true)
    (suU : PySem.W.subIn K (.ref cU) (.ref cS) = some true)
    (hgU : PySem.W.findIn K (.ref cU) "__getattribute__" = some (some (.builtin "BaseException.__getattribute__")))
    (hkU : PySem.W.findIn K (.ref cU) "__getattr__" = some none)
    (haU : PySem.W.findIn K (.ref cU) "__class__" = some (some (.builtin "object.__class__")))
    (hmU : PySem.W.mroIn K cU (.type "object") = some true)
    (kUB : PySem.W.kitOne K (.ref cU) (.ref cB) = some false)
    (kUG : PySem.W.kitOne K (.ref cU) (.ref cG) = some false)
    (kUA : PySem.W.kitOne K (.ref cU) (.ref cA) = some false)
    (kUU : PySem.W.kitOne K (.ref cU) (.ref cU) = some true)
    (kUT : PySem.W.kitOne K (.ref cU) (.ref cT) = some false)
    (kvU : PySem.W.kitOne K (.ref cU) (.type "ValueError") = some true)
    (hn : PySem.W.specialIn K (.builtin "object.__class__") "__get__" = some (some (.builtin "getset_descriptor.__get__")))
    (htk : PySem.W.takesIn K (.builtin "object.__class__") = some true)
    (a0 : PySem.W.nsIn K mainGlobals "is_whole" = some (some (.ref f0)))
    (l0 : K.lookup f0 = some ⟨oc0, od0, .func (PySem.W.fnOf "is_whole" "is_whole" (defArgs s_is_whole) (defBody s_is_whole) (defScope s_is_whole) .none kV0 dc0 pm0 an0 cd0 ct0), sl0⟩)
    (c0 : PySem.W.codeIn K cd0 "is_whole" = true)
    (k0 : PySem.W.keepIn K (.ref f0) = true)
    (a1 : PySem.W.nsIn K mainGlobals "is_share" = some (some (.ref f1)))
    (l1 : K.lookup f1 = some ⟨oc1, od1, .func (PySem.W.fnOf "is_share" "is_share" (defArgs s_is_share) (defBody s_is_share) (defScope s_is_share) .none kV1 dc1 pm1 an1 cd1 ct1), sl1⟩)
    (c1 : PySem.W.codeIn K cd1 "is_share" = true)
    (k1 : PySem.W.keepIn K (.ref f1) = true)
    (a2 : PySem.W.nsIn K mainGlobals "running" = some (some (.ref f2)))
    (l2 : K.lookup f2 = some ⟨oc2, od2, .func (PySem.W.fnOf "running" "running" (defArgs s_running) (defBody s_running) (defScope s_running) .none kV2 dc2 pm2 an2 cd2 ct2), sl2⟩)
    (c2 : PySem.W.codeIn K cd2 "running" = true)
    (k2 : PySem.W.keepIn K (.ref f2) = true)
    (a3 : PySem.W.nsIn K mainGlobals "check_row" = some (some (.ref f3)))
    (l3 : K.lookup f3 = some ⟨oc3, od3, .func (PySem.W.fnOf "check_row" "check_row" (defArgs s_check_row) (defBody s_check_row) (defScope s_check_row) .none kV3 dc3 pm3 an3 cd3 ct3), sl3⟩)
    (c3 : PySem.W.codeIn K cd3 "check_row" = true)
    (k3 : PySem.W.keepIn K (.ref f3) = true)
    (a4 : PySem.W.nsIn K mainGlobals "over" = some (some (.ref f4)))
    (l4 : K.lookup f4 = some ⟨oc4, od4, .func (PySem.W.fnOf "over" "over" (defArgs s_over) (defBody s_over) (defScope s_over) .none kV4 dc4 pm4 an4 cd4 ct4), sl4⟩)
    (c4 : PySem.W.codeIn K cd4 "over" = true)
    (k4 : PySem.W.keepIn K (.ref f4) = true)
    (a5 : PySem.W.nsIn K mainGlobals "level_of" = some (some (.ref f5)))
    (l5 : K.lookup f5 = some ⟨oc5, od5, .func (PySem.W.fnOf "level_of" "level_of" (defArgs s_level_of) (defBody s_level_of) (defScope s_level_of) .none kV5 dc5 pm5 an5 cd5 ct5), sl5⟩)
    (c5 : PySem.W.codeIn K cd5 "level_of" = true)
    (k5 : PySem.W.keepIn K (.ref f5) = true)
    (a6 : PySem.W.nsIn K mainGlobals "lowered" = some (some (.ref f6)))
    (l6 : K.lookup f6 = some ⟨oc6, od6, .func (PySem.W.fnOf "lowered" "lowered" (defArgs s_lowered) (defBody s_lowered) (defScope s_lowered) .none kV6 dc6 pm6 an6 cd6 ct6), sl6⟩)
    (c6 : PySem.W.codeIn K cd6 "lowered" = true)
    (k6 : PySem.W.keepIn K (.ref f6) = true)
    (a7 : PySem.W.nsIn K mainGlobals "rising_sums" = some (some (.ref f7)))
    (l7 : K.lookup f7 = some ⟨oc7, od7, .func (PySem.W.fnOf "rising_sums" "rising_sums" (defArgs s_rising_sums) (defBody s_rising_sums) (defScope s_rising_sums) .none kV7 dc7 pm7 an7 cd7 ct7), sl7⟩)
    (c7 : PySem.W.codeIn K cd7 "rising_sums" = true)
    (k7 : PySem.W.keepIn K (.ref f7) = true)
    (a8 : PySem.W.nsIn K mainGlobals "evenest" = some (some (.ref f8)))
    (l8 : K.lookup f8 = some ⟨oc8, od8, .func (PySem.W.fnOf "evenest" "evenest" (defArgs s_evenest) (defBody s_evenest) (defScope s_evenest) .none kV8 dc8 pm8 an8 cd8 ct8), sl8⟩)
    (c8 : PySem.W.codeIn K cd8 "evenest" = true)
    (k8 : PySem.W.keepIn K (.ref f8) = true)
    (a9 : PySem.W.nsIn K mainGlobals "written" = some (some (.ref f9)))
    (l9 : K.lookup f9 = some ⟨oc9, od9, .func (PySem.W.fnOf "written" "written" (defArgs s_written) (defBody s_written) (defScope s_written) .none kV9 dc9 pm9 an9 cd9 ct9), sl9⟩)
    (c9 : PySem.W.codeIn K cd9 "written" = true)
    (k9 : PySem.W.keepIn K (.ref f9) = true)
    (a10 : PySem.W.nsIn K mainGlobals "above" = some (some (.ref f10)))
    (l10 : K.lookup f10 = some ⟨oc10, od10, .func (PySem.W.fnOf "above" "above" (defArgs s_above) (defBody s_above) (defScope s_above) .none kV10 dc10 pm10 an10 cd10 ct10), sl10⟩)
    (c10 : PySem.W.codeIn K cd10 "above" = true)
    (k10 : PySem.W.keepIn K (.ref f10) = true)
    (a11 : PySem.W.nsIn K mainGlobals "check_amount" = some (some (.ref f11)))
    (l11 : K.lookup f11 = some ⟨oc11, od11, .func (PySem.W.fnOf "check_amount" "check_amount" (defArgs s_check_amount) (defBody s_check_amount) (defScope s_check_amount) .none kV11 dc11 pm11 an11 cd11 ct11), sl11⟩)
    (c11 : PySem.W.codeIn K cd11 "check_amount" = true)
    (k11 : PySem.W.keepIn K (.ref f11) = true)
    (a12 : PySem.W.nsIn K mainGlobals "checked" = some (some (.ref f12)))
    (l12 : K.lookup f12 = some ⟨oc12, od12, .func (PySem.W.fnOf "checked" "checked" (defArgs s_checked) (defBody s_checked) (defScope s_checked) .none kV12 dc12 pm12 an12 cd12 ct12), sl12⟩)
    (c12 : PySem.W.codeIn K cd12 "checked" = true)
    (k12 : PySem.W.keepIn K (.ref f12) = true)
    (a13 : PySem.W.nsIn K mainGlobals "taken" = some (some (.ref f13)))
    (l13 : K.lookup f13 = some ⟨oc13, od13, .func (PySem.W.fnOf "taken" "taken" (defArgs s_taken) (defBody s_taken) (defScope s_taken) .none kV13 dc13 pm13 an13 cd13 ct13), sl13⟩)
    (c13 : PySem.W.codeIn K cd13 "taken" = true)
    (k13 : PySem.W.keepIn K (.ref f13) = true)
    (a14 : PySem.W.nsIn K mainGlobals "poured" = some (some (.ref f14)))
    (l14 : K.lookup f14 = some ⟨oc14, od14, .func (PySem.W.fnOf "poured" "poured" (defArgs s_poured) (defBody s_poured) (defScope s_poured) .none kV14 dc14 pm14 an14 cd14 ct14), sl14⟩)
    (c14 : PySem.W.codeIn K cd14 "poured" = true)
    (k14 : PySem.W.keepIn K (.ref f14) = true)
    (a15 : PySem.W.nsIn K mainGlobals "check_two" = some (some (.ref f15)))
    (l15 : K.lookup f15 = some ⟨oc15, od15, .func (PySem.W.fnOf "check_two" "check_two" (defArgs s_check_two) (defBody s_check_two) (defScope s_check_two) .none kV15 dc15 pm15 an15 cd15 ct15), sl15⟩)
    (c15 : PySem.W.codeIn K cd15 "check_two" = true)
    (k15 : PySem.W.keepIn K (.ref f15) = true)
    (a16 : PySem.W.nsIn K mainGlobals "compared" = some (some (.ref f16)))
    (l16 : K.lookup f16 = some ⟨oc16, od16, .func (PySem.W.fnOf "compared" "compared" (defArgs s_compared) (defBody s_compared) (defScope s_compared) .none kV16 dc16 pm16 an16 cd16 ct16), sl16⟩)
    (c16 : PySem.W.codeIn K cd16 "compared" = true)
    (k16 : PySem.W.keepIn K (.ref f16) = true)
    (a17 : PySem.W.nsIn K mainGlobals "under" = some (some (.ref f17)))
    (l17 : K.lookup f17 = some ⟨oc17, od17, .func (PySem.W.fnOf "under" "under" (defArgs s_under) (defBody s_under) (defScope s_under) .none kV17 dc17 pm17 an17 cd17 ct17), sl17⟩)
    (c17 : PySem.W.codeIn K cd17 "under" = true)
    (k17 : PySem.W.keepIn K (.ref f17) = true)
    (a18 : PySem.W.nsIn K mainGlobals "is_gift" = some (some (.ref f18)))
    (l18 : K.lookup f18 = some ⟨oc18, od18, .func (PySem.W.fnOf "is_gift" "is_gift" (defArgs s_is_gift) (defBody s_is_gift) (defScope s_is_gift) .none kV18 dc18 pm18 an18 cd18 ct18), sl18⟩)
    (c18 : PySem.W.codeIn K cd18 "is_gift" = true)
    (k18 : PySem.W.keepIn K (.ref f18) = true)
    (a19 : PySem.W.nsIn K mainGlobals "done" = some (some (.ref f19)))
    (l19 : K.lookup f19 = some ⟨oc19, od19, .func (PySem.W.fnOf "done" "done" (defArgs s_done) (defBody s_done) (defScope s_done) .none kV19 dc19 pm19 an19 cd19 ct19), sl19⟩)
    (c19 : PySem.W.codeIn K cd19 "done" = true)
    (k19 : PySem.W.keepIn K (.ref f19) = true)
    (a20 : PySem.W.nsIn K mainGlobals "_law_kinds" = some (some (.ref f20)))
    (l20 : K.lookup f20 = some ⟨oc20, od20, .func (PySem.W.fnOf "_law_kinds" "_law_kinds" (defArgs s_law_kinds) (defBody s_law_kinds) (defScope s_law_kinds) .none kV20 dc20 pm20 an20 cd20 ct20), sl20⟩)
    (c20 : PySem.W.codeIn K cd20 "_law_kinds" = true)
    (k20 : PySem.W.keepIn K (.ref f20) = true)
    (a21 : PySem.W.nsIn K mainGlobals "_law_told" = some (some (.ref f21)))
    (l21 : K.lookup f21 = some ⟨oc21, od21, .func (PySem.W.fnOf "_law_told" "_law_told" (defArgs s_law_told) (defBody s_law_told) (defScope s_law_told) .none kV21 dc21 pm21 an21 cd21 ct21), sl21⟩)
    (c21 : PySem.W.codeIn K cd21 "_law_told" = true)
    (k21 : PySem.W.keepIn K (.ref f21) = true)
    (a22 : PySem.W.nsIn K mainGlobals "_law_with_gifts" = some (some (.ref f22)))
    (l22 : K.lookup f22 = some ⟨oc22, od22, .func (PySem.W.fnOf "_law_with_gifts" "_law_with_gifts" (defArgs s_law_with_gifts) (defBody s_law_with_gifts) (defScope s_law_with_gifts) .none kV22 dc22 pm22 an22 cd22 ct22), sl22⟩)
    (c22 : PySem.W.codeIn K cd22 "_law_with_gifts" = true)
    (k22 : PySem.W.keepIn K (.ref f22) = true)
    (a23 : PySem.W.nsIn K mainGlobals "_law_with_two" = some (some (.ref f23)))
    (l23 : K.lookup f23 = some ⟨oc23, od23, .func (PySem.W.fnOf "_law_with_two" "_law_with_two" (defArgs s_law_with_two) (defBody s_law_with_two) (defScope s_law_with_two) .none kV23 dc23 pm23 an23 cd23 ct23), sl23⟩)
    (c23 : PySem.W.codeIn K cd23 "_law_with_two" = true)
    (k23 : PySem.W.keepIn K (.ref f23) = true)
    (a24 : PySem.W.nsIn K mainGlobals "_law_with_wholes" = some (some (.ref f24)))
    (l24 : K.lookup f24 = some ⟨oc24, od24, .func (PySem.W.fnOf "_law_with_wholes" "_law_with_wholes" (defArgs s_law_with_wholes) (defBody s_law_with_wholes) (defScope s_law_with_wholes) .none kV24 dc24 pm24 an24 cd24 ct24), sl24⟩)
    (c24 : PySem.W.codeIn K cd24 "_law_with_wholes" = true)
    (k24 : PySem.W.keepIn K (.ref f24) = true)
    (a25 : PySem.W.nsIn K mainGlobals "_law_taken" = some (some (.ref f25)))
    (l25 : K.lookup f25 = some ⟨oc25, od25, .func (PySem.W.fnOf "_law_taken" "_law_taken" (defArgs s_law_taken) (defBody s_law_taken) (defScope s_law_taken) .none kV25 dc25 pm25 an25 cd25 ct25), sl25⟩)
    (c25 : PySem.W.codeIn K cd25 "_law_taken" = true)
    (k25 : PySem.W.keepIn K (.ref f25) = true)
    (a26 : PySem.W.nsIn K mainGlobals "_law_poured" = some (some (.ref f26)))
    (l26 : K.lookup f26 = some ⟨oc26, od26, .func (PySem.W.fnOf "_law_poured" "_law_poured" (defArgs s_law_poured) (defBody s_law_poured) (defScope s_law_poured) .none kV26 dc26 pm26 an26 cd26 ct26), sl26⟩)
    (c26 : PySem.W.codeIn K cd26 "_law_poured" = true)
    (k26 : PySem.W.keepIn K (.ref f26) = true)
    (a27 : PySem.W.nsIn K mainGlobals "_law_with_taken" = some (some (.ref f27)))
    (l27 : K.lookup f27 = some ⟨oc27, od27, .func (PySem.W.fnOf "_law_with_taken" "_law_with_taken" (defArgs s_law_with_taken) (defBody s_law_with_taken) (defScope s_law_with_taken) .none kV27 dc27 pm27 an27 cd27 ct27), sl27⟩)
    (c27 : PySem.W.codeIn K cd27 "_law_with_taken" = true)
    (k27 : PySem.W.keepIn K (.ref f27) = true)
    (a28 : PySem.W.nsIn K mainGlobals "_law_with_poured" = some (some (.ref f28)))
    (l28 : K.lookup f28 = some ⟨oc28, od28, .func (PySem.W.fnOf "_law_with_poured" "_law_with_poured" (defArgs s_law_with_poured) (defBody s_law_with_poured) (defScope s_law_with_poured) .none kV28 dc28 pm28 an28 cd28 ct28), sl28⟩)
    (c28 : PySem.W.codeIn K cd28 "_law_with_poured" = true)
    (k28 : PySem.W.keepIn K (.ref f28) = true)
    (a29 : PySem.W.nsIn K mainGlobals "_law_with_row" = some (some (.ref f29)))
    (l29 : K.lookup f29 = some ⟨oc29, od29, .func (PySem.W.fnOf "_law_with_row" "_law_with_row" (defArgs s_law_with_row) (defBody s_law_with_row) (defScope s_law_with_row) .none kV29 dc29 pm29 an29 cd29 ct29), sl29⟩)
    (c29 : PySem.W.codeIn K cd29 "_law_with_row" = true)
    (k29 : PySem.W.keepIn K (.ref f29) = true)
    (a30 : PySem.W.nsIn K mainGlobals "_law_with_amount" = some (some (.ref f30)))
    (l30 : K.lookup f30 = some ⟨oc30, od30, .func (PySem.W.fnOf "_law_with_amount" "_law_with_amount" (defArgs s_law_with_amount) (defBody s_law_with_amount) (defScope s_law_with_amount) .none kV30 dc30 pm30 an30 cd30 ct30), sl30⟩)
    (c30 : PySem.W.codeIn K cd30 "_law_with_amount" = true)
    (k30 : PySem.W.keepIn K (.ref f30) = true)
    (a31 : PySem.W.nsIn K mainGlobals "_law_all" = some (some (.ref f31)))
    (l31 : K.lookup f31 = some ⟨oc31, od31, .func (PySem.W.fnOf "_law_all" "_law_all" (defArgs s_law_all) (defBody s_law_all) (defScope s_law_all) .none kV31 dc31 pm31 an31 cd31 ct31), sl31⟩)
    (c31 : PySem.W.codeIn K cd31 "_law_all" = true)
    (k31 : PySem.W.keepIn K (.ref f31) = true)
    (a32 : PySem.W.nsIn K mainGlobals "_law_edges_right" = some (some (.ref f32)))
    (l32 : K.lookup f32 = some ⟨oc32, od32, .func (PySem.W.fnOf "_law_edges_right" "_law_edges_right" (defArgs s_law_edges_right) (defBody s_law_edges_right) (defScope s_law_edges_right) .none kV32 dc32 pm32 an32 cd32 ct32), sl32⟩)
    (c32 : PySem.W.codeIn K cd32 "_law_edges_right" = true)
    (k32 : PySem.W.keepIn K (.ref f32) = true)
    (a33 : PySem.W.nsIn K mainGlobals "_law_some_beyond" = some (some (.ref f33)))
    (l33 : K.lookup f33 = some ⟨oc33, od33, .func (PySem.W.fnOf "_law_some_beyond" "_law_some_beyond" (defArgs s_law_some_beyond) (defBody s_law_some_beyond) (defScope s_law_some_beyond) .none kV33 dc33 pm33 an33 cd33 ct33), sl33⟩)
    (c33 : PySem.W.codeIn K cd33 "_law_some_beyond" = true)
    (k33 : PySem.W.keepIn K (.ref f33) = true)
    (a34 : PySem.W.nsIn K mainGlobals "_law_bounds_right" = some (some (.ref f34)))
    (l34 : K.lookup f34 = some ⟨oc34, od34, .func (PySem.W.fnOf "_law_bounds_right" "_law_bounds_right" (defArgs s_law_bounds_right) (defBody s_law_bounds_right) (defScope s_law_bounds_right) .none kV34 dc34 pm34 an34 cd34 ct34), sl34⟩)
    (c34 : PySem.W.codeIn K cd34 "_law_bounds_right" = true)
    (k34 : PySem.W.keepIn K (.ref f34) = true)
    (a35 : PySem.W.nsIn K mainGlobals "_law_cell_at" = some (some (.ref f35)))
    (l35 : K.lookup f35 = some ⟨oc35, od35, .func (PySem.W.fnOf "_law_cell_at" "_law_cell_at" (defArgs s_law_cell_at) (defBody s_law_cell_at) (defScope s_law_cell_at) .none kV35 dc35 pm35 an35 cd35 ct35), sl35⟩)
    (c35 : PySem.W.codeIn K cd35 "_law_cell_at" = true)
    (k35 : PySem.W.keepIn K (.ref f35) = true)
    (a36 : PySem.W.nsIn K mainGlobals "_law_draw" = some (some (.ref f36)))
    (l36 : K.lookup f36 = some ⟨oc36, od36, .func (PySem.W.fnOf "_law_draw" "_law_draw" (defArgs s_law_draw) (defBody s_law_draw) (defScope s_law_draw) .none kV36 dc36 pm36 an36 cd36 ct36), sl36⟩)
    (c36 : PySem.W.codeIn K cd36 "_law_draw" = true)
    (k36 : PySem.W.keepIn K (.ref f36) = true)
    (a37 : PySem.W.nsIn K mainGlobals "_law_row" = some (some (.ref f37)))
    (l37 : K.lookup f37 = some ⟨oc37, od37, .func (PySem.W.fnOf "_law_row" "_law_row" (defArgs s_law_row) (defBody s_law_row) (defScope s_law_row) .none kV37 dc37 pm37 an37 cd37 ct37), sl37⟩)
    (c37 : PySem.W.codeIn K cd37 "_law_row" = true)
    (k37 : PySem.W.keepIn K (.ref f37) = true)
    (a38 : PySem.W.nsIn K mainGlobals "law" = some (some (.ref f38)))
    (l38 : K.lookup f38 = some ⟨oc38, od38, .func (PySem.W.fnOf "law" "law" (defArgs s_law) (defBody s_law) (defScope s_law) .none kV38 dc38 pm38 an38 cd38 ct38), sl38⟩)
    (c38 : PySem.W.codeIn K cd38 "law" = true)
    (k38 : PySem.W.keepIn K (.ref f38) = true)
    (z_len : PySem.W.nsIn K mainGlobals "len" = some none)
    (z_all : PySem.W.nsIn K mainGlobals "all" = some none)
    (z_any : PySem.W.nsIn K mainGlobals "any" = some none)
    (z_sum : PySem.W.nsIn K mainGlobals "sum" = some none)
    (z_max : PySem.W.nsIn K mainGlobals "max" = some none)
    (z_min : PySem.W.nsIn K mainGlobals "min" = some none)
    (z_sorted : PySem.W.nsIn K mainGlobals "sorted" = some none)
    (z_isinstance : PySem.W.nsIn K mainGlobals "isinstance" = some none)
    (z_range : PySem.W.nsIn K mainGlobals "range" = some none)
    (z_reversed : PySem.W.nsIn K mainGlobals "reversed" = some none)
    (z_zip : PySem.W.nsIn K mainGlobals "zip" = some none)
    (z_list : PySem.W.nsIn K mainGlobals "list" = some none)
    (z_abs : PySem.W.nsIn K mainGlobals "abs" = some none)
    (z_str : PySem.W.nsIn K mainGlobals "str" = some none)
    (z_int : PySem.W.nsIn K mainGlobals "int" = some none)
    (z_set : PySem.W.nsIn K mainGlobals "set" = some none)
    (z_bool : PySem.W.nsIn K mainGlobals "bool" = some none)
    (z_tuple : PySem.W.nsIn K mainGlobals "tuple" = some none)
    (z_ValueError : PySem.W.nsIn K mainGlobals "ValueError" = some none)
    (v_GREATEST : PySem.W.nsIn K mainGlobals "GREATEST" = some (some (.int 1000000 t_GREATEST)))
    (v_MOST : PySem.W.nsIn K mainGlobals "MOST" = some (some (.int 1000000000 t_MOST))) :
    LamX.LawAtS l w K CX0 9 63 "_law_script" mg fa h := by
  have e := hfa.symm.trans (PySem.W.mg_of X G a38)
  cases e
  have F0 := fun_mk (st := s_is_whole) l0 c0 k0
  have R0 : Raw K mg "is_whole" s_is_whole ["thing"] := ⟨_, _, F0, PySem.W.mg_of X G a0, F0.binds (fun _ _ _ _ _ _ us hl => match us, hl with | [_], _ => rfl)⟩
  have F1 := fun_mk (st := s_is_share) l1 c1 k1
  have R1 : Raw K mg "is_share" s_is_share ["thing"] := ⟨_, _, F1, PySem.W.mg_of X G a1, F1.binds (fun _ _ _ _ _ _ us hl => match us, hl with | [_], _ => rfl)⟩
  have F2 := fun_mk (st := s_running) l2 c2 k2
  have R2 : Raw K mg "running" s_running ["shares"] := ⟨_, _, F2, PySem.W.mg_of X G a2, F2.binds (fun _ _ _ _ _ _ us hl => match us, hl with | [_], _ => rfl)⟩
  have F3 := fun_mk (st := s_check_row) l3 c3 k3
  have R3 : Raw K mg "check_row" s_check_row ["row"] := ⟨_, _, F3, PySem.W.mg_of X G a3, F3.binds (fun _ _ _ _ _ _ us hl => match us, hl with | [_], _ => rfl)⟩
  have F4 := fun_mk (st := s_over) l4 c4 k4
  have R4 : Raw K mg "over" s_over ["row", "mark"] := ⟨_, _, F4, PySem.W.mg_of X G a4, F4.binds (fun _ _ _ _ _ _ us hl => match us, hl with | [_, _], _ => rfl)⟩
  have F5 := fun_mk (st := s_level_of) l5 c5 k5
  have R5 : Raw K mg "level_of" s_level_of ["row", "amount"] := ⟨_, _, F5, PySem.W.mg_of X G a5, F5.binds (fun _ _ _ _ _ _ us hl => match us, hl with | [_, _], _ => rfl)⟩
  have F6 := fun_mk (st := s_lowered) l6 c6 k6
  have R6 : Raw K mg "lowered" s_lowered ["row", "amount"] := ⟨_, _, F6, PySem.W.mg_of X G a6, F6.binds (fun _ _ _ _ _ _ us hl => match us, hl with | [_, _], _ => rfl)⟩
  have F7 := fun_mk (st := s_rising_sums) l7 c7 k7
  have R7 : Raw K mg "rising_sums" s_rising_sums ["row"] := ⟨_, _, F7, PySem.W.mg_of X G a7, F7.binds (fun _ _ _ _ _ _ us hl => match us, hl with | [_], _ => rfl)⟩
  have F8 := fun_mk (st := s_evenest) l8 c8 k8
  have R8 : Raw K mg "evenest" s_evenest ["row"] := ⟨_, _, F8, PySem.W.mg_of X G a8, F8.binds (fun _ _ _ _ _ _ us hl => match us, hl with | [_], _ => rfl)⟩
  have F9 := fun_mk (st := s_written) l9 c9 k9
  have R9 : Raw K mg "written" s_written ["row"] := ⟨_, _, F9, PySem.W.mg_of X G a9, F9.binds (fun _ _ _ _ _ _ us hl => match us, hl with | [_], _ => rfl)⟩
  have F10 := fun_mk (st := s_above) l10 c10 k10
  have R10 : Raw K mg "above" s_above ["row", "mark"] := ⟨_, _, F10, PySem.W.mg_of X G a10, F10.binds (fun _ _ _ _ _ _ us hl => match us, hl with | [_, _], _ => rfl)⟩
  have F11 := fun_mk (st := s_check_amount) l11 c11 k11
  have R11 : Raw K mg "check_amount" s_check_amount ["amount"] := ⟨_, _, F11, PySem.W.mg_of X G a11, F11.binds (fun _ _ _ _ _ _ us hl => match us, hl with | [_], _ => rfl)⟩
  have F12 := fun_mk (st := s_checked) l12 c12 k12
  have R12 : Raw K mg "checked" s_checked ["row"] := ⟨_, _, F12, PySem.W.mg_of X G a12, F12.binds (fun _ _ _ _ _ _ us hl => match us, hl with | [_], _ => rfl)⟩
  have F13 := fun_mk (st := s_taken) l13 c13 k13
  have R13 : Raw K mg "taken" s_taken ["row", "amount"] := ⟨_, _, F13, PySem.W.mg_of X G a13, F13.binds (fun _ _ _ _ _ _ us hl => match us, hl with | [_, _], _ => rfl)⟩
  have F14 := fun_mk (st := s_poured) l14 c14 k14
  have R14 : Raw K mg "poured" s_poured ["row", "amount"] := ⟨_, _, F14, PySem.W.mg_of X G a14, F14.binds (fun _ _ _ _ _ _ us hl => match us, hl with | [_, _], _ => rfl)⟩
  have F15 := fun_mk (st := s_check_two) l15 c15 k15
  have R15 : Raw K mg "check_two" s_check_two ["one", "other"] := ⟨_, _, F15, PySem.W.mg_of X G a15, F15.binds (fun _ _ _ _ _ _ us hl => match us, hl with | [_, _], _ => rfl)⟩
  have F16 := fun_mk (st := s_compared) l16 c16 k16
  have R16 : Raw K mg "compared" s_compared ["one", "other"] := ⟨_, _, F16, PySem.W.mg_of X G a16, F16.binds (fun _ _ _ _ _ _ us hl => match us, hl with | [_, _], _ => rfl)⟩
  have F17 := fun_mk (st := s_under) l17 c17 k17
  have R17 : Raw K mg "under" s_under ["one", "other"] := ⟨_, _, F17, PySem.W.mg_of X G a17, F17.binds (fun _ _ _ _ _ _ us hl => match us, hl with | [_, _], _ => rfl)⟩
  have F18 := fun_mk (st := s_is_gift) l18 c18 k18
  have R18 : Raw K mg "is_gift" s_is_gift ["gift", "many"] := ⟨_, _, F18, PySem.W.mg_of X G a18, F18.binds (fun _ _ _ _ _ _ us hl => match us, hl with | [_, _], _ => rfl)⟩
  have F19 := fun_mk (st := s_done) l19 c19 k19
  have R19 : Raw K mg "done" s_done ["row", "gifts"] := ⟨_, _, F19, PySem.W.mg_of X G a19, F19.binds (fun _ _ _ _ _ _ us hl => match us, hl with | [_, _], _ => rfl)⟩
  have F20 := fun_mk (st := s_law_kinds) l20 c20 k20
  have R20 : Raw K mg "_law_kinds" s_law_kinds ["_law_error"] := ⟨_, _, F20, PySem.W.mg_of X G a20, F20.binds (fun _ _ _ _ _ _ us hl => match us, hl with | [_], _ => rfl)⟩
  have F21 := fun_mk (st := s_law_told) l21 c21 k21
  have R21 : Raw K mg "_law_told" s_law_told ["_law_ask", "_law_one", "_law_other_here"] := ⟨_, _, F21, PySem.W.mg_of X G a21, F21.binds (fun _ _ _ _ _ _ us hl => match us, hl with | [_, _, _], _ => rfl)⟩
  have F22 := fun_mk (st := s_law_with_gifts) l22 c22 k22
  have R22 : Raw K mg "_law_with_gifts" s_law_with_gifts ["_law_row_here", "_law_gifts"] := ⟨_, _, F22, PySem.W.mg_of X G a22, F22.binds (fun _ _ _ _ _ _ us hl => match us, hl with | [_, _], _ => rfl)⟩
  have F23 := fun_mk (st := s_law_with_two) l23 c23 k23
  have R23 : Raw K mg "_law_with_two" s_law_with_two ["_law_one", "_law_other_here"] := ⟨_, _, F23, PySem.W.mg_of X G a23, F23.binds (fun _ _ _ _ _ _ us hl => match us, hl with | [_, _], _ => rfl)⟩
  have F24 := fun_mk (st := s_law_with_wholes) l24 c24 k24
  have R24 : Raw K mg "_law_with_wholes" s_law_with_wholes ["_law_one", "_law_other_here"] := ⟨_, _, F24, PySem.W.mg_of X G a24, F24.binds (fun _ _ _ _ _ _ us hl => match us, hl with | [_, _], _ => rfl)⟩
  have F25 := fun_mk (st := s_law_taken) l25 c25 k25
  have R25 : Raw K mg "_law_taken" s_law_taken ["_law_row_here", "_law_amount"] := ⟨_, _, F25, PySem.W.mg_of X G a25, F25.binds (fun _ _ _ _ _ _ us hl => match us, hl with | [_, _], _ => rfl)⟩
  have F26 := fun_mk (st := s_law_poured) l26 c26 k26
  have R26 : Raw K mg "_law_poured" s_law_poured ["_law_row_here", "_law_amount"] := ⟨_, _, F26, PySem.W.mg_of X G a26, F26.binds (fun _ _ _ _ _ _ us hl => match us, hl with | [_, _], _ => rfl)⟩
  have F27 := fun_mk (st := s_law_with_taken) l27 c27 k27
  have R27 : Raw K mg "_law_with_taken" s_law_with_taken ["_law_one", "_law_other_here"] := ⟨_, _, F27, PySem.W.mg_of X G a27, F27.binds (fun _ _ _ _ _ _ us hl => match us, hl with | [_, _], _ => rfl)⟩
  have F28 := fun_mk (st := s_law_with_poured) l28 c28 k28
  have R28 : Raw K mg "_law_with_poured" s_law_with_poured ["_law_one", "_law_other_here"] := ⟨_, _, F28, PySem.W.mg_of X G a28, F28.binds (fun _ _ _ _ _ _ us hl => match us, hl with | [_, _], _ => rfl)⟩
  have F29 := fun_mk (st := s_law_with_row) l29 c29 k29
  have R29 : Raw K mg "_law_with_row" s_law_with_row ["_law_door", "_law_row_here"] := ⟨_, _, F29, PySem.W.mg_of X G a29, F29.binds (fun _ _ _ _ _ _ us hl => match us, hl with | [_, _], _ => rfl)⟩
  have F30 := fun_mk (st := s_law_with_amount) l30 c30 k30
  have R30 : Raw K mg "_law_with_amount" s_law_with_amount ["_law_door", "_law_thing"] := ⟨_, _, F30, PySem.W.mg_of X G a30, F30.binds (fun _ _ _ _ _ _ us hl => match us, hl with | [_, _], _ => rfl)⟩
  have F31 := fun_mk (st := s_law_all) l31 c31 k31
  have R31 : Raw K mg "_law_all" s_law_all ["_law_ask", "_law_doors", "_law_things", "_law_due"] := ⟨_, _, F31, PySem.W.mg_of X G a31, F31.binds (fun _ _ _ _ _ _ us hl => match us, hl with | [_, _, _, _], _ => rfl)⟩
  have F32 := fun_mk (st := s_law_edges_right) l32 c32 k32
  have R32 : Raw K mg "_law_edges_right" s_law_edges_right ["_law_due"] := ⟨_, _, F32, PySem.W.mg_of X G a32, F32.binds (fun _ _ _ _ _ _ us hl => match us, hl with | [_], _ => rfl)⟩
  have F33 := fun_mk (st := s_law_some_beyond) l33 c33 k33
  have R33 : Raw K mg "_law_some_beyond" s_law_some_beyond ["_law_due"] := ⟨_, _, F33, PySem.W.mg_of X G a33, F33.binds (fun _ _ _ _ _ _ us hl => match us, hl with | [_], _ => rfl)⟩
  have F34 := fun_mk (st := s_law_bounds_right) l34 c34 k34
  have R34 : Raw K mg "_law_bounds_right" s_law_bounds_right ["_law_due"] := ⟨_, _, F34, PySem.W.mg_of X G a34, F34.binds (fun _ _ _ _ _ _ us hl => match us, hl with | [_], _ => rfl)⟩
  have F35 := fun_mk (st := s_law_cell_at) l35 c35 k35
  have R35 : Raw K mg "_law_cell_at" s_law_cell_at ["_law_script", "_law_k"] := ⟨_, _, F35, PySem.W.mg_of X G a35, F35.binds (fun _ _ _ _ _ _ us hl => match us, hl with | [_, _], _ => rfl)⟩
  have F36 := fun_mk (st := s_law_draw) l36 c36 k36
  have R36 : Raw K mg "_law_draw" s_law_draw ["_law_cell", "_law_k", "_law_many"] := ⟨_, _, F36, PySem.W.mg_of X G a36, F36.binds (fun _ _ _ _ _ _ us hl => match us, hl with | [_, _, _], _ => rfl)⟩
  have F37 := fun_mk (st := s_law_row) l37 c37 k37
  have R37 : Raw K mg "_law_row" s_law_row ["_law_script"] := ⟨_, _, F37, PySem.W.mg_of X G a37, F37.binds (fun _ _ _ _ _ _ us hl => match us, hl with | [_], _ => rfl)⟩
  have F38 := fun_mk (st := s_law) l38 c38 k38
  have T : Txt K mg := ⟨PySem.W.mg_none_of X G z_len, PySem.W.mg_none_of X G z_all, PySem.W.mg_none_of X G z_any, PySem.W.mg_none_of X G z_sum, PySem.W.mg_none_of X G z_max, PySem.W.mg_none_of X G z_min, PySem.W.mg_none_of X G z_sorted, PySem.W.mg_none_of X G z_isinstance, PySem.W.mg_none_of X G z_range, PySem.W.mg_none_of X G z_reversed, PySem.W.mg_none_of X G z_zip, PySem.W.mg_none_of X G z_list, PySem.W.mg_none_of X G z_abs, PySem.W.mg_none_of X G z_str, PySem.W.mg_none_of X G z_int, PySem.W.mg_none_of X G z_set, PySem.W.mg_none_of X G z_bool, PySem.W.mg_none_of X G z_tuple, PySem.W.mg_none_of X G z_ValueError, ⟨_, PySem.W.mg_of X G v_GREATEST⟩, ⟨_, PySem.W.mg_of X G v_MOST⟩⟩
  have ER : Errs K mg cS cB cG cA cU cT := ⟨PySem.W.mg_of X G g_ShareError, ⟨exB, PySem.W.mg_of X G g_BadRow, kpB, sbB, tyB⟩, ⟨exG, PySem.W.mg_of X G g_BadGifts, kpG, sbG, tyG⟩, ⟨exA, PySem.W.mg_of X G g_BadAmount, kpA, sbA, tyA⟩, ⟨exU, PySem.W.mg_of X G g_Unlike, kpU, sbU, tyU⟩, ⟨exT, PySem.W.mg_of X G g_BadText, kpT, sbT, tyT⟩⟩
  have KB : KnownE K cS cB cG cA cU cT cB true false false false := ⟨PySem.W.exm_ref sbS hdS tyS suB, ⟨hgB, hkB, sbB, hdB, haB, hn, htk, hmB⟩, kBB, kBG, kBA, kBU, kBT, kvB⟩
  have KG : KnownE K cS cB cG cA cU cT cG false true false false := ⟨PySem.W.exm_ref sbS hdS tyS suG, ⟨hgG, hkG, sbG, hdG, haG, hn, htk, hmG⟩, kGB, kGG, kGA, kGU, kGT, kvG⟩
  have KA : KnownE K cS cB cG cA cU cT cA false false true false := ⟨PySem.W.exm_ref sbS hdS tyS suA, ⟨hgA, hkA, sbA, hdA, haA, hn, htk, hmA⟩, kAB, kAG, kAA, kAU, kAT, kvA⟩
  have KU : KnownE K cS cB cG cA cU cT cU false false false true := ⟨PySem.W.exm_ref sbS hdS tyS suU, ⟨hgU, hkU, sbU, hdU, haU, hn, htk, hmU⟩, kUB, kUG, kUA, kUU, kUT, kvU⟩
  refine ⟨PySem.W.fnOf "law" "law" (defArgs s_law) (defBody s_law) (defScope s_law) .none kV38 dc38 pm38 an38 cd38 ct38, [], spLawX K, (fun p hp => by cases hp), (fun p hp => by cases hp), (fun p hp => by cases hp), fun s v => .of_eq rfl, (fun H a ns hl _ hc hS => ⟨a, ns, rfl, hS, hl, fun _ => rfl⟩), fun base _ _ hTB => ?_⟩
  have d_is_whole := def_is_whole (P := l.prog) (w := w) (base := base) R0 T
  have d_is_share := def_is_share (P := l.prog) (w := w) (base := base) R1 T d_is_whole
  have d_running := def_running (P := l.prog) (w := w) (base := base) R2 T
  have x_check_row := defX_check_row (P := l.prog) (w := w) (base := base) R3 T ER d_is_share
  have d_over := def_over (P := l.prog) (w := w) (base := base) R4 T
  have d_level_of := def_level_of (P := l.prog) (w := w) (base := base) R5 T d_running
  have d_lowered := def_lowered (P := l.prog) (w := w) (base := base) R6 T d_level_of d_over
  have x_rising_sums := defX_rising_sums (P := l.prog) (w := w) (base := base) R7 T x_check_row
  have x_evenest := defX_evenest (P := l.prog) (w := w) (base := base) R8 T x_check_row
  have x_written := defX_written (P := l.prog) (w := w) (base := base) R9 T x_check_row
  have x_above := defX_above (P := l.prog) (w := w) (base := base) R10 T ER x_check_row d_is_whole d_over
  have x_check_amount := defX_check_amount (P := l.prog) (w := w) (base := base) R11 T ER d_is_whole
  have x_checked := defX_checked (P := l.prog) (w := w) (base := base) R12 T ER d_is_share
  have x_taken := defX_taken (P := l.prog) (w := w) (base := base) R13 T x_check_row x_check_amount d_lowered x_checked
  have x_poured := defX_poured (P := l.prog) (w := w) (base := base) R14 T x_check_row x_check_amount d_lowered x_checked
  have x_check_two := defX_check_two (P := l.prog) (w := w) (base := base) R15 T ER x_check_row
  have x_compared := defX_compared (P := l.prog) (w := w) (base := base) R16 T x_check_two
  have x_under := defX_under (P := l.prog) (w := w) (base := base) R17 T ER x_check_two
  have d_is_gift := def_is_gift (P := l.prog) (w := w) (base := base) R18 T d_is_whole
  have x_done := defX_done (P := l.prog) (w := w) (base := base) R19 T ER x_check_row d_is_share d_is_gift
  have x_law_kinds := defX_law_kinds (P := l.prog) (w := w) (base := base) R20 T ER
  have d_law_told := def_law_told (P := l.prog) (w := w) (base := base) R21 T ER x_law_kinds
  have x_law_with_gifts := defX_law_with_gifts (P := l.prog) (w := w) (base := base) R22 T x_done
  have x_law_with_two := defX_law_with_two (P := l.prog) (w := w) (base := base) R23 T x_compared
  have x_law_with_wholes := defX_law_with_wholes (P := l.prog) (w := w) (base := base) R24 T x_under
  have x_law_taken := defX_law_taken (P := l.prog) (w := w) (base := base) R25 T x_taken
  have x_law_poured := defX_law_poured (P := l.prog) (w := w) (base := base) R26 T x_poured
  have x_law_with_taken := defX_law_with_taken (P := l.prog) (w := w) (base := base) R27 T x_taken
  have x_law_with_poured := defX_law_with_poured (P := l.prog) (w := w) (base := base) R28 T x_poured
  have x_law_with_row := defX_law_with_row (P := l.prog) (w := w) (base := base) R29 T x_rising_sums x_evenest x_written x_above x_done x_taken x_poured x_compared x_under
  have x_law_with_amount := defX_law_with_amount (P := l.prog) (w := w) (base := base) R30 T x_above x_taken x_poured
  have d_law_all := def_law_all (P := l.prog) (w := w) (base := base) R31 T d_law_told
  have d_law_edges_right := def_law_edges_right (P := l.prog) (w := w) (base := base) R32 T KA d_law_told x_taken x_poured x_law_taken x_law_poured
  have d_law_some_beyond := def_law_some_beyond (P := l.prog) (w := w) (base := base) R33 T KA d_law_told x_taken x_poured x_law_with_taken x_law_with_poured
  have d_law_bounds_right := def_law_bounds_right (P := l.prog) (w := w) (base := base) R34 T KG KA d_law_told x_law_with_amount x_law_with_gifts x_taken x_poured x_done
  have d_law_cell_at := def_law_cell_at (P := l.prog) (w := w) (base := base) R35 T
  have d_law_draw := def_law_draw (P := l.prog) (w := w) (base := base) R36 T
  have d_law_row := def_law_row (P := l.prog) (w := w) (base := base) R37 T d_law_cell_at d_law_draw
  exact ok_law F38 T KB KG KA KU d_law_cell_at d_law_row d_law_told d_law_all x_law_with_row x_law_with_amount x_law_with_gifts x_law_with_two x_law_with_wholes d_law_bounds_right d_law_edges_right d_law_some_beyond x_above x_taken
end Ev
open PySem PySem.W PyProof.Rows in
set_option maxRecDepth 100000 in
set_option maxHeartbeats 0 in
theorem PySem.Challenge.cw_evenhand_k07_refused_holds : PySem.Challenge.rw_evenhand_k07_refused.Holds := by
  w_on; o_law; k_head; (case hw => w_witness2)
  k_fill
  refine LamX.walk_ofTs (l := PySem.Challenge.rw_evenhand_k07_refused) (n := 63) (k := 9) (x := "_law_script") (CX := fun _ => L2.CX0) rfl (by decide) rfl ⟨rfl, by decide, by decide⟩ (fun w h Y => PySem.W.km_in_of Y) ?F (fun _ _ _ _ _ z => z)
  case F =>
    intro w mg fa h Y KX G hmg
    refine' Ev.all_mk KX G hmg ?g_ShareError ?sbS ?tyS ?g_BadRow ?sbB ?tyB ?exB ?kpB ?g_BadGifts ?sbG ?tyG ?exG ?kpG ?g_BadAmount ?sbA ?tyA ?exA ?kpA ?g_Unlike ?sbU ?tyU ?exU ?kpU ?g_BadText ?sbT ?tyT ?exT ?kpT ?hdA ?hdB ?hdG ?hdS ?hdU ?suB ?hgB ?hkB ?haB ?hmB ?kBB ?kBG ?kBA ?kBU ?kBT ?kvB ?suG ?hgG ?hkG ?haG ?hmG ?kGB ?kGG ?kGA ?kGU ?kGT ?kvG ?suA ?hgA ?hkA ?haA ?hmA ?kAB ?kAG ?kAA ?kAU ?kAT ?kvA ?suU ?hgU ?hkU ?haU ?hmU ?kUB ?kUG ?kUA ?kUU ?kUT ?kvU ?hn ?htk ?a0 ?l0 ?c0 ?k0 ?a1 ?l1 ?c1 ?k1 ?a2 ?l2 ?c2 ?k2 ?a3 ?l3 ?c3 ?k3 ?a4 ?l4 ?c4 ?k4 ?a5 ?l5 ?c5 ?k5 ?a6 ?l6 ?c6 ?k6 ?a7 ?l7 ?c7 ?k7 ?a8 ?l8 ?c8 ?k8 ?a9 ?l9 ?c9 ?k9 ?a10 ?l10 ?c10 ?k10 ?a11 ?l11 ?c11 ?k11 ?a12 ?l12 ?c12 ?k12 ?a13 ?l13 ?c13 ?k13 ?a14 ?l14 ?c14 ?k14 ?a15 ?l15 ?c15 ?k15 ?a16 ?l16 ?c16 ?k16 ?a17 ?l17 ?c17 ?k17 ?a18 ?l18 ?c18 ?k18 ?a19 ?l19 ?c19 ?k19 ?a20 ?l20 ?c20 ?k20 ?a21 ?l21 ?c21 ?k21 ?a22 ?l22 ?c22 ?k22 ?a23 ?l23 ?c23 ?k23 ?a24 ?l24 ?c24 ?k24 ?a25 ?l25 ?c25 ?k25 ?a26 ?l26 ?c26 ?k26 ?a27 ?l27 ?c27 ?k27 ?a28 ?l28 ?c28 ?k28 ?a29 ?l29 ?c29 ?k29 ?a30 ?l30 ?c30 ?k30 ?a31 ?l31 ?c31 ?k31 ?a32 ?l32 ?c32 ?k32 ?a33 ?l33 ?c33 ?k33 ?a34 ?l34 ?c34 ?k34 ?a35 ?l35 ?c35 ?k35 ?a36 ?l36 ?c36 ?k36 ?a37 ?l37 ?c37 ?k37 ?a38 ?l38 ?c38 ?k38 ?z_len ?z_all ?z_any ?z_sum ?z_max ?z_min ?z_sorted ?z_isinstance ?z_range ?z_reversed ?z_zip ?z_list ?z_abs ?z_str ?z_int ?z_set ?z_bool ?z_tuple ?z_ValueError ?v_GREATEST ?v_MOST
    (case g_ShareError => k_is)
    (case sbS => k_is)
    (case tyS => k_is)
    (case g_BadRow => k_is)
    (case sbB => k_is)
    (case tyB => k_is)
    (case exB => k_exc)
    (case kpB => k_is)
    (case g_BadGifts => k_is)
    (case sbG => k_is)
    (case tyG => k_is)
    (case exG => k_exc)
    (case kpG => k_is)
    (case g_BadAmount => k_is)
    (case sbA => k_is)
    (case tyA => k_is)
    (case exA => k_exc)
    (case kpA => k_is)
    (case g_Unlike => k_is)
    (case sbU => k_is)
    (case tyU => k_is)
    (case exU => k_exc)
    (case kpU => k_is)
    (case g_BadText => k_is)
    (case sbT => k_is)
    (case tyT => k_is)
    (case exT => k_exc)
    (case kpT => k_is)
    (case hdA => k_is)
    (case hdB => k_is)
    (case hdG => k_is)
    (case hdS => k_is)
    (case hdU => k_is)
    (case suB => k_is)
    (case hgB => k_is)
    (case hkB => k_is)
    (case haB => k_is)
    (case hmB => k_is)
    (case kBB => kernel_rfl)
    (case kBG => kernel_rfl)
    (case kBA => kernel_rfl)
    (case kBU => kernel_rfl)
    (case kBT => kernel_rfl)
    (case kvB => kernel_rfl)
    (case suG => k_is)
    (case hgG => k_is)
    (case hkG => k_is)
    (case haG => k_is)
    (case hmG => k_is)
    (case kGB => kernel_rfl)
    (case kGG => kernel_rfl)
    (case kGA => kernel_rfl)
    (case kGU => kernel_rfl)
    (case kGT => kernel_rfl)
    (case kvG => kernel_rfl)
    (case suA => k_is)
    (case hgA => k_is)
    (case hkA => k_is)
    (case haA => k_is)
    (case hmA => k_is)
    (case kAB => kernel_rfl)
    (case kAG => kernel_rfl)
    (case kAA => kernel_rfl)
    (case kAU => kernel_rfl)
    (case kAT => kernel_rfl)
    (case kvA => kernel_rfl)
    (case suU => k_is)
    (case hgU => k_is)
    (case hkU => k_is)
    (case haU => k_is)
    (case hmU => k_is)
    (case kUB => kernel_rfl)
    (case kUG => kernel_rfl)
    (case kUA => kernel_rfl)
    (case kUU => kernel_rfl)
    (case kUT => kernel_rfl)
    (case kvU => kernel_rfl)
    (case hn => k_is)
    (case htk => k_is)
    (case a0 => k_is)
    (case l0 => k_is)
    (case c0 => k_is)
    (case k0 => k_is)
    (case a1 => k_is)
    (case l1 => k_is)
    (case c1 => k_is)
    (case k1 => k_is)
    (case a2 => k_is)
    (case l2 => k_is)
    (case c2 => k_is)
    (case k2 => k_is)
    (case a3 => k_is)
    (case l3 => k_is)
    (case c3 => k_is)
    (case k3 => k_is)
    (case a4 => k_is)
    (case l4 => k_is)
    (case c4 => k_is)
    (case k4 => k_is)
    (case a5 => k_is)
    (case l5 => k_is)
    (case c5 => k_is)
    (case k5 => k_is)
    (case a6 => k_is)
    (case l6 => k_is)
    (case c6 => k_is)
    (case k6 => k_is)
    (case a7 => k_is)
    (case l7 => k_is)
    (case c7 => k_is)
    (case k7 => k_is)
    (case a8 => k_is)
    (case l8 => k_is)
    (case c8 => k_is)
    (case k8 => k_is)
    (case a9 => k_is)
    (case l9 => k_is)
    (case c9 => k_is)
    (case k9 => k_is)
    (case a10 => k_is)
    (case l10 => k_is)
    (case c10 => k_is)
    (case k10 => k_is)
    (case a11 => k_is)
    (case l11 => k_is)
    (case c11 => k_is)
    (case k11 => k_is)
    (case a12 => k_is)
    (case l12 => k_is)
    (case c12 => k_is)
    (case k12 => k_is)
    (case a13 => k_is)
    (case l13 => k_is)
    (case c13 => k_is)
    (case k13 => k_is)
    (case a14 => k_is)
    (case l14 => k_is)
    (case c14 => k_is)
    (case k14 => k_is)
    (case a15 => k_is)
    (case l15 => k_is)
    (case c15 => k_is)
    (case k15 => k_is)
    (case a16 => k_is)
    (case l16 => k_is)
    (case c16 => k_is)
    (case k16 => k_is)
    (case a17 => k_is)
    (case l17 => k_is)
    (case c17 => k_is)
    (case k17 => k_is)
    (case a18 => k_is)
    (case l18 => k_is)
    (case c18 => k_is)
    (case k18 => k_is)
    (case a19 => k_is)
    (case l19 => k_is)
    (case c19 => k_is)
    (case k19 => k_is)
    (case a20 => k_is)
    (case l20 => k_is)
    (case c20 => k_is)
    (case k20 => k_is)
    (case a21 => k_is)
    (case l21 => k_is)
    (case c21 => k_is)
    (case k21 => k_is)
    (case a22 => k_is)
    (case l22 => k_is)
    (case c22 => k_is)
    (case k22 => k_is)
    (case a23 => k_is)
    (case l23 => k_is)
    (case c23 => k_is)
    (case k23 => k_is)
    (case a24 => k_is)
    (case l24 => k_is)
    (case c24 => k_is)
    (case k24 => k_is)
    (case a25 => k_is)
    (case l25 => k_is)
    (case c25 => k_is)
    (case k25 => k_is)
    (case a26 => k_is)
    (case l26 => k_is)
    (case c26 => k_is)
    (case k26 => k_is)
    (case a27 => k_is)
    (case l27 => k_is)
    (case c27 => k_is)
    (case k27 => k_is)
    (case a28 => k_is)
    (case l28 => k_is)
    (case c28 => k_is)
    (case k28 => k_is)
    (case a29 => k_is)
    (case l29 => k_is)
    (case c29 => k_is)
    (case k29 => k_is)
    (case a30 => k_is)
    (case l30 => k_is)
    (case c30 => k_is)
    (case k30 => k_is)
    (case a31 => k_is)
    (case l31 => k_is)
    (case c31 => k_is)
    (case k31 => k_is)
    (case a32 => k_is)
    (case l32 => k_is)
    (case c32 => k_is)
    (case k32 => k_is)
    (case a33 => k_is)
    (case l33 => k_is)
    (case c33 => k_is)
    (case k33 => k_is)
    (case a34 => k_is)
    (case l34 => k_is)
    (case c34 => k_is)
    (case k34 => k_is)
    (case a35 => k_is)
    (case l35 => k_is)
    (case c35 => k_is)
    (case k35 => k_is)
    (case a36 => k_is)
    (case l36 => k_is)
    (case c36 => k_is)
    (case k36 => k_is)
    (case a37 => k_is)
    (case l37 => k_is)
    (case c37 => k_is)
    (case k37 => k_is)
    (case a38 => k_is)
    (case l38 => k_is)
    (case c38 => k_is)
    (case k38 => k_is)
    (case z_len => k_is)
    (case z_all => k_is)
    (case z_any => k_is)
    (case z_sum => k_is)
    (case z_max => k_is)
    (case z_min => k_is)
    (case z_sorted => k_is)
    (case z_isinstance => k_is)
    (case z_range => k_is)
    (case z_reversed => k_is)
    (case z_zip => k_is)
    (case z_list => k_is)
    (case z_abs => k_is)
    (case z_str => k_is)
    (case z_int => k_is)
    (case z_set => k_is)
    (case z_bool => k_is)
    (case z_tuple => k_is)
    (case z_ValueError => k_is)
    (case v_GREATEST => k_is)
    (case v_MOST => k_is)

