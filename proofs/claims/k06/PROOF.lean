import PyProof.Rows.All
import Wide.All
import OpenK.AllK
import Wide.FinOn
import HandS.ForMost
import HandS.ForExc
import HandS.Evl
import HandS.IsInst
import HandS.SortInts
import HandS.SortKw
import HandS.RevRange
import HandS.Style
import HandS.Flow
import HandS.Zip
import HandS.Lambda
import HandS.EndTab
import KE.SortKeyHeap
import KE.DatumOrd
import HandS.SetFor
import HandS.CallLocal
import HandS.ExcCtx
import HandS.HotCalls
import HandS.SuiteRaise
import HandS.ExcIs
import HandS.Conv
import KE.GoesComp
import HandS.Codes
import HandS.StrMore
import KE.IntTextText
import PyProof.StrOps2
import KE.KNestM
import PySem.Challenge.RW_evenhand_k06_written
set_option Elab.async false
set_option linter.all false
set_option maxRecDepth 100000
set_option maxHeartbeats 4000000
/-! Wk: readings as evaluations over a known heap (Sv, EvP, ..), own layer over Evl. -/
namespace Wk
open PySem PySem.Spec PyProof.Rows L2 Evl

/-! ### statements over a known heap -/
def Sv (t : TS) (D : Ends) (s : L2.St) (H : Hp) : Prop := ∀ H1, Ex H H1 → t D s H1
/-- as a def's body wants it -/
theorem Sv.go {t : TS} {D : Ends} {s : L2.St} {H : Hp} (h : Sv t D s H) : t D s H := h H (Ex.refl H)
theorem Sv.mono {t : TS} {D : Ends} {s : L2.St} {H H' : Hp} (h : Sv t D s H) (e : Ex H H') : Sv t D s H' := fun H1 e1 => h H1 (e.trans e1)

class MonoP (P : V → Hp → Prop) : Prop where
  mono : ∀ {x : V} {H H' : Hp}, Ex H H' → P x H → P x H'
def Is (v : V) : V → Hp → Prop := fun x _ => x = v
def IsL (xs : List V) : V → Hp → Prop := fun x H => ∃ p, x = .ref p ∧ H p = some (.lst xs)
def IsU (xs : List V) : V → Hp → Prop := fun x H => ∃ p, x = .ref p ∧ H p = some (.tup xs)
instance {v : V} : MonoP (Is v) := ⟨fun _ h => h⟩
instance {xs : List V} : MonoP (IsL xs) := ⟨fun e ⟨p, a, b⟩ => ⟨p, a, e _ _ b⟩⟩
instance {xs : List V} : MonoP (IsU xs) := ⟨fun e ⟨p, a, b⟩ => ⟨p, a, e _ _ b⟩⟩

def EvP (te : TE) (s : L2.St) (H : Hp) (P : V → Hp → Prop) : Prop := ∀ H1, Ex H H1 → ∀ Q : VK, (∀ v H2, Ex H1 H2 → P v H2 → Q v H2) → te s H1 Q
def EvAP (ta : TA) (s : L2.St) (H : Hp) (P : List V → Hp → Prop) : Prop := ∀ H1, Ex H H1 → ∀ Q : List V → Hp → Prop, (∀ v H2, Ex H1 H2 → P v H2 → Q v H2) → ta s H1 Q

section
variable {K : PySem.W.Frag} {s : L2.St} {H H' : Hp} {ta tb te tx tc : TE} {t u : TT} {x y z v : V} {r : R2} {P R : V → Hp → Prop} {D : Ends} {tu tw tz : TS} {g : TG}

theorem _root_.Evl.Ev.p (h : Ev te s H v) : EvP te s H (Is v) := fun H1 e Q q => h H1 e Q fun H2 e2 => q v H2 e2 rfl
theorem _root_.Evl.EvL.p {xs : List V} (h : EvL te s H xs) : EvP te s H (IsL xs) := fun H1 e Q q => h H1 e Q fun p H2 _ e2 hp => q _ H2 e2 ⟨p, rfl, hp⟩
theorem evU_p {xs : List V} (h : EvU te s H xs) : EvP te s H (IsU xs) := fun H1 e Q q => h H1 e Q fun p H2 _ e2 hp => q _ H2 e2 ⟨p, rfl, hp⟩
theorem EvP.mono (e : Ex H H') (h : EvP te s H P) : EvP te s H' P := fun H1 a Q q => h H1 (e.trans a) Q q
theorem EvP.imp (h : EvP te s H P) (k : ∀ v H1, Ex H H1 → P v H1 → R v H1) : EvP te s H R := fun H1 e Q q => h H1 e Q fun v H2 e2 p => q v H2 e2 (k v H2 (e.trans e2) p)
theorem evp_is (h : EvP te s H (Is v)) : Ev te s H v := fun H1 e Q q => h H1 e Q fun w H2 e2 p => by cases p; exact q H2 e2

/-! arguments -/
theorem ap_nil : EvAP tNil s H (fun vs _ => vs = []) := fun H1 _ _ q => q _ H1 (Ex.refl H1) rfl
theorem ap_cons {tr : TA} {R : List V → Hp → Prop} [MonoP P] (h : EvP te s H P) (hr : EvAP tr s H R) : EvAP (tCons te tr) s H (fun vs H => ∃ v r, vs = v :: r ∧ P v H ∧ R r H) := fun H1 e Q q =>
  h H1 e _ fun v H2 e2 p => hr H2 (e.trans e2) _ fun vs H3 e3 p3 => q _ H3 (e2.trans e3) ⟨v, vs, rfl, MonoP.mono e3 p, p3⟩
theorem ap_one (h : EvP te s H P) : EvAP (tCons te tNil) s H (fun vs H => ∃ v, vs = [v] ∧ P v H) := fun H1 e Q q =>
  h H1 e _ fun v H2 e2 p => q _ H2 e2 ⟨v, rfl, p⟩
theorem ap_two [MonoP P] (h : EvP ta s H P) (h2 : EvP tb s H R) : EvAP (tCons ta (tCons tb tNil)) s H (fun vs H => ∃ v w, vs = [v, w] ∧ P v H ∧ R w H) := fun H1 e Q q =>
  h H1 e _ fun v H2 e2 p => h2 H2 (e.trans e2) _ fun w H3 e3 p3 => q _ H3 (e2.trans e3) ⟨v, w, rfl, MonoP.mono e3 p, p3⟩
theorem ap_three {S : V → Hp → Prop} [MonoP P] [MonoP R] (h : EvP ta s H P) (h2 : EvP tb s H R) (h3 : EvP tc s H S) : EvAP (tCons ta (tCons tb (tCons tc tNil))) s H (fun vs H => ∃ v w x, vs = [v, w, x] ∧ P v H ∧ R w H ∧ S x H) := fun H1 e Q q =>
  h H1 e _ fun v H2 e2 p => h2 H2 (e.trans e2) _ fun w H3 e3 p3 => h3 H3 ((e.trans e2).trans e3) _ fun x H4 e4 p4 => q _ H4 ((e2.trans e3).trans e4) ⟨v, w, x, rfl, MonoP.mono (e3.trans e4) p, MonoP.mono e4 p3, p4⟩

/-! operators, calls of built-ins and of own defs, with described operands -/
theorem ev_opP [MonoP P] (ha : EvP ta s H P) (hb : EvP tb s H R) (hr : ∀ a b H1, Ex H H1 → P a H1 → R b H1 → RV r a b H1 z) : Ev (tOp r ta tb) s H z := fun H1 e Q q =>
  ha H1 e _ fun a H2 e2 p => hb H2 (e.trans e2) _ fun b H3 e3 p3 => hr a b H3 ((e.trans e2).trans e3) (MonoP.mono e3 p) p3 H3 (Ex.refl H3) Q fun H4 e4 => q H4 ((e2.trans e3).trans e4)
theorem ev_cbP {r : List V → Hp → VK → Prop} {ta : TA} {P : List V → Hp → Prop} (h : EvAP ta s H P) (hr : ∀ vs H1, Ex H H1 → P vs H1 → RC r vs H1 z) : Ev (tCB r ta) s H z := fun H1 e Q q =>
  h H1 e _ fun vs H2 e2 p => hr vs H2 (e.trans e2) p H2 (Ex.refl H2) Q fun H3 e3 => q H3 (e2.trans e3)
theorem el_cbP {r : List V → Hp → VK → Prop} {ta : TA} {P : List V → Hp → Prop} {xs : List V} (h : EvAP ta s H P) (hr : ∀ vs H1, Ex H H1 → P vs H1 → RCL r vs H1 xs) : EvL (tCB r ta) s H xs := fun H1 e Q q =>
  h H1 e _ fun vs H2 e2 p => hr vs H2 (e.trans e2) p H2 (Ex.refl H2) Q fun l H3 hl e3 h3 => q l H3 (fresh_back e2 hl) (e2.trans e3) h3
theorem ev_callP {sp : Sp} {E : XK} {ta : TA} {P : List V → Hp → Prop} (h : EvAP ta s H P) (hs : ∀ vs H1, Ex H H1 → P vs H1 → ∀ Q : VK, (∀ H2, Ex H1 H2 → Q z H2) → sp vs H1 Q E) : Ev (tCall sp [] E ta) s H z := fun H1 e Q q =>
  h H1 e _ fun vs H2 e2 p => by
    rw [List.append_nil]
    exact hs vs H2 (e.trans e2) p Q fun H3 e3 => q H3 (e2.trans e3)
theorem el_callP {sp : Sp} {E : XK} {ta : TA} {P : List V → Hp → Prop} {xs : List V} (h : EvAP ta s H P) (hs : ∀ vs H1, Ex H H1 → P vs H1 → ∀ Q : VK, (∀ p H2, H1 p = none → Ex H1 H2 → H2 p = some (.lst xs) → Q (.ref p) H2) → sp vs H1 Q E) : EvL (tCall sp [] E ta) s H xs := fun H1 e Q q =>
  h H1 e _ fun vs H2 e2 p => by
    rw [List.append_nil]
    exact hs vs H2 (e.trans e2) p Q fun l H3 hl e3 h3 => q l H3 (fresh_back e2 hl) (e2.trans e3) h3
theorem evp_callP {sp : Sp} {E : XK} {ta : TA} {P : List V → Hp → Prop} {R : V → Hp → Prop} (h : EvAP ta s H P) (hs : ∀ vs H1, Ex H H1 → P vs H1 → ∀ Q : VK, (∀ v H2, Ex H1 H2 → R v H2 → Q v H2) → sp vs H1 Q E) : EvP (tCall sp [] E ta) s H R := fun H1 e Q q =>
  h H1 e _ fun vs H2 e2 p => by
    rw [List.append_nil]
    exact hs vs H2 (e.trans e2) p Q fun v H3 e3 h3 => q v H3 (e2.trans e3) h3

theorem ev_chain {r r' : R2} {a b : Bool} (ha : Ev ta s H x) (hb : Ev tb s H y) (hr : RV r x y H (.bl a)) (h2 : a = true → Ev tc s H z ∧ RV r' y z H (.bl b)) : Ev (tChain r r' ta tb tc) s H (.bl (a && b)) := fun H1 e Q q =>
  ha H1 e _ fun H2 e2 => hb H2 (e.trans e2) _ fun H3 e3 => hr H3 ((e.trans e2).trans e3) _ fun H4 e4 => ⟨a, rfl, by
    cases a with
    | true =>
      obtain ⟨k1, k2⟩ := h2 rfl
      show tc s H4 fun w' H5 => r' y w' H5 Q
      exact k1 H4 (((e.trans e2).trans e3).trans e4) _ fun H5 e5 => k2 H5 ((((e.trans e2).trans e3).trans e4).trans e5) Q fun H6 e6 => q H6 ((((e2.trans e3).trans e4).trans e5).trans e6)
    | false =>
      show Q (.bl false) H4
      exact q H4 ((e2.trans e3).trans e4)⟩
/-- an int of which something is known -/
def IsI (p : Int → Prop) : V → Hp → Prop := fun x _ => ∃ i, x = .int i ∧ p i
instance {p : Int → Prop} : MonoP (IsI p) := ⟨fun _ h => h⟩
def RVP (r : R2) (x y : V) (H : Hp) (S : V → Hp → Prop) : Prop := ∀ H1, Ex H H1 → ∀ Q : VK, (∀ z H2, Ex H1 H2 → S z H2 → Q z H2) → r x y H1 Q
theorem evp_op {S : V → Hp → Prop} [MonoP P] (ha : EvP ta s H P) (hb : EvP tb s H R) (hr : ∀ a b H1, Ex H H1 → P a H1 → R b H1 → RVP r a b H1 S) : EvP (tOp r ta tb) s H S := fun H1 e Q q =>
  ha H1 e _ fun a H2 e2 p => hb H2 (e.trans e2) _ fun b H3 e3 p3 => hr a b H3 ((e.trans e2).trans e3) (MonoP.mono e3 p) p3 H3 (Ex.refl H3) Q fun z H4 e4 sz => q z H4 ((e2.trans e3).trans e4) sz
theorem evp_int {g : Int → Int → Int} {p q w : Int → Prop} (ha : EvP ta s H (IsI p)) (hb : EvP tb s H (IsI q)) (h : ∀ i j, p i → q j → w (g i j)) : EvP (tOp (rI0 fun i j => .int (g i j)) ta tb) s H (IsI w) :=
  evp_op ha hb fun a b H1 _ ⟨i, ea, pi⟩ ⟨j, eb, pj⟩ H2 _ Q k => ⟨i, j, ea, eb, k _ H2 (Ex.refl H2) ⟨_, rfl, h i j pi pj⟩⟩
theorem evp_intC {C : Int → Int → Prop} {g : Int → Int → Int} {p q w : Int → Prop} (ha : EvP ta s H (IsI p)) (hb : EvP tb s H (IsI q)) (hc : ∀ i j, p i → q j → C i j) (h : ∀ i j, p i → q j → w (g i j)) : EvP (tOp (rI C fun i j => .int (g i j)) ta tb) s H (IsI w) :=
  evp_op ha hb fun a b H1 _ ⟨i, ea, pi⟩ ⟨j, eb, pj⟩ H2 _ Q k => ⟨i, j, ea, eb, hc i j pi pj, k _ H2 (Ex.refl H2) ⟨_, rfl, h i j pi pj⟩⟩
theorem evp_neg {p w : Int → Prop} (ha : EvP ta s H (IsI p)) (h : ∀ i, p i → w (-i)) : EvP (tUn (rU fun i => .int (-i)) ta) s H (IsI w) := fun H1 e Q k =>
  ha H1 e _ fun a H2 e2 ⟨i, ea, pi⟩ => ⟨i, ea, k _ H2 e2 ⟨_, rfl, h i pi⟩⟩
theorem ev_i {i : Int} {p : Int → Prop} (h : Ev te s H (.int i)) (hp : p i) : EvP te s H (IsI p) := fun H1 e Q q => h H1 e Q fun H2 e2 => q _ H2 e2 ⟨i, rfl, hp⟩
theorem evp_ii {p q : Int → Prop} (h : EvP te s H (IsI p)) (k : ∀ i, p i → q i) : EvP te s H (IsI q) := h.imp fun v H1 _ ⟨i, e, pi⟩ => ⟨i, e, k i pi⟩
theorem EvAP.imp {ta : TA} {P R : List V → Hp → Prop} (h : EvAP ta s H P) (k : ∀ v H1, Ex H H1 → P v H1 → R v H1) : EvAP ta s H R := fun H1 e Q q => h H1 e Q fun v H2 e2 p => q v H2 e2 (k v H2 (e.trans e2) p)
/-- a list display of which little is known -/
theorem evp_lst {ta : TA} {P : List V → Prop} (h : EvAP ta s H (fun vs _ => P vs)) (hz : ∀ vs, P vs → vs.length ≤ 100000) : EvP (tLst ta) s H (fun x H2 => ∃ p vs, x = .ref p ∧ H p = none ∧ H2 p = some (.lst vs) ∧ P vs) := fun H1 e Q q =>
  h H1 e _ fun vs H2 e2 pv => ⟨sz_of (hz vs pv), fun p hp => q _ _ (e2.trans (Ex.new hp)) ⟨p, vs, rfl, fresh_back (e.trans e2) hp, upd_same, pv⟩⟩
/-- a test of which it isn't known how it ends -/
theorem w_if2 (h : ∀ H1, Ex H H1 → ∀ Q : Bool → Hp → Prop, (∀ b H2, Ex H1 H2 → Q b H2) → t s H1 Q) (h1 : Sv tu { D with nx := tz D } s H) (h2 : Sv tw { D with nx := tz D } s H) : Sv (tSeq (tIfS t tu tw) tz) D s H := fun H1 e1 =>
  h H1 e1 _ fun b H2 e2 => by
    cases b with
    | true => exact h1 H2 (e1.trans e2)
    | false => exact h2 H2 (e1.trans e2)
/-- a conditional whose test isn't told -/
theorem evp_if2 {S : V → Hp → Prop} (h : ∀ H1, Ex H H1 → ∀ Q : Bool → Hp → Prop, (∀ b H2, Ex H1 H2 → Q b H2) → t s H1 Q) (h1 : EvP ta s H S) (h2 : EvP tb s H S) : EvP (tIf t ta tb) s H S := fun H1 e Q q =>
  h H1 e _ fun b H2 e2 => by
    cases b with
    | true => exact h1 H2 (e.trans e2) Q fun v H3 e3 p => q v H3 (e2.trans e3) p
    | false => exact h2 H2 (e.trans e2) Q fun v H3 e3 p => q v H3 (e2.trans e3) p
/-- a def that hands back its argument, a new list -/
theorem el_through {sp : Sp} {E : XK} {xs : List V} (h : EvL te s H xs) (hs : ∀ p H1, Ex H H1 → H1 p = some (.lst xs) → ∀ Q : VK, (∀ H2, Ex H1 H2 → Q (.ref p) H2) → sp [.ref p] H1 Q E) : EvL (tCall sp [] E (tCons te tNil)) s H xs := fun H1 e Q q =>
  h H1 e _ fun p H2 hp e2 h2 => by
    show sp [V.ref p] H2 Q E
    exact hs p H2 (e.trans e2) h2 Q fun H3 e3 => q p H3 hp (e2.trans e3) (e3 _ _ h2)

/-! ### statements -/
theorem w_asg {i : Nat} (h : Ev te s H v) (k : Sv tz D (s.set i (some v)) H) : Sv (tSeq (tAsg te (gName i)) tz) D s H := fun H1 e1 => q_asg (h.mono e1) fun H2 e2 => k H2 (e1.trans e2)
theorem w_asgP {i : Nat} (h : EvP te s H P) (k : ∀ v H1, Ex H H1 → P v H1 → Sv tz D (s.set i (some v)) H1) : Sv (tSeq (tAsg te (gName i)) tz) D s H := fun H1 e1 =>
  h H1 e1 _ fun v H2 e2 p => k v H2 (e1.trans e2) p H2 (Ex.refl H2)
theorem w_asgL {i : Nat} {xs : List V} (h : EvL te s H xs) (k : ∀ p H1, H p = none → Ex H H1 → H1 p = some (.lst xs) → Sv tz D (s.set i (some (.ref p))) H1) : Sv (tSeq (tAsg te (gName i)) tz) D s H := fun H1 e1 =>
  h H1 e1 _ fun p H2 hp e2 h2 => k p H2 (fresh_back e1 hp) (e1.trans e2) h2 H2 (Ex.refl H2)
theorem w_asgU {i : Nat} {xs : List V} (h : EvU te s H xs) (k : ∀ p H1, H p = none → Ex H H1 → H1 p = some (.tup xs) → Sv tz D (s.set i (some (.ref p))) H1) : Sv (tSeq (tAsg te (gName i)) tz) D s H := fun H1 e1 =>
  h H1 e1 _ fun p H2 hp e2 h2 => k p H2 (fresh_back e1 hp) (e1.trans e2) h2 H2 (Ex.refl H2)
theorem w_if {b : Bool} (h : EvT t s H b) (h1 : b = true → Sv tu { D with nx := tz D } s H) (h2 : b = false → Sv tw { D with nx := tz D } s H) : Sv (tSeq (tIfS t tu tw) tz) D s H := fun H1 e1 =>
  q_if (h.mono e1) (fun hb H2 e2 => h1 hb H2 (e1.trans e2)) (fun hb H2 e2 => h2 hb H2 (e1.trans e2))
theorem w_when {b : Bool} (h : EvT t s H b) (h1 : b = true → Sv tu { D with nx := tz D } s H) (h2 : b = false → Sv tz D s H) : Sv (tSeq (tIfS t tu tNext) tz) D s H := w_if h h1 h2
/-- an if that is never taken -/
theorem w_skip (h : EvT t s H false) (h2 : Sv tz D s H) : Sv (tSeq (tIfS t tu tNext) tz) D s H := w_if h (fun h => nomatch h) fun _ => h2
theorem w_ret (h : Ev te s H v) (k : ∀ H1, Ex H H1 → D.rt v H1) : Sv (tSeq (tRet te) tz) D s H := fun H1 e1 => h H1 e1 _ fun H2 e2 => k H2 (e1.trans e2)
theorem w_retP (h : EvP te s H P) (k : ∀ v H1, Ex H H1 → P v H1 → D.rt v H1) : Sv (tSeq (tRet te) tz) D s H := fun H1 e1 => h H1 e1 _ fun v H2 e2 p => k v H2 (e1.trans e2) p
theorem w_retL {xs : List V} (h : EvL te s H xs) (k : ∀ p H1, H p = none → Ex H H1 → H1 p = some (.lst xs) → D.rt (.ref p) H1) : Sv (tSeq (tRet te) tz) D s H := fun H1 e1 => h H1 e1 _ fun p H2 hp e2 h2 => k p H2 (fresh_back e1 hp) (e1.trans e2) h2
theorem w_nx (k : ∀ H1, Ex H H1 → D.nx s H1) : Sv tNext D s H := k
theorem w_aug {i : Nat} {f : Int → Int → Int} {a b : Int} (hx : s[i]? = some (some (.int a))) (h : Ev te s H (.int b)) (k : Sv tz D (s.set i (some (.int (f a b)))) H) : Sv (tSeq (tAug i te (ipI f)) tz) D s H := fun H1 e1 =>
  q_aug hx (h.mono e1) fun H2 e2 => k H2 (e1.trans e2)
theorem w_drop (h : Ev te s H v) (k : Sv tz D s H) : Sv (tSeq (tDrop te) tz) D s H := fun H1 e1 => q_drop (h.mono e1) fun H2 e2 => k H2 (e1.trans e2)
/-- a call whose value is dropped -/
theorem w_dropP (h : EvP te s H P) (k : Sv tz D s H) : Sv (tSeq (tDrop te) tz) D s H := fun H1 e1 => h H1 e1 _ fun v H2 e2 _ => k H2 (e1.trans e2)
/-- H', which is H with another list at l -/
structure Put (l : Addr) (o : HO) (H H' : Hp) : Prop where
  new : H' l = some o
  old : ∀ a u, a ≠ l → H a = some u → H' a = some u
theorem Put.ex {l : Addr} {o : HO} {H0 H H' : Hp} (p : Put l o H H') (e : Ex H0 H) (h : H0 l = none) : Ex H0 H' := fun a u ha => p.old a u (ne_of_none ha h) (e a u ha)
theorem put_upd {l : Addr} {o : HO} {H H1 : Hp} (e : Ex H H1) : Put l o H (upd H1 l o) := ⟨upd_same, fun a u n h => by rw [upd_ne n]; exact e a u h⟩
theorem w_app {l : Addr} {xs : List V} (hl : H l = some (.lst xs)) (ha : Ev ta s H (.ref l)) (h : Ev te s H v) (hz : xs.length < 100000) (k : ∀ H1, Put l (.lst (xs ++ [v])) H H1 → Sv tz D s H1) :
    Sv (tSeq (tDrop (tBM K "list" rAppend ta (tCons te tNil))) tz) D s H := fun H1 e1 =>
  q_app (e1 l _ hl) (ha.mono e1) (h.mono e1) hz fun H2 e2 => k _ (put_upd (e1.trans e2)) _ (Ex.refl _)
theorem w_appP {l : Addr} {xs : List V} (hl : H l = some (.lst xs)) (ha : Ev ta s H (.ref l)) (h : EvP te s H P) (hz : xs.length < 100000) (k : ∀ v H1, P v H1 → Put l (.lst (xs ++ [v])) H H1 → Sv tz D s H1) [MonoP P] (hm : ∀ v H1 o, P v H1 → P v (upd H1 l o)) :
    Sv (tSeq (tDrop (tBM K "list" rAppend ta (tCons te tNil))) tz) D s H := fun H1 e1 =>
  ha H1 e1 _ fun H2 e2 => ⟨Or.inl ⟨rfl, xs, sq_of (e2 _ _ (e1 _ _ hl))⟩, h H2 (e1.trans e2) _ fun v H3 e3 p => ⟨l, xs, v, rfl, rfl, e3 _ _ (e2 _ _ (e1 _ _ hl)), sz_lt hz, k v _ (hm v H3 _ p) ⟨upd_same, fun a u n ha => by rw [upd_ne n]; exact e3 _ _ (e2 _ _ (e1 _ _ ha))⟩ _ (Ex.refl _)⟩⟩
theorem w_appU {l : Addr} {xs ys : List V} (hl : H l = some (.lst xs)) (ha : Ev ta s H (.ref l)) (h : EvU te s H ys) (hz : xs.length < 100000) (k : ∀ p H1, H p = none → H1 p = some (.tup ys) → Put l (.lst (xs ++ [.ref p])) H H1 → Sv tz D s H1) :
    Sv (tSeq (tDrop (tBM K "list" rAppend ta (tCons te tNil))) tz) D s H := fun H1 e1 =>
  q_appU (e1 l _ hl) (ha.mono e1) (fun H2 e2 Q q => h H2 (e1.trans e2) Q q) hz fun p H2 hp e2 h2 => k p _ (fresh_back e1 hp) (by rw [upd_ne (fun z => by rw [z, e1 l _ hl] at hp; cases hp)]; exact h2) (put_upd (e1.trans e2)) _ (Ex.refl _)
theorem w_setL {l : Addr} {xs : List V} {j : Nat} (hl : H l = some (.lst xs)) (h : Ev te s H v) (ho : Ev ta s H (.ref l)) (hi : Ev tb s H (.int (j : Int))) (hj : j < xs.length) (k : ∀ H1, Put l (.lst (xs.set j v)) H H1 → Sv tz D s H1) :
    Sv (tSeq (tAsg te (gSub ta tb rSetL)) tz) D s H := fun H1 e1 =>
  q_setL (e1 l _ hl) (h.mono e1) (ho.mono e1) (hi.mono e1) hj fun H2 e2 => k _ (put_upd (e1.trans e2)) _ (Ex.refl _)
theorem w_par {i j : Nat} {x y : V} {ta : TA} (h : EvA ta s H [x, y]) (k : Sv tz D ((s.set i (some x)).set j (some y)) H) : Sv (tSeq (tPar i j ta) tz) D s H := fun H1 e1 =>
  h H1 e1 _ fun H2 e2 => ⟨x, y, rfl, k H2 (e1.trans e2)⟩
theorem w_parP {i j : Nat} {ta : TA} {P : List V → Hp → Prop} (h : EvAP ta s H P) (k : ∀ vs H1, Ex H H1 → P vs H1 → ∃ x y, vs = [x, y] ∧ Sv tz D ((s.set i (some x)).set j (some y)) H1) : Sv (tSeq (tPar i j ta) tz) D s H := fun H1 e1 =>
  h H1 e1 _ fun vs H2 e2 p => by
    obtain ⟨x, y, e, q⟩ := k vs H2 (e1.trans e2) p
    exact ⟨x, y, e, q H2 (Ex.refl H2)⟩

/-- if c: x = e, told by the value that x has behind it -/
theorem w_ifAsg {b : Bool} {i : Nat} (h : EvT t s H b) (h1 : b = true → Ev te s H v) (h2 : b = false → s.set i (some v) = s) (k : Sv tz D (s.set i (some v)) H) : Sv (tSeq (tIfS t (tSeq (tAsg te (gName i)) tNext) tNext) tz) D s H :=
  w_when h (fun hb => w_asg (h1 hb) (fun H1 e1 => k H1 e1)) (fun hb => by
    have g := k
    rw [h2 hb] at g
    exact g)

/-! ### loops -/
theorem w_forL {a : Addr} {xs : List V} {tl : TE} {j : Nat} (h : Ev tl s H (.ref a)) (hx : SqL K H a xs) (Pv : Nat → L2.St → Hp → Prop) (h0 : ∀ H1, Ex H H1 → Pv 0 s H1) (hl : ∀ i s' H', i ≤ xs.length → Pv i s' H' → SqL K H' a xs)
    (hs : ∀ i x s' H', xs[i]? = some x → Pv i s' H' → Sv tu { D with nx := Pv (i + 1), ct := Pv (i + 1), bk := tz D } (s'.set j (some x)) H') (hd : ∀ s' H', Pv xs.length s' H' → Sv tz D s' H') : Sv (tSeq (tFor (iList K tl) (gName j) tu) tz) D s H := fun H1 e1 =>
  q_forLn (h.mono e1) (ex_l e1 hx) Pv (fun H2 e2 => h0 H2 (e1.trans e2)) hl (fun i x s' H' hi p => (hs i x s' H' hi p).go) (fun s' H' p => (hd s' H' p).go)
/-- a loop over a new list -/
theorem w_forNL {xs : List V} {tl : TE} {j : Nat} (h : EvL tl s H xs) (Pv : Addr → Nat → L2.St → Hp → Prop) (h0 : ∀ p H1, H p = none → Ex H H1 → H1 p = some (.lst xs) → Pv p 0 s H1) (hl : ∀ p i s' H', i ≤ xs.length → Pv p i s' H' → SqL K H' p xs)
    (hs : ∀ p i x s' H', xs[i]? = some x → Pv p i s' H' → Sv tu { D with nx := Pv p (i + 1), ct := Pv p (i + 1), bk := tz D } (s'.set j (some x)) H') (hd : ∀ p s' H', Pv p xs.length s' H' → Sv tz D s' H') : Sv (tSeq (tFor (iList K tl) (gName j) tu) tz) D s H := fun H1 e1 =>
  q_forNLn (h.mono e1) Pv (fun p H2 hp e2 h2 => h0 p H2 (fresh_back e1 hp) (e1.trans e2) h2) hl (fun p i x s' H' hi q => (hs p i x s' H' hi q).go) (fun p s' H' q => (hd p s' H' q).go)
theorem w_forR1 {ta : TA} {j : Nat} {n : Int} (h : EvA ta s H [.int n]) (hn : 0 ≤ n ∧ n ≤ 100000) (Pv : Nat → L2.St → Hp → Prop) (h0 : ∀ H1, Ex H H1 → Pv 0 s H1)
    (hs : ∀ (i : Nat) s' H', (i : Int) < n → Pv i s' H' → Sv tu { D with nx := Pv (i + 1), ct := Pv (i + 1), bk := tz D } (s'.set j (some (.int (i : Int)))) H') (hd : ∀ s' H', Pv n.toNat s' H' → Sv tz D s' H') : Sv (tSeq (tFor (iRng1 ta) (gName j) tu) tz) D s H := fun H1 e1 =>
  q_forR1 (h.mono e1) hn Pv (fun H2 e2 => h0 H2 (e1.trans e2)) (fun i s' H' hi p => (hs i s' H' hi p).go) (fun s' H' p => (hd s' H' p).go)

/-- for k in reversed(range(n)) -/
theorem w_forRev {te : TE} {j : Nat} {n : Nat} (h : Ev te s H (.int (n : Int))) (hn : n ≤ 100000) (Pv : Nat → L2.St → Hp → Prop) (h0 : ∀ H1, Ex H H1 → Pv 0 s H1)
    (hs : ∀ (i k : Nat) s' H', i + k + 1 = n → Pv i s' H' → Sv tu { D with nx := Pv (i + 1), ct := Pv (i + 1), bk := tz D } (s'.set j (some (.int (k : Int)))) H') (hd : ∀ s' H', Pv n s' H' → Sv tz D s' H') : Sv (tSeq (tFor (iRevR (tRg1 te)) (gName j) tu) tz) D s H := fun H1 e1 =>
  h H1 e1 _ fun H2 e2 => ⟨(n : Int), rfl, by omega, by omega, by omega, by omega, by
    have e0 : ((n : Int) - 0).toNat = n := by omega
    rw [e0]
    refine for_rangeC (D := { D with nx := tz D }) Pv (h0 H2 (e1.trans e2)) (fun i s' H' hi p => ?_) (fun s' H' p => (hd s' H' p).go)
    have hk : (0 : Int) + (n : Int) - 1 + (i : Nat) * (-1) = ((n - 1 - i : Nat) : Int) := by omega
    show tu _ (s'.set j (some (.int ((0 : Int) + (n : Int) - 1 + (i : Nat) * (-1))))) H'
    rw [hk]
    exact (hs i (n - 1 - i) s' H' (by omega) p).go⟩

/-! ### built-ins -/
theorem tyx_mono {x : V} {t : Value} (e : Ex H H') (h : TyX K H x t) : TyX K H' x t := by
  cases h with
  | base b =>
    cases b with
    | non => exact .base .non
    | bl y => exact .base (.bl y)
    | int i => exact .base (.int i)
    | str y => exact .base (.str y)
    | flt y => exact .base (.flt y)
    | lst ea => exact .base (.lst (e _ _ ea))
    | frz ea => exact .base (.frz (e _ _ ea))
    | tup ea => exact .base (.tup (e _ _ ea))
    | dK ea => exact .base (.dK (e _ _ ea))
    | dT ea => exact .base (.dT (e _ _ ea))
    | ins ea cl ha hn htk hm => exact .base (.ins (e _ _ ea) cl ha hn htk hm)
  | byt y => exact .byt y
  | set ea => exact .set (e _ _ ea)
  | kList ea c => exact .kList ea c
  | kTuple ea c => exact .kTuple ea c
  | kDict ea c => exact .kDict ea c
  | fTuple ea => exact .fTuple (e _ _ ea)
  | fDict ea => exact .fDict (e _ _ ea)
theorem ev_isi {x c : V} {t u : Value} {b : Bool} (ha : Ev ta s H x) (hc : Ev tc s H c) (hv : ClsV c u) (ty : TyX K H x t) (hk : PySem.W.kitOne K t u = some b) : Ev (tCB (rIsi K) (tCons ta (tCons tc tNil))) s H (.bl b) :=
  ev_cbP (ap_two ha.p hc.p) fun vs H1 e1 ⟨v, w, ev, pv, pw⟩ H2 e2 Q q => ⟨x, c, t, u, b, by rw [ev, pv, pw], hv, tyx_mono (e1.trans e2) ty, hk, q H2 (Ex.refl H2)⟩
theorem ev_all {bs : List Bool} (h : EvP te s H (IsL (bs.map V.bl))) : Ev (tCB (rAll K) (tCons te tNil)) s H (.bl (bs.all id)) :=
  ev_cbP (ap_one h) fun vs H1 _ ⟨v, ev, p, pv, hp⟩ H2 e2 Q q => ⟨p, bs, by rw [ev, pv], sq_of (e2 _ _ hp), q H2 (Ex.refl H2)⟩
theorem ev_any {bs : List Bool} (h : EvP te s H (IsL (bs.map V.bl))) : Ev (tCB (rAny K) (tCons te tNil)) s H (.bl (bs.any id)) :=
  ev_cbP (ap_one h) fun vs H1 _ ⟨v, ev, p, pv, hp⟩ H2 e2 Q q => ⟨p, bs, by rw [ev, pv], sq_of (e2 _ _ hp), q H2 (Ex.refl H2)⟩
theorem ev_sum {ns : List Int} (h : EvP te s H (IsL (ns.map V.int))) : Ev (tCB (rSum K) (tCons te tNil)) s H (.int ns.sum) :=
  ev_cbP (ap_one h) fun vs H1 _ ⟨v, ev, p, pv, hp⟩ H2 e2 Q q => ⟨p, ns, by rw [ev, pv], sq_of (e2 _ _ hp), q H2 (Ex.refl H2)⟩
/-- the greatest, the least of a list -/
def mx : List Int → Int
  | [] => 0
  | [a] => a
  | a :: b :: r => if mx (b :: r) ≤ a then a else mx (b :: r)
def mn : List Int → Int
  | [] => 0
  | [a] => a
  | a :: b :: r => if a ≤ mn (b :: r) then a else mn (b :: r)
theorem mx_mem : ∀ {l : List Int}, l ≠ [] → mx l ∈ l
  | [], h => absurd rfl h
  | [a], _ => by simp [mx]
  | a :: b :: r, _ => by
    have ih := mx_mem (l := b :: r) (by simp)
    unfold mx
    split
    · exact List.mem_cons_self
    · exact List.mem_cons_of_mem _ ih
theorem mx_ge : ∀ {l : List Int} {x : Int}, x ∈ l → x ≤ mx l
  | [], x, h => by cases h
  | [a], x, h => by
    have : x = a := by simpa using h
    rw [this]; exact Int.le_refl _
  | a :: b :: r, x, h => by
    have ih := fun y => mx_ge (l := b :: r) (x := y)
    unfold mx
    rcases List.mem_cons.mp h with rfl | h
    · split <;> omega
    · have := ih x h
      split <;> omega
theorem mx_eq {l : List Int} {m : Int} (h : m ∈ l) (hm : ∀ y ∈ l, y ≤ m) : m = mx l := by
  have h1 := mx_ge h
  have h2 := hm _ (mx_mem (l := l) (by intro e; rw [e] at h; cases h))
  omega
theorem mn_mem : ∀ {l : List Int}, l ≠ [] → mn l ∈ l
  | [], h => absurd rfl h
  | [a], _ => by simp [mn]
  | a :: b :: r, _ => by
    have ih := mn_mem (l := b :: r) (by simp)
    unfold mn
    split
    · exact List.mem_cons_self
    · exact List.mem_cons_of_mem _ ih
theorem mn_le : ∀ {l : List Int} {x : Int}, x ∈ l → mn l ≤ x
  | [], x, h => by cases h
  | [a], x, h => by
    have : x = a := by simpa using h
    rw [this]; exact Int.le_refl _
  | a :: b :: r, x, h => by
    have ih := fun y => mn_le (l := b :: r) (x := y)
    unfold mn
    rcases List.mem_cons.mp h with rfl | h
    · split <;> omega
    · have := ih x h
      split <;> omega
theorem mn_eq {l : List Int} {m : Int} (h : m ∈ l) (hm : ∀ y ∈ l, m ≤ y) : m = mn l := by
  have h1 := mn_le h
  have h2 := hm _ (mn_mem (l := l) (by intro e; rw [e] at h; cases h))
  omega
theorem ev_max {ns : List Int} (h : EvP te s H (IsL (ns.map V.int))) (hn : ns ≠ []) : Ev (tCB (rMax K) (tCons te tNil)) s H (.int (mx ns)) :=
  ev_cbP (ap_one h) fun vs H1 _ ⟨v, ev, p, pv, hp⟩ H2 e2 Q q => ⟨p, ns, by rw [ev, pv], sq_of (e2 _ _ hp), List.length_pos_iff.mpr hn, fun m hm hle => by
    rw [mx_eq hm hle]
    exact q H2 (Ex.refl H2)⟩
theorem ev_min {ns : List Int} (h : EvP te s H (IsL (ns.map V.int))) (hn : ns ≠ []) : Ev (tCB (rMin K) (tCons te tNil)) s H (.int (mn ns)) :=
  ev_cbP (ap_one h) fun vs H1 _ ⟨v, ev, p, pv, hp⟩ H2 e2 Q q => ⟨p, ns, by rw [ev, pv], sq_of (e2 _ _ hp), List.length_pos_iff.mpr hn, fun m hm hle => by
    rw [mn_eq hm hle]
    exact q H2 (Ex.refl H2)⟩
theorem ev_lenL {xs : List V} (h : EvP te s H (IsL xs)) : Ev (tCB (rLenS K) (tCons te tNil)) s H (.int (xs.length : Int)) :=
  ev_cbP (ap_one h) fun vs H1 _ ⟨v, ev, p, pv, hp⟩ H2 e2 Q q => ⟨p, xs, by rw [ev, pv], .inl (sq_of (e2 _ _ hp)), q H2 (Ex.refl H2)⟩
theorem el_listL {xs : List V} (h : EvP te s H (IsL xs)) : EvL (tCB (rListS K) (tCons te tNil)) s H xs :=
  el_cbP (ap_one h) fun vs H1 _ ⟨v, ev, p, pv, hp⟩ H2 e2 Q q => ⟨p, xs, by rw [ev, pv], .inl (sq_of (e2 _ _ hp)), fun l hl => q l _ hl (Ex.new hl) upd_same⟩

/-- the sorted list -/
def srt (l : List Int) : List Int := l.mergeSort (fun a b => decide (a ≤ b))
theorem srt_perm (l : List Int) : (srt l).Perm l := List.mergeSort_perm l _
theorem srt_le (l : List Int) : (srt l).Pairwise (· ≤ ·) := by
  have h := List.pairwise_mergeSort (le := fun a b : Int => decide (a ≤ b)) (fun a b c h1 h2 => by
    simp only [decide_eq_true_eq] at *
    omega) (fun a b => by
    by_cases h : a ≤ b
    · simp [h]
    · have : b ≤ a := by omega
      simp [this]) l
  exact h.imp fun h => by simpa using h
theorem sorted_unique : ∀ {l l' : List Int}, l.Perm l' → l.Pairwise (· ≤ ·) → l'.Pairwise (· ≤ ·) → l = l'
  | [], l', p, _, _ => (List.nil_perm.mp p).symm
  | a :: l, [], p, _, _ => absurd p (List.not_perm_cons_nil)
  | a :: l, b :: l', p, h, h' => by
    have h1 := List.pairwise_cons.mp h
    have h2 := List.pairwise_cons.mp h'
    have e : a = b := by
      have hb : b ∈ a :: l := p.mem_iff.mpr List.mem_cons_self
      have ha : a ∈ b :: l' := p.mem_iff.mp List.mem_cons_self
      rcases List.mem_cons.mp hb with e | hb
      · exact e.symm
      · rcases List.mem_cons.mp ha with e | ha
        · exact e
        · have := h1.1 b hb
          have := h2.1 a ha
          omega
    subst e
    rw [sorted_unique (List.Perm.cons_inv p) h1.2 h2.2]
theorem srt_eq {l l' : List Int} (p : l'.Perm l) (h : l'.Pairwise (· ≤ ·)) : l' = srt l := sorted_unique (p.trans (srt_perm l).symm) h (srt_le l)
theorem srt_len (l : List Int) : (srt l).length = l.length := (srt_perm l).length_eq
def srtD (l : List Int) : List Int := (srt l).reverse
theorem srtD_perm (l : List Int) : (srtD l).Perm l := (List.reverse_perm _).trans (srt_perm l)
theorem srtD_ge (l : List Int) : (srtD l).Pairwise (· ≥ ·) := List.pairwise_reverse.mpr (srt_le l)
theorem srtD_eq {l l' : List Int} (p : l'.Perm l) (h : l'.Pairwise (· ≥ ·)) : l' = srtD l := by
  have h2 : l'.reverse.Pairwise (· ≤ ·) := List.pairwise_reverse.mpr h
  have e := srt_eq ((List.reverse_perm l').trans p) h2
  rw [← List.reverse_reverse l', e]
  rfl
theorem srtD_len (l : List Int) : (srtD l).length = l.length := (srtD_perm l).length_eq
theorem el_sorted {ns : List Int} (h : EvP te s H (IsL (ns.map V.int))) : EvL (tCB (rSortedI K) (tCons te tNil)) s H ((srt ns).map V.int) :=
  el_cbP (ap_one h) fun vs H1 _ ⟨v, ev, p, pv, hp⟩ H2 e2 Q q => ⟨p, ns, by rw [ev, pv], sq_of (e2 _ _ hp), fun ns' l h1 h2 hl => by
    rw [srt_eq h1 h2]
    exact q l _ hl (Ex.new hl) upd_same⟩
theorem el_sortedRev {ns : List Int} {tk : TA} (h : EvP te s H (IsL (ns.map V.int))) (hk : ∀ s H Q, Q [V.bl true] H → tk s H Q) : EvL (tCKw (rSortedKw K true [.bl true]) (tCons te tNil) tk) s H ((srtD ns).map V.int) := fun H1 e Q q =>
  h H1 e _ fun v H2 e2 ⟨p, pv, hp⟩ => hk _ _ _ ⟨p, ns, by rw [pv], rfl, sq_of hp, fun ns' l h1 h2 hl => by
    rw [srtD_eq h1 (by simpa [OrdB] using h2)]
    exact q l _ (fresh_back e2 hl) (e2.trans (Ex.new hl)) upd_same⟩

/-! ### comprehensions -/
def Cx2 {α : Type} (H : Hp) (l : List α) (f : α → Bool) (w : α → V) (Dl : Addr) (i : Nat) (H' : Hp) : Prop := H Dl = none ∧ Ex H H' ∧ H' Dl = some (.lst (((l.take i).filter f).map w))
theorem cx_turn {α : Type} {l : List α} {f : α → Bool} {w : α → V} {Dl : Addr} {i : Nat} {a : α} {s2 : L2.St} (p : Cx2 H l f w Dl i H') (ha : l[i]? = some a) (hz : l.length ≤ 100000) (ht : EvT t s2 H (f a)) (he : f a = true → Ev te s2 H (w a)) :
    t s2 H' fun b H3 => if b = true then te s2 H3 fun y H4 => ∃ acc, H4 Dl = some (.lst acc) ∧ acc.length < sizeLine ∧ Cx2 H l f w Dl (i + 1) (upd H4 Dl (.lst (acc ++ [y]))) else Cx2 H l f w Dl (i + 1) H3 := by
  obtain ⟨p1, p2, p3⟩ := p
  have hlt : i < l.length := (List.getElem?_eq_some_iff.mp ha).1
  have et : l.take (i + 1) = l.take i ++ [a] := by rw [List.take_add_one, ha]; rfl
  refine ht H' p2 _ fun H3 e3 => ?_
  cases hf : f a with
  | true =>
    show te s2 H3 fun y H4 => ∃ acc, H4 Dl = some (.lst acc) ∧ acc.length < sizeLine ∧ Cx2 H l f w Dl (i + 1) (upd H4 Dl (.lst (acc ++ [y])))
    refine he hf H3 (p2.trans e3) _ fun H4 e4 => ⟨_, e4 Dl _ (e3 Dl _ p3), ?_, p1, Ex.mut ((p2.trans e3).trans e4) p1, ?_⟩
    · have h1 := List.length_filter_le f (l.take i)
      rw [List.length_take] at h1
      refine sz_lt ?_
      rw [List.length_map]
      omega
    · rw [et, List.filter_append, List.map_append, List.filter_cons, if_pos hf]
      exact upd_same
  | false =>
    show Cx2 H l f w Dl (i + 1) H3
    refine ⟨p1, p2.trans e3, ?_⟩
    rw [et, List.filter_append, List.map_append, List.filter_cons, if_neg (by rw [hf]; decide)]
    show H3 Dl = some (.lst (((l.take i).filter f).map w ++ []))
    rw [List.append_nil]
    exact e3 Dl _ p3
/-- [e for x in xs if t], xs at an address -/
theorem el_comp {α : Type} {a : Addr} {tl : TE} {j : Nat} {vs : List Nat} (l : List α) (c : α → V) (f : α → Bool) (w : α → V) (h : Ev tl s H (.ref a)) (hx : SqL K H a (l.map c)) (hz : l.length ≤ 100000) (hw : ∀ x, wipe ((wipe s vs).set j (some x)) vs = wipe s vs)
    (ht : ∀ x ∈ l, EvT t ((wipe s vs).set j (some (c x))) H (f x)) (he : ∀ x ∈ l, f x = true → Ev te ((wipe s vs).set j (some (c x))) H (w x)) :
    EvL (tLc (iList K tl) (gName j) t te vs) s H ((l.filter f).map w) := fun H0 e Q q => h H0 e _ fun H1 e1 => ⟨a, rfl, ⟨_, ex_l (e.trans e1) hx⟩, fun Dl hD =>
  lc_list (xs := l.map c) (Cx2 H1 l f w Dl) ⟨hD, Ex.new hD, by rw [List.take_zero]; exact upd_same⟩ (fun i H' _ p => ex_l ((e.trans e1).trans p.2.1) hx) (fun i x H' hi p => by
    rw [List.getElem?_map] at hi
    cases ha : l[i]? with
    | none => rw [ha] at hi; cases hi
    | some b =>
      rw [ha] at hi
      obtain rfl : c b = x := Option.some.inj hi
      have hm : b ∈ l := List.mem_of_getElem? ha
      exact ⟨hw _, cx_turn p ha hz ((ht b hm).mono (e.trans e1)) (fun hf => (he b hm hf).mono (e.trans e1))⟩)
    (fun H' p => by
      have p3 := p.2.2
      rw [List.length_map, List.take_length] at p3
      exact q Dl H' (fresh_back e1 p.1) (e1.trans p.2.1) p3)⟩
theorem et_yes : EvT tYes s H true := fun H1 _ Q q => q H1 (Ex.refl H1)
theorem filter_yes {α : Type} (l : List α) : l.filter (fun _ => true) = l := by simp
/-- [e for x in xs] -/
theorem el_map {α : Type} {a : Addr} {tl : TE} {j : Nat} {vs : List Nat} (l : List α) (c : α → V) (w : α → V) (h : Ev tl s H (.ref a)) (hx : SqL K H a (l.map c)) (hz : l.length ≤ 100000) (hw : ∀ x, wipe ((wipe s vs).set j (some x)) vs = wipe s vs)
    (he : ∀ x ∈ l, Ev te ((wipe s vs).set j (some (c x))) H (w x)) : EvL (tLc (iList K tl) (gName j) tYes te vs) s H (l.map w) := by
  have h2 := el_comp l c (fun _ => true) w h hx hz hw (fun _ _ => et_yes) (fun x hx _ => he x hx)
  rw [filter_yes] at h2
  exact h2
/-- [e for k in range(n)] -/
theorem el_mapR {ta : TA} {j : Nat} {vs : List Nat} {n : Int} (w : Nat → V) (h : EvA ta s H [.int n]) (hn : 0 ≤ n ∧ n ≤ 40000) (hw : ∀ x, wipe ((wipe s vs).set j (some x)) vs = wipe s vs)
    (he : ∀ (i : Nat), (i : Int) < n → Ev te ((wipe s vs).set j (some (.int (i : Int)))) H (w i)) : EvL (tLc (iRng1 ta) (gName j) tYes te vs) s H ((List.range n.toNat).map w) := by
  have h2 := el_lcR1 (fun _ => true) w h hn hw (fun i H1 _ _ => et_yes) (fun i H1 e hi _ => (he i hi).mono e)
  have e : given n.toNat (fun _ => true) w = (List.range n.toNat).map w := by
    unfold given
    rw [filter_yes]
  rw [e] at h2
  exact h2
/-- [e for x in a new list] -/
theorem el_mapN {α : Type} {tl : TE} {j : Nat} {vs : List Nat} (l : List α) (c : α → V) (w : α → V) (h : EvP tl s H (IsL (l.map c))) (hz : l.length ≤ 100000) (hw : ∀ x, wipe ((wipe s vs).set j (some x)) vs = wipe s vs)
    (he : ∀ x ∈ l, Ev te ((wipe s vs).set j (some (c x))) H (w x)) : EvL (tLc (iList K tl) (gName j) tYes te vs) s H (l.map w) := fun H0 e Q q => h H0 e _ fun v H1 e1 ⟨a, ev, hx⟩ => ⟨a, ev, ⟨_, sq_of hx⟩, fun Dl hD =>
  lc_list (xs := l.map c) (Cx2 H1 l (fun _ => true) w Dl) ⟨hD, Ex.new hD, by rw [List.take_zero]; exact upd_same⟩ (fun i H' _ p => sq_of (p.2.1 _ _ hx)) (fun i x H' hi p => by
    rw [List.getElem?_map] at hi
    cases ha : l[i]? with
    | none => rw [ha] at hi; cases hi
    | some b =>
      rw [ha] at hi
      obtain rfl : c b = x := Option.some.inj hi
      have hm : b ∈ l := List.mem_of_getElem? ha
      exact ⟨hw _, cx_turn p ha hz et_yes (fun _ => (he b hm).mono (e.trans e1))⟩)
    (fun H' p => by
      have p3 := p.2.2
      rw [List.length_map, List.take_length, filter_yes] at p3
      exact q Dl H' (fresh_back e1 p.1) (e1.trans p.2.1) p3)⟩

/-! ### subscripts, slices, == of lists of ints -/
theorem ev_ixL {xs : List V} {i : Int} (ha : EvP ta s H (IsL xs)) (hb : Ev tb s H (.int i)) (hv : atI xs i = some v) : Ev (tOp (rIxL K) ta tb) s H v :=
  ev_opP ha hb.p fun a b H1 _ ⟨p, pa, hp⟩ pb => by
    subst pa; cases pb
    exact rv_ixL (sq_of hp) hv
theorem ev_ixU {xs : List V} {i : Int} (ha : EvP ta s H (IsU xs)) (hb : Ev tb s H (.int i)) (hv : atI xs i = some v) : Ev (tOp (rIxT K) ta tb) s H v :=
  ev_opP ha hb.p fun a b H1 _ ⟨p, pa, hp⟩ pb => by
    subst pa; cases pb
    exact rv_ixT (st_of hp) hv
/-- for x, y in zip(xs, ys) -/
theorem w_forZip {a b : Addr} {xs ys : List V} {j1 j2 : Nat} (ha : Ev ta s H (.ref a)) (hb : Ev tb s H (.ref b)) (hx : SqL K H a xs) (hy : SqL K H b ys) (hl : xs.length = ys.length) (Pv : Nat → L2.St → Hp → Prop) (h0 : ∀ H1, Ex H H1 → Pv 0 s H1) (hq : ∀ i s' H', Pv i s' H' → Ex H H')
    (hs : ∀ i x y s' H', xs[i]? = some x → ys[i]? = some y → Pv i s' H' → Sv tu { D with nx := Pv (i + 1), ct := Pv (i + 1), bk := tz D } ((s'.set j1 (some x)).set j2 (some y)) H') (hd : ∀ s' H', Pv xs.length s' H' → Sv tz D s' H') :
    Sv (tSeq (tFor (iZip K (tCons ta (tCons tb tNil))) (gTup K 2 (gCons (gName j1) (gCons (gName j2) gNil))) tu) tz) D s H := fun H1 e1 =>
  ha H1 e1 _ fun H2 e2 => hb H2 (e1.trans e2) _ fun H3 e3 => ⟨a, b, xs, ys, rfl, ex_l ((e1.trans e2).trans e3) hx, ex_l ((e1.trans e2).trans e3) hy,
    RZ.for_zipL (D := { D with nx := tz D }) hl Pv (h0 H3 ((e1.trans e2).trans e3)) (fun i s' H' p => ⟨ex_l (hq i s' H' p) hx, ex_l (hq i s' H' p) hy⟩) (fun i x y T s' H' h1 h2 p hT =>
      ⟨T, [x, y], rfl, st_of upd_same, rfl, x, [y], rfl, y, [], rfl, rfl, hs i x y s' H' h1 h2 p _ (Ex.new hT)⟩) (fun s' H' p => (hd s' H' p).go)⟩
theorem el_cat {xs ys : List V} (ha : EvP ta s H (IsL xs)) (hb : EvP tb s H (IsL ys)) (hz : xs.length + ys.length ≤ 100000) : EvL (tOp rCat ta tb) s H (xs ++ ys) := fun H1 e Q q =>
  ha H1 e _ fun a H2 e2 ⟨p, pa, hp⟩ => hb H2 (e.trans e2) _ fun b H3 e3 ⟨p2, pb, hp2⟩ => ⟨p, p2, xs, ys, pa, pb, e3 _ _ hp, hp2, sz_of hz, fun l hl => q l _ (fresh_back (e2.trans e3) hl) ((e2.trans e3).trans (Ex.new hl)) upd_same⟩
theorem el_rep {xs : List V} {k : Int} (ha : EvP ta s H (IsL xs)) (hb : Ev tb s H (.int k)) (h0 : 0 ≤ k) (h1 : k ≤ 100000) (hz : xs.length * k.toNat ≤ 100000) : EvL (tOp rRep ta tb) s H (List.replicate k.toNat xs).flatten := fun H1 e Q q =>
  ha H1 e _ fun a H2 e2 ⟨p, pa, hp⟩ => hb H2 (e.trans e2) _ fun H3 e3 => ⟨p, k, xs, pa, rfl, e3 _ _ hp, by omega, by omega, sz_of hz, fun l hl => q l _ (fresh_back (e2.trans e3) hl) ((e2.trans e3).trans (Ex.new hl)) upd_same⟩
/-- xs.index(y), y in the list of ints xs -/
theorem ev_index {ns : List Int} {j : Nat} {m : Int} {p : Addr} (ha : Ev ta s H (.ref p)) (hp : H p = some (.lst (ns.map V.int))) (hb : Ev tb s H (.int m)) (hj : ns[j]? = some m) (hf : ∀ (k : Nat) (z : Int), k < j → ns[k]? = some z → z ≠ m) :
    Ev (tBM K "list" (rIndex K) ta (tCons tb tNil)) s H (.int (j : Int)) := fun H1 e Q q =>
  ha H1 e _ fun H2 e2 => ⟨Or.inl ⟨rfl, _, sq_of ((e.trans e2) _ _ hp)⟩, hb H2 (e.trans e2) _ fun H3 e3 => ⟨p, ns.map V.int, .int m, j, .int m, rfl, rfl, sq_of (((e.trans e2).trans e3) _ _ hp), rfl, by simp [List.all_eq_true, flatV], by rw [List.getElem?_map, hj]; rfl, by simp [eqV], fun k z' hk hz => by
    rw [List.getElem?_map] at hz
    cases h : ns[k]? with
    | none => rw [h] at hz; cases hz
    | some z =>
      rw [h] at hz
      obtain rfl : V.int z = z' := Option.some.inj hz
      simpa [eqV] using hf k z hk h, q H3 (e2.trans e3)⟩⟩

/-! data -/
mutual
theorem dp_mono (e : Ex H H') : ∀ (d : PyData) (v : V), Dp K H v d → Dp K H' v d
  | .none, _, h => by cases h; exact .non
  | .bool b, _, h => by cases h; exact .bl b
  | .int i, _, h => by cases h; exact .int i
  | .str x, _, h => by cases h; exact .str x
  | .list ds, _, h => by
    cases h with
    | lst hs ha => exact .lst (ex_l e hs) (dpa_mono e ds _ ha)
  | .tuple ds, _, h => by
    cases h with
    | tup hs ha => exact .tup (ex_t e hs) (dpa_mono e ds _ ha)
  | .dict _, _, h => by cases h
theorem dpa_mono (e : Ex H H') : ∀ (ds : List PyData) (vs : List V), DpAll K H vs ds → DpAll K H' vs ds
  | [], _, h => by cases h; exact .nil
  | d :: ds, _, h => by
    cases h with
    | cons h1 h2 => exact .cons (dp_mono e d _ h1) (dpa_mono e ds _ h2)
end
def IsD (K : PySem.W.Frag) (d : PyData) : V → Hp → Prop := fun x H => Dp K H x d
instance {d : PyData} : MonoP (IsD K d) := ⟨fun e h => dp_mono e d _ h⟩
theorem ints_dp : ∀ ns : List Int, DpAll K H (ns.map V.int) (ns.map PyData.int)
  | [] => .nil
  | n :: r => .cons (.int n) (ints_dp r)
/-- a list of ints, as data -/
def dI (ns : List Int) : PyData := .list (ns.map PyData.int)
theorem isL_d {ns : List Int} : IsL (ns.map V.int) x H → IsD K (dI ns) x H := fun ⟨p, e, hp⟩ => by
  subst e
  exact .lst (sq_of hp) (ints_dp ns)
theorem evp_d {ns : List Int} (h : EvP te s H (IsL (ns.map V.int))) : EvP te s H (IsD K (dI ns)) := h.imp fun _ _ _ p => isL_d p
theorem dI_lay0 : ∀ ns : List Int, PyData.canLayAll0 (ns.map PyData.int) = true
  | [] => by simp [PyData.canLayAll0]
  | n :: r => by simp [PyData.canLayAll0, PyData.canLay0, dI_lay0 r]
theorem dI_depth : ∀ ns : List Int, PyData.depthAll (ns.map PyData.int) = 0
  | [] => by simp [PyData.depthAll]
  | n :: r => by simp [PyData.depthAll, PyData.depth, dI_depth r]
theorem dI_shaped (ns : List Int) : SeqAt.shaped (dI ns) = true := by
  simp [SeqAt.shaped, dI, PyData.canLay0, PyData.depth, dI_lay0, dI_depth]
theorem dI_eqvAll : ∀ a b : List Int, PyData.eqvAll (a.map PyData.int) (b.map PyData.int) = decide (a = b)
  | [], [] => by simp [PyData.eqvAll]
  | [], y :: b => by simp [PyData.eqvAll]
  | x :: a, [] => by simp [PyData.eqvAll]
  | x :: a, y :: b => by
    show PyData.eqvAll (.int x :: a.map PyData.int) (.int y :: b.map PyData.int) = _
    rw [PyData.eqvAll, dI_eqvAll a b, PyData.eqv]
    by_cases h : x = y <;> simp [h]
theorem dI_eqv (a b : List Int) : PyData.eqv (dI a) (dI b) = decide (a = b) := by
  show PyData.eqv (.list _) (.list _) = _
  rw [PyData.eqv, dI_eqvAll]
theorem ev_eqD {d e : PyData} (ha : EvP ta s H (IsD K d)) (hb : EvP tb s H (IsD K e)) (h1 : SeqAt.shaped d = true) (h2 : SeqAt.shaped e = true) : Ev (tOp (rEqD K) ta tb) s H (.bl (PyData.eqv d e)) :=
  ev_opP ha hb fun a b H1 _ pa pb H2 e2 Q q => ⟨d, e, dp_mono e2 d _ pa, dp_mono e2 e _ pb, h1, h2, q H2 (Ex.refl H2)⟩
theorem ev_neD {d e : PyData} (ha : EvP ta s H (IsD K d)) (hb : EvP tb s H (IsD K e)) (h1 : SeqAt.shaped d = true) (h2 : SeqAt.shaped e = true) : Ev (tOp (rNeD K) ta tb) s H (.bl (!PyData.eqv d e)) :=
  ev_opP ha hb fun a b H1 _ pa pb H2 e2 Q q => ⟨d, e, dp_mono e2 d _ pa, dp_mono e2 e _ pb, h1, h2, q H2 (Ex.refl H2)⟩
theorem ev_eqL {a b : List Int} (ha : EvP ta s H (IsL (a.map V.int))) (hb : EvP tb s H (IsL (b.map V.int))) : Ev (tOp (rEqD K) ta tb) s H (.bl (decide (a = b))) := by
  rw [← dI_eqv]
  exact ev_eqD (evp_d ha) (evp_d hb) (dI_shaped a) (dI_shaped b)
theorem ev_neL {a b : List Int} (ha : EvP ta s H (IsL (a.map V.int))) (hb : EvP tb s H (IsL (b.map V.int))) : Ev (tOp (rNeD K) ta tb) s H (.bl (!decide (a = b))) := by
  rw [← dI_eqv]
  exact ev_neD (evp_d ha) (evp_d hb) (dI_shaped a) (dI_shaped b)

/-! slices, +, reversal -/
theorem el_sliceL {tl th : TO} {xs : List V} {lo hi : Option Int} (h : EvP te s H (IsL xs)) (h1 : EvO tl s H lo) (h2 : EvO th s H hi) : EvL (tSl (rSlL K) te tl th) s H (cutV xs lo hi) := fun H1 e Q q =>
  h H1 e _ fun v H2 e2 ⟨a, ev, hp⟩ => h1 H2 (e.trans e2) _ fun H3 e3 => h2 H3 ((e.trans e2).trans e3) _ fun H4 e4 =>
    ⟨a, xs, ev, sq_of (e4 _ _ (e3 _ _ hp)), fun p hp => q p _ (fresh_back ((e2.trans e3).trans e4) hp) (((e2.trans e3).trans e4).trans (Ex.new hp)) upd_same⟩
theorem el_revL {xs : List V} (h : EvP te s H (IsL xs)) : EvL (tRevL K te) s H xs.reverse := fun H1 e Q q =>
  h H1 e _ fun v H2 e2 ⟨a, ev, hp⟩ => ⟨a, xs, ev, sq_of hp, fun p hp => q p _ (fresh_back e2 hp) (e2.trans (Ex.new hp)) upd_same⟩
theorem cut_to {xs : List V} {k : Nat} : cutV xs none (some (k : Int)) = xs.take k := by
  unfold cutV
  rw [HT.sIx_nat, HT.sIx_none, List.drop_zero, Nat.sub_zero]
  by_cases h : k ≤ xs.length
  · rw [Nat.min_eq_left h]
  · rw [Nat.min_eq_right (by omega), List.take_length, List.take_of_length_le (by omega)]
theorem cut_from {xs : List V} {k : Nat} : cutV xs (some (k : Int)) none = xs.drop k := by
  unfold cutV
  rw [HT.sIx_nat, HT.sIx_none]
  by_cases h : k ≤ xs.length
  · rw [Nat.min_eq_left h, List.take_of_length_le (by rw [List.length_drop]; omega)]
  · rw [Nat.min_eq_right (by omega), List.drop_length, List.drop_of_length_le (by omega), List.take_nil]
theorem ev_var' {i : Nat} {p : Addr} {xs : List V} (h : s[i]? = some (some (.ref p))) (hp : H p = some (.lst xs)) : EvP (tVar i) s H (IsL xs) := fun H1 e _ q => ⟨_, h, q _ H1 (Ex.refl H1) ⟨p, rfl, e _ _ hp⟩⟩
theorem ev_varU {i : Nat} {p : Addr} {xs : List V} (h : s[i]? = some (some (.ref p))) (hp : H p = some (.tup xs)) : EvP (tVar i) s H (IsU xs) := fun H1 e _ q => ⟨_, h, q _ H1 (Ex.refl H1) ⟨p, rfl, e _ _ hp⟩⟩
end
/-! ### defs -/
section
variable {P : Program} {w : World} {K : PySem.W.Frag} {mg : Str → Option Value} {base : Heap}
/-- a def of the text as the top leaves it -/
def Raw (K : PySem.W.Frag) (mg : Str → Option Value) (x : Str) (st : Stmt) (ps : List Str) : Prop := ∃ f fd, Fun K x x st f fd ∧ mg x = some (.ref f) ∧ Binds K fd ps []
/-- a def with its promise -/
def Def (P : Program) (w : World) (K : PySem.W.Frag) (mg : Str → Option Value) (base : Heap) (CX : CXT) (k : Nat) (x : Str) (ps : List Str) (sp : Sp) : Prop :=
  ∃ f fd, FnOk P w K mg base CX k f fd ps sp ∧ mg x = some (.ref f) ∧ PySem.W.keepIn K (.ref f) = true ∧ Binds K fd ps []
theorem Raw.ok {x : Str} {st : Stmt} {ps : List Str} {CX : CXT} {k : Nat} {sp : Sp} (r : Raw K mg x st ps) (h : ∀ f fd, Fun K x x st f fd → FnOk P w K mg base CX k f fd ps sp) : Def P w K mg base CX k x ps sp := by
  obtain ⟨f, fd, F, g, b⟩ := r
  exact ⟨f, fd, h f fd F, g, F.kp, b⟩
end
section
variable {X : Cx} {CX : CXT} {k j : Nat} {x : Str} {ps : List Str} {sp : Sp} {E : XK} {p pos : Pos} {e : Expr} {es : List Expr} {t : TA}
/-- the rule of a call, the def's address hidden -/
theorem pe_def (d : Def X.prog X.w X.K X.mg X.base CX k x ps sp) (hr : Room j X.A) (hk : k ≤ j) (hg : Gl X x) (hx : Passes CX X E) (ha : PA X (e :: es) t) (hdb : (x == ("__debug__" : Str)) = false := by decide)
    (he : starEach (e :: es) X.env = (false, eval e X.env) :: starEach es X.env := by rfl) (hpl : (backTo pos (starEach es X.env)).any (·.1) = false := by rfl) :
    PE X (.Call (.Name x p) (e :: es) [] pos) (tCall sp [] E t) := by
  refine ⟨fun pins s σ H Q I h => ?_⟩
  obtain ⟨f, fd, F, g, kp, b⟩ := d
  exact (pe_call F (hr.mono hk) hg g kp b .nil hx ha hdb he hpl).run pins s σ H Q I h
theorem pe_def0 (d : Def X.prog X.w X.K X.mg X.base CX k x ps sp) (hr : Room j X.A) (hk : k ≤ j) (hg : Gl X x) (hx : Passes CX X E) (hdb : (x == ("__debug__" : Str)) = false := by decide) :
    PE X (.Call (.Name x p) [] [] pos) (tCall sp [] E tNil) := by
  refine ⟨fun pins s σ H Q I h => ?_⟩
  obtain ⟨f, fd, F, g, kp, b⟩ := d
  exact (pe_call0 F (hr.mono hk) hg g kp b .nil hx hdb).run pins s σ H Q I h
end
end Wk

set_option Elab.async false
set_option linter.all false
set_option maxRecDepth 100000
set_option maxHeartbeats 4000000
/-! Sk: sorted(range(n), key=lambda place: row[place], reverse=True), a rule of our own. -/
namespace Sk
open PySem PySem.Spec PyProof.Rows L2 LamX
open PySem.W (EachIs AllAlike Sortable dataLe KeyPure KeepsBut)
section
variable {prog : Program} {w : World} {A : Around} {E : Value → Shared → Prop} {s : Shared}
/-- the ints 0 .. n - 1 -/
def ups (n : Nat) : List Int := (List.range n).map fun i : Nat => (i : Int)
theorem each_of_get {vs : List Value} {n : Nat} (hl : vs.length = n) (h : ∀ (j : Nat) (v : Value), vs[j]? = some v → ∃ t, v = .int (j : Int) t) : EachIs (fun v (i : Int) => ∃ t, v = .int i t) vs (ups n) := by
  have aux : ∀ (us : List Value) (k : Nat), (∀ (j : Nat) (v : Value), us[j]? = some v → ∃ t, v = .int ((k + j : Nat) : Int) t) → EachIs (fun v (i : Int) => ∃ t, v = .int i t) us ((List.range us.length).map fun i : Nat => ((k + i : Nat) : Int)) := by
    intro us
    induction us with
    | nil => intro k _; exact .nil
    | cons u r ih =>
      intro k hk
      rw [List.length_cons, List.range_succ_eq_map, List.map_cons, List.map_map]
      refine .cons (hk 0 u rfl) ?_
      have h2 := ih (k + 1) fun j v hj => by
        have := hk (j + 1) v (by simpa using hj)
        rw [show k + 1 + j = k + (j + 1) by omega]
        exact this
      have e : (List.range r.length).map ((fun i : Nat => ((k + i : Nat) : Int)) ∘ Nat.succ) = (List.range r.length).map fun i : Nat => ((k + 1 + i : Nat) : Int) := by
        refine List.map_congr_left fun i _ => ?_
        show ((k + (i + 1) : Nat) : Int) = ((k + 1 + i : Nat) : Int)
        congr 1
        omega
      rw [e]
      exact h2
  have h0 := aux vs 0 fun j v hj => by
    rw [Nat.zero_add]
    exact h j v hj
  rw [hl] at h0
  simpa [ups] using h0
theorem sorted_range_key {r : Addr} {n : Nat} {t u v : Tok} {f : Value} {kw : List (Str × Value)} {b : Bool} {Q : Value → Shared → Prop} (key : Int → Int) (hh : A.handled = none) (hr : IsRange s.heap r 0 (n : Int) 1 t u v) (hn : n ≤ 100000) (hu : A.units + 64 < cLine)
    (ha1 : argsOk "sorted" ⟨[.ref r], kw⟩) (ha2 : ∀ x, argsOk "list.sort" ⟨[.ref x], kw⟩) (ht : ∀ x, Builtin.«list.sort» ⟨[.ref x], kw⟩ = ksk_tree x f b)
    (turn : ∀ (v : Value) (i : Int), (∃ t, v = .int i t) → i ∈ ups n → ∀ (h : Heap) (tk : Nat), (∀ b o, s.heap.get? b = some o → h.get? b = some o) →
      wpAny (model prog w) A.in1.in1 (call f [v]) (KeyPure (.int (key i)) { s with heap := h, toks := tk }) (fun _ _ => False) { s with heap := h, toks := tk })
    (h : ∀ (h1 : Heap) (out : List Value) (c : Nat) (h' : Heap) (tk : Nat), (∀ b o, s.heap.get? b = some o → h1.get? b = some o) → (∀ b o, h1.get? b = some o → h'.get? b = some o) → h'.get? h1.objs.size = some (seqObj "list" out.toArray c) →
      EachIs (fun v (i : Int) => ∃ t, v = .int i t) out ((ups n).mergeSort (dataLe b fun i => .int (key i))) → Q (.ref h1.objs.size) { s with heap := h', toks := tk }) :
    wpAny (model prog w) A (call (.builtin "sorted") [.ref r] kw) Q E s := by
  have hs : sizeLine = 16777216 := sizeLine_eq
  refine call_function_entry_kw kind_sorted plain_sorted entry_sorted ha1 ?_
  unfold Builtin.«sorted»
  refine wpAny_bind (m := checkCount "sorted" 1 1 _) (wpAny_pure ?_)
  refine wpAny_bind (L2.collect_range (A := A.in1) (n := n) hh hr (small_one (by omega) (by omega) (by omega) (by omega)) (by rw [rangeSize_nat]; congr 1) (by omega) fun h1 tk acc k1 hi => ?_)
  have hlen : acc.toList.length = n := by rw [Array.length_toList]; exact hi.1
  refine wpAny_bind (wpAny_newList ?_ (by rw [hlen]; omega))
  have each := each_of_get (vs := acc.toList) hlen fun j v hj => by
    obtain ⟨t, e⟩ := hi.2 j v (by rw [← hj, Array.getElem?_toList])
    refine ⟨t, ?_⟩
    rw [e]
    congr 1
    omega
  have upk : ∀ {g : Heap}, KeepsBut h1.objs.size (h1.push (seqObj "list" acc.toList.toArray 0)) g → ∀ b o, h1.get? b = some o → g.get? b = some o := fun {g} kp b o q =>
    kp b o (Nat.ne_of_lt (Heap.lt_size q)) (Heap.get?_push_of_some _ q)
  refine wpAny_bind (wpAny_holding ?_)
  show wpAny (model prog w) A.in1 (call (.builtin "list.sort") [.ref h1.objs.size] kw) _ _ { s with heap := h1.push (seqObj "list" acc.toList.toArray 0), toks := tk }
  refine PySem.W.list_sort_key_data (s := { s with heap := h1.push (seqObj "list" acc.toList.toArray 0), toks := tk }) (f := f) (b := b) (fun i : Int => PyData.int (key i)) (Heap.get?_push_size _ rfl) each ?_ ?_ ?_ ?_ (ha2 _) (ht _) (fun v i hv hi h tk kp => turn v i hv hi h tk (fun b o e => upk kp b o (k1 b o e))) fun out c h' tk' kp hD _ eo => ?_
  · intro d hd d' hd'
    obtain ⟨x, _, rfl⟩ := List.mem_map.mp hd
    obtain ⟨y, _, rfl⟩ := List.mem_map.mp hd'
    rfl
  · refine .inr fun d hd => ?_
    obtain ⟨x, _, rfl⟩ := List.mem_map.mp hd
    exact ⟨(fun z => by cases z), (fun xs z => by cases z)⟩
  · simp [ups]; omega
  · intro x _
    show A.units + 1 + 1 + 0 < cLine
    omega
  · exact wpAny_pure ⟨_, rfl, h h1 out c h' tk' k1 (upk kp) hD eo⟩
end
/-- the reading of sorted(range(e), key=lambda y: x[y], reverse=True), x in slot i -/
def tSortLam (K : PySem.W.Frag) (T : List (Addr × Str)) (i : Nat) (te : TE) : TE := fun σ H Q => te σ H fun x H1 => ∃ (n : Nat) (pr : Addr) (ns : List Int), x = .int (n : Int) ∧ n ≤ 100000 ∧ σ[i]? = some (some (.ref pr)) ∧ SqL K H1 pr (ns.map V.int) ∧ n ≤ ns.length ∧ Tabs T H1 ∧
  ∀ H2, ExtN H1 H2 → Tabs T H2 → SqL K H2 pr (ns.map V.int) → ∀ p, H2 p = none → Q (.ref p) (upd H2 p (.lst (((ups n).mergeSort fun a b => decide (ns.getD b.toNat 0 ≤ ns.getD a.toNat 0)).map V.int)))
theorem sqL_extN {K : PySem.W.Frag} {H H' : Hp} {a : Addr} {xs : List V} (e : ExtN H H') (h : SqL K H a xs) : SqL K H' a xs := by
  rcases h with (h | ⟨o, h⟩) | h
  · exact .inl (.inl (e _ _ h fun ps z => by cases z))
  · exact .inl (.inr ⟨o, e _ _ h fun ps z => by cases z⟩)
  · exact .inr h
theorem vals_ints_each : ∀ {out : List Value} {zs : List Int}, EachIs (fun v (i : Int) => ∃ t, v = .int i t) out zs → Vals (zs.map V.int) out
  | _, _, .nil => .nil
  | _, _, .cons h t => .cons h (vals_ints_each t)
section
variable {X : Cx}
theorem pe_sortLam {T : List (Addr × Str)} {c P : Addr} {k i : Nat} {a : Expr} {ta : TE} {x y : Str} {params : Arguments} {scope : Scope} {p p' p'' p1 p2 p3 p4 lpos kp kp2 pos : Pos} {kc : Nat} (hc : X.calm = true) (hgs : Gl X "sorted") (hms : X.mg "sorted" = none) (hgr : Gl X "range") (hmr : X.mg "range" = none) (ha : PE X a ta)
    (TB : TabB X.base X.mg c P) (hcode : X.env.code = .ref c) (hmT : (P, X.env.qual ++ "<lambda>") ∈ T) (hu : ∀ q ∈ T, q.1 = P → q.2 = X.env.qual ++ "<lambda>") (hr : Room (k + 2) X.A)
    (hx : X.N[i]? = some x) (hxc : X.env.scope.names.lookup x = some .cell) (hdef : defaultsOf params X.env = ([], []))
    (hk : scope.kind = .function) (hco : scope.isCoroutine = false) (hgen : scope.isGenerator = false) (hy : scope.names.lookup y = some .local) (hxf : scope.names.lookup x = some .free) (hnc : ∀ z ∈ scope.names, z.2 ≠ .cell) (hfree : ∀ z ∈ scope.names, z.2 = .free → z.1 = x)
    (hclo : ∀ cells : List (Str × Addr), (cloFrom cells scope.names []).lookup x = some ((cells.lookup x).getD 0))
    (hbind : ∀ (q : Str) (cl : List (Str × Addr)) (pm cv ctv v : Value), bindArgs (PySem.W.kla_fn "<lambda>" q params (.Subscript (.Name x p1) (.Name y p2) p3) scope cl pm cv ctv) ⟨[v], []⟩ = pure [(y, v)])
    (hdx : (x == ("__debug__" : Str)) = false := by decide) (hdy : (y == ("__debug__" : Str)) = false := by decide) (hdc : (x == ("__classdict__" : Str)) = false := by decide) (na : starEach [a] X.env = (false, eval a X.env) :: starEach [] X.env := by rfl)
    (he : backTo pos (starEach [.Call (.Name "range" p') [a] [] p''] X.env) = (false, eval (.Call (.Name "range" p') [a] [] p'') X.env) :: backTo pos (starEach [] X.env) := by rfl) (hpl : (backTo pos (starEach [.Call (.Name "range" p') [a] [] p''] X.env)).any (·.1) = false := by rfl)
    (hall : (backToKw pos (keywordEach [⟨some "key", .Lambda params (.Subscript (.Name x p1) (.Name y p2) p3) scope lpos, kp⟩, ⟨some "reverse", .Constant (.bool true) kc p4, kp2⟩] X.env)).all (·.1.isSome) = true := by rfl)
    (hnone : (backToKw pos (keywordEach [⟨some "key", .Lambda params (.Subscript (.Name x p1) (.Name y p2) p3) scope lpos, kp⟩, ⟨some "reverse", .Constant (.bool true) kc p4, kp2⟩] X.env)).any (·.1.isNone) = false := by rfl)
    (hks : (backToKw pos (keywordEach [⟨some "key", .Lambda params (.Subscript (.Name x p1) (.Name y p2) p3) scope lpos, kp⟩, ⟨some "reverse", .Constant (.bool true) kc p4, kp2⟩] X.env)).filterMap (·.1) = [Str.ofString "key", Str.ofString "reverse"] := by rfl) :
    PE X (.Call (.Name "sorted" p) [.Call (.Name "range" p') [a] [] p''] [⟨some "key", .Lambda params (.Subscript (.Name x p1) (.Name y p2) p3) scope lpos, kp⟩, ⟨some "reverse", .Constant (.bool true) kc p4, kp2⟩] pos) (tSortLam X.K T i ta) := by
  refine ⟨fun pins s σ H Q I h => ?_⟩
  have hhd : X.A.handled = none := hr.hd
  refine wpAny_Call_Name_kw (ld_blt (u := .builtin "sorted") I hgs hms (by decide +kernel) ?_ (by decide) (by decide))
  refine PyProof.Rows.callWith_kw ?_ he hpl hall hnone
  show wpAny _ _ (spliced ((false, eval (.Call (.Name "range" p') [a] [] p'') X.env) :: backTo pos (starEach [] X.env))) _ _ s
  refine Calls.spliced_cons (Call_ (ld_blt I hgr hmr boot_range (PyProof.Rows.callWith_type1 (one_arg ha I h (fun v s1 z H1 I1 r1 q1 => ?_) na) na)))
  obtain ⟨n, pr, ns, ez, hn, hpr, hsq, hle, hT, q⟩ := q1
  subst ez
  obtain ⟨tn, rfl⟩ := r1
  refine call_range_1 (Calls.spliced_nil ?_)
  -- the range object is pinned
  have I2 : Inv X pins σ H1 { s1 with heap := s1.heap.push { cls := .type "range", data := .fields #[.int 0 s1.toks, .int (n : Int) tn, .int 1 (s1.toks + 1)] }, toks := s1.toks + 1 + 1 } := I1.kept fun b o e => Heap.get?_push_of_some _ e
  have I3 : Inv X ((s1.heap.objs.size, { cls := .type "range", data := .fields #[.int 0 s1.toks, .int (n : Int) tn, .int 1 (s1.toks + 1)] }) :: pins) σ H1 { s1 with heap := s1.heap.push { cls := .type "range", data := .fields #[.int 0 s1.toks, .int (n : Int) tn, .int 1 (s1.toks + 1)] }, toks := s1.toks + 1 + 1 } :=
    I2.pins_of fun e he => by
      rcases List.mem_cons.mp he with rfl | he
      · exact ⟨Heap.get?_push_size _ rfl, I1.hok.fresh (Nat.le_refl _), Nat.ne_of_gt I1.lt, I1.nofs (Nat.le_refl _), fun v z => by cases z⟩
      · exact I2.pin e (List.mem_append_right _ he)
  show wpAny _ _ (evalAll ((do let v ← eval (.Lambda params (.Subscript (.Name x p1) (.Name y p2) p3) scope lpos) X.env; standAt pos; pure v) :: (do let v ← eval (.Constant (.bool true) kc p4) X.env; standAt pos; pure v) :: [])) _ _ _
  refine wpAny_evalAll_cons (wpAny_bind (lam_make2 I3 TB hcode hmT hu hT hdef (fun z hz e => ?_) fun f c' pm ctv H4 s4 I4 eN T4 hf hfn hfr hco' => wpAny_bind (wpAny_standAt (wpAny_pure ?_))))
  · have e2 := hfree z hz e
    rw [e2]
    exact I.ok.has x (.inl hxc)
  refine wpAny_evalAll_cons (wpAny_bind (Constant_bool (wpAny_bind (wpAny_standAt (wpAny_pure (wpAny_evalAll_nil ?_))))))
  rw [hks]
  have hrg : IsRange s4.heap s1.heap.objs.size 0 (n : Int) 1 s1.toks tn (s1.toks + 1) := (I4.pin _ (List.mem_append_right _ List.mem_cons_self)).1
  have hsq4 := sqL_extN eN hsq
  obtain ⟨its, rv, pl, hz⟩ := I4.list hsq4
  obtain ⟨m4, hn4, hl4⟩ := I4.loc
  obtain ⟨u, ru, lk⟩ := hl4 i x (.ref pr) hx hpr (.inr (.inl hxc))
  obtain rfl : u = Value.ref pr := ru
  obtain ⟨oc, vs, tq, hoc, hdc', hvc⟩ := (I4.hok c' _ hco').1
  have hil : its.length = ns.length := by
    have := rv.length
    rw [List.length_map] at this
    exact this.symm
  refine sorted_range_key (b := true) (fun j => ns.getD j.toNat 0) hhd hrg hn hr.units (ksk_s2 _ _ _) (fun _ => ksk_l2 _ _ _) (fun _ => ksk_t2 _ _ _) (fun v j hv hj h' tk k => ?_) fun h1 out c2 h' tk k1 k2 hD eo => ?_
  · -- the lambda at a place
    obtain ⟨t, rfl⟩ := hv
    obtain ⟨jn, hjn, rfl⟩ := List.mem_map.mp hj
    have hj2 : jn < n := List.mem_range.mp hjn
    refine wpAny_call (PySem.W.kla_callFunE hr.depth (k _ _ hf) rfl hco hgen rfl ⟨c', oc, vs, tq, rfl, k _ _ hoc, hdc', hvc⟩ ?_)
    rw [hbind]
    refine wpAny_pure (wpAny_newFunctionEnv hnc (fun z hz => ?_) (fun h2 hns hsb => ⟨(I4.nolimit.keeps k).fresh _ hsb, ?_⟩) hk)
    · have : z = (y, Value.int (jn : Int) t) := by simpa using hz
      rw [this]
      exact hy
    have kp : ∀ b o, h'.get? b = some o → h2.get? b = some o := fun b o e => hsb.extBut b o (Nat.ne_of_lt (Heap.lt_size e)) (Heap.get?_push_of_some _ e)
    refine PySem.W.kla_codeExpr (Subscript_ (wpAny_Name ?_ hdx))
    have hcell : ∃ cc, X.env.cells.lookup x = some cc ∧ s4.heap.IsCell cc (some (.ref pr)) := by
      rcases lk with ⟨kk, _⟩ | ⟨_, cc, e1, e2⟩
      · have kk : X.env.scope.names.lookup x = some .local := kk
        rw [hxc] at kk
        cases kk
      · exact ⟨cc, e1, e2⟩
    obtain ⟨cc, hcc, ⟨ocell, hoc1, hoc2⟩⟩ := hcell
    refine wpAny_loadName_free hk hxf (by show (cloFrom X.env.cells scope.names []).lookup x = some cc; rw [hclo, hcc]; rfl) ⟨ocell, kp _ _ (k _ _ hoc1), hoc2⟩ ?_ hdc
    refine wpAny_Name (wpAny_loadName_local hk hy hns (v := .int (jn : Int) t) (by simp [List.lookup]) ?_) hdy
    have hjl : jn < ns.length := by omega
    obtain ⟨w', hw', rw'⟩ := rv.get (i := jn) (x := .int ns[jn]) (by rw [List.getElem?_map, List.getElem?_eq_getElem hjl]; rfl)
    obtain ⟨t2, rfl⟩ := rw'
    have hlist : h2.IsList pr its.toArray := by
      obtain ⟨ol, hol, r1⟩ := pl.isList
      exact ⟨ol, kp _ _ (k _ _ hol), r1⟩
    refine item_listR hlist (by omega) (by omega) (by rw [Int.toNat_natCast]; simpa using hw') ⟨h2, _, rfl, kp, ?_⟩ (by rfl)
    rw [Int.toNat_natCast, List.getD_eq_getElem?_getD, List.getElem?_eq_getElem hjl]
    exact Reads.int _ _
  · have eo' : EachIs (fun v (i : Int) => ∃ t, v = .int i t) out ((ups n).mergeSort fun a b => decide (ns.getD b.toNat 0 ≤ ns.getD a.toNat 0)) := by
      rw [PySem.W.dataGe_int] at eo
      exact eo
    have I5 : Inv X ((s1.heap.objs.size, { cls := .type "range", data := .fields #[.int 0 s1.toks, .int (n : Int) tn, .int 1 (s1.toks + 1)] }) :: pins) σ H4 { s4 with heap := h1, toks := tk } := I4.kept k1
    have hfr5 : H4 h1.objs.size = none := I5.hok.fresh (Nat.le_refl _)
    have hlen : (((ups n).mergeSort fun a b => decide (ns.getD b.toNat 0 ≤ ns.getD a.toNat 0)).map V.int).length ≤ sizeLine := by
      rw [List.length_map, List.length_mergeSort, ups, List.length_map, List.length_range]
      exact Nat.le_trans hn (by decide)
    have I6 := I5.laid (h' := h') (t' := tk) (a := h1.objs.size) (o := .lst (((ups n).mergeSort fun a b => decide (ns.getD b.toNat 0 ≤ ns.getD a.toNat 0)).map V.int)) k2 (Nat.le_refl _) ⟨hlen, out, c2, vals_ints_each eo', hD⟩
    exact ⟨.ref h1.objs.size, _, I6.pins_of fun e he => I6.pin e (List.mem_append_right _ (List.mem_cons_of_mem _ he)), rfl, q H4 eN T4 hsq4 _ hfr5⟩
end
end Sk

set_option Elab.async false
set_option linter.all false
set_option maxRecDepth 100000
set_option maxHeartbeats 4000000
/-! Gk: what is kept where lambdas may be made (ExT), lists of tuples (TupsAt), further rules of our own. -/
namespace Wk
open PySem PySem.Spec PyProof.Rows L2 Evl LamX Sk

/-! ### heaps behind a lambda -/
structure ExT (T : List (Addr × Str)) (H H' : Hp) : Prop where
  nt : ExtN H H'
  tab : Tabs T H → Tabs T H'
/-- nothing of H but a table stands at p -/
def Nf (H : Hp) (p : Addr) : Prop := ∀ o, H p = some o → ∃ ps, o = .tbl ps
theorem nf_none {H : Hp} {p : Addr} (h : H p = none) : Nf H p := fun o e => by rw [h] at e; cases e
section
variable {T : List (Addr × Str)} {G H H' H2 : Hp} {a p l : Addr} {xs : List V} {o : HO}
theorem ExT.refl (H : Hp) : ExT T H H := ⟨ExtN.refl H, id⟩
theorem ExT.trans (a : ExT T G H) (b : ExT T H H2) : ExT T G H2 := ⟨a.nt.trans b.nt, fun t => b.tab (a.tab t)⟩
theorem ExT.of (e : Ex H H') : ExT T H H' := ⟨ExtN.of e, fun t => t.ext e⟩
theorem ExT.ex (a : ExT T G H) (e : Ex H H') : ExT T G H' := a.trans (.of e)
theorem ExT.lst (e : ExT T H H') (h : H a = some (.lst xs)) : H' a = some (.lst xs) := e.nt _ _ h fun ps z => by cases z
theorem ExT.tup (e : ExT T H H') (h : H a = some (.tup xs)) : H' a = some (.tup xs) := e.nt _ _ h fun ps z => by cases z
theorem ExT.ins {C dx : Addr} {fs : List (Str × V)} (e : ExT T H H') (h : H a = some (.ins C dx fs)) : H' a = some (.ins C dx fs) := e.nt _ _ h fun ps z => by cases z
theorem ExT.sq {K : PySem.W.Frag} (e : ExT T H H') (h : SqL K H a xs) : SqL K H' a xs := sqL_extN e.nt h
theorem ExT.nf (e : ExT T G H) (h : Nf H p) : Nf G p := fun o ho => Classical.byContradiction fun n => n (h o (e.nt _ _ ho fun ps z => n ⟨ps, z⟩))
theorem Ex.nf (e : Ex G H) (h : Nf H p) : Nf G p := (ExT.of (T := []) e).nf h
theorem nf_lst (h : H a = some (.lst xs)) (n : Nf H p) : a ≠ p := fun z => by
  rw [z] at h
  obtain ⟨ps, e⟩ := n _ h
  cases e
theorem nf_ins {C dx : Addr} {fs : List (Str × V)} (h : H a = some (.ins C dx fs)) (n : Nf H p) : a ≠ p := fun z => by
  rw [z] at h
  obtain ⟨ps, e⟩ := n _ h
  cases e
theorem tabs_put (t : Tabs T H) (hl : H l = some (.lst xs)) (p : Put l o H H') : Tabs T H' := fun q hq => by
  obtain ⟨ps, h1, h2, h3⟩ := t q hq
  have n1 : q.1 ≠ l := fun z => by rw [z, hl] at h1; cases h1
  refine ⟨ps, p.old _ _ n1 h1, h2, fun pos cv hc => ?_⟩
  obtain ⟨c, e, hc2⟩ := h3 pos cv hc
  have n2 : c ≠ l := fun z => by
    rw [z, hl] at hc2
    have z2 : HO.lst xs = CodeO l q.2 := Option.some.inj hc2
    unfold CodeO at z2
    cases z2
  exact ⟨c, e, p.old _ _ n2 hc2⟩
/-- a list changed in place that G did not know -/
theorem ExT.put (e : ExT T G H) (n : Nf G l) (hl : H l = some (.lst xs)) (p : Put l o H H') : ExT T G H' := ⟨fun b u hb hu => by
  refine p.old b u (fun z => ?_) (e.nt b u hb hu)
  rw [z] at hb
  obtain ⟨ps, z2⟩ := n _ hb
  exact hu ps z2, fun t => tabs_put (e.tab t) hl p⟩
end

/-! ### evaluations that may make a lambda -/
def EvPT (T : List (Addr × Str)) (te : TE) (s : L2.St) (H : Hp) (P : V → Hp → Prop) : Prop := ∀ H1, Ex H H1 → ∀ Q : VK, (∀ v H2, ExT T H1 H2 → P v H2 → Q v H2) → te s H1 Q
def EvTT (T : List (Addr × Str)) (t : TT) (s : L2.St) (H : Hp) (b : Bool) : Prop := ∀ H1, Ex H H1 → ∀ Q : Bool → Hp → Prop, (∀ H2, ExT T H1 H2 → Q b H2) → t s H1 Q
def EvAPT (T : List (Addr × Str)) (ta : TA) (s : L2.St) (H : Hp) (P : List V → Hp → Prop) : Prop := ∀ H1, Ex H H1 → ∀ Q : List V → Hp → Prop, (∀ v H2, ExT T H1 H2 → P v H2 → Q v H2) → ta s H1 Q
section
variable {K : PySem.W.Frag} {T : List (Addr × Str)} {s : L2.St} {H H' : Hp} {ta tb te tx tc : TE} {t u : TT} {x y z v : V} {P R : V → Hp → Prop} {D : Ends} {tu tw tz : TS}
theorem evpt_of (h : EvP te s H P) : EvPT T te s H P := fun H1 e Q q => h H1 e Q fun v H2 e2 p => q v H2 (.of e2) p
theorem evtt_of {b : Bool} (h : EvT t s H b) : EvTT T t s H b := fun H1 e Q q => h H1 e Q fun H2 e2 => q H2 (.of e2)
theorem w_asgT {i : Nat} (h : EvPT T te s H P) (k : ∀ v H1, ExT T H H1 → P v H1 → Sv tz D (s.set i (some v)) H1) : Sv (tSeq (tAsg te (gName i)) tz) D s H := fun H1 e1 =>
  h H1 e1 _ fun v H2 e2 p => k v H2 ((ExT.of e1).trans e2) p H2 (Ex.refl H2)
theorem w_retT (h : EvPT T te s H P) (k : ∀ v H1, ExT T H H1 → P v H1 → D.rt v H1) : Sv (tSeq (tRet te) tz) D s H := fun H1 e1 => h H1 e1 _ fun v H2 e2 p => k v H2 ((ExT.of e1).trans e2) p
theorem w_skipT (h : EvTT T t s H false) (k : ∀ H1, ExT T H H1 → Sv tz D s H1) : Sv (tSeq (tIfS t tu tNext) tz) D s H := fun H1 e1 => h H1 e1 _ fun H2 e2 => k H2 ((ExT.of e1).trans e2) H2 (Ex.refl H2)
theorem ett_or {a b : Bool} (h1 : EvTT T t s H a) (h2 : a = false → ∀ H1, ExT T H H1 → EvTT T u s H1 b) : EvTT T (tOr t u) s H (a || b) := fun H1 e Q q => h1 H1 e _ fun H2 e2 => by
  cases a with
  | true => exact q H2 e2
  | false => exact h2 rfl H2 ((ExT.of e).trans e2) H2 (Ex.refl H2) Q fun H3 e3 => q H3 (e2.trans e3)
theorem ett_not {a : Bool} (h1 : EvTT T t s H a) : EvTT T (tNot t) s H (!a) := fun H1 e _ q => h1 H1 e _ fun H2 e2 => q H2 e2
theorem ett_is {a b : Bool} (h : EvTT T t s H a) (e : a = b) : EvTT T t s H b := by
  rw [← e]
  exact h
theorem ett_B {b : Bool} (h : EvPT T te s H (Is (.bl b))) : EvTT T (tB te) s H b := fun H1 e _ q => h H1 e _ fun v H2 e2 p => by
  cases p
  exact ⟨b, rfl, q H2 e2⟩
theorem evpt_call {sp : Sp} {E : XK} {ta : TA} {P : List V → Hp → Prop} (h : EvAP ta s H P) (hs : ∀ vs H1, Ex H H1 → P vs H1 → ∀ Q : VK, (∀ v H2, ExT T H1 H2 → R v H2 → Q v H2) → sp vs H1 Q E) : EvPT T (tCall sp [] E ta) s H R := fun H1 e Q q =>
  h H1 e _ fun vs H2 e2 p => by
    rw [List.append_nil]
    exact hs vs H2 (e.trans e2) p Q fun v H3 e3 r => q v H3 ((ExT.of e2).trans e3) r
theorem evpt_callT {sp : Sp} {E : XK} {ta : TA} {P : List V → Hp → Prop} (h : EvAPT T ta s H P) (hs : ∀ vs H1, ExT T H H1 → P vs H1 → ∀ Q : VK, (∀ v H2, ExT T H1 H2 → R v H2 → Q v H2) → sp vs H1 Q E) : EvPT T (tCall sp [] E ta) s H R := fun H1 e Q q =>
  h H1 e _ fun vs H2 e2 p => by
    rw [List.append_nil]
    exact hs vs H2 ((ExT.of e).trans e2) p Q fun v H3 e3 r => q v H3 (e2.trans e3) r
theorem apt_last (h : EvPT T te s H P) : EvAPT T (tCons te tNil) s H (fun vs H => ∃ v, vs = [v] ∧ P v H) := fun H1 e Q q => h H1 e _ fun v H2 e2 p => q _ H2 e2 ⟨v, rfl, p⟩
theorem apt_cons {tr : TA} {R : List V → Hp → Prop} (h : Ev te s H x) (hr : EvAPT T tr s H R) : EvAPT T (tCons te tr) s H (fun vs H => ∃ r, vs = x :: r ∧ R r H) := fun H1 e Q q =>
  h H1 e _ fun H2 e2 => hr H2 (e.trans e2) _ fun vs H3 e3 p3 => q _ H3 ((ExT.of e2).trans e3) ⟨vs, rfl, p3⟩
/-- isinstance of something that a lambda was made for -/
theorem evpt_isi {t u : Value} {b : Bool} {c : V} (h : EvPT T te s H P) (hc : ∀ H1, ExT T H H1 → Ev tc s H1 c) (hv : ClsV c u) (ty : ∀ v H1, P v H1 → TyX K H1 v t) (hk : PySem.W.kitOne K t u = some b) : EvPT T (tCB (rIsi K) (tCons te (tCons tc tNil))) s H (Is (.bl b)) := fun H1 e Q q =>
  h H1 e _ fun v H2 e2 p => hc H2 ((ExT.of e).trans e2) H2 (Ex.refl H2) _ fun H3 e3 => ⟨v, c, t, u, b, rfl, hv, tyx_mono e3 (ty v H2 p), hk, q _ H3 (e2.trans (.of e3)) rfl⟩
theorem EvPT.imp (h : EvPT T te s H P) (k : ∀ v H1, ExT T H H1 → P v H1 → R v H1) : EvPT T te s H R := fun H1 e Q q => h H1 e Q fun v H2 e2 p => q v H2 e2 (k v H2 ((ExT.of e).trans e2) p)

/-- x = sorted(range(n), key=lambda y: x[y], reverse=True) -/
theorem w_sortLam {i j : Nat} {pr : Addr} {ns : List Int} (h : Ev te s H (.int (ns.length : Int))) (hs : s[i]? = some (some (.ref pr))) (hp : H pr = some (.lst (ns.map V.int))) (hz : ns.length ≤ 100000) (hT : Tabs T H)
    (k : ∀ p H1, ExT T H H1 → Nf H p → H1 p = some (.lst (((ups ns.length).mergeSort fun a b => decide (ns.getD b.toNat 0 ≤ ns.getD a.toNat 0)).map V.int)) → Sv tz D (s.set j (some (.ref p))) H1) :
    Sv (tSeq (tAsg (tSortLam K T i te) (gName j)) tz) D s H := fun H1 e1 =>
  h H1 e1 _ fun H2 e2 => ⟨ns.length, pr, ns, rfl, hz, hs, sq_of (e2 _ _ (e1 _ _ hp)), Nat.le_refl _, hT.ext (e1.trans e2), fun H3 eN T3 _ p hpn => by
    have e3 : ExT T H H3 := ((ExT.of (e1.trans e2)).trans ⟨eN, fun _ => T3⟩)
    exact k p _ (e3.ex (Ex.new hpn)) (e3.nf (nf_none hpn)) upd_same _ (Ex.refl _)⟩
end

/-! ### lists of tuples -/
def TupsAt (ts : List (List V)) (vs : List V) (H : Hp) : Prop := vs.length = ts.length ∧ ∀ (i : Nat) (t : List V), ts[i]? = some t → ∃ r : Addr, vs[i]? = some (V.ref r) ∧ H r = some (.tup t)
section
variable {T : List (Addr × Str)} {H H' : Hp} {ts us : List (List V)} {vs ws xs : List V} {l r : Addr} {t : List V} {o : HO}
theorem TupsAt.nil : TupsAt [] [] H := ⟨rfl, fun i t h => by simp at h⟩
theorem TupsAt.ext (h : TupsAt ts vs H) (e : ExtN H H') : TupsAt ts vs H' := ⟨h.1, fun i t ht => let ⟨r, a, b⟩ := h.2 i t ht; ⟨r, a, e _ _ b fun ps z => by cases z⟩⟩
theorem TupsAt.ex (h : TupsAt ts vs H) (e : Ex H H') : TupsAt ts vs H' := h.ext (ExtN.of e)
theorem TupsAt.put (h : TupsAt ts vs H) (hl : H l = some (.lst xs)) (p : Put l o H H') : TupsAt ts vs H' := ⟨h.1, fun i t ht => let ⟨r, a, b⟩ := h.2 i t ht; ⟨r, a, p.old _ _ (fun z => by rw [z, hl] at b; cases b) b⟩⟩
theorem TupsAt.app (h : TupsAt ts vs H) (g : TupsAt us ws H) : TupsAt (ts ++ us) (vs ++ ws) H := ⟨by rw [List.length_append, List.length_append, h.1, g.1], fun i t ht => by
  by_cases hi : i < ts.length
  · rw [List.getElem?_append_left hi] at ht
    rw [List.getElem?_append_left (by rw [h.1]; exact hi)]
    exact h.2 i t ht
  · rw [List.getElem?_append_right (by omega)] at ht
    rw [List.getElem?_append_right (by rw [h.1]; omega), h.1]
    exact g.2 _ t ht⟩
theorem TupsAt.one (h : H r = some (.tup t)) : TupsAt [t] [V.ref r] H := ⟨rfl, fun i t' ht => by
  cases i with
  | zero => cases ht; exact ⟨r, rfl, h⟩
  | succ i => simp at ht⟩
theorem TupsAt.snoc (h : TupsAt ts vs H) (hr : H r = some (.tup t)) : TupsAt (ts ++ [t]) (vs ++ [V.ref r]) H := h.app (.one hr)
theorem TupsAt.at (h : TupsAt ts vs H) {i : Nat} {x : V} (hx : vs[i]? = some x) : ∃ t r, ts[i]? = some t ∧ x = .ref r ∧ H r = some (.tup t) := by
  have hi : i < ts.length := by rw [← h.1]; exact (List.getElem?_eq_some_iff.mp hx).1
  obtain ⟨r, a, b⟩ := h.2 i _ (List.getElem?_eq_getElem hi)
  rw [hx] at a
  exact ⟨_, r, List.getElem?_eq_getElem hi, Option.some.inj a, b⟩
theorem TupsAt.cut (h : TupsAt (ts ++ [t]) vs H) : ∃ ws r, vs = ws ++ [V.ref r] ∧ TupsAt ts ws H ∧ H r = some (.tup t) := by
  have hl := h.1
  rw [List.length_append, List.length_singleton] at hl
  have hlast := h.2 ts.length t (by rw [List.getElem?_append_right (Nat.le_refl _), Nat.sub_self]; rfl)
  obtain ⟨r, a, b⟩ := hlast
  have e : vs = vs.take ts.length ++ [V.ref r] := by
    have e1 : vs.take (ts.length + 1) = vs := List.take_of_length_le (by omega)
    have e2 : vs.take (ts.length + 1) = vs.take ts.length ++ [V.ref r] := by
      rw [List.take_add_one, a]
      rfl
    exact e1.symm.trans e2
  refine ⟨vs.take ts.length, r, e, ⟨by rw [List.length_take]; omega, fun i u hu => ?_⟩, b⟩
  have hi : i < ts.length := (List.getElem?_eq_some_iff.mp hu).1
  obtain ⟨r2, a2, b2⟩ := h.2 i u (by rw [List.getElem?_append_left hi]; exact hu)
  exact ⟨r2, by rw [List.getElem?_take_of_lt hi]; exact a2, b2⟩
theorem TupsAt.take (h : TupsAt ts vs H) (k : Nat) : TupsAt (ts.take k) (vs.take k) H := ⟨by rw [List.length_take, List.length_take, h.1], fun i t ht => by
  have hi : i < k := by
    have := (List.getElem?_eq_some_iff.mp ht).1
    rw [List.length_take] at this
    omega
  rw [List.getElem?_take_of_lt hi] at ht ⊢
  exact h.2 i t ht⟩
theorem TupsAt.drop (h : TupsAt ts vs H) (k : Nat) : TupsAt (ts.drop k) (vs.drop k) H := ⟨by rw [List.length_drop, List.length_drop, h.1], fun i t ht => by
  rw [List.getElem?_drop] at ht ⊢
  exact h.2 _ t ht⟩
theorem TupsAt.rep (hr : H r = some (.tup t)) : ∀ k : Nat, TupsAt (List.replicate k t) (List.replicate k (V.ref r)) H
  | 0 => .nil
  | k + 1 => (TupsAt.one hr).app (TupsAt.rep hr k)
end

/-! ### further rules -/
/-- o[i] of a list that is changed there -/
def rGetL (K : PySem.W.Frag) : V → V → Hp → VK → Prop := fun x y H Q => ∃ p xs i v, x = .ref p ∧ y = .int i ∧ SqL K H p xs ∧ 0 ≤ i ∧ i ≤ 100000 ∧ xs[i.toNat]? = some v ∧ Q v H
def rMinT (K : PySem.W.Frag) : List V → Hp → VK → Prop := fun vs H Q => ∃ (a : Addr) (ns : List Int), vs = [V.ref a] ∧ SqT K H a (ns.map V.int) ∧ ns ≠ [] ∧ Q (.int (mn ns)) H
def rMaxT (K : PySem.W.Frag) : List V → Hp → VK → Prop := fun vs H Q => ∃ (a : Addr) (ns : List Int), vs = [V.ref a] ∧ SqT K H a (ns.map V.int) ∧ ns ≠ [] ∧ Q (.int (mx ns)) H
def rCntB (K : PySem.W.Frag) : V → List V → Hp → VK → Prop := fun x xs H Q => ∃ (p : Addr) (bs : List Bool) (k : Bool), x = .ref p ∧ xs = [.bl k] ∧ SqL K H p (bs.map V.bl) ∧ Q (.int (bs.count k : Nat)) H
section
variable {X : Cx}
theorem pget_list : PGet X (rGetL X.K) := by
  intro pins s σ H o i ov iv Q I ro ri h
  obtain ⟨p, xs, j, v, rfl, rfl, hs, h0, h1, hv, q⟩ := h
  cases ro
  obtain ⟨t, rfl⟩ := ri
  obtain ⟨its, r, pl, hz⟩ := I.list hs
  obtain ⟨w, ew, rw'⟩ := r.get hv
  exact PySem.wpAny_getItem_list pl.isList h0 (by omega) (by simpa using ew) ⟨v, H, I, rw', q⟩
theorem ints_hold {h : Heap} : ∀ {its : List Value} {ns : List Int}, IntsAre its ns → PySem.W.HoldAll h its ns
  | _, _, .nil => ⟨_, .nil⟩
  | _, _, .cons n t r => by
    obtain ⟨as, ra⟩ := ints_hold (h := h) r
    exact ⟨_, .cons (.int n t) ra⟩
theorem ilt (a b : Int) : PySem.W.DatumOrd.lt a b = decide (a < b) := rfl
theorem minOf_mn (l : List Int) (x : Int) : PySem.W.minOf x l = mn (x :: l) := by
  have aux : ∀ (l : List Int) (x : Int), PySem.W.minOf x l ∈ x :: l ∧ ∀ y ∈ x :: l, PySem.W.minOf x l ≤ y := by
    intro l
    induction l with
    | nil => intro x; exact ⟨List.mem_cons_self, fun y hy => by rw [List.mem_singleton.mp hy]; exact Int.le_refl _⟩
    | cons b r ih =>
      intro x
      obtain ⟨h1, h2⟩ := ih (if b < x then b else x)
      have e : PySem.W.minOf x (b :: r) = PySem.W.minOf (if b < x then b else x) r := by
        unfold PySem.W.minOf
        rw [List.foldl_cons, ilt]
        by_cases h : b < x <;> simp [h]
      rw [e]
      have h3 := h2 _ List.mem_cons_self
      refine ⟨?_, fun y hy => ?_⟩
      · rcases List.mem_cons.mp h1 with h | h
        · rw [h]
          split
          · exact List.mem_cons_of_mem _ List.mem_cons_self
          · exact List.mem_cons_self
        · exact List.mem_cons_of_mem _ (List.mem_cons_of_mem _ h)
      · rcases List.mem_cons.mp hy with rfl | hy
        · clear h1 h2 e
          generalize PySem.W.minOf _ r = M at h3 ⊢
          split at h3 <;> omega
        · rcases List.mem_cons.mp hy with rfl | hy
          · clear h1 h2 e
            generalize PySem.W.minOf _ r = M at h3 ⊢
            split at h3 <;> omega
          · exact h2 y (List.mem_cons_of_mem _ hy)
  exact mn_eq (aux l x).1 (aux l x).2
theorem maxOf_mx (l : List Int) (x : Int) : PySem.W.maxOf x l = mx (x :: l) := by
  have aux : ∀ (l : List Int) (x : Int), PySem.W.maxOf x l ∈ x :: l ∧ ∀ y ∈ x :: l, y ≤ PySem.W.maxOf x l := by
    intro l
    induction l with
    | nil => intro x; exact ⟨List.mem_cons_self, fun y hy => by rw [List.mem_singleton.mp hy]; exact Int.le_refl _⟩
    | cons b r ih =>
      intro x
      obtain ⟨h1, h2⟩ := ih (if x < b then b else x)
      have e : PySem.W.maxOf x (b :: r) = PySem.W.maxOf (if x < b then b else x) r := by
        unfold PySem.W.maxOf
        rw [List.foldl_cons, ilt]
        by_cases h : x < b <;> simp [h]
      rw [e]
      have h3 := h2 _ List.mem_cons_self
      refine ⟨?_, fun y hy => ?_⟩
      · rcases List.mem_cons.mp h1 with h | h
        · rw [h]
          split
          · exact List.mem_cons_of_mem _ List.mem_cons_self
          · exact List.mem_cons_self
        · exact List.mem_cons_of_mem _ (List.mem_cons_of_mem _ h)
      · rcases List.mem_cons.mp hy with rfl | hy
        · clear h1 h2 e
          generalize PySem.W.maxOf _ r = M at h3 ⊢
          split at h3 <;> omega
        · rcases List.mem_cons.mp hy with rfl | hy
          · clear h1 h2 e
            generalize PySem.W.maxOf _ r = M at h3 ⊢
            split at h3 <;> omega
          · exact h2 y (List.mem_cons_of_mem _ hy)
  exact mx_eq (aux l x).1 (aux l x).2
theorem cr_minT (hc : X.calm = true) (hu : X.A.units + 64 < cLine) : CallR X (.builtin "min") (rMinT X.K) := by
  intro pins s σ H vs us Q I r h
  obtain ⟨a, ns, rfl, hs, hne, q⟩ := h
  obtain ⟨its, rv, ht, hz⟩ := I.tuple hs
  rw [Vals.ref1 r]
  cases ns with
  | nil => exact absurd rfl hne
  | cons x xs =>
    refine PySem.W.min_tuple_datum (x := x) (xs := xs) (I.ok.hd hc) ht (ints_hold rv.ints) (by show X.A.units + 1 + 0 < cLine; omega) fun i v h' tk hv hh hk => ?_
    obtain ⟨as, ra⟩ := hh
    rw [minOf_mn] at ra
    cases ra
    exact ⟨.int (mn (x :: xs)), H, I.kept hk, ⟨_, rfl⟩, q⟩
theorem cr_maxT (hc : X.calm = true) (hu : X.A.units + 64 < cLine) : CallR X (.builtin "max") (rMaxT X.K) := by
  intro pins s σ H vs us Q I r h
  obtain ⟨a, ns, rfl, hs, hne, q⟩ := h
  obtain ⟨its, rv, ht, hz⟩ := I.tuple hs
  rw [Vals.ref1 r]
  cases ns with
  | nil => exact absurd rfl hne
  | cons x xs =>
    refine PySem.W.max_tuple_datum (x := x) (xs := xs) (I.ok.hd hc) ht (ints_hold rv.ints) (by show X.A.units + 1 + 0 < cLine; omega) fun i v h' tk hv hh hk => ?_
    obtain ⟨as, ra⟩ := hh
    rw [maxOf_mx] at ra
    cases ra
    exact ⟨.int (mx (x :: xs)), H, I.kept hk, ⟨_, rfl⟩, q⟩
/-- xs.count(True), bools -/
def eqb (k : Bool) (v : Value) : Bool := match v with
  | .bool n => n == k
  | _ => false
theorem mt_bcount : MtR X "list.count" (rCntB X.K) := by
  intro pins s σ H x xs v us Q I rx rxs h
  obtain ⟨p, bs, k, rfl, rfl, hs, q⟩ := h
  cases rx
  obtain ⟨u, rfl, ru⟩ := rxs.one
  obtain rfl : u = Value.bool k := ru
  obtain ⟨its, rv, ⟨⟨cls, dd, data, sl⟩, n, ho, hc, hdn, hd⟩, hlen⟩ := I.list hs
  simp only at hc hd
  subst hc hd
  have hb : its = bs.map Value.bool := rv.bls
  refine call_meets PySem.F.slot_list_count ⟨_, ho, rfl⟩ PySem.F.entry_list_count (PySem.F.args_list_count_2 _ _)
    (SeqAt.list_countAt p its.toArray n dd sl (.bool k) (eqb k)) ⟨ho, fun y hy => ?_, ?_⟩
  · rw [hb] at hy
    have hy2 : y ∈ bs.map Value.bool := by simpa using hy
    obtain ⟨b, _, rfl⟩ := List.mem_map.mp hy2
    exact SeqAt.EqAt.bool_bool b k
  · have ec : its.toArray.toList.countP (eqb k) = bs.count k := by
      rw [hb]
      show (bs.map Value.bool).countP (eqb k) = _
      rw [List.countP_map]
      rfl
    refine ⟨.int (bs.count k : Nat), H, I.tok _, ⟨s.toks, ?_⟩, q⟩
    show Value.int ((its.toArray.toList.countP (eqb k) : Nat) : Int) s.toks = Value.int ((bs.count k : Nat) : Int) s.toks
    rw [ec]
end
section
variable {K : PySem.W.Frag} {T : List (Addr × Str)} {s : L2.St} {H H' : Hp} {ta tb te tx tc ti to : TE} {t u : TT} {x y z v : V} {P R : V → Hp → Prop} {D : Ends} {tu tw tz : TS}
theorem ev_minT {ns : List Int} (h : EvP te s H (IsU (ns.map V.int))) (hn : ns ≠ []) : Ev (tCB (rMinT K) (tCons te tNil)) s H (.int (mn ns)) :=
  ev_cbP (ap_one h) fun vs H1 _ ⟨v, ev, p, pv, hp⟩ H2 e2 Q q => ⟨p, ns, by rw [ev, pv], st_of (e2 _ _ hp), hn, q H2 (Ex.refl H2)⟩
theorem ev_maxT {ns : List Int} (h : EvP te s H (IsU (ns.map V.int))) (hn : ns ≠ []) : Ev (tCB (rMaxT K) (tCons te tNil)) s H (.int (mx ns)) :=
  ev_cbP (ap_one h) fun vs H1 _ ⟨v, ev, p, pv, hp⟩ H2 e2 Q q => ⟨p, ns, by rw [ev, pv], st_of (e2 _ _ hp), hn, q H2 (Ex.refl H2)⟩
theorem ev_bcount {bs : List Bool} {k : Bool} {p : Addr} (ha : Ev ta s H (.ref p)) (hp : H p = some (.lst (bs.map V.bl))) (hb : Ev tb s H (.bl k)) : Ev (tBM K "list" (rCntB K) ta (tCons tb tNil)) s H (.int (bs.count k : Nat)) := fun H1 e Q q =>
  ha H1 e _ fun H2 e2 => ⟨Or.inl ⟨rfl, _, sq_of ((e.trans e2) _ _ hp)⟩, hb H2 (e.trans e2) _ fun H3 e3 => ⟨p, bs, k, rfl, rfl, sq_of (((e.trans e2).trans e3) _ _ hp), q H3 (e2.trans e3)⟩⟩
theorem eu_slice {tl th : TO} {xs : List V} {lo hi : Option Int} (h : EvP te s H (IsU xs)) (h1 : EvO tl s H lo) (h2 : EvO th s H hi) (hw : ¬ (HT.sIx xs.length 0 lo = 0 ∧ HT.sIx xs.length xs.length hi = xs.length)) : EvP (tSl (rSlT K) te tl th) s H (IsU (cutV xs lo hi)) := fun H1 e Q q =>
  h H1 e _ fun v H2 e2 ⟨a, ev, hp⟩ => h1 H2 (e.trans e2) _ fun H3 e3 => h2 H3 ((e.trans e2).trans e3) _ fun H4 e4 =>
    ⟨a, xs, ev, st_of (e4 _ _ (e3 _ _ hp)), hw, fun p hp => q _ _ (((e2.trans e3).trans e4).trans (Ex.new hp)) ⟨p, rfl, upd_same⟩⟩
theorem w_while {m0 : Nat} (W : Nat → L2.St → Hp → Prop) (h0 : ∀ H1, Ex H H1 → W m0 s H1)
    (hs : ∀ m s' H', W m s' H' → ∃ b, EvT t s' H' b ∧ (b = true → ∃ N : L2.St → Hp → Prop, (∀ s2 H2, N s2 H2 → ∃ m', m' < m ∧ W m' s2 H2) ∧ Sv tu { D with nx := N, ct := N, bk := tz D } s' H') ∧ (b = false → Sv tz D s' H')) : Sv (tSeq (tWhile t tu) tz) D s H := fun H1 e1 =>
  q_while W m0 (h0 H1 e1) fun m s' H' w => by
    obtain ⟨b, h1, h2, h3⟩ := hs m s' H' w
    exact ⟨b, h1, fun hb H2 e2 => let ⟨N, a, c⟩ := h2 hb; ⟨N, a, c H2 e2⟩, fun hb H2 e2 => h3 hb H2 e2⟩
/-- a, b = xs.pop() -/
theorem w_pop2 {l r : Addr} {xs : List V} {i j : Nat} (hl : H l = some (.lst (xs ++ [V.ref r]))) (hr : H r = some (.tup [x, y])) (ha : Ev ta s H (.ref l)) (k : ∀ H1, Put l (.lst xs) H H1 → Sv tz D ((s.set i (some x)).set j (some y)) H1) :
    Sv (tSeq (tAsg (tBM K "list" rPop ta tNil) (gTup K 2 (gCons (gName i) (gCons (gName j) gNil)))) tz) D s H := fun H1 e1 =>
  ha H1 e1 _ fun H2 e2 => ⟨Or.inl ⟨rfl, _, sq_of ((e1.trans e2) _ _ hl)⟩, ⟨l, xs ++ [V.ref r], V.ref r, rfl, rfl, (e1.trans e2) _ _ hl, by rw [List.length_append, List.length_singleton, Nat.add_sub_cancel, List.getElem?_append_right (Nat.le_refl _), Nat.sub_self]; rfl, by
    rw [List.dropLast_concat]
    have hne : r ≠ l := fun z => by rw [z, hl] at hr; cases hr
    have hr2 : upd H2 l (.lst xs) r = some (.tup [x, y]) := by rw [upd_ne hne]; exact (e1.trans e2) _ _ hr
    exact ⟨r, [x, y], rfl, st_of hr2, rfl, x, [y], rfl, y, [], rfl, rfl, k _ (put_upd (e1.trans e2)) _ (Ex.refl _)⟩⟩⟩
theorem w_augS {l : Addr} {xs : List V} {j : Nat} {f : Int → Int → Int} {a b : Int} (hl : H l = some (.lst xs)) (hz : xs.length ≤ 100000) (ho : Ev to s H (.ref l)) (hi : Ev ti s H (.int (j : Int))) (hj : xs[j]? = some (.int a)) (he : Ev te s H (.int b))
    (k : ∀ H1, Put l (.lst (xs.set j (.int (f a b)))) H H1 → Sv tz D s H1) : Sv (tSeq (tAugS to ti te (rGetL K) (ipI f) rSetL) tz) D s H := fun H1 e1 =>
  ho H1 e1 _ fun H2 e2 => hi H2 (e1.trans e2) _ fun H3 e3 => by
    have hjl := (List.getElem?_eq_some_iff.mp hj).1
    have e13 := (e1.trans e2).trans e3
    refine ⟨l, xs, (j : Int), .int a, rfl, rfl, sq_of (e13 _ _ hl), by omega, by omega, by rw [Int.toNat_natCast]; exact hj, he H3 e13 _ fun H4 e4 => ⟨a, b, rfl, rfl, l, xs, (j : Int), j, rfl, rfl, e4 _ _ (e13 _ _ hl), ixN_nat hjl, k _ (put_upd (e13.trans e4)) _ (Ex.refl _)⟩⟩
/-- xs.reverse(), xs.clear() -/
theorem w_reverse {l : Addr} {xs : List V} (hl : H l = some (.lst xs)) (ha : Ev ta s H (.ref l)) (k : ∀ H1, Put l (.lst xs.reverse) H H1 → Sv tz D s H1) : Sv (tSeq (tDrop (tBM K "list" rReverse ta tNil)) tz) D s H := fun H1 e1 =>
  ha H1 e1 _ fun H2 e2 => ⟨Or.inl ⟨rfl, _, sq_of ((e1.trans e2) _ _ hl)⟩, ⟨l, xs, rfl, rfl, (e1.trans e2) _ _ hl, k _ (put_upd (e1.trans e2)) _ (Ex.refl _)⟩⟩
theorem w_clear {l : Addr} {xs : List V} (hl : H l = some (.lst xs)) (ha : Ev ta s H (.ref l)) (k : ∀ H1, Put l (.lst []) H H1 → Sv tz D s H1) : Sv (tSeq (tDrop (tBM K "list" rClear ta tNil)) tz) D s H := fun H1 e1 =>
  ha H1 e1 _ fun H2 e2 => ⟨Or.inl ⟨rfl, _, sq_of ((e1.trans e2) _ _ hl)⟩, ⟨l, xs, rfl, rfl, (e1.trans e2) _ _ hl, k _ (put_upd (e1.trans e2)) _ (Ex.refl _)⟩⟩
/-- xs.extend(e), e a new list or another one -/
theorem w_extend {l : Addr} {xs : List V} (hl : H l = some (.lst xs)) (ha : Ev ta s H (.ref l)) (h : EvP te s H P) (hp : ∀ v H1, P v H1 → ∃ b zs, v = .ref b ∧ H1 b = some (.lst zs) ∧ xs.length + zs.length ≤ 100000)
    (k : ∀ b zs H1 H2, Ex H H1 → P (.ref b) H1 → H1 b = some (.lst zs) → Put l (.lst (xs ++ zs)) H1 H2 → Sv tz D s H2) : Sv (tSeq (tDrop (tBM K "list" rExtend ta (tCons te tNil))) tz) D s H := fun H1 e1 =>
  ha H1 e1 _ fun H2 e2 => ⟨Or.inl ⟨rfl, _, sq_of ((e1.trans e2) _ _ hl)⟩, h H2 (e1.trans e2) _ fun v H3 e3 p => by
    obtain ⟨b, zs, rfl, hb, hz⟩ := hp v H3 p
    exact ⟨l, b, xs, zs, rfl, rfl, ((e1.trans e2).trans e3) _ _ hl, hb, sz_of hz, k b zs H3 _ ((e1.trans e2).trans e3) p hb (put_upd (Ex.refl _)) _ (Ex.refl _)⟩⟩
/-- [e for x in t], t a tuple -/
theorem el_mapT {α : Type} {a : Addr} {tl : TE} {j : Nat} {vs : List Nat} (l : List α) (c : α → V) (w : α → V) (h : Ev tl s H (.ref a)) (hx : H a = some (.tup (l.map c))) (hz : l.length ≤ 100000) (hw : ∀ x, wipe ((wipe s vs).set j (some x)) vs = wipe s vs)
    (he : ∀ x ∈ l, Ev te ((wipe s vs).set j (some (c x))) H (w x)) : EvL (tLc (iTup K tl) (gName j) tYes te vs) s H (l.map w) := fun H0 e Q q => h H0 e _ fun H1 e1 => ⟨a, rfl, ⟨_, st_of ((e.trans e1) _ _ hx)⟩, fun Dl hD =>
  lc_tup (xs := l.map c) (Cx2 H1 l (fun _ => true) w Dl) ⟨hD, Ex.new hD, by rw [List.take_zero]; exact upd_same⟩ (fun i H' _ p => st_of (((e.trans e1).trans p.2.1) _ _ hx)) (fun i x H' hi p => by
    rw [List.getElem?_map] at hi
    cases ha : l[i]? with
    | none => rw [ha] at hi; cases hi
    | some b =>
      rw [ha] at hi
      obtain rfl : c b = x := Option.some.inj hi
      have hm : b ∈ l := List.mem_of_getElem? ha
      exact ⟨hw _, cx_turn p ha hz et_yes (fun _ => (he b hm).mono (e.trans e1))⟩)
    (fun H' p => by
      have p3 := p.2.2
      rw [List.length_map, List.take_length, filter_yes] at p3
      exact q Dl H' (fresh_back e1 p.1) (e1.trans p.2.1) p3)⟩
/-- for x in t, t a tuple -/
theorem w_forT {a : Addr} {xs : List V} {tl : TE} {j : Nat} (h : Ev tl s H (.ref a)) (hx : H a = some (.tup xs)) (Pv : Nat → L2.St → Hp → Prop) (h0 : ∀ H1, Ex H H1 → Pv 0 s H1) (hl : ∀ i s' H', i ≤ xs.length → Pv i s' H' → H' a = some (.tup xs))
    (hs : ∀ i x s' H', xs[i]? = some x → Pv i s' H' → Sv tu { D with nx := Pv (i + 1), ct := Pv (i + 1), bk := tz D } (s'.set j (some x)) H') (hd : ∀ s' H', Pv xs.length s' H' → Sv tz D s' H') : Sv (tSeq (tFor (iTup K tl) (gName j) tu) tz) D s H := fun H1 e1 =>
  q_forT (h.mono e1) (st_of (e1 _ _ hx)) Pv (fun H2 e2 => h0 H2 (e1.trans e2)) (fun i s' H' hi p => st_of (hl i s' H' hi p)) (fun i x s' H' hi p => (hs i x s' H' hi p).go) (fun s' H' p => (hd s' H' p).go)
/-- for a, b, .. in xs, xs a list of tuples: a turn takes the tuple apart -/
theorem w_forG {a : Addr} {xs : List V} {tl : TE} {g : TG} (h : Ev tl s H (.ref a)) (hx : SqL K H a xs) (Pv : Nat → L2.St → Hp → Prop) (h0 : ∀ H1, Ex H H1 → Pv 0 s H1) (hl : ∀ i s' H', i ≤ xs.length → Pv i s' H' → SqL K H' a xs)
    (hs : ∀ i x s' H', xs[i]? = some x → Pv i s' H' → g x s' H' fun s2 H2 => tu { D with nx := Pv (i + 1), ct := Pv (i + 1), bk := tz D } s2 H2) (hd : ∀ s' H', Pv xs.length s' H' → Sv tz D s' H') : Sv (tSeq (tFor (iList K tl) g tu) tz) D s H := fun H1 e1 =>
  q_forL (h.mono e1) (ex_l e1 hx) Pv (fun H2 e2 => h0 H2 (e1.trans e2)) hl hs (fun s' H' p => (hd s' H' p).go)
theorem g_tup2 {i j : Nat} {r : Addr} {a b : V} {Q : L2.St → Hp → Prop} (hr : H r = some (.tup [a, b])) (k : Q ((s.set i (some a)).set j (some b)) H) : gTup K 2 (gCons (gName i) (gCons (gName j) gNil)) (.ref r) s H Q :=
  ⟨r, [a, b], rfl, st_of hr, rfl, a, [b], rfl, b, [], rfl, rfl, k⟩
theorem g_tup3 {i j m : Nat} {r : Addr} {a b c : V} {Q : L2.St → Hp → Prop} (hr : H r = some (.tup [a, b, c])) (k : Q (((s.set i (some a)).set j (some b)).set m (some c)) H) : gTup K 3 (gCons (gName i) (gCons (gName j) (gCons (gName m) gNil))) (.ref r) s H Q :=
  ⟨r, [a, b, c], rfl, st_of hr, rfl, a, [b, c], rfl, b, [c], rfl, c, [], rfl, rfl, k⟩
/-- a, b, c = e -/
theorem w_asg3 {i j m : Nat} {r : Addr} {a b c : V} (h : Ev te s H (.ref r)) (hr : H r = some (.tup [a, b, c])) (k : Sv tz D (((s.set i (some a)).set j (some b)).set m (some c)) H) : Sv (tSeq (tAsg te (gTup K 3 (gCons (gName i) (gCons (gName j) (gCons (gName m) gNil))))) tz) D s H := fun H1 e1 =>
  h H1 e1 _ fun H2 e2 => g_tup3 ((e1.trans e2) _ _ hr) (k H2 (e1.trans e2))
theorem ev_mx2 {i j : Int} (ha : Ev ta s H (.int i)) (hb : Ev tb s H (.int j)) : Ev (tCB (fun xs H Q => ∃ i j, xs = [.int i, .int j] ∧ Q (.int (if j > i then j else i)) H) (tCons ta (tCons tb tNil))) s H (.int (max i j)) :=
  ev_cbP (ap_two ha.p hb.p) fun vs H1 _ ⟨v, w, ev, pv, pw⟩ H2 e2 Q q => ⟨i, j, by rw [ev, pv, pw], by
    have e : max i j = if j > i then j else i := by split <;> omega
    rw [← e]
    exact q H2 (Ex.refl H2)⟩
theorem ev_min2 {i j : Int} (ha : Ev ta s H (.int i)) (hb : Ev tb s H (.int j)) : Ev (tCB (fun xs H Q => ∃ i j, xs = [.int i, .int j] ∧ Q (.int (if j < i then j else i)) H) (tCons ta (tCons tb tNil))) s H (.int (min i j)) :=
  ev_cbP (ap_two ha.p hb.p) fun vs H1 _ ⟨v, w, ev, pv, pw⟩ H2 e2 Q q => ⟨i, j, by rw [ev, pv, pw], by
    have e : min i j = if j < i then j else i := by split <;> omega
    rw [← e]
    exact q H2 (Ex.refl H2)⟩
theorem ev_abs {i : Int} (ha : Ev ta s H (.int i)) : Ev (tCB (fun xs H Q => ∃ i, xs = [.int i] ∧ Q (.int (if i < 0 then -i else i)) H) (tCons ta tNil)) s H (.int (if i < 0 then -i else i)) :=
  ev_cbP (ap_one ha.p) fun vs H1 _ ⟨v, ev, pv⟩ H2 e2 Q q => ⟨i, by rw [ev, pv], q H2 (Ex.refl H2)⟩
theorem ev_lenU {xs : List V} (h : EvP te s H (IsU xs)) : Ev (tCB (rLenS K) (tCons te tNil)) s H (.int (xs.length : Int)) :=
  ev_cbP (ap_one h) fun vs H1 _ ⟨v, ev, p, pv, hp⟩ H2 e2 Q q => ⟨p, xs, by rw [ev, pv], .inr (st_of (e2 _ _ hp)), q H2 (Ex.refl H2)⟩
/-- o.f -/
theorem ev_fld {p C dx : Addr} {fs : List (Str × V)} {f : Str} (h : Ev te s H (.ref p)) (hp : H p = some (.ins C dx fs)) (c : Cls K C) (n : NoAttr K C f) (l : fs.lookup f = some v) : Ev (tFld K te f) s H v := fun H1 e Q q =>
  h H1 e _ fun H2 e2 => ⟨p, C, dx, fs, v, rfl, (e.trans e2) _ _ hp, c, n, l, q H2 e2⟩
/-- o.f = e -/
theorem w_fld {p C dx : Addr} {fs : List (Str × V)} {f : Str} (h : Ev te s H v) (ho : Ev ta s H (.ref p)) (hp : H p = some (.ins C dx fs)) (c : Cls K C) (n : NoAttr K C f) (hz : fs.length < 1000) (k : ∀ H1, Put p (.ins C dx (putF f v fs)) H H1 → Sv tz D s H1) : Sv (tSeq (sFld K ta te f) tz) D s H := fun H1 e1 =>
  h H1 e1 _ fun H2 e2 => ho H2 (e1.trans e2) _ fun H3 e3 => ⟨p, C, dx, fs, rfl, ((e1.trans e2).trans e3) _ _ hp, c, n, hz, k _ (put_upd ((e1.trans e2).trans e3)) _ (Ex.refl _)⟩
theorem w_fldL {p C dx : Addr} {fs : List (Str × V)} {f : Str} {xs : List V} (h : EvL te s H xs) (ho : ∀ H1, Ex H H1 → Ev ta s H1 (.ref p)) (hp : H p = some (.ins C dx fs)) (c : Cls K C) (n : NoAttr K C f) (hz : fs.length < 1000)
    (k : ∀ l H1, H l = none → H1 l = some (.lst xs) → Put p (.ins C dx (putF f (.ref l) fs)) H H1 → Sv tz D s H1) : Sv (tSeq (sFld K ta te f) tz) D s H := fun H1 e1 =>
  h H1 e1 _ fun l H2 hl e2 h2 => ho H2 (e1.trans e2) H2 (Ex.refl H2) _ fun H3 e3 => by
    have e13 := (e1.trans e2).trans e3
    have hpl : l ≠ p := fun z => by rw [z, e1 _ _ hp] at hl; cases hl
    exact ⟨p, C, dx, fs, rfl, e13 _ _ hp, c, n, hz, k l _ (fresh_back e1 hl) (by rw [upd_ne hpl]; exact e3 _ _ h2) (put_upd e13) _ (Ex.refl _)⟩
theorem w_asgSetP {l : Addr} {xs : List V} {j : Nat} [MonoP P] (hl : H l = some (.lst xs)) (h : EvP te s H P) (ho : Ev ta s H (.ref l)) (hi : Ev tb s H (.int (j : Int))) (hj : j < xs.length) (hm : ∀ v H1 o, P v H1 → P v (upd H1 l o)) (k : ∀ v H1, P v H1 → Put l (.lst (xs.set j v)) H H1 → Sv tz D s H1) :
    Sv (tSeq (tAsg te (gSub ta tb rSetL)) tz) D s H := fun H1 e1 =>
  h H1 e1 _ fun v H2 e2 p => ho H2 (e1.trans e2) _ fun H3 e3 => hi H3 ((e1.trans e2).trans e3) _ fun H4 e4 =>
    ⟨l, xs, (j : Int), j, rfl, rfl, (((e1.trans e2).trans e3).trans e4) _ _ hl, ixN_nat hj, k v _ (hm v _ _ (MonoP.mono (e3.trans e4) p)) (put_upd (((e1.trans e2).trans e3).trans e4)) _ (Ex.refl _)⟩
/-- a statement, then the rest, a word between them -/
theorem w_cut {tt : TS} (Mid : L2.St → Hp → Prop) (h : Sv tt { D with nx := Mid } s H) (k : ∀ s' H', Mid s' H' → Sv tz D s' H') : Sv (tCut tt tz) D s H := fun H1 e1 => q_cut (M := Mid) (h H1 e1) fun s' H' m => (k s' H' m).go
theorem w_if0 {b : Bool} (h : EvT t s H b) (h1 : b = true → Sv tu D s H) (h2 : b = false → Sv tw D s H) : Sv (tIfS t tu tw) D s H := fun H1 e1 => h H1 e1 _ fun H2 e2 => by
  cases b with
  | true => exact h1 rfl H2 (e1.trans e2)
  | false => exact h2 rfl H2 (e1.trans e2)
/-- [e, f], both new lists -/
theorem evp_two {xs ys : List V} (ha : EvL ta s H xs) (hb : EvL tb s H ys) : EvP (tLst (tCons ta (tCons tb tNil))) s H (fun v H2 => ∃ p x y, v = .ref p ∧ H p = none ∧ H x = none ∧ H y = none ∧ x ≠ y ∧ p ≠ x ∧ p ≠ y ∧ H2 p = some (.lst [V.ref x, V.ref y]) ∧ H2 x = some (.lst xs) ∧ H2 y = some (.lst ys)) := fun H1 e Q q =>
  ha H1 e _ fun x H2 nx e2 hx => hb H2 (e.trans e2) _ fun y H3 ny e3 hy => ⟨by show 2 ≤ sizeLine; decide, fun p hp => by
    have n1 : x ≠ y := ne_of_none hx ny
    have n2 : x ≠ p := ne_of_none (e3 _ _ hx) hp
    have n3 : y ≠ p := ne_of_none hy hp
    exact q _ _ ((e2.trans e3).trans (Ex.new hp)) ⟨p, x, y, rfl, fresh_back ((e.trans e2).trans e3) hp, fresh_back e nx, fresh_back (e.trans e2) ny, n1, n2.symm, n3.symm, upd_same, by rw [upd_ne n2]; exact e3 _ _ hx, by rw [upd_ne n3]; exact hy⟩⟩
theorem rv_notB {a b : Bool} : RV rNotB (.bl a) (.bl b) H (.bl (!decide (a = b))) := fun H1 _ _ q => ⟨a, b, rfl, rfl, q H1 (Ex.refl H1)⟩
theorem cut_init {xs : List V} (h : xs ≠ []) : cutV xs none (some (-1)) = xs.dropLast := by
  have hp : 0 < xs.length := List.length_pos_iff.mpr h
  have e : HT.sIx xs.length xs.length (some (-1)) = xs.length - 1 := by
    show (if (-1 : Int) < 0 then (-1 + (xs.length : Int)).toNat else min (-1 : Int).toNat xs.length) = _
    rw [if_pos (by decide)]
    omega
  unfold cutV
  rw [e, HT.sIx_none, List.drop_zero, Nat.sub_zero, List.dropLast_eq_take]
/-- [e for k in range(lo, lo + n)] -/
theorem el_mapR2 {ta : TA} {j : Nat} {vs : List Nat} {lo n : Nat} (w : Nat → V) (h : EvA ta s H [.int (lo : Int), .int ((lo + n : Nat) : Int)]) (hn : lo + n ≤ 40000) (hw : ∀ x, wipe ((wipe s vs).set j (some x)) vs = wipe s vs)
    (he : ∀ (i : Nat), i < n → Ev te ((wipe s vs).set j (some (.int ((lo + i : Nat) : Int)))) H (w i)) : EvL (tLc (iRng2 ta) (gName j) tYes te vs) s H ((List.range n).map w) := fun H0 e Q q => h H0 e _ fun H1 e1 => ⟨(lo : Int), ((lo + n : Nat) : Int), rfl, ⟨by omega, by omega, by omega, by omega⟩, fun Dl hD => by
  have en : (((lo + n : Nat) : Int) - (lo : Int)).toNat = n := by omega
  rw [en]
  refine lc_range (lo := (lo : Int)) (n := n) (Cw H1 (fun _ => true) w Dl) ⟨hD, Ex.new hD, upd_same⟩ (fun i H' hi p => ?_) (fun H' p => ?_)
  · have e0 : (lo : Int) + (i : Int) = ((lo + i : Nat) : Int) := by omega
    show wipe ((wipe s vs).set j (some (.int ((lo : Int) + (i : Int))))) vs = wipe s vs ∧ tYes ((wipe s vs).set j (some (.int ((lo : Int) + (i : Int))))) H' fun b H3 => if b = true then te ((wipe s vs).set j (some (.int ((lo : Int) + (i : Int))))) H3 fun y H4 => ∃ acc, H4 Dl = some (.lst acc) ∧ acc.length < sizeLine ∧ Cw H1 (fun _ => true) w Dl (i + 1) (upd H4 Dl (.lst (acc ++ [y]))) else Cw H1 (fun _ => true) w Dl (i + 1) H3
    rw [e0]
    exact ⟨hw _, cw_turn p (by omega) et_yes (fun _ => (he i hi).mono (e.trans e1))⟩
  · have p3 := p.2.2
    have eg : given n (fun _ => true) w = (List.range n).map w := by
      unfold given
      rw [filter_yes]
    rw [eg] at p3
    exact q Dl H' (fresh_back e1 p.1) (e1.trans p.2.1) p3⟩
/-- x, y = e, f, by a tuple (cells) -/
theorem w_tup2 {ta : TA} {i j : Nat} {P : List V → Hp → Prop} (h : EvAP ta s H P) (k : ∀ vs H1, Ex H H1 → P vs H1 → ∃ x y, vs = [x, y] ∧ ∀ H2, Ex H1 H2 → Sv tz D ((s.set i (some x)).set j (some y)) H2) :
    Sv (tSeq (tAsg (tTup ta) (gTup K 2 (gCons (gName i) (gCons (gName j) gNil)))) tz) D s H := fun H1 e1 =>
  h H1 e1 _ fun vs H2 e2 p => by
    obtain ⟨x, y, ev, kk⟩ := k vs H2 (e1.trans e2) p
    subst ev
    exact ⟨by show 2 ≤ sizeLine; decide, fun t ht => ⟨t, [x, y], rfl, st_of upd_same, rfl, x, [y], rfl, y, [], rfl, rfl, kk _ (Ex.new ht) _ (Ex.refl _)⟩⟩
theorem atI_last {xs : List V} (h : xs ≠ []) : atI xs (-1) = xs[xs.length - 1]? := by
  have hp : 0 < xs.length := List.length_pos_iff.mpr h
  have e : ixN xs.length (-1) = some (xs.length - 1) := by
    unfold ixN
    rw [if_neg (by decide), if_pos (by omega)]
    congr 1
    omega
  unfold atI
  rw [e]
  rfl
/-- the same over a tuple -/
theorem w_forGTP {tl : TE} {g : TG} (h : EvP tl s H P) (hp : ∀ v H1, Ex H H1 → P v H1 → ∃ (a : Addr) (xs : List V) (Pv : Nat → L2.St → Hp → Prop), v = .ref a ∧ SqT K H1 a xs ∧ (∀ H2, Ex H1 H2 → Pv 0 s H2) ∧ (∀ i s' H', i ≤ xs.length → Pv i s' H' → SqT K H' a xs) ∧
    (∀ i x s' H', xs[i]? = some x → Pv i s' H' → g x s' H' fun s2 H2 => tu { D with nx := Pv (i + 1), ct := Pv (i + 1), bk := tz D } s2 H2) ∧ (∀ s' H', Pv xs.length s' H' → Sv tz D s' H')) : Sv (tSeq (tFor (iTup K tl) g tu) tz) D s H := fun H1 e1 =>
  h H1 e1 _ fun v H2 e2 p => by
    obtain ⟨a, xs, Pv, ev, h1, h2, h3, h4, h5⟩ := hp v H2 (e1.trans e2) p
    subst ev
    exact q_forT (tl := tC (.ref a)) (σ := s) (H := H2) ev_c h1 Pv h2 h3 h4 (fun s' H' p => (h5 s' H' p).go)
theorem _root_.Evl.EvU.pU {xs : List V} (h : EvU te s H xs) : EvP te s H (IsU xs) := evU_p h
theorem et_tru {k : Bool} (h : Ev te s H v) (hk : ∀ H1, TruV K v H1 k) : EvT (fun σ H Q => te σ H fun x H' => ∃ k, TruV K x H' k ∧ Q k H') s H k := fun H1 e Q q => h H1 e _ fun H2 e2 => ⟨k, hk H2, q H2 e2⟩
/-- if c: x = e, x an int of which something is known behind it -/
theorem w_ifAsgP {b : Bool} {i : Nat} {v0 : V} (h : EvT t s H b) (h1 : b = true → EvP te s H P) (h0 : s.set i (some v0) = s) (h2 : b = false → ∀ H1, Ex H H1 → P v0 H1) (k : ∀ v H1, Ex H H1 → P v H1 → Sv tz D (s.set i (some v)) H1) : Sv (tSeq (tIfS t (tSeq (tAsg te (gName i)) tNext) tNext) tz) D s H :=
  w_when h (fun hb => w_asgP (h1 hb) fun v H1 e1 p => w_nx fun H2 e2 => k v H1 e1 p H2 e2) (fun hb H1 e1 => by
    have g := k v0 H1 e1 (h2 hb H1 e1) H1 (Ex.refl _)
    rw [h0] at g
    exact g)
/-- a new list, known to be new -/
def IsNL (G : Hp) (xs : List V) : V → Hp → Prop := fun x H => ∃ p, x = .ref p ∧ G p = none ∧ H p = some (.lst xs)
instance {G : Hp} {xs : List V} : MonoP (IsNL G xs) := ⟨fun e ⟨p, a, n, b⟩ => ⟨p, a, n, e _ _ b⟩⟩
theorem el_n {xs : List V} (h : EvL te s H xs) : EvP te s H (IsNL H xs) := fun H1 e Q q => h H1 e Q fun p H2 np e2 hp => q _ H2 e2 ⟨p, rfl, fresh_back e np, hp⟩
/-- a list, a tuple display, its items told by a word -/
theorem evp_lst2 {ta : TA} {P : List V → Hp → Prop} (h : EvAP ta s H P) (hz : ∀ vs H1, P vs H1 → vs.length ≤ 100000) : EvP (tLst ta) s H (fun x H2 => ∃ p vs H1, x = .ref p ∧ H p = none ∧ H2 p = some (.lst vs) ∧ P vs H1 ∧ Ex H1 H2) := fun H1 e Q q =>
  h H1 e _ fun vs H2 e2 pv => ⟨sz_of (hz vs H2 pv), fun p hp => q _ _ (e2.trans (Ex.new hp)) ⟨p, vs, H2, rfl, fresh_back (e.trans e2) hp, upd_same, pv, Ex.new hp⟩⟩
theorem evp_tup2 {ta : TA} {P : List V → Hp → Prop} (h : EvAP ta s H P) (hz : ∀ vs H1, P vs H1 → vs.length ≤ 100000) : EvP (tTup ta) s H (fun x H2 => ∃ p vs H1, x = .ref p ∧ H p = none ∧ H2 p = some (.tup vs) ∧ P vs H1 ∧ Ex H1 H2) := fun H1 e Q q =>
  h H1 e _ fun vs H2 e2 pv => ⟨sz_of (hz vs H2 pv), fun p hp => q _ _ (e2.trans (Ex.new hp)) ⟨p, vs, H2, rfl, fresh_back (e.trans e2) hp, upd_same, pv, Ex.new hp⟩⟩
/-- a loop over a list that is told by a word -/
theorem w_forGP {tl : TE} {g : TG} (h : EvP tl s H P) (hp : ∀ v H1, Ex H H1 → P v H1 → ∃ (a : Addr) (xs : List V) (Pv : Nat → L2.St → Hp → Prop), v = .ref a ∧ SqL K H1 a xs ∧ (∀ H2, Ex H1 H2 → Pv 0 s H2) ∧ (∀ i s' H', i ≤ xs.length → Pv i s' H' → SqL K H' a xs) ∧
    (∀ i x s' H', xs[i]? = some x → Pv i s' H' → g x s' H' fun s2 H2 => tu { D with nx := Pv (i + 1), ct := Pv (i + 1), bk := tz D } s2 H2) ∧ (∀ s' H', Pv xs.length s' H' → Sv tz D s' H')) : Sv (tSeq (tFor (iList K tl) g tu) tz) D s H := fun H1 e1 =>
  h H1 e1 _ fun v H2 e2 p => by
    obtain ⟨a, xs, Pv, ev, h1, h2, h3, h4, h5⟩ := hp v H2 (e1.trans e2) p
    subst ev
    exact q_forL (tl := tC (.ref a)) (σ := s) (H := H2) ev_c h1 Pv h2 h3 h4 (fun s' H' p => (h5 s' H' p).go)
theorem cut_neg {xs : List V} {m : Nat} (h0 : 0 < m) (h : m ≤ xs.length) : cutV xs (some (-(m : Int))) none = xs.drop (xs.length - m) := by
  have e : HT.sIx xs.length 0 (some (-(m : Int))) = xs.length - m := by
    show (if -(m : Int) < 0 then (-(m : Int) + (xs.length : Int)).toNat else _) = _
    rw [if_pos (by omega)]
    omega
  unfold cutV
  rw [e, HT.sIx_none, List.take_of_length_le (by rw [List.length_drop]; omega)]
end
/-! ### defs whose code object is known; a choice of readings -/
structure FunC (K : PySem.W.Frag) (x qual : Str) (st : Stmt) (c f : Addr) (fd : FuncData) : Prop where
  ex : ∃ (oc : Value) (od : Option Addr) (kV doc pm : Value) (an : Option Addr) (ct : Value) (osl : Array (Option Value)),
    fd = PySem.W.fnOf x qual (defArgs st) (defBody st) (defScope st) .none kV doc pm an (.ref c) ct ∧ K.lookup f = some ⟨oc, od, .func fd, osl⟩ ∧ PySem.W.codeIn K (.ref c) qual = true
  kp : PySem.W.keepIn K (.ref f) = true
section
variable {P : Program} {w : World} {K : PySem.W.Frag} {mg : Str → Option Value} {base : Heap}
theorem FunC.ok {x qual : Str} {st : Stmt} {c f : Addr} {fd : FuncData} {N ps : List Str} {k : Nat} {sp : Sp} (F : FunC K x qual st c f fd) (S : FnScope N ps (defScope st)) (len : ∀ vs H Q E, sp vs H Q E → vs.length = ps.length)
    (hbody : ∀ (A : Around) (outer : List Env) (s : Shared) (H : Hp) (vs : List V) (Q : VK) (E : XK), Room k (A.deeper (envOfC qual (defScope st) s.heap.objs.size f (.ref c))) → sp vs H Q E →
      ∃ t, PSs (cxOf CX0 P w K mg base N qual (defScope st) f (.ref c) A outer s H E).nox (defBody st) t ∧ t { nx := fun _ H' => Q .non H', rt := Q } (start N vs) H) : FnOk P w K mg base CX0 (k + 1) f fd ps sp := by
  obtain ⟨oc, od, kV, doc, pm, an, ct, osl, rfl, lk, hcd⟩ := F.ex
  refine fn_of lk hcd S len fun A outer s H vs Q E hr hsp => ?_
  obtain ⟨t, h, q⟩ := hbody A outer s H vs Q E hr hsp
  exact ⟨t, h.nox, q⟩
def RawC (K : PySem.W.Frag) (mg : Str → Option Value) (x : Str) (st : Stmt) (c : Addr) (ps : List Str) : Prop := ∃ f fd, FunC K x x st c f fd ∧ mg x = some (.ref f) ∧ Binds K fd ps []
theorem RawC.ok {x : Str} {st : Stmt} {c : Addr} {ps : List Str} {CX : CXT} {k : Nat} {sp : Sp} (r : RawC K mg x st c ps) (h : ∀ f fd, FunC K x x st c f fd → FnOk P w K mg base CX k f fd ps sp) : Def P w K mg base CX k x ps sp := by
  obtain ⟨f, fd, F, g, b⟩ := r
  exact ⟨f, fd, h f fd F, g, F.kp, b⟩
end
theorem pe_or2 {X : Cx} {e : Expr} {t1 t2 : TE} (h1 : PE X e t1) (h2 : PE X e t2) : PE X e (fun σ H Q => t1 σ H Q ∨ t2 σ H Q) := ⟨fun pins s σ H Q I h => h.elim (h1.run pins s σ H Q I) (h2.run pins s σ H Q I)⟩
end Wk

set_option Elab.async false
set_option linter.all false
set_option maxRecDepth 100000
set_option maxHeartbeats 4000000
/-! Xk: what may raise. Defs whose errors have no context (L2N.CX), readings that raise (EvX ..), a def held by a local called in a try, a def that is handed the handled error. -/
namespace Wk
open PySem PySem.Spec PyProof.Rows L2 Evl
section
variable {P : Program} {w : World} {K : PySem.W.Frag} {mg : Str → Option Value} {base : Heap}
/-- an own class of errors, as the top leaves it -/
structure ErrC (K : PySem.W.Frag) (mg : Str → Option Value) (x : Str) (C : Addr) : Prop where
  ex : PySem.W.excIn K C [.type "ValueError", .type "Exception", .type "BaseException", .type "object"] "ValueError.__new__" = true
  g : mg x = some (.ref C)
  kp : PySem.W.keepIn K (.ref C) = true
  sb : PySem.W.subIn K (.ref C) (.type "BaseException") = some true
  ty : PySem.W.typeIn K (.ref C) = some (.type "type")
theorem _root_.L2.Fun.okN {x qual : Str} {st : Stmt} {f : Addr} {fd : FuncData} {N ps : List Str} {k : Nat} {sp : Sp} (F : Fun K x qual st f fd) (S : FnScope N ps (defScope st)) (len : ∀ vs H Q E, sp vs H Q E → vs.length = ps.length)
    (hbody : ∀ (cdv : Value) (A : Around) (outer : List Env) (s : Shared) (H : Hp) (vs : List V) (Q : VK) (E : XK), Room k (A.deeper (envOfC qual (defScope st) s.heap.objs.size f cdv)) → sp vs H Q E →
      ∃ t, PSs (cxOf (L2N.CX P w) P w K mg base N qual (defScope st) f cdv A outer s H E) (defBody st) t ∧ t { nx := fun _ H' => Q .non H', rt := Q } (start N vs) H) : FnOk P w K mg base (L2N.CX P w) (k + 1) f fd ps sp := by
  obtain ⟨_, _, _, _, _, _, cdv, _, _, rfl, look, code⟩ := F.ex
  exact fn_of look code S len fun A outer s H vs Q E room h => hbody cdv A outer s H vs Q E room h
/-- nothing is let out -/
theorem passN {X : Cx} : Passes (L2N.CX X.prog X.w) X E0 := fun pins σ H s e s' I h => let ⟨_, _, _, _, _, _, _, _, _, _, _, _, z⟩ := h; z.elim
theorem takesN0 {X : Cx} : L2N.Takes X (fun _ _ _ _ => False) := fun u s' h => let ⟨_, _, _, _, _, _, _, _, _, _, _, _, _, _, _, _, z⟩ := h; z.elim
end
/-! ### readings that raise -/
def EvX (te : TE) (s : L2.St) (H : Hp) : Prop := ∀ H1, Ex H H1 → ∀ Q : VK, te s H1 Q
def EvTX (t : TT) (s : L2.St) (H : Hp) : Prop := ∀ H1, Ex H H1 → ∀ Q : Bool → Hp → Prop, t s H1 Q
/-- an error of the class C, nothing known of what stands behind it but that all stays -/
def Err (C : Addr) (H : Hp) (E : XK) : Prop := ∀ H1, Ex H H1 → E (.ref C) none H1
section
variable {K : PySem.W.Frag} {s : L2.St} {H H' : Hp} {ta tb te tx tc : TE} {t u : TT} {x y z v : V} {r : R2} {P R : V → Hp → Prop} {D : Ends} {tu tw tz : TS} {tr : TA} {E : XK} {C : Addr}
theorem Err.mono (h : Err C H E) (e : Ex H H') : Err C H' E := fun H1 e1 => h H1 (e.trans e1)
theorem EvX.mono (h : EvX te s H) (e : Ex H H') : EvX te s H' := fun H1 e1 => h H1 (e.trans e1)
theorem evx_call {sp : Sp} {PP : List V → Hp → Prop} (h : EvAP tr s H PP) (hs : ∀ vs H1, Ex H H1 → PP vs H1 → ∀ Q, sp vs H1 Q E) : EvX (tCall sp [] E tr) s H := fun H1 e Q => h H1 e _ fun vs H2 e2 p => by
  rw [List.append_nil]
  exact hs vs H2 (e.trans e2) p Q
theorem evx_arg {sp : Sp} (h : EvX te s H) : EvX (tCall sp [] E (tCons te tr)) s H := fun H1 e Q => h H1 e _
theorem evx_ifB {b : Bool} (h : EvT t s H b) (h1 : b = true → EvX ta s H) (h2 : b = false → EvX tb s H) : EvX (tIf t ta tb) s H := fun H1 e Q => h H1 e _ fun H2 e2 => by
  cases b with
  | true => exact h1 rfl H2 (e.trans e2) Q
  | false => exact h2 rfl H2 (e.trans e2) Q
theorem w_dropX (h : EvX te s H) : Sv (tSeq (tDrop te) tz) D s H := fun H1 e1 => h H1 e1 _
theorem w_retX (h : EvX te s H) : Sv (tSeq (tRet te) tz) D s H := fun H1 e1 => h H1 e1 _
theorem w_asgX {g : TG} (h : EvX te s H) : Sv (tSeq (tAsg te g) tz) D s H := fun H1 e1 => h H1 e1 _
/-- raise C(..) -/
theorem w_raise (h : Err C H E) : Sv (tSeq (fun _ σ H => (fun (_ : L2.St) (H : Hp) (Q : XK) => Q (.ref C) none H) σ H fun cls d H' => (fun cls d (_ : L2.St) H => E cls d H) cls d σ H') tz) D s H := fun H1 e1 => h H1 e1
end
/-! ### a local that holds a def, called in a try -/
structure AskAt (P : Program) (w : World) (K : PySem.W.Frag) (mg : Str → Option Value) (base : Heap) (k : Nat) (f : Addr) (sp : Sp) : Prop where
  ex : ∃ (fd : FuncData) (ps : List Str), FnOk P w K mg base (L2N.CX P w) k f fd ps sp ∧ PySem.W.keepIn K (.ref f) = true ∧ Binds K fd ps []
def tCallI (P : Program) (w : World) (K : PySem.W.Frag) (mg : Str → Option Value) (base : Heap) (k i : Nat) (W : WX) (t : TA) : TE := fun σ H Q => ∃ f sp, σ[i]? = some (some (.ref f)) ∧ AskAt P w K mg base k f sp ∧ t σ H fun vs H1 => sp vs H1 Q (WE W σ)
section
variable {X : Cx} {k i : Nat} {x : Str} {p pos : Pos} {e : Expr} {es : List Expr} {t : TA} {W : WX}
theorem pe_callI (hr : Room k X.A) (hN : X.N[i]? = some x) (hv : Vis X.env.scope x) (tk : L2N.Takes X W) (ha : PA X (e :: es) t) (hdb : (x == ("__debug__" : Str)) = false := by decide) (hcd : (x == ("__classdict__" : Str)) = false := by decide)
    (he : starEach (e :: es) X.env = (false, eval e X.env) :: starEach es X.env := by rfl) (hpl : (backTo pos (starEach es X.env)).any (·.1) = false := by rfl) : PE X (.Call (.Name x p) (e :: es) [] pos) (tCallI X.prog X.w X.K X.mg X.base k i W t) := by
  refine ⟨fun pins s σ H Q I ⟨f, sp, slot, ⟨fd, ps, F, kp, bd⟩, args⟩ => ?_⟩
  refine wpAny_Call_Name_kw (thn ((pe_var (pos := p) hN hv hdb hcd).run pins s σ H (fun v H1 => v = .ref f ∧ H1 = H) I ⟨.ref f, slot, rfl, rfl⟩) fun u s1 h1 => ?_)
  obtain ⟨v, H1, I1, r1, rfl, rfl⟩ := h1
  cases r1
  exact PySem.W.callWith_K (h₀ := X.base) I.ok.mod.kin kp (thn (ha.run pos pins s1 σ _ _ I1 args) fun us s2 h2 => let ⟨vs, H2, I2, r, q⟩ := h2; ⟨I2.kIn, run_fnS F hr bd (L2N.passAt tk σ) I2 r q⟩) he hpl
end
/-! ### a def that is handed the error which is being handled -/
structure FnP (P : Program) (w : World) (K : PySem.W.Frag) (mg : Str → Option Value) (base : Heap) (k : Nat) (f : Addr) (fd : FuncData) (ps : List Str) (sp : Addr × Obj → Sp) : Prop where
  ln : ∀ p vs H Q E, sp p vs H Q E → vs.length = ps.length
  go : ∀ (p : Addr × Obj) (vs : List V) (us : List Value) (args : Args) (H : Hp) (Q : VK) (E : XK) (s : Shared) (outer : List Env) (A : Around), sp p vs H Q E → Vals vs us → BindsTo s fd args (ps.zip us) → L2H.RoomH k A → L2H.Hot1 A p → L2H.PinOk outer H s p →
    Env0 P w K mg base A outer s H → codeAny (model P w) A (.call (.ref f) args) (CR CX0 outer P w H s Q E) s
section
variable {P : Program} {w : World} {K : PySem.W.Frag} {mg : Str → Option Value} {base : Heap}
theorem _root_.L2.Fun.okP {x qual : Str} {st : Stmt} {f : Addr} {fd : FuncData} {N ps : List Str} {k : Nat} {sp : Addr × Obj → Sp} (F : Fun K x qual st f fd) (S : FnScope N ps (defScope st)) (len : ∀ p vs H Q E, sp p vs H Q E → vs.length = ps.length)
    (hbody : ∀ (cdv : Value) (A : Around) (outer : List Env) (s : Shared) (H : Hp) (vs : List V) (Q : VK) (E : XK) (p : Addr × Obj), sp p vs H Q E →
      ∃ t, PSs (L2H.cxH CX0 P w K mg base N qual (defScope st) f cdv A outer s H E p) (defBody st) t ∧ t { nx := fun _ H' => Q .non H', rt := Q } (start N vs) H) : FnP P w K mg base (k + 1) f fd ps sp := by
  obtain ⟨_, _, _, _, _, _, cdv, _, _, rfl, look, code⟩ := F.ex
  refine ⟨len, fun p vs us args H Q E s outer A h r bd room hot pin e0 => ?_⟩
  have n1 := len _ _ _ _ _ h
  have kin : K.In s.heap := e0.mod.kin.keeps fun a u z => (e0.bs a u z).1
  have lim : s.heap.NoLimit := e0.mod.nolimit.keeps fun a u z => (e0.bs a u z).1
  have kinds : ∀ y ∈ ps.zip us, (defScope st).names.lookup y.1 = some .local ∨ ((defScope st).names.lookup y.1 = some .cell ∧ ((cellsFrom (s.heap.objs.size + 1) (defScope st).names []).lookup y.1).isSome = true) := fun y hy =>
    (S.par y.1 (List.of_mem_zip (a := y.1) (b := y.2) hy).1).imp id fun q => ⟨q, PySem.W.cellsFrom_some _ _ _ (.inl q)⟩
  refine codeAny_call_function room.depth (kin _ _ look) rfl S.co S.gen rfl (PySem.W.codeRec_of kin code) (bd _ _ _ _ ?_)
  refine wpAny_newFunctionEnv_cells S.kind kinds fun env ee s1 ic => ?_
  subst ee
  obtain ⟨t, ht, q⟩ := hbody cdv A outer s H vs Q E p h
  refine ⟨lim.keeps ic.toInCall.keep, codeAny_func (wpAny_mono (ht.run [] s1 (start N vs) H _ (L2H.inv_startH S pin e0 n1 r ic) q) (fun fl s' z => ?_) fun _ _ z => z)⟩
  cases fl with
  | brk => exact z.elim fun _ z => z.elim fun _ z => z.2.elim
  | cont => exact z.elim fun _ z => z.elim fun _ z => z.2.elim
  | next =>
    obtain ⟨_, H2, J, z⟩ := z
    exact ⟨V.non, H2, J.os, J.bare, J.base, J.hok, rfl, z⟩
  | ret u =>
    obtain ⟨v, _, H2, J, rv, z⟩ := z
    exact ⟨v, H2, J.os, J.bare, J.base, J.hok, rv, z⟩
end
section
variable {X : Cx} {k : Nat} {f : Addr} {fd : FuncData} {ps : List Str} {sp : Addr × Obj → Sp} {sp' : Sp} {p : Addr × Obj} {x : Str} {q pos : Pos} {e : Expr} {es : List Expr} {t : TA}
theorem pe_callP (F : FnP X.prog X.w X.K X.mg X.base k f fd ps sp) (room : L2H.RoomH k X.A) (hot : L2H.Hot1 X.A p) (hp : p ∈ X.pn) (hg : Gl X x) (hm : X.mg x = some (.ref f)) (kp : PySem.W.keepIn X.K (.ref f) = true) (bd : Binds X.K fd ps []) (ha : PA X (e :: es) t)
    (imp : ∀ vs H Q, sp' vs H Q E0 → sp p vs H Q E0) (hdb : (x == ("__debug__" : Str)) = false := by decide) (he : starEach (e :: es) X.env = (false, eval e X.env) :: starEach es X.env := by rfl) (hpl : (backTo pos (starEach es X.env)).any (·.1) = false := by rfl) :
    PE X (.Call (.Name x q) (e :: es) [] pos) (tCall sp' [] E0 t) := by
  refine ⟨fun pins s σ H Q I h => wpAny_Call_Name_kw (ld_glob I hg hm ?_ hdb)⟩
  refine PySem.W.callWith_K (h₀ := X.base) I.ok.mod.kin kp (thn (ha.run pos pins s σ H _ I h) fun us s1 h1 => ?_) he hpl
  obtain ⟨vs, H1, I1, r, z⟩ := h1
  rw [List.append_nil] at z
  have z := imp _ _ _ z
  have n1 : us.length = ps.length := by rw [← r.length]; exact F.ln _ _ _ _ _ z
  have b := bd s1 us I1.kIn (by rw [List.append_nil]; exact n1)
  rw [List.append_nil] at b
  have pk := I1.pin p (List.mem_append_left _ hp)
  have pin : L2H.PinOk X.stack H1 s1 p := ⟨pk.1, pk.2.1, fun m => (List.mem_cons.mp (I1.stkSub p.1 m)).elim pk.2.2.1 pk.2.2.2.1, pk.2.2.2.2⟩
  refine ⟨I1.kIn, wpAny_call (codeAny_mono (F.go p vs us ⟨us, []⟩ H1 Q E0 s1 X.stack X.A z r b room hot pin I1.env0) fun res s' z => ?_)⟩
  match res, z with
  | .ok (.ret u), z => exact I1.after z
/-- isinstance(e, c), e the error that is being handled: the class is D -/
def rIsP (K : PySem.W.Frag) (a D : Addr) : List V → Hp → VK → Prop := fun xs H Q => ∃ (c : V) (cv : Value) (b : Bool), xs = [.ref a, c] ∧ ClsV c cv ∧ PySem.W.kitOne K (.ref D) cv = some b ∧ Q (.bl b) H
theorem call_isP {D : Addr} (C : ExcC X.K D) (hc : p.2.cls = .ref D) (hd : p.2.dict = none) (hf : ∃ vs, p.2.data = .fields vs) (hp : p ∈ X.pn) : CallR X (.builtin "isinstance") (rIsP X.K p.1 D) := by
  intro pins s σ H xs us Q I r h
  obtain ⟨c, cv, b, rfl, k, e, z⟩ := h
  obtain ⟨u1, u2, eu, r1, r2⟩ := vals2 r
  subst eu
  cases r1
  have e2 := k.eq r2
  subst e2
  have at1 : PySem.W.InstAt s.heap p.1 p.2 D none := by
    have g := (I.pin p (List.mem_append_left _ hp)).1
    obtain ⟨a, oc, od, dt, sl⟩ := p
    obtain ⟨vs, hf⟩ := hf
    simp only at hc hd hf g
    subst hc hd hf
    exact ⟨g, rfl, rfl, trivial⟩
  exact PySem.W.kia_one (PySem.W.handS_kitx_exc C.hg C.hk C.hs C.hd C.ha C.hn C.ht C.hm) I.kIn at1 e (fun z => nomatch z) fun tk => ⟨.bl b, H, I.kept (t' := tk) fun _ _ z => z, rfl, z⟩
end
section
variable {K : PySem.W.Frag} {s : L2.St} {H : Hp} {ta tc : TE}
theorem ev_isp {a D : Addr} {c : V} {cv : Value} {b : Bool} (ha : Ev ta s H (.ref a)) (hc : Ev tc s H c) (k : ClsV c cv) (e : PySem.W.kitOne K (.ref D) cv = some b) : Ev (tCB (rIsP K a D) (tCons ta (tCons tc tNil))) s H (.bl b) :=
  ev_cbP (ap_two ha.p hc.p) fun vs H1 _ ⟨v, w, ev, pv, pw⟩ H2 e2 Q q => ⟨c, cv, b, by rw [ev, pv, pw], k, e, q H2 (Ex.refl H2)⟩
end
end Wk

set_option Elab.async false
set_option linter.all false
set_option maxRecDepth 100000
set_option maxHeartbeats 4000000
/-! Lx: a list comprehension whose element may raise (over KE.GoesComp's comprehension_at): what leaves the block is in the def's own air. -/
namespace Wk
open PySem PySem.Spec PyProof.Rows L2 Evl
/-! ### noted by the frame that it passes -/
section
variable {M : Model} {A : Around} {E : Value → Shared → Prop} {s : Shared} {Z : Obj → Prop} {G : Heap} {env : Env} {outer l : List Env} {L a : Addr}
/-- an error that was noted by whatever it was -/
theorem noted_any {fl : Value} {Q : Unit → Shared → Prop} (hZ : PySem.PXN.Steady1 Z) (frames : A.frames = some (env :: outer)) (fr : env.frame = some L) (stays : G.StaysIn s.heap) (new : G.get? a = none) (ff : s.heap.FunFrames G (env :: outer)) (tr : HandSPX.TracedZ s.heap G a Z fl)
    (k : ∀ h', HandSPX.HeldZ G (env :: outer) a Z L h' → s.heap.UpToSlots h' → Q () { s with heap := h' }) : wpAny M A (noteFrame (.ref a) env) Q E s := by
  by_cases hfl : fl = rawInt L
  · subst hfl
    exact HandSPX.againZ fr tr (k s.heap ⟨stays, new, ff, tr⟩ (Heap.UpToSlots.refl _))
  · obtain ⟨oa, va, t, ot, vt, at1, za, da, v1, tn, ta, at2, dt, v3⟩ := tr
    unfold noteFrame
    simp only [fr]
    refine wpAny_bind (wpAny_field at1 da v1 ?_)
    rw [if_pos (show (Value.ref t != Value.none) = true from by simp)]
    refine wpAny_bind (wpAny_field at2 dt v3 ?_)
    rw [if_neg (show ¬ ((fl == rawInt L) = true) from fun z => hfl (by simpa using z))]
    refine wpAny_bind (wpAny_setField at2 dt (Array.getElem?_eq_some_iff.mp v3).1 ?_)
    have rest : ∀ b, b ≠ t → (s.heap.update t (Obj.mapFields (·.setIfInBounds 3 Value.none))).get? b = s.heap.get? b := fun b n => Heap.get?_update_other _ _ (Ne.symm n)
    have plain : ∀ b u, s.heap.get? b = some u → (∀ vs, u.data ≠ .fields vs) → b ≠ t := fun b u hb nf z => by
      rw [z, at2] at hb
      exact nf vt (by rw [← Option.some.inj hb]; exact dt)
    refine PySem.PXN.wpAny_entryZ hZ frames (ff.of_keeps fun b u hb nf => ⟨u, (rest b (plain b u hb nf)).trans hb, rfl⟩) fr ((rest a (Ne.symm ta)).trans at1) (fun b u hb => (rest b fun z => by rw [z, tn] at hb; cases hb).trans (stays b u hb)) new da (Array.getElem?_eq_some_iff.mp v1).1 za fun h' n => ?_
    exact k h' ⟨n.1, new, n.2.1, n.2.2.1⟩ fun b u hb nf => n.2.2.2 b u ((rest b (plain b u hb nf)).trans hb) nf
theorem sky_noted {C : Addr} {Q : Unit → Shared → Prop} (hZ : PySem.PXN.Steady1 Z) (frames : A.frames = some (env :: outer)) (fr : env.frame = some L) (x : Sky G (env :: outer) a Z C s.heap)
    (k : ∀ h', HandSPX.HeldZ G (env :: outer) a Z L h' → s.heap.UpToSlots h' → Q () { s with heap := h' }) : wpAny M A (noteFrame (.ref a) env) Q E s := by
  rcases x with ⟨st, nw, ff, oa, va, at1, za, da, v1⟩ | ⟨st, nw, ff, tr⟩ | ⟨st, nw, ff, tr⟩
  · exact PySem.PXN.look_newZ hZ frames ff fr at1 st nw da v1 za k
  · exact noted_any hZ frames fr st nw ff tr k
  · exact noted_any hZ frames fr st nw ff tr k
theorem note_frame {e e' : Env} (h : e.frame = e'.frame) (x : Value) : noteFrame x e = noteFrame x e' := by
  unfold noteFrame PySem.frameOf
  rw [h]
end
/-! ### the block -/
abbrev blkE (X : Cx) (s : Shared) (H : Hp) (scope : Scope) (ce : Env) (fp : List Addr) (xe : Value → Shared → Prop) : Cx := { X.blk s H scope ce fp with xe := xe }
section
variable {X : Cx} {pins : List (Addr × Obj)} {σ : L2.St} {H3 : Hp} {s3 : Shared} {scope : Scope} {ce : Env} {fp : List Addr} {use : Option (Value → Sem Unit)} {Qf : Value → Shared → Prop} {E : XK}
/-- what the block lets out is in the def's air -/
theorem takes_blk (hs : X.stack = X.env :: X.outer) (hf : X.env.frame = some X.env.locals) (tk : L2N.Takes X (fun cls d _ H => E cls d H)) (I3 : Inv X pins σ H3 s3) (f3 : ∀ b ∈ fp, FpOk X pins H3 b ∧ b < s3.heap.objs.size) (hce : ce.frame = X.env.frame) (hcL : ce.locals = s3.heap.objs.size) (D : Value) :
    L2N.Takes (blkE X s3 H3 scope ce fp (notedBy (model X.prog X.w) X.A ce fun e s' => compEnds (model X.prog X.w) X.A X.xe use Qf D ce (.error e) s')) (fun cls d _ H => E cls d H) := by
  rintro u s' ⟨a, G, sI, pinsB, σB, H', cls, d, rfl, IB, nb, up, sky, na, os, ag, w⟩
  have frames : X.A.frames = some (X.env :: X.outer) := by rw [← hs]; exact I3.ok.frames
  have sky : Sky G (X.env :: X.outer) a (L2N.Zn cls d) ce.locals s'.heap := by rw [← hs]; exact sky
  have nb : ∀ b o, sI.heap.get? b = some o → b ∉ frs X.stack → G.get? b = some o := nb
  have nC : H' ce.locals = none := IB.free
  have fC : FpOk X pins H' ce.locals := I3.fpOk (Nat.le_of_eq hcL.symm) nC
  have Cfr : ce.locals ∉ frs X.stack := fun z => (List.mem_cons.mp (I3.stkSub _ z)).elim fC.2.1 fC.2.2.1
  show wpAny (model X.prog X.w) X.A (noteFrame (.ref a) ce) _ _ s'
  rw [note_frame hce]
  refine sky_noted L2N.Zn.steady frames hf sky fun h1 held up1 => ?_
  obtain ⟨mm, hn, _⟩ := IB.loc
  have hn : sI.heap.Ns ce.locals mm := hn
  obtain ⟨oC, _, _, getC, _⟩ := id hn
  refine ⟨mm, hn.at' fun o e => held.1 _ _ (nb _ o e Cfr), fun h2 m2 _ sb => ?_⟩
  obtain ⟨st, nw, ff, oa, va, t, ot, vt, at1, za, da, v1, tn, ta, at2, dt, v3⟩ := held
  have ff : h1.FunFrames G X.stack := by rw [hs]; exact ff
  -- what is new stands in no frame, nor in the state without it
  have notI : ∀ {b : Addr} {o : Obj} {vs : Array Value}, h1.get? b = some o → o.data = .fields vs → G.get? b = none → sI.heap.get? b = none := fun {b o vs} e dd gn => by
    cases q : sI.heap.get? b with
    | none => rfl
    | some o2 =>
      by_cases hb : b ∈ frs X.stack
      · obtain ⟨_, o3, e3, nf⟩ := ff.mem hb
        rw [e] at e3
        cases e3
        exact absurd dd (nf vs)
      · rw [nb b o2 q hb] at gn
        cases gn
  have aI := notI at1 da nw
  have tI := notI at2 dt tn
  have aC : a ≠ ce.locals := fun z => by
    have q := nb _ _ getC Cfr
    rw [← z, nw] at q
    cases q
  have tC : t ≠ ce.locals := fun z => by
    have q := nb _ _ getC Cfr
    rw [← z, tn] at q
    cases q
  obtain ⟨G2, g1, g2⟩ := restrict h2 fun b => (sI.heap.get? b).isSome
  have inG : ∀ b o, G2.get? b = some o → h2.get? b = some o ∧ ∃ o2, sI.heap.get? b = some o2 := fun b o e => by
    cases q : sI.heap.get? b with
    | none => rw [g2 b (by simp [q])] at e; cases e
    | some o2 => rw [g1 b (by simp [q])] at e; exact ⟨e, o2, rfl⟩
  have keepG : ∀ b o, sI.heap.get? b = some o → b ∉ frs X.stack → b ≠ ce.locals → G2.get? b = some o := fun b o e h1b h2b => by
    rw [g1 b (by simp [e])]
    exact (sb.2 b h2b).trans (st b o (nb b o e h1b))
  have slotG : ∀ b o, sI.heap.get? b = some o → b ∈ frs X.stack → ∃ sl, G2.get? b = some { o with slots := sl } := fun b o e hb => by
    obtain ⟨_, o2, e2, nf⟩ := IB.stack.mem (show b ∈ frs (blkE X s3 H3 scope ce fp _).stack from hb)
    rw [e] at e2
    cases e2
    obtain ⟨sl, q1⟩ := up b o e nf
    obtain ⟨sl2, q2⟩ := up1 b _ q1 nf
    refine ⟨sl2, ?_⟩
    rw [g1 b (by simp [e])]
    exact (sb.2 b fun z => Cfr (z ▸ hb)).trans q2
  have I7 : Inv X pins σ H' sI := I3.call' (ch := fp) IB.os IB.base IB.hok IB.bare fun b hb => ⟨(f3 b hb).1.2.2.2.1, (f3 b hb).1.2.1, (f3 b hb).1.2.2.2.2.1, (f3 b hb).1.2.2.2.2.2⟩
  have hokG : HOk X.prog X.w H' G2 := fun b o q => (I7.hok b o q).stay (fun c v hc r => keepG c v r (fun z => by
      have q1 := I7.stkFree c z
      rcases hc with hc | hc
      · rw [hc, q] at q1; cases q1
      · rw [hc] at q1; cases q1) fun z => by
      rcases hc with hc | hc
      · rw [← hc, z, nC] at q; cases q
      · rw [z, nC] at hc; cases hc) (fun _ r => r) fun _ _ r => r
  have J : Inv X pins σ H' { s' with heap := G2 } := I7.call' (ch := [ce.locals]) (s' := { s' with heap := G2 }) os ⟨fun b o e _ h1b h2b => keepG b o e h1b fun z => h2b (by rw [z]; exact List.mem_singleton.mpr rfl), fun b o e _ hb _ => slotG b o e hb, fun _ _ _ n _ => n, fun b o e h2b => by
      by_cases hb : b ∈ frs X.stack
      · obtain ⟨sl, q⟩ := slotG b o e hb
        exact ⟨_, q⟩
      · exact ⟨o, keepG b o e hb fun z => h2b (by rw [z]; exact List.mem_singleton.mpr rfl)⟩, fun _ _ e => e, fun _ _ _ e => e, fun b ps e => ⟨#[], by rw [e]; simp⟩⟩ hokG ag (fun b hb => by
      rw [List.mem_singleton.mp hb]
      exact ⟨fC.2.2.2.1, fC.2.1, fC.2.2.2.2.1, fC.2.2.2.2.2⟩)
  have st2 : (PySem.W.hideAll G2 (frs X.stack)).StaysIn h2 := fun b o e => (inG b o (PySem.W.of_hideAll _ e)).1
  have nwG : ∀ {b : Addr}, sI.heap.get? b = none → (PySem.W.hideAll G2 (frs X.stack)).get? b = none := fun {b} q => by
    cases e : (PySem.W.hideAll G2 (frs X.stack)).get? b with
    | none => rfl
    | some o =>
      obtain ⟨_, o2, q2⟩ := inG b o (PySem.W.of_hideAll _ e)
      rw [q] at q2
      cases q2
  have ff2 : h2.FunFrames (PySem.W.hideAll G2 (frs X.stack)) X.stack := funFrames_none (J.stack.of_keeps fun b o e _ => ⟨o, (inG b o e).1, rfl⟩) fun b hb => PySem.W.hideAll_none _ hb
  have held2 : HandSPX.HeldZ (PySem.W.hideAll G2 (frs X.stack)) X.stack a (L2N.Zn cls d) X.env.locals h2 := ⟨st2, nwG aI, ff2, oa, va, t, ot, vt, (sb.2 a aC).trans at1, za, da, v1, nwG tI, ta, (sb.2 t tC).trans at2, dt, v3⟩
  show wpAny (model X.prog X.w) X.A (passOn "comprehension.variables-let-go" (.ref a) ce : Sem Value) _ _ _
  unfold PySem.passOn
  refine wpAny_bind (wpAny_field (s := { s' with heap := h2 }) ((sb.2 a aC).trans at1) da v1 ?_)
  rw [if_neg (show ¬ ((Value.ref t == Value.none) = true) from by simp)]
  have fin : wpAny (model X.prog X.w) X.A (setFlight (.ref a) ce.frame) (fun _ s4 => wpAny (model X.prog X.w) X.A (throw (.ref a) : Sem Value) (fun _ _ => False) X.xe s4) X.xe { s' with heap := h2 } := by
    rw [hce, hf]
    refine HandSPX.setFlight_onZ held2 fun h4 held4 up4 => wpAny_throw (tk _ _ ?_)
    exact ⟨a, PySem.W.hideAll G2 (frs X.stack), { s' with heap := G2 }, pins, σ, H', cls, d, rfl, J, fun b o e hb => PySem.W.hideAll_get _ e hb, (Heap.UpToSlots.of_keeps fun b o e => (inG b o e).1).trans up4, .inr (.inr held4), na, rfl, ag, w⟩
  first
    | exact wpAny_bind (wpAny_pure (wpAny_bind fin))
    | exact wpAny_bind fin
end
section
variable {X : Cx} {pins : List (Addr × Obj)}
theorem run_lcX {s : Shared} {σ : L2.St} {H : Hp} {Q : VK} {elt tg iter : Expr} {ifs : List Expr} {scope : Scope} {own : List (Str × Nat)} {pos pos' : Pos} {wi : TI} {g : TG} {tt : TT} {te : TE} {use : Option (Value → Sem Unit)} {Qf : Value → Shared → Prop} {Er : XK}
    (calm : X.calm = true) (ndN : X.N.Nodup) (st : X.stack = X.env :: X.outer) (fr : X.env.frame = some X.env.locals) (tk : L2N.Takes X (fun cls d _ H => Er cls d H)) (J : Inv X pins σ H s) (walk : PI X tg iter wi) (blk : BlkOk X.N X.env.scope scope own)
    (pg : ∀ (r : Shared) (M : Hp) (C : Addr) (cl : List (Str × Addr)) (fp : List Addr), PG (X.blk r M scope (compEnvC scope cl C X.env) fp) tg g) (pt : ∀ (r : Shared) (M : Hp) (C : Addr) (cl : List (Str × Addr)) (fp : List Addr), PTs (X.blk r M scope (compEnvC scope cl C X.env) fp) ifs tt)
    (pe : ∀ (r : Shared) (M : Hp) (C : Addr) (cl : List (Str × Addr)) (fp : List Addr) (xe : Value → Shared → Prop), L2N.Takes (blkE X r M scope (compEnvC scope cl C X.env) fp xe) (fun cls d _ H => Er cls d H) → PE (blkE X r M scope (compEnvC scope cl C X.env) fp xe) elt te)
    (nofold : ∀ x, foldedSetIterable iter X.env x = pure x) (wish : tLc wi g tt te (own.map (·.2)) σ H Q)
    (ends : ∀ D ce r m M, Inv X pins σ M r → Q (.ref D) M → r.heap.Ns ce.locals m → FpOk X pins M ce.locals → compEnds (model X.prog X.w) X.A X.xe use Qf (.ref D) ce (.ok .next) r) :
    wpAny (model X.prog X.w) X.A (comprehension (.ListComp elt [⟨tg, iter, ifs, 0⟩] scope pos) scope X.env pos' (newList []) false (eval iter X.env) use) Qf X.xe s := by
  have free : ∀ y ∈ scope.names, y.2 = .free → ∃ c, X.env.cells.lookup y.1 = some c := fun y hy e => (blk.free y hy e).elim (fun k => J.ok.has _ (.inl k)) fun k => J.ok.has _ (.inr k)
  refine comprehension_at (use := use) rfl nofold (closure_ok free) blk.kind (fun y hy e => by rw [blk.uniq y hy, e]) (thn (walk.run pins s σ H _ J wish) fun xv r1 hx => thn hx fun itv r2 got => ?_)
  obtain ⟨it, fp, tn, It0, M2, e, J2, T, tn2, fok, q⟩ := got
  subst e
  refine wpAny_newObj_type (newEnv_comp ?_) (by show 0 ≤ sizeLine; decide)
  generalize hD : r2.heap.objs.size = D
  obtain ⟨W, ⟨m0, w0⟩, turn⟩ := q D (J2.hok.fresh (Nat.le_of_eq hD))
  generalize hr3 : ({ r2 with heap := r2.heap.push { cls := .type "list", data := .seq ([] : List Value).toArray } } : Shared) = r3
  have J3 : Inv X pins σ (upd M2 D (.lst [])) r3 := by
    rw [← hr3]
    refine J2.laid (t' := r2.toks) (fun b o e => Heap.get?_push_of_some _ e) (Nat.le_of_eq hD) ⟨Nat.zero_le _, [], 0, .nil, ?_⟩
    rw [← hD]; exact Heap.get?_push_size _ rfl
  have hp3 : r3.heap = r2.heap.push { cls := .type "list", data := .seq ([] : List Value).toArray } := by rw [← hr3]
  have fok3 : ∀ b ∈ fp, FpOk X pins (upd M2 D (.lst [])) b ∧ b < r3.heap.objs.size := fun b hb => by
    obtain ⟨o, e, _⟩ := T.obj _ _ tn2 b hb
    have lt := Heap.lt_size e
    refine ⟨⟨?_, (fok b hb).2⟩, by rw [hp3, Heap.size_push]; exact Nat.lt_succ_of_lt lt⟩
    rw [upd_ne (by rw [← hD]; exact Nat.ne_of_lt lt)]; exact (fok b hb).1
  have tn3 : tn 0 r3.heap := T.keep _ _ _ tn2 fun b _ o e => by rw [hp3]; exact Heap.get?_push_of_some _ e
  have J4 := block_start J3 blk ndN fok3
  have qg := pg r3 (upd M2 D (.lst [])) r3.heap.objs.size (cellsFrom (r3.heap.objs.size + 1) scope.names (cloFrom X.env.cells scope.names [])) fp
  have qt := pt r3 (upd M2 D (.lst [])) r3.heap.objs.size (cellsFrom (r3.heap.objs.size + 1) scope.names (cloFrom X.env.cells scope.names [])) fp
  have qe := pe r3 (upd M2 D (.lst [])) r3.heap.objs.size (cellsFrom (r3.heap.objs.size + 1) scope.names (cloFrom X.env.cells scope.names [])) fp _ (takes_blk (use := use) (Qf := Qf) (ce := compEnvC scope (cellsFrom (r3.heap.objs.size + 1) scope.names (cloFrom X.env.cells scope.names [])) r3.heap.objs.size X.env) st fr tk J3 fok3 rfl rfl (.ref D))
  show codeAny _ _ (.compStart (.ListComp elt [⟨tg, iter, ifs, 0⟩] scope pos) 0 (.ref it) (.ref D) (compEnvC scope (cellsFrom (r3.heap.objs.size + 1) scope.names (cloFrom X.env.cells scope.names [])) r3.heap.objs.size X.env)) (compEnds (model X.prog X.w) X.A X.xe use Qf (.ref D) (compEnvC scope (cellsFrom (r3.heap.objs.size + 1) scope.names (cloFrom X.env.cells scope.names [])) r3.heap.objs.size X.env)) { r3 with heap := pushCells (r3.heap.push { cls := .type "dict", data := .dict #[] }) scope.names }
  have none3 : ∀ b ∈ fp, (upd M2 D (.lst [])) b = none := fun b hb => (fok3 b hb).1.1
  generalize hce : compEnvC scope (cellsFrom (r3.heap.objs.size + 1) scope.names (cloFrom X.env.cells scope.names [])) r3.heap.objs.size X.env = ce at J4 qg qt qe ⊢
  have ceL : ce.locals = r3.heap.objs.size := by subst hce; rfl
  generalize hM3 : upd M2 D (.lst []) = M3 at J3 J4 qg qt qe w0 none3 fok3
  generalize hr4 : ({ r3 with heap := pushCells (r3.heap.push { cls := .type "dict", data := .dict #[] }) scope.names } : Shared) = r4 at J4 ⊢
  have tn4 : tn 0 r4.heap := T.keep _ _ _ tn3 fun b _ o e => by rw [← hr4]; exact pushCells_keeps _ _ _ _ (Heap.get?_push_of_some _ e)
  have still : ∀ {τ : L2.St} {M : Hp} {r : Shared}, Inv (X.blk r3 M3 scope ce fp) [] τ M r → (∀ b ∈ fp, M b = none) → ∀ b ∈ fp, FpOk (X.blk r3 M3 scope ce fp) [] M b := fun {τ M r} Jb no b hb =>
    ⟨no b hb, (Jb.ok.exf b hb).1, Jb.ok.exfs b hb, .inl hb, fun x c e => (Jb.ok.exf b hb).2 x c e, fun p hp => absurd (show p ∈ ([] : List (Addr × Obj)) ++ [] from hp) (by simp)⟩
  have loop : codeAny (model X.prog X.w) X.A (.compLoop (.ListComp elt [⟨tg, iter, ifs, 0⟩] scope pos) 0 (.ref it) (.ref D) ce) (compEnds (model X.prog X.w) X.A X.xe use Qf (.ref D) ce) r4 := by
    refine compLoop_any (fun n r => ∃ i M, Inv (X.blk r3 M3 scope ce fp) [] (wipe σ (own.map (·.2))) M r ∧ tn i r.heap ∧ (∀ b ∈ fp, M b = none) ∧ W i n M) ?_ m0 ⟨0, M3, J4, tn4, none3, w0⟩
    rintro n r5 ⟨i, M5, J5, tn5, no5, w5⟩
    rcases turn i n M5 w5 with ⟨stop, qq⟩ | ⟨go, Nx, hNx, step⟩
    · refine thnF (T.done (X.blk r3 M3 scope ce fp) rfl rfl rfl calm i [] r5 _ M5 (fun _ _ => False) J5 (still J5 no5) tn5 stop) fun r r6 ⟨hr, J6⟩ => ?_
      subst hr
      have J7 : Inv X pins σ M5 r6 := J3.call' (ch := fp) J6.os J6.base J6.hok J6.bare fun b hb => ⟨(fok3 b hb).1.2.2.2.1, (fok3 b hb).1.2.1, (fok3 b hb).1.2.2.2.2.1, (fok3 b hb).1.2.2.2.2.2⟩
      have noC : M5 ce.locals = none := J6.free
      obtain ⟨m, hn, _⟩ := J6.loc
      exact ends D ce r6 m M5 J7 qq hn (by rw [ceL] at noC ⊢; exact J3.fpOk (Nat.le_refl _) noC)
    · refine thnF (T.item (X.blk r3 M3 scope ce fp) rfl rfl rfl calm i [] r5 _ M5 (fun _ _ => False) J5 (still J5 no5) tn5 go) fun r r6 ⟨u, hr, h6⟩ => ?_
      subst hr
      refine thnF h6 fun _ r7 ⟨x, M7, J7, rv7, y7, tn7, no7⟩ => ?_
      have J7p := J7.pinned (still J7 no7) (T.obj _ _ tn7)
      refine thnF (qg.run _ r7 _ M7 x u _ J7p rv7 (step x M7 y7)) fun _ r8 ⟨σ8, M8, J8, hw8, q8⟩ => ?_
      refine thnF (qt.run _ r8 σ8 M8 _ J8 q8) fun b r9 ⟨M9, J9, q9⟩ => ?_
      have turned : ∀ {r : Shared} {M : Hp}, Inv (X.blk r3 M3 scope ce fp) ([] ++ pinsAt fp r7.heap) σ8 M r → Nx M → ∃ m, m < n ∧ ∃ i M, Inv (X.blk r3 M3 scope ce fp) [] (wipe σ (own.map (·.2))) M r ∧ tn i r.heap ∧ (∀ b ∈ fp, M b = none) ∧ W i m M := fun {r M} Jb nx => by
        obtain ⟨m1, lt1, w1⟩ := hNx M nx
        have pin1 : ∀ b ∈ fp, ∀ o, r7.heap.get? b = some o → r.heap.get? b = some o ∧ M b = none := fun b hb o e => ⟨(Jb.pin (b, o) (List.mem_append_right _ (List.mem_append_right _ (mem_pinsAt hb e)))).1, (Jb.pin (b, o) (List.mem_append_right _ (List.mem_append_right _ (mem_pinsAt hb e)))).2.1⟩
        refine ⟨m1, lt1, i + 1, M, (Jb.unpinned (pins := [])).weak (by rw [← hw8, wipe_length]) (fun j v e => by rw [← hw8] at e; exact (wipe_some e).1), T.keep _ _ _ tn7 fun b hb o e => (pin1 b hb o e).1, fun b hb => ?_, w1⟩
        obtain ⟨o, e, _⟩ := T.obj _ _ tn7 b hb
        exact (pin1 b hb o e).2
      cases b with
      | false =>
        rw [if_neg (by decide)] at q9 ⊢
        exact turned J9 q9
      | true =>
        rw [if_pos rfl] at q9 ⊢
        have run := qe.run _ r9 σ8 M9 _ (Inv.unwish (X := blkE X r3 M3 scope ce fp _) (E := fun _ _ => False) J9) q9
        refine wpAny_mono run (fun z r10 got => ?_) fun _ _ z => z
        obtain ⟨yv, M10, J10, rv10, acc, hD10, hz10, nx⟩ := got
        exact app_ok (X := X.blk r3 M3 scope ce fp) (Inv.wish J10 fun _ _ => False) hD10 hz10 rv10 fun r11 J11 => turned J11 nx
  exact codeAny_compStart_list loop (T.self X.A 0 _ _ _ tn4 loop)
theorem ps_setLcX {i : Nat} {y : Str} {py : Pos} {elt tg iter : Expr} {ifs : List Expr} {scope : Scope} {own : List (Str × Nat)} {pos spos : Pos} {wi : TI} {g : TG} {tt : TT} {te : TE} {Er : XK} (calm : X.calm = true) (ndN : X.N.Nodup) (st : X.stack = X.env :: X.outer) (fr : X.env.frame = some X.env.locals)
    (tk : L2N.Takes X (fun cls d _ H => Er cls d H)) (at_ : X.N[i]? = some y) (loc : X.env.scope.names.lookup y = some .local) (swp : swapsWith (.ListComp elt [⟨tg, iter, ifs, 0⟩] scope pos) (some (.Name y py)) spos.line X.env = pure true) (walk : PI X tg iter wi) (blk : BlkOk X.N X.env.scope scope own)
    (pg : ∀ (r : Shared) (M : Hp) (C : Addr) (cl : List (Str × Addr)) (fp : List Addr), PG (X.blk r M scope (compEnvC scope cl C X.env) fp) tg g) (pt : ∀ (r : Shared) (M : Hp) (C : Addr) (cl : List (Str × Addr)) (fp : List Addr), PTs (X.blk r M scope (compEnvC scope cl C X.env) fp) ifs tt)
    (pe : ∀ (r : Shared) (M : Hp) (C : Addr) (cl : List (Str × Addr)) (fp : List Addr) (xe : Value → Shared → Prop), L2N.Takes (blkE X r M scope (compEnvC scope cl C X.env) fp xe) (fun cls d _ H => Er cls d H) → PE (blkE X r M scope (compEnvC scope cl C X.env) fp xe) elt te)
    (nofold : ∀ x, foldedSetIterable iter X.env x = pure x := by intro _; rfl) : PS X (.Assign [.Name y py] (.ListComp elt [⟨tg, iter, ifs, 0⟩] scope pos) spos) (tAsg (tLc wi g tt te (own.map (·.2))) (gName i)) := by
  refine ⟨fun pins r σ H D J want => ?_⟩
  rw [exec_Assign_Name_used _ _ _ _ swp]
  refine wpAny_bind (wpAny_standAt (wpAny_bind ?_))
  show wpAny _ X.A (do let _ ← comprehension (.ListComp elt [⟨tg, iter, ifs, 0⟩] scope pos) scope X.env (firstIterPos [⟨tg, iter, ifs, 0⟩] pos) (newList []) false (eval iter X.env) (some (assign (.Name y py) X.env))) _ _ r
  refine wpAny_bind (thn (run_lcX (Q := fun x H1 => gName i x σ H1 D.nx) (Qf := fun _ s' => SP X pins D .next s') calm ndN st fr tk J walk blk pg pt pe nofold want fun L ce r1 m M J1 q hn f => ?_) fun _ _ got => wpAny_pure (wpAny_pure got))
  show wpAny _ _ (assign (.Name y py) X.env (.ref L)) _ _ _
  refine wpAny_assign_Name (store_ok2 (v := V.ref L) J1 ndN at_ (.inl loc) rfl (fun r2 J2 ⟨a, sb, ha⟩ => ?_) (.inr loc))
  obtain ⟨f0, f1, f2, f3, f4, f5⟩ := f
  have away : ce.locals ≠ a := ha.elim (fun z => by rw [z]; exact f1) fun z => fun e => f4 y a z e.symm
  refine ⟨m, hn.sameBut sb away, fun h3 sb3 => ?_⟩
  exact ⟨_, M, J2.turned (t' := r2.toks) (fun b o hb e => (sb3.2 b hb).trans e) f0 f1 f3 f4 f5, q⟩
end
/-! ### its reading, where some element raises -/
section
variable {K : PySem.W.Frag} {s : L2.St} {H : Hp} {te tl : TE}
theorem evx_mapN {α : Type} {j : Nat} {vs : List Nat} (l : List α) (c : α → V) (w : α → V) (good : α → Bool) (h : EvP tl s H (IsL (l.map c))) (hz : l.length ≤ 100000) (hw : ∀ x, wipe ((wipe s vs).set j (some x)) vs = wipe s vs)
    (yes : ∀ x ∈ l, good x = true → Ev te ((wipe s vs).set j (some (c x))) H (w x)) (no : ∀ x ∈ l, good x = false → EvX te ((wipe s vs).set j (some (c x))) H) (some_ : l.all good = false) : EvX (tLc (iList K tl) (gName j) tYes te vs) s H := fun H0 e Q =>
  h H0 e _ fun v H1 e1 ⟨a, ev, hx⟩ => ⟨a, ev, ⟨_, sq_of hx⟩, fun Dl hD =>
  lc_list (xs := l.map c) (fun i H' => Cx2 H1 l (fun _ => true) w Dl i H' ∧ (l.take i).all good = true) ⟨⟨hD, Ex.new hD, by rw [List.take_zero]; exact upd_same⟩, by rw [List.take_zero]; rfl⟩ (fun i H' _ p => sq_of (p.1.2.1 _ _ hx)) (fun i x H' hi p => by
    rw [List.getElem?_map] at hi
    cases ha : l[i]? with
    | none => rw [ha] at hi; cases hi
    | some b =>
      rw [ha] at hi
      obtain rfl : c b = x := Option.some.inj hi
      have hm : b ∈ l := List.mem_of_getElem? ha
      have lt : i < l.length := (List.getElem?_eq_some_iff.mp ha).1
      have et : l.take (i + 1) = l.take i ++ [b] := by rw [List.take_add_one, ha]; rfl
      refine ⟨hw _, ?_⟩
      show te _ H' fun y H4 => ∃ acc, H4 Dl = some (.lst acc) ∧ acc.length < sizeLine ∧ (Cx2 H1 l (fun _ => true) w Dl (i + 1) (upd H4 Dl (.lst (acc ++ [y]))) ∧ (l.take (i + 1)).all good = true)
      obtain ⟨⟨p1, p2, p3⟩, p4⟩ := p
      cases hg : good b with
      | false => exact no b hm hg H' ((e.trans e1).trans p2) _
      | true =>
        refine yes b hm hg H' ((e.trans e1).trans p2) _ fun H4 e4 => ⟨_, e4 Dl _ p3, ?_, ⟨p1, Ex.mut (p2.trans e4) p1, ?_⟩, ?_⟩
        · rw [filter_yes, List.length_map, List.length_take]
          exact sz_lt (by omega)
        · rw [et, List.filter_append, List.map_append, List.filter_cons, if_pos rfl]
          exact upd_same
        · rw [et, List.all_append, p4, List.all_cons, hg]
          rfl)
    (fun H' p => by
      have p4 := p.2
      rw [List.length_map, List.take_length, some_] at p4
      cases p4)⟩
end
end Wk

set_option Elab.async false
set_option linter.all false
set_option maxRecDepth 100000
set_option maxHeartbeats 4000000
/-! Hx: errors whose context is None, or an error that stands in the ground and has none itself (what an except suite raises); any(..) where such an error is handled. -/
namespace Wk
open PySem PySem.Spec PyProof.Rows L2 Evl
def ctxV : Option Addr → Value
  | none => .none
  | some x => .ref x
def CtxG (c : Option Addr) (o : Obj) : Prop := ∀ vs : Array Value, o.data = .fields vs → vs[2]? = some (ctxV c)
def Zg (c : Option Addr) (cls : Value) (d : Option Addr) : Obj → Prop := fun o => o.cls = cls ∧ o.dict = d ∧ CtxG c o
theorem ctxG_steady {c : Option Addr} : PySem.PXN.Steady1 (CtxG c) := fun o v h ws eq => by
  obtain ⟨k, d, dt, sl⟩ := o
  cases dt with
  | fields us =>
    obtain rfl : us.setIfInBounds 1 v = ws := Data.fields.inj eq
    rw [show (us.setIfInBounds 1 v)[2]? = us[2]? from by simp [Array.getElem?_setIfInBounds]]
    exact h us rfl
  | _ => first | exact Data.noConfusion eq | cases eq
theorem zg_steady {c : Option Addr} {cls : Value} {d : Option Addr} : PySem.PXN.Steady1 (Zg c cls d) := fun o v h => ⟨PySem.PXN.steady_cls o v h.1, PySem.PXN.steady_dict o v h.2.1, ctxG_steady o v h.2.2⟩
/-- the context stands in the ground, has no context, and is not tracked -/
def Gd (B : Heap) (H : Hp) : Option Addr → Prop
  | none => True
  | some x => ∃ (o : Obj) (vs : Array Value), B.get? x = some o ∧ o.data = .fields vs ∧ vs[2]? = some .none ∧ H x = none
def AirG (X : Cx) (W : WX) (u : Value) (r : Shared) : Prop :=
  ∃ (c : Option Addr) (a : Addr) (B : Heap) (sJ : Shared) (pins : List (Addr × Obj)) (τ : L2.St) (M : Hp) (cls : Value) (d : Option Addr), u = .ref a ∧ Inv X pins τ M sJ ∧ (∀ b o, sJ.heap.get? b = some o → b ∉ frs X.stack → B.get? b = some o) ∧ sJ.heap.UpToSlots r.heap ∧
    Sky B X.stack a (Zg c cls d) X.env.locals r.heap ∧ M a = none ∧ r.os = sJ.os ∧ AllBare r.gens ∧ Gd B M c ∧ W cls d τ M
def TakesG (X : Cx) (W : WX) : Prop := ∀ u r, AirG X W u r → X.xe u r
def CXg (P : Program) (w : World) (outer : List Env) (H : Hp) (s : Shared) (E : XK) (u : Value) (r : Shared) : Prop :=
  ∃ (c : Option Addr) (a : Addr) (B : Heap) (M : Hp) (cls : Value) (d : Option Addr), u = .ref a ∧ HandSPX.FlyingZ B outer a (Zg c cls d) r.heap ∧ HOk P w M B ∧ UB (frs outer) H M s.heap B r.heap ∧ M a = none ∧ r.os = s.os ∧ AllBare r.gens ∧ Gd B M c ∧ E cls d M
theorem takesG0 {X : Cx} : TakesG X (fun _ _ _ _ => False) := fun u r h => by
  obtain ⟨_, _, _, _, _, _, _, _, _, _, _, _, _, _, _, _, _, _, no⟩ := h
  exact no.elim
section
variable {X : Cx} {pins : List (Addr × Obj)} {σ : L2.St} {H : Hp} {sI s s' : Shared} {B : Heap} {W : WX} {E : XK}
/-- what has no context is of this air -/
theorem takesN_of (t : TakesG X W) : L2N.Takes X W := fun u r ⟨a, B, sJ, pins, τ, M, cls, d, e, J, nb, up, sky, na, os, ag, w⟩ => t u r ⟨none, a, B, sJ, pins, τ, M, cls, d, e, J, nb, up, sky, na, os, ag, trivial, w⟩
theorem AirG.of_call (J : Inv X pins σ H s) (imp : ∀ cls d M, E cls d M → W cls d σ M) {u : Value} (x : CXg X.prog X.w X.stack H s E u s') : AirG X W u s' := by
  obtain ⟨c, a, B, M, cls, d, rfl, fly, hokB, ub, na, os, ag, gd, hE⟩ := x
  obtain ⟨G, yes, no⟩ := restrict s'.heap fun b => (B.get? b).isSome || decide (b ∈ frs X.stack)
  have inB : ∀ b o, B.get? b = some o → G.get? b = some o := fun b o e => (yes b (by simp [e])).trans (fly.1 b o e)
  have inF : ∀ b, b ∈ frs X.stack → G.get? b = s'.heap.get? b := fun b hb => yes b (by simp [hb])
  have ofG : ∀ b o, G.get? b = some o → s'.heap.get? b = some o ∧ ((B.get? b).isSome = true ∨ b ∈ frs X.stack) := fun b o e => by
    by_cases q : ((B.get? b).isSome || decide (b ∈ frs X.stack)) = true
    · exact ⟨(yes b q).symm.trans e, by simpa [Bool.or_eq_true] using q⟩
    · rw [no b (by simpa using q)] at e
      cases e
  refine ⟨c, a, B, { s with heap := G, gens := s'.gens, drawn := s'.drawn, toks := s'.toks }, pins, σ, M, cls, d, rfl, ?_, fun b o e hb => ?_, Heap.UpToSlots.of_keeps fun b o e => (ofG b o e).1, .inr (.inl fly), na, os, ag, gd, imp _ _ _ hE⟩
  · refine J.call (ch := []) ⟨fun b o e n hb _ => inB b o (ub.keep b o e n hb), fun b o e n hb _ => (ub.slot b o e hb).imp fun sl q => (inF b hb).trans q, fun b o e n _ => ub.free b o e n, fun b o e _ => ?_, ub.tups, ub.frzs, ub.tbls⟩ (hokB.kept inB) ag (fun _ z => nomatch z)
    by_cases hb : b ∈ frs X.stack
    · exact (ub.slot b o e hb).elim fun sl q => ⟨_, (inF b hb).trans q⟩
    · exact (ub.there b o e hb).imp fun o2 q => inB b o2 q
  · obtain ⟨there, z⟩ := ofG b o e
    rcases z with z | z
    · obtain ⟨o2, q⟩ := Option.isSome_iff_exists.mp z
      have same := fly.1 b o2 q
      rw [there] at same
      cases same
      exact q
    · exact absurd z hb
theorem AirG.new {c : Option Addr} {a : Addr} {oe : Obj} {vs : Array Value} {cls : Value} {d : Option Addr} (J : Inv X pins σ H sI) (kept : ∀ b o, sI.heap.get? b = some o → s'.heap.get? b = some o) (nw : sI.heap.get? a = none) (at_ : s'.heap.get? a = some oe)
    (z : Zg c cls d oe) (dt : oe.data = .fields vs) (v1 : vs[1]? = some .none) (na : H a = none) (os : s'.os = sI.os) (ag : AllBare s'.gens) (gd : Gd (PySem.W.hideAll sI.heap (frs X.stack)) H c) (w : W cls d σ H) : AirG X W (.ref a) s' := by
  refine ⟨c, a, PySem.W.hideAll sI.heap (frs X.stack), sI, pins, σ, H, cls, d, rfl, J, fun b o e hb => PySem.W.hideAll_get _ e hb, Heap.UpToSlots.of_keeps kept, .inl ⟨fun b o e => kept b o (PySem.W.of_hideAll _ e), ?_, ?_, oe, vs, at_, z, dt, v1⟩, na, os, ag, gd, w⟩
  · by_cases q : (PySem.W.hideAll sI.heap (frs X.stack)).get? a = none
    · exact q
    · obtain ⟨o, e⟩ := Option.ne_none_iff_exists'.mp q
      have y := PySem.W.of_hideAll _ e
      rw [nw] at y
      cases y
  · exact Heap.FunFrames.of_keeps (fun b o e _ => ⟨o, kept b o e, rfl⟩) (funFrames_none J.stack fun b hb => PySem.W.hideAll_none _ hb)
/-- it leaves the def; Ar: where it left from (an except suite, perhaps) -/
theorem AirG.leave {Ar : Around} (fs : Ar.frames = X.A.frames) (hs : X.stack = X.env :: X.outer) (hf : X.env.frame = some X.env.locals) (hex : X.ex = []) {E₁ : Value → Shared → Prop} (imp : ∀ cls d τ M, W cls d τ M → E cls d M) {u : Value} (x : AirG X W u s') :
    wpAny (model X.prog X.w) Ar (leaving X.env u) (fun _ r => CXg X.prog X.w X.outer X.H_0 X.s_0 E u r) E₁ s' := by
  obtain ⟨c, a, B, sJ, pins, τ, M, cls, d, rfl, J, nb, up, sky, na, os, ag, gd, w⟩ := x
  have frames : Ar.frames = some (X.env :: X.outer) := by rw [fs, J.ok.frames, hs]
  have nex : ∀ b, b ∉ X.ex := fun b hb => by rw [hex] at hb; cases hb
  have off : ∀ b o, X.s_0.heap.get? b = some o → b ∉ X.fs → b ∉ frs X.stack := fun b o e hb hm => (List.mem_cons.mp (J.stkSub b hm)).elim (fun z => by
    have lt := Heap.lt_size e
    rw [z] at lt
    exact Nat.lt_irrefl _ (Nat.lt_of_lt_of_le lt J.ok.above)) hb
  have hokB := J.inGround nb
  have fin : ∀ h', HandSPX.FlyingZ B X.outer a (Zg c cls d) h' → s'.heap.UpToSlots h' → CXg X.prog X.w X.outer X.H_0 X.s_0 E (.ref a) { s' with heap := h' } := fun h' fly up2 => by
    refine ⟨c, a, B, M, cls, d, rfl, fly, hokB, ⟨fun b o e n hb => nb b o (J.base.keep b o e n hb (nex b)) (off b o e hb), fun b o e hb => ?_, fun b o e n => J.base.free b o e n (nex b), fun b o e hb => (J.base.there b o e (nex b)).imp fun o2 e2 => nb b o2 e2 (off b o e hb), J.base.tups, J.base.frzs, J.base.tbls⟩,
      na, os.trans J.os, ag, gd, imp _ _ _ _ w⟩
    obtain ⟨_, o2, e2, nf⟩ := J.ok.funs.mem hb
    rw [e] at e2
    cases e2
    obtain ⟨t1, q1⟩ := J.base.slot b o e (J.ok.frf b hb) hb (nex b)
    obtain ⟨t2, q2⟩ := up b _ q1 nf
    obtain ⟨t3, q3⟩ := up2 b _ q2 nf
    exact ⟨t3, q3⟩
  rw [hs] at sky
  rcases sky with ⟨st, nw, ff, oe, vs, at_, z, dt, v1⟩ | fly | held
  · exact PySem.PXN.leaving_firstZ zg_steady frames ff hf at_ st nw dt v1 z fin
  · exact PySem.PXN.leaves_onZ zg_steady frames hf fly fin
  · exact HandSPX.leaves_heldZ hf held fin
theorem passG (tk : TakesG X W) (τ : L2.St) : PassesAt (CXg X.prog X.w) X τ (WE W τ) := fun _ _ _ e s' J c => tk e s' (AirG.of_call J (fun _ _ _ h => h) c)
end
theorem takesG_of {X : Cx} {E : XK} (hs : X.stack = X.env :: X.outer) (hf : X.env.frame = some X.env.locals) (hex : X.ex = []) {E₁ : Value → Shared → Prop} (hx : X.xe = fun e r => wpAny (model X.prog X.w) X.A (leaving X.env e) (fun _ r2 => CXg X.prog X.w X.outer X.H_0 X.s_0 E e r2) E₁ r) :
    TakesG X (fun cls d _ M => E cls d M) := fun u r x => by
  rw [hx]
  exact AirG.leave (W := fun cls d _ M => E cls d M) (E := E) rfl hs hf hex (fun _ _ _ _ h => h) x
/-- from an except suite of the def -/
theorem takesG_suite {X : Cx} {E : XK} {a : Addr} {pn : List (Addr × Obj)} (hs : X.stack = X.env :: X.outer) (hf : X.env.frame = some X.env.locals) (hex : X.ex = []) {E₁ : Value → Shared → Prop} (hx : X.xe = fun e r => wpAny (model X.prog X.w) X.A (leaving X.env e) (fun _ r2 => CXg X.prog X.w X.outer X.H_0 X.s_0 E e r2) E₁ r) :
    TakesG (L2H.suiteX X a pn) (fun cls d _ M => E cls d M) := fun u r x => by
  show X.xe u r
  rw [hx]
  exact AirG.leave (X := L2H.suiteX X a pn) (W := fun cls d _ M => E cls d M) (E := E) (Ar := X.A) rfl hs hf hex (fun _ _ _ _ h => h) x
theorem passGn {X : Cx} : Passes (CXg X.prog X.w) X E0 := fun _ _ _ _ _ _ _ h => by
  obtain ⟨_, _, _, _, _, _, _, _, _, _, _, _, _, _, no⟩ := h
  exact no.elim
theorem _root_.L2.Fun.okG {P : Program} {w : World} {K : PySem.W.Frag} {mg : Str → Option Value} {base : Heap} {x qual : Str} {st : Stmt} {f : Addr} {fd : FuncData} {N ps : List Str} {k : Nat} {sp : Sp} (F : Fun K x qual st f fd) (S : FnScope N ps (defScope st)) (len : ∀ vs H Q E, sp vs H Q E → vs.length = ps.length)
    (body : ∀ (cdv : Value) (A : Around) (outer : List Env) (s : Shared) (H : Hp) (vs : List V) (Q : VK) (E : XK), Room k (A.deeper (envOfC qual (defScope st) s.heap.objs.size f cdv)) → sp vs H Q E →
      ∃ t, PSs (cxOf (CXg P w) P w K mg base N qual (defScope st) f cdv A outer s H E) (defBody st) t ∧ t { nx := fun _ H' => Q .non H', rt := Q } (start N vs) H) : FnOk P w K mg base (CXg P w) (k + 1) f fd ps sp := by
  obtain ⟨_, _, _, _, _, _, cdv, _, _, rfl, look, code⟩ := F.ex
  exact fn_of look code S len fun A outer s H vs Q E room h => body cdv A outer s H vs Q E room h
/-! ### raise in an except suite -/
theorem ps_raiseG {X : Cx} {W : WX} {e : Expr} {t : L2.St → Hp → XK → Prop} {pos : Pos} (hot : L2H.HotC X) (tk : TakesG X W) (mk : L2N.PMk X e t) : PS X (.Raise (some e) none pos) (fun _ σ H => t σ H fun cls d M => W cls d σ M) := by
  refine ⟨fun pins s σ H D J want => ?_⟩
  obtain ⟨p, ⟨hd, pv, pd, pc⟩, inp⟩ := hot
  show wpAny _ _ (do standAt pos; raiseStmt X.env (some (do let v ← eval e X.env; standAt pos; pure v)) none) _ _ _
  refine wpAny_bind (wpAny_standAt (HotX.raise_made_hot (x1 := p.1) (wpAny_bind (wpAny_mono (mk pins s σ H _ J want) (fun u s1 got => wpAny_bind (wpAny_standAt (wpAny_pure ?_))) fun _ _ z => z))))
  obtain ⟨a, oe, vs, sJ, M, cls, d, rfl, J1, kept, nw, at_, z, dt, v1, na, os, ag, rs, q⟩ := got
  obtain ⟨r1, r2⟩ := rs (model X.prog X.w) s1.heap (J1.kIn.keeps kept)
  obtain ⟨pg, pn0, pL, pF, _⟩ := J1.pin p (List.mem_append_left _ inp)
  have ne : p.1 ≠ a := fun y => by rw [y, nw] at pg; cases pg
  have wide : 2 < vs.size := (Array.getElem?_eq_some_iff.mp (z.2.2 vs dt)).1
  have w1 : (vs.setIfInBounds 2 (Value.ref p.1))[1]? = some Value.none := by
    rw [show (vs.setIfInBounds 2 (Value.ref p.1))[1]? = vs[1]? from by simp [Array.getElem?_setIfInBounds]]
    exact v1
  have w2 : (vs.setIfInBounds 2 (Value.ref p.1))[2]? = some (Value.ref p.1) := by simp [Array.getElem?_setIfInBounds, wide]
  have dt2 := Obj.data_mapFields dt (·.setIfInBounds 2 (Value.ref p.1))
  have offS : p.1 ∉ frs X.stack := fun m => (List.mem_cons.mp (J1.stkSub p.1 m)).elim pL pF
  refine ⟨a, oe, vs, cls, rfl, at_, z.1, dt, v1, wide, ne, ⟨hd, p.2, pv, kept _ _ pg, pd, pc⟩, r1, r2, tk _ _ (AirG.new (c := some p.1) J1 (fun b o y => ?_) nw (Heap.get?_update_self _ at_ (Obj.isFreed_of_fields dt2))
    ⟨(Obj.cls_mapFields ..).trans z.1, (HandSPX.dict_mapFields ..).trans z.2.1, fun ws ew => by rw [dt2] at ew; cases ew; exact w2⟩ dt2 w1 na os ag ⟨p.2, pv, PySem.W.hideAll_get _ pg offS, pd, pc, pn0⟩ q)⟩
  show (s1.heap.update a (Obj.mapFields (·.setIfInBounds 2 (.ref p.1)))).get? b = some o
  have nab : a ≠ b := fun y2 => by rw [← y2, nw] at y; cases y
  rw [Heap.get?_update_other _ _ nab]
  exact kept b o y
/-! ### try: .. except x as n: .., the clause names what is raised -/
/-- what is handled: the error p, its context None or an error of the context's pins which has none -/
def HotG (X : Cx) (p : Addr × Obj) : Prop := X.A.handled = some (.ref p.1) ∧ p ∈ X.pn ∧ ∃ vs : Array Value, p.2.data = .fields vs ∧ (vs[2]? = some .none ∨ ∃ p0 ∈ X.pn, vs[2]? = some (.ref p0.1) ∧ ∃ ws : Array Value, p0.2.data = .fields ws ∧ ws[2]? = some .none)
def wCatch (K : PySem.W.Frag) (c : Value) (i : Nat) (ts : Addr → Value → Option Addr → TS) (D : Ends) : WX := fun cls d σ H => PySem.W.exmOne K cls c = some true ∧
  ∀ a, H a = none → ts a cls d { nx := fun τ M => D.nx (τ.set i none) M, rt := D.rt, bk := fun τ M => D.bk (τ.set i none) M, ct := fun τ M => D.ct (τ.set i none) M } (σ.set i (some (.ref a))) H
section
variable {X : Cx} {x n : Str} {cv : Value} {i : Nat} {body suite : List Stmt} {b₀ : Stmt} {np pos pos' : Pos} {tb : WX → TS} {ts : Addr → Value → Option Addr → TS}
theorem ps_try_asG (hs : X.stack = X.env :: X.outer) (hf : X.env.frame = some X.env.locals) (hN : X.N.Nodup) (hi : X.N[i]? = some n) (hln : X.env.kindOf n = some .local) (hc : Names X x cv)
    (hb : ∀ (W : WX) (pn : List (Addr × Obj)) (xe : Value → Shared → Prop), TakesG (X.tr pn xe) W → PassesOwn (model X.prog X.w) X.A X.env xe → PSs (X.tr pn xe) body (tb W))
    (hsu : ∀ (a : Addr) (oe : Obj) (cls : Value) (d : Option Addr) (pn : List (Addr × Obj)), oe.cls = cls → oe.dict = d → HotG (X.suite a ((a, oe) :: pn)) (a, oe) → PSs (X.suite a ((a, oe) :: pn)) (b₀ :: suite) (ts a cls d)) :
    PS X (.Try body [.ExceptHandler (some (.Name x np)) (some n) (b₀ :: suite) pos'] [] [] pos) (fun D σ H => tb (wCatch X.K cv i ts D) D σ H) := by
  refine ⟨fun pins s σ H D J want => ?_⟩
  have ok := J.ok
  have frames : X.A.frames = some (X.env :: X.outer) := by rw [ok.frames, hs]
  refine wpAny_Try_except ?_
  refine wpAny_mono ((hb (wCatch X.K cv i ts D) (X.pn ++ pins) (fun e r => wpAny (model X.prog X.w) X.A (noteFrame e X.env) (fun _ r2 => wpAny (model X.prog X.w) X.A (setFlight e none) (fun _ r3 => wpAny (model X.prog X.w) X.A (handleBy e X.env [.ExceptHandler (some (.Name x np)) (some n) (b₀ :: suite) pos']) (SP X pins D) X.xe r3) X.xe r2) X.xe r)
    (fun u r air => ?_) PassesOwn.looking).run [] s σ H D (J.toTry _) want) (fun f r got => ?_) (fun _ _ z => z)
  · obtain ⟨c, a, B, sJ, pinsT, τ, M, cls, d, rfl, JT, nb, up, sky, na, os, ag, gd, names, go⟩ := air
    have J0 : Inv X pins τ M sJ := JT.ofTry ok
    have sky : Sky B (X.env :: X.outer) a (Zg c cls d) X.env.locals r.heap := by rw [← hs]; exact sky
    show wpAny (model X.prog X.w) X.A (noteFrame (.ref a) X.env) _ _ _
    refine L2N.Sky.land zg_steady frames hf sky fun h3 fly3 up3 => ?_
    have J3 : Inv X pins τ M { r with heap := h3 } := J0.landed nb fly3.1 (up.trans up3) os ag
    have notFr : ∀ {h : Heap} {b : Addr} {o : Obj} {vs : Array Value}, h.FunFrames B (X.env :: X.outer) → h.get? b = some o → o.data = .fields vs → b ∉ frs (X.env :: X.outer) := fun {h b o vs} ff e dd m => by
      obtain ⟨_, o2, e2, nf⟩ := ff.mem m
      rw [e] at e2
      cases e2
      exact nf _ dd
    have away : ∀ {b : Addr}, b ∉ frs (X.env :: X.outer) → b ≠ X.env.locals ∧ b ∉ X.fs := fun {b} no => ⟨fun z => no (List.mem_filterMap.mpr ⟨X.env, List.mem_cons_self, by rw [hf, z]⟩), fun m => by
      obtain ⟨e, he, q⟩ := List.mem_filterMap.mp m
      exact no (List.mem_filterMap.mpr ⟨e, List.mem_cons_of_mem _ he, q⟩)⟩
    obtain ⟨o3, v3, at3, z3, d3⟩ := fly3.there
    have clear := away (notFr fly3.2.2.1 at3 d3)
    have S3 := J3.suite at3 d3 na clear.1 clear.2
    refine wpAny_handleBy_cons (codeAny_handlers_test ?_) (by intro q; cases q)
    have looks : PySem.W.Looks (model X.prog X.w) h3 (typeOf (.ref a)) cls := fun A Q E s k q => wpAny_typeOf_ref (k _ _ at3) (by rw [z3.1]; exact q)
    have yes := PySem.W.exm_one (M := model X.prog X.w) (J3.kIn) looks names
    have test : ∀ {Q : Value → Shared → Prop} {E : Value → Shared → Prop}, Q cv { r with heap := h3 } → wpAny (model X.prog X.w) (X.A.mark (some (.ref a))) (eval (.Name x np) X.env) Q E { r with heap := h3 } := fun {Q E} q => by
      obtain ⟨hg, dbg, hm | ⟨hm, hv, nn⟩⟩ := hc
      · exact ld_glob (X := X.suite a ((a, o3) :: (X.pn ++ pins))) S3 hg hm q dbg
      · exact ld_blt (X := X.suite a ((a, o3) :: (X.pn ++ pins))) S3 hg hm hv q nn dbg
    refine test (yes.here ?_)
    refine codeAny_handlers_suite_as ?_
    refine HandSPX.lands_againZ fly3 fun h4 fly4 up4 => ?_
    have J4 : Inv X pins τ M { r with heap := h4 } := J0.landed nb fly4.1 ((up.trans up3).trans up4) os ag
    obtain ⟨o4, v4, at4, z4, d4⟩ := fly4.there
    have more : ∃ px : List (Addr × Obj), Inv X (pins ++ px) τ M { r with heap := h4 } ∧ (v4[2]? = some .none ∨ ∃ p0 ∈ px, v4[2]? = some (.ref p0.1) ∧ ∃ ws : Array Value, p0.2.data = .fields ws ∧ ws[2]? = some .none) := by
      have known := z4.2.2 v4 d4
      cases c with
      | none => exact ⟨[], by rw [List.append_nil]; exact J4, .inl known⟩
      | some x0 =>
        obtain ⟨o0, w0, g0, q0, n0, f0⟩ := gd
        have at0 := fly4.1 _ _ g0
        have clear0 := away (notFr fly4.2.2.1 at0 q0)
        refine ⟨[(x0, o0)], J4.pins_of fun p hp => ?_, .inr ⟨(x0, o0), List.mem_singleton.mpr rfl, known, w0, q0, n0⟩⟩
        rcases List.mem_append.mp hp with hp | hp
        · exact J4.pin p (List.mem_append_right _ hp)
        · obtain rfl := List.mem_singleton.mp hp
          exact ⟨at0, f0, clear0.1, clear0.2, fun v e => by rw [show o0.data = .fields w0 from q0] at e; cases e⟩
    obtain ⟨px, J5, ctx⟩ := more
    have S5 := J5.suite at4 d4 na clear.1 clear.2
    have hot : HotG (X.suite a ((a, o4) :: (X.pn ++ (pins ++ px)))) (a, o4) := ⟨rfl, List.mem_cons_self, v4, d4, ctx.imp id fun ⟨p0, m, q⟩ => ⟨p0, List.mem_cons_of_mem _ (List.mem_append_right _ (List.mem_append_right _ m)), q⟩⟩
    refine store_ok (X := X.suite a ((a, o4) :: (X.pn ++ (pins ++ px)))) (v := .ref a) S5 hN hi (.inl hln) rfl (fun r5 S5 => ?_) (.inr hln)
    refine wpAny_mono ((hsu a o4 cls d (X.pn ++ (pins ++ px)) z4.1 z4.2.1 hot).run [] r5 _ M _ S5 (go a na)) (fun f r6 got => ?_) (fun _ _ z => z.elim)
    have gone : ∀ {τ6 : L2.St} {M6 : Hp} {Q : Shared → Prop}, Inv (X.suite a ((a, o4) :: (X.pn ++ (pins ++ px)))) [] τ6 M6 r6 → (∀ r7, Inv X pins (τ6.set i none) M6 r7 → Q r7) →
        wpAny (model X.prog X.w) X.A (do bindName X.env n .none; unbindBehindTheSuite X.env n pos') (fun _ r7 => Q r7) X.xe r6 := fun {τ6 M6 Q} S6 k => gone_ok (S6.unsuite ok) hN hi hln fun r7 J7 => k r7 J7.unpinned
    cases f with
    | next =>
      obtain ⟨_, _, S6, q6⟩ := got
      exact gone S6 fun _ J7 => ⟨_, _, J7, q6⟩
    | brk =>
      obtain ⟨_, _, S6, q6⟩ := got
      exact gone S6 fun _ J7 => ⟨_, _, J7, q6⟩
    | cont =>
      obtain ⟨_, _, S6, q6⟩ := got
      exact gone S6 fun _ J7 => ⟨_, _, J7, q6⟩
    | ret u =>
      obtain ⟨_, _, _, S6, rv, q6⟩ := got
      exact gone S6 fun _ J7 => ⟨_, _, _, J7, rv, q6⟩
  · cases f with
    | next =>
      obtain ⟨_, _, J7, q⟩ := got
      exact wpAny_execs_nil ⟨_, _, J7.ofTry ok, q⟩
    | brk =>
      obtain ⟨_, _, J7, q⟩ := got
      exact ⟨_, _, J7.ofTry ok, q⟩
    | cont =>
      obtain ⟨_, _, J7, q⟩ := got
      exact ⟨_, _, J7.ofTry ok, q⟩
    | ret u =>
      obtain ⟨_, _, _, J7, rv, q⟩ := got
      exact ⟨_, _, _, J7.ofTry ok, rv, q⟩
end
end Wk

set_option Elab.async false
set_option linter.all false
set_option maxRecDepth 100000
set_option maxHeartbeats 4000000
/-! Ix: any(a list of truth values) where an error is handled that has a context. -/
namespace Wk
open PySem PySem.Spec PyProof.Rows L2 Evl
theorem plain_unchain : plainId "proto.unchain" = true := by decide +kernel
/-- x1 is an error whose context is None, or an error whose context is None -/
def Chain (g : Heap) (x1 : Addr) : Prop := ∃ (o : Obj) (vs : Array Value), g.get? x1 = some o ∧ o.data = .fields vs ∧ (vs[2]? = some .none ∨ ∃ x0 o0 ws, vs[2]? = some (.ref x0) ∧ g.get? x0 = some o0 ∧ o0.data = .fields ws ∧ ws[2]? = some .none)
theorem Chain.keeps {g h : Heap} {x1 : Addr} (c : Chain g x1) (k : ∀ b o, g.get? b = some o → h.get? b = some o) : Chain h x1 := by
  obtain ⟨o, vs, at1, d1, c1⟩ := c
  exact ⟨o, vs, k _ _ at1, d1, c1.imp id fun ⟨x0, o0, ws, r, at0, q⟩ => ⟨x0, o0, ws, r, k _ _ at0, q⟩⟩
section
variable {prog : Program} {w : World} {A : Around} {E : Value → Shared → Prop} {s : Shared}
theorem unchainG {g : Heap} {a x1 : Addr} {Q : Value → Shared → Prop} (c : Chain g x1) (k : ∀ b o, g.get? b = some o → s.heap.get? b = some o) (nw : g.get? a = none) (q : Q .none s) :
    wpAny (model prog w) A (holding [Value.ref a] (runValue (.builtin "proto.unchain" ⟨[.ref a, .ref x1, .ref x1, .bool false], []⟩))) Q E s := by
  obtain ⟨o1, vs1, at1, d1, c1⟩ := c
  refine wpAny_holding (wpAny_runValue (codeAny_builtin HotX.entry_unchain ?_))
  unfold Builtin.«proto.unchain»
  dsimp only
  rcases c1 with c1 | ⟨x0, o0, ws, c1, at0, d0, c0⟩
  · refine wpAny_bind (wpAny_field (k _ _ at1) d1 c1 ?_)
    rw [if_pos (show (Value.none == Value.none) = true from rfl)]
    first | exact wpAny_bind (wpAny_pure (wpAny_pure q)) | exact wpAny_pure q
  · have n1 : x0 ≠ a := fun e => by rw [e, nw] at at0; cases at0
    have n2 : x0 ≠ x1 := fun e => by
      rw [e, at1] at at0
      cases at0
      rw [d1] at d0
      cases d0
      rw [c1] at c0
      cases c0
    refine wpAny_bind (wpAny_field (k _ _ at1) d1 c1 ?_)
    rw [if_neg (show ¬ ((Value.ref x0 == Value.none) = true) from Bool.false_ne_true), if_neg (show ¬ ((Value.ref x0 == Value.ref a) = true) from by simpa using n1), if_neg (show ¬ ((Value.ref x0 == Value.ref x1) = true) from by simpa using n2), if_neg Bool.false_ne_true]
    refine wpAny_bind (wpAny_pure ?_)
    refine wpAny_pure ⟨plainId_quiet plain_unchain _, codeAny_builtin HotX.entry_unchain ?_⟩
    unfold Builtin.«proto.unchain»
    dsimp only
    refine wpAny_bind (wpAny_field (k _ _ at0) d0 c0 ?_)
    rw [if_pos (show (Value.none == Value.none) = true from rfl)]
    first | exact wpAny_bind (wpAny_pure (wpAny_pure q)) | exact wpAny_pure q
theorem raiseNewG {α : Type} {g : Heap} {a x1 : Addr} {oe : Obj} {vs : Array Value} {Q : α → Shared → Prop} (hd : A.handled = some (.ref x1)) (c : Chain g x1) (k : ∀ b o, g.get? b = some o → s.heap.get? b = some o) (nw : g.get? a = none)
    (at_ : s.heap.get? a = some oe) (dt : oe.data = .fields vs) (wide : 2 < vs.size) (q : E (.ref a) { s with heap := s.heap.update a (Obj.mapFields (·.setIfInBounds 2 (.ref x1))) }) : wpAny (model prog w) A (raiseNew (.ref a) : Sem α) Q E s := by
  have ne : x1 ≠ a := fun e => by
    obtain ⟨_, _, at1, _⟩ := c
    rw [e, nw] at at1
    cases at1
  unfold raiseNew
  refine wpAny_bind (wpAny_handled ?_)
  rw [hd]
  have yes : (Value.ref x1 != Value.ref a) = true := HotX.ref_bne ne
  first
  | (show wpAny _ _ (if (Value.ref x1 != Value.ref a) = true then _ else _) _ _ _
     rw [if_pos yes]
     first
     | exact wpAny_bind (unchainG c k nw (wpAny_bind (HotX.chained at_ dt wide (wpAny_throw q))))
     | exact wpAny_bind (wpAny_bind (unchainG c k nw (HotX.chained at_ dt wide (wpAny_throw q)))))
  | (refine wpAny_bind ?_
     show wpAny _ _ (if (Value.ref x1 != Value.ref a) = true then _ else _) _ _ _
     rw [if_pos yes]
     exact wpAny_bind (unchainG c k nw (wpAny_bind (HotX.chained at_ dt wide (wpAny_throw q)))))
theorem listEndG {g : Heap} {it l x1 : Addr} {i : Nat} {items : Array Value} {Q : Option Value → Shared → Prop} (hd : A.handled = some (.ref x1)) (c : Chain g x1) (k : ∀ b o, g.get? b = some o → s.heap.get? b = some o) (hni : g.get? it = none)
    (hit : s.heap.IsListIter it l i) (hl : s.heap.IsList l items) (over : items[i]? = none) (q : ∀ h', Heap.ExtBut it s.heap h' → Q none { s with heap := h' }) : wpAny (model prog w) A (pyNext (.ref it)) Q E s := by
  obtain ⟨o, ho, hc, dd⟩ := id hit
  obtain ⟨ol, hol, _, nl, hdl⟩ := hl
  unfold pyNext
  refine wpAny_bind (wpAny_attempt (wpAny_callSpecial?_slot (name := Str.ofString "__next__") hit.typeIs slot_listiter_next (wpAny_call_entry slot_listiter_next hit.typeIs entry_listiter_next ?_ (args_listiter_next _))))
  show wpAny _ _ (field (.ref it) 0 >>= _) _ _ s
  refine wpAny_bind (wpAny_field ho dd (x := .ref l) rfl ?_)
  show wpAny _ _ (if (Value.ref l == Value.none) = true then _ else _) _ _ s
  rw [if_neg (show ¬ ((Value.ref l == Value.none) = true) from Bool.false_ne_true)]
  show wpAny _ _ (field (.ref it) 1 >>= _) _ _ s
  refine wpAny_bind (wpAny_field ho dd (x := .int i 0) rfl ?_)
  show wpAny _ _ (seqItems? (.ref l) >>= _) _ _ s
  refine wpAny_bind (wpAny_seqItems hol hdl ?_)
  simp only [Int.toNat_natCast, over]
  refine wpAny_bind (wpAny_rule (wpAny_bind (wpAny_setField ho dd (by simp) ?_)))
  have k2 : ∀ b u, g.get? b = some u → (s.heap.update it (Obj.mapFields (·.setIfInBounds 0 Value.none))).get? b = some u := fun b u e => by
    rw [Heap.get?_update_other _ _ (fun y => by rw [← y, hni] at e; cases e)]
    exact k b u e
  show wpAny _ _ (newExc (.type "StopIteration") [] >>= _) _ _ _
  refine wpAny_bind ?_
  simp only [newExc, newTuple]
  refine wpAny_bind (wpAny_newObj_type ?_ (by size_fits))
  refine wpAny_bind (m := firstArgMember _ _) (wpAny_of_eq (a := Value.none) (by first | rfl | (simp only [firstArgMember]; rfl)) ?_)
  refine wpAny_newObj_type ?_ (by size_fits)
  have k3 : ∀ b u, g.get? b = some u → b < ((s.heap.update it (Obj.mapFields (·.setIfInBounds 0 Value.none))).push { cls := .type "tuple", data := .seq ([] : List Value).toArray }).objs.size := fun b u e => Heap.lt_size (Heap.get?_push_of_some _ (k2 b u e))
  refine raiseNewG (A := A.in1) (g := g) hd c (fun b u e => Heap.get?_push_of_some _ (Heap.get?_push_of_some _ (k2 b u e))) ?_ (Heap.get?_push_size _ rfl) rfl (by first | (simp; done) | (simp; omega) | (simp only [Array.size_append]; simp; omega)) ?_
  · by_cases e : ∃ u, g.get? ((s.heap.update it (Obj.mapFields (·.setIfInBounds 0 Value.none))).push { cls := .type "tuple", data := .seq ([] : List Value).toArray }).objs.size = some u
    · obtain ⟨u, e⟩ := e
      exact absurd (k3 _ u e) (Nat.lt_irrefl _)
    · cases y : g.get? ((s.heap.update it (Obj.mapFields (·.setIfInBounds 0 Value.none))).push { cls := .type "tuple", data := .seq ([] : List Value).toArray }).objs.size with
      | none => rfl
      | some u => exact absurd ⟨u, y⟩ e
  · refine wpAny_bind (wpAny_isInstance (T := "StopIteration") (b := true) ⟨_, Heap.get?_update_self _ (Heap.get?_push_size _ rfl) rfl, rfl⟩ isSubtype_stop ?_)
    refine wpAny_pure (q _ fun b u n e => ?_)
    have e2 : (s.heap.update it (Obj.mapFields (·.setIfInBounds 0 Value.none))).get? b = some u := (Heap.get?_update_other _ _ (Ne.symm n)).trans e
    rw [Heap.get?_update_other _ _ (Nat.ne_of_gt (Heap.lt_size (Heap.get?_push_of_some _ e2)))]
    exact Heap.get?_push_of_some _ (Heap.get?_push_of_some _ e2)
end
section
variable {X : Cx} {p : Addr × Obj}
theorem cr_anyG (hot : HotG X p) : CallR X (.builtin "any") (rAny X.K) := by
  intro pins s σ H vs us Q J r want
  obtain ⟨ax, bs, rfl, hs, q⟩ := want
  obtain ⟨its, rv, hl, _⟩ := J.list hs
  rw [Vals.ref1 r]
  have bools := rv.bls
  obtain ⟨hd, mem, pv, pd, ctx⟩ := hot
  have chain : Chain s.heap p.1 := ⟨p.2, pv, (J.pin p (List.mem_append_left _ mem)).1, pd, ctx.imp id fun ⟨p0, m0, e, ws, q0, n0⟩ => ⟨p0.1, p0.2, ws, e, (J.pin p0 (List.mem_append_left _ m0)).1, q0, n0⟩⟩
  obtain ⟨cs, hcs⟩ : ∃ cs : List Addr, ∀ h' : Heap, (∀ b ∈ cs, ∀ o, s.heap.get? b = some o → h'.get? b = some o) → Chain h' p.1 := by
    obtain ⟨o, ws, at1, d1, c1⟩ := chain
    rcases c1 with c1 | ⟨x0, o0, ws0, c1, at0, d0, c0⟩
    · exact ⟨[p.1], fun h' k => ⟨o, ws, k _ (by simp) _ at1, d1, .inl c1⟩⟩
    · exact ⟨[p.1, x0], fun h' k => ⟨o, ws, k _ (by simp) _ at1, d1, .inr ⟨x0, o0, ws0, c1, k _ (by simp) _ at0, d0, c0⟩⟩⟩
  have new : s.heap.get? s.heap.objs.size = none := by
    cases y : s.heap.get? s.heap.objs.size with
    | none => rfl
    | some u => exact absurd (Heap.lt_size y) (Nat.lt_irrefl _)
  obtain ⟨g, yes, no⟩ := restrict s.heap fun b => decide (b ∈ cs)
  have gc : Chain g p.1 := hcs g fun b hb o e => (yes b (by simpa using hb)).trans e
  have gof : ∀ b o, g.get? b = some o → b ∈ cs ∧ s.heap.get? b = some o := fun b o e => by
    by_cases hb : b ∈ cs
    · exact ⟨hb, (yes b (by simpa using hb)).symm.trans e⟩
    · rw [no b (by simpa using hb)] at e
      cases e
  have gnew : g.get? s.heap.objs.size = none := by
    cases y : g.get? s.heap.objs.size with
    | none => rfl
    | some u =>
      have z := (gof _ _ y).2
      rw [new] at z
      cases z
  refine call_any_walk (iter_any hl.isList fun s2 e2 st hne => ?_)
  have old : ∀ b o, s.heap.get? b = some o → s2.heap.get? b = some o := fun b o e => by rw [e2]; exact Heap.get?_push_of_some _ e
  subst e2
  refine ⟨s.heap.objs.size, s.heap.objs.size :: ax :: cs, [s.heap.objs.size], its.toArray.size, fun i v => its.toArray[i]? = some v, fun i h => (h.IsListIter s.heap.objs.size ax i ∧ h.IsList ax its.toArray) ∧ ∀ b o, g.get? b = some o → h.get? b = some o, _, rfl, ?_, ⟨st, fun b o e => old b o (gof b o e).2⟩, truth_bools bools, fun h' tk hk => ?_⟩
  · refine ⟨fun b hb => by rw [List.mem_singleton.mp hb]; exact List.mem_cons_self, fun i h h' ⟨⟨i1, i2⟩, i3⟩ hk => ⟨⟨i1.at fun o e => hk _ (by simp) o e, i2.at fun o e => hk _ (by simp) o e⟩, fun b o e => hk b (by simp [(gof b o e).1]) o (i3 b o e)⟩, fun i r R F hi ⟨⟨i1, i2⟩, i3⟩ hQ => ?_, fun r R F ⟨⟨i1, i2⟩, i3⟩ hQ => ?_, fun _ _ _ _ i1 hQ => wpAny_pyIter_listiter i1.1.1 hQ⟩
    · refine wpAny_pyNext_list_item i1 i2 (x := its.toArray[i]) (Array.getElem?_eq_getElem hi) fun h' hit' hs' => ?_
      exact hQ _ h' r.toks (Array.getElem?_eq_getElem hi) ⟨⟨hit', i2.extBut hs'.extBut hne⟩, fun b o e => hs'.extBut b o (fun y => by rw [y, gnew] at e; cases e) (i3 b o e)⟩ fun b o hb e => hs'.extBut b o (fun y => hb (List.mem_singleton.mpr y)) e
    · exact listEndG (A := X.A.in1) hd gc i3 gnew i1 i2 (Array.getElem?_eq_none (Nat.le_refl _)) fun h' he' => hQ h' r.toks fun b o hb e => he' b o (fun y => hb (List.mem_singleton.mpr y)) e
  · refine ⟨.bl _, H, J.kept fun b o eo => hk b o (fun m => ?_) (Heap.get?_push_of_some _ eo), ?_, q⟩
    · rw [List.mem_singleton.mp m] at eo
      exact Nat.lt_irrefl _ (Heap.lt_size eo)
    · show Value.bool _ = Value.bool _
      rw [← L2.any_range, bools, List.size_toArray, List.length_map]
end
end Wk

set_option Elab.async false
set_option linter.all false
set_option maxRecDepth 100000
set_option maxHeartbeats 4000000
/-! Tx: what a word tells: the mathematics of number_in, split and join. -/
namespace Wk
open PySem NumText SX
def neg? (l : List Nat) : Bool := l.head? == some 45
/-- a word's figures -/
def figL (l : List Nat) : List Nat := if neg? l = true then l.drop 1 else l
def digB (c : Nat) : Bool := decide (48 ≤ c) && decide (c ≤ 57)
def okW (l : List Nat) : Bool := decide (1 ≤ (figL l).length) && decide ((figL l).length ≤ 7) && (figL l).all digB && (!((figL l).head? == some 48) || l == [48])
def numW (l : List Nat) : Int := if neg? l = true then -((digitsVal (figL l) : Nat) : Int) else ((digitsVal (figL l) : Nat) : Int)
theorem neg_iff {l : List Nat} : neg? l = true ↔ ∃ r, l = 45 :: r := by
  unfold neg?
  cases l with
  | nil => simp
  | cons a r => simp
theorem digits_lt0 : ∀ (cs : List Nat) (n : Nat), AllDigits cs → cs.foldl (fun acc c => acc * 10 + (c - 48)) n < (n + 1) * 10 ^ cs.length
  | [], n, _ => by simp
  | c :: cs, n, h => by
    have h1 := digits_lt0 cs (n * 10 + (c - 48)) h.tail
    have h2 := h.head
    have h3 : (n * 10 + (c - 48) + 1) * 10 ^ cs.length ≤ ((n + 1) * 10) * 10 ^ cs.length := Nat.mul_le_mul_right _ (by omega)
    rw [List.foldl_cons, List.length_cons, Nat.pow_succ, Nat.mul_comm (10 ^ cs.length) 10, ← Nat.mul_assoc]
    exact Nat.lt_of_lt_of_le h1 h3
theorem digits_lt (cs : List Nat) (h : AllDigits cs) : digitsVal cs < 10 ^ cs.length := by
  have := digits_lt0 cs 0 h
  rw [Nat.zero_add, Nat.one_mul] at this
  exact this
theorem of_takeWhile {p : Nat → Bool} : ∀ {l : List Nat} {c : Nat}, c ∈ l.takeWhile p → p c = true
  | [], c, h => by simp at h
  | a :: l, c, h => by
    rw [List.takeWhile_cons] at h
    split at h
    · rcases List.mem_cons.mp h with rfl | h
      · assumption
      · exact of_takeWhile h
    · simp at h
theorem drop_takeWhile {p : Nat → Bool} : ∀ l : List Nat, l.drop (l.takeWhile p).length = l.dropWhile p
  | [] => rfl
  | a :: l => by
    rw [List.takeWhile_cons, List.dropWhile_cons]
    split
    · rw [List.length_cons, List.drop_succ_cons]
      exact drop_takeWhile l
    · rfl
theorem dropWhile_head {p : Nat → Bool} : ∀ {l r : List Nat} {c : Nat}, l.dropWhile p = c :: r → p c = false
  | [], r, c, h => by simp at h
  | a :: l, r, c, h => by
    rw [List.dropWhile_cons] at h
    split at h
    · exact dropWhile_head h
    · rename_i q
      cases h
      simpa using q
theorem toNat_ofNat {c : Nat} (h : 48 ≤ c ∧ c ≤ 57) : (Char.ofNat c).toNat = c := by
  have all : ∀ c : Fin 58, (Char.ofNat c.1).toNat = c.1 := by decide
  exact all ⟨c, by omega⟩
theorem numL_digits_val {cs : List Nat} (h : AllDigits cs) (hne : cs ≠ []) (h0 : cs.head? = some 48 → cs = [48]) : TL.numL (digitsVal cs) = cs := by
  have hl : cs.length = (cs.length - 1) + 1 := by have := List.length_pos_iff.mpr hne; omega
  unfold TL.numL
  rw [toDigits_digitsVal (cs.length - 1) cs hl h ?_, List.map_map]
  · have e : ∀ c ∈ cs, (Char.toNat ∘ Char.ofNat) c = c := fun c hc => toNat_ofNat (h c hc)
    rw [List.map_congr_left e]
    simp
  · cases cs with
    | nil => exact absurd rfl hne
    | cons c r =>
      by_cases e : c = 48
      · have := h0 (by simp [e])
        simp at this
        exact .inl (by simp [this.2])
      · exact .inr ⟨c, r, rfl, by have := h c (by simp); omega⟩
theorem txt_neg {m : Nat} (h : 0 < m) : Str.ofString (toString (-(m : Int))) = S (45 :: TL.numL m) := by
  obtain ⟨k, rfl⟩ : ∃ k, m = k + 1 := ⟨m - 1, by omega⟩
  have e1 : (toString (-((k + 1 : Nat) : Int)) : String) = "-" ++ toString ((k + 1 : Nat) : Int) := rfl
  have e2 : (Str.ofString (toString ((k + 1 : Nat) : Int))).cps.toList = TL.numL (k + 1) := TL.tl_num (k + 1)
  rw [Str.ofString_eq_toList] at e2
  rw [e1, Str.ofString_eq_toList, ← e2, String.toList_append, List.map_append]
  rfl
theorem digitsVal_zero_iff {cs : List Nat} (h : AllDigits cs) (hne : cs ≠ []) (h0 : cs.head? ≠ some 48) : 0 < digitsVal cs := by
  cases cs with
  | nil => exact absurd rfl hne
  | cons c r =>
    refine digitsVal_pos ?_
    have := h c (by simp)
    have : c ≠ 48 := fun e => h0 (by simp [e])
    omega
theorem okW_parts {l : List Nat} (h : okW l = true) : AllDigits (figL l) ∧ figL l ≠ [] ∧ (figL l).length ≤ 7 ∧ ((figL l).head? = some 48 → l = [48]) := by
  unfold okW at h
  simp only [Bool.and_eq_true, decide_eq_true_eq, List.all_eq_true, Bool.or_eq_true, Bool.not_eq_true'] at h
  obtain ⟨⟨⟨h1, h2⟩, h3⟩, h4⟩ := h
  refine ⟨fun c hc => by have := h3 c hc; unfold digB at this; simpa using this, fun e => by rw [e] at h1; simp at h1, h2, fun e => ?_⟩
  rcases h4 with h4 | h4
  · rw [e] at h4
    simp at h4
  · simpa using h4
theorem okW_len {l : List Nat} (h : okW l = true) : l.length ≤ 8 := by
  obtain ⟨_, _, h3, _⟩ := okW_parts h
  unfold figL at h3
  split at h3
  · simp at h3
    omega
  · omega
/-- the number that a word tells, and its text -/
theorem okW_num {l : List Nat} (h : okW l = true) : intText? (S l) = some (numW l) ∧ Str.ofString (toString (numW l)) = S l ∧ -10000000 < numW l ∧ numW l < 10000000 := by
  obtain ⟨h1, h2, h3, h4⟩ := okW_parts h
  have lt := digits_lt _ h1
  have lt2 : digitsVal (figL l) < 10 ^ 7 := Nat.lt_of_lt_of_le lt (Nat.pow_le_pow_right (by decide) h3)
  have lt3 : digitsVal (figL l) < 10000000 := lt2
  unfold numW
  by_cases n : neg? l = true
  · obtain ⟨r, rfl⟩ := neg_iff.mp n
    have ef : figL (45 :: r) = r := by unfold figL; rw [if_pos n]; rfl
    rw [ef] at h1 h2 h3 h4 lt3
    rw [if_pos n, ef]
    have hz : r.head? ≠ some 48 := fun e => by have := h4 e; simp at this
    have pos := digitsVal_zero_iff h1 h2 hz
    refine ⟨intText_neg (x := S (45 :: r)) rfl h1 h2 (by rw [S_len, List.length_cons]; omega), ?_, by omega, by omega⟩
    rw [txt_neg pos, numL_digits_val h1 h2 fun e => absurd e hz]
  · have ef : figL l = l := by unfold figL; rw [if_neg n]
    rw [ef] at h1 h2 h3 h4 lt3
    rw [if_neg n, ef]
    refine ⟨intText_digits (x := S l) h1 h2 (by rw [S_len]; omega), ?_, by omega, by omega⟩
    rw [num_S, numL_digits_val h1 h2 h4]
/-! ### what the code asks of a word -/
theorem starts_minus (l : List Nat) : Txt.startswith (S l) "-" = neg? l := by
  have e : ("-" : Str) = S [45] := by decide +kernel
  rw [e]
  unfold Txt.startswith Builtin.Str.subAt neg?
  cases l with
  | nil => simp [S, Str.length]
  | cons a r =>
    have : (S (a :: r)).cps.extract 0 (0 + (S [45]).length) = #[a] := by
      simp [S, Str.length]
    rw [this]
    have h2 : (decide (0 + (S [45]).length ≤ (S (a :: r)).length)) = true := by simp [S, Str.length]
    rw [h2]
    simp [S]
theorem strip_figs (l : List Nat) : (Txt.stripChars (S l) "0123456789" = Str.empty) ↔ l.all digB = true := by
  have e : ("0123456789" : Str) = S [48, 49, 50, 51, 52, 53, 54, 55, 56, 57] := by decide +kernel
  have g : ∀ c : Nat, (("0123456789" : Str).cps.contains c) = digB c := fun c => by
    rw [e]
    unfold digB
    rw [Bool.eq_iff_iff]
    simp [S]
    omega
  unfold Txt.stripChars
  rw [show (("0123456789" : Str).cps.contains : Nat → Bool) = digB from funext g, PySem.W.stripBy_eq]
  unfold PySem.W.stripped
  simp only [if_true]
  show Builtin.Str.strSub (S l) (l.takeWhile digB).length ((S l).length - ((l.drop (l.takeWhile digB).length).reverse.takeWhile digB).length) = Str.empty ↔ _
  have eq : Builtin.Str.strSub (S l) (l.takeWhile digB).length ((S l).length - ((l.drop (l.takeWhile digB).length).reverse.takeWhile digB).length) = S ((l.drop (l.takeWhile digB).length).take ((l.length - ((l.drop (l.takeWhile digB).length).reverse.takeWhile digB).length) - (l.takeWhile digB).length)) := by
    unfold Builtin.Str.strSub
    rw [S_len]
    congr 1
    apply Array.toList_inj.mp
    simp [S, Array.toList_extract, List.extract]
  rw [eq]
  have em : (S ((l.drop (l.takeWhile digB).length).take ((l.length - ((l.drop (l.takeWhile digB).length).reverse.takeWhile digB).length) - (l.takeWhile digB).length)) = Str.empty) ↔ ((l.drop (l.takeWhile digB).length).take ((l.length - ((l.drop (l.takeWhile digB).length).reverse.takeWhile digB).length) - (l.takeWhile digB).length)) = [] := by
    constructor
    · intro h
      exact S_inj (b := []) h
    · intro h
      rw [h]
      rfl
  rw [em]
  rw [drop_takeWhile]
  have h3 : l.length = (l.takeWhile digB).length + (l.dropWhile digB).length := by rw [← List.length_append, List.takeWhile_append_dropWhile]
  constructor
  · intro h
    rw [List.all_eq_true]
    cases hr : l.dropWhile digB with
    | nil =>
      intro c hc
      rw [← List.takeWhile_append_dropWhile (p := digB) (l := l), hr, List.append_nil] at hc
      exact of_takeWhile hc
    | cons c r =>
      exfalso
      have hb := dropWhile_head hr
      have short : ((l.dropWhile digB).reverse.takeWhile digB).length < (l.dropWhile digB).length := by
        have le := (List.takeWhile_sublist digB (l := (l.dropWhile digB).reverse)).length_le
        rw [List.length_reverse] at le
        refine Nat.lt_of_le_of_ne le fun e => ?_
        have whole : (l.dropWhile digB).reverse.takeWhile digB = (l.dropWhile digB).reverse := (List.takeWhile_prefix digB).eq_of_length (by rw [e, List.length_reverse])
        have hc : digB c = true := of_takeWhile (l := (l.dropWhile digB).reverse) (by rw [whole, hr]; simp)
        rw [hb] at hc
        cases hc
      rcases List.take_eq_nil_iff.mp h with h5 | h5
      · omega
      · rw [hr] at h5
        cases h5
  · intro h
    have e1 : l.takeWhile digB = l := NumText.takeWhile_all (List.all_eq_true.mp h)
    rw [← drop_takeWhile, e1]
    simp
end Wk

set_option Elab.async false
set_option linter.all false
set_option maxRecDepth 100000
set_option maxHeartbeats 4000000
/-! Ux: texts in the layer of Wk: slices, strip, split, join, int(text), str(int), text + text, text * n. -/
namespace Wk
open PySem PySem.Spec PyProof.Rows L2 Evl SX
/-! ### text * n -/
def timesS (z : Str) (n : Nat) : Str := ⟨(List.replicate n z.cps).foldl (· ++ ·) #[]⟩
def rMulS : R2 := fun x y H Q => ∃ (z : Str) (n : Nat), x = .str z ∧ y = .int (n : Int) ∧ z.length = 1 ∧ 2 ≤ n ∧ n ≤ 100000 ∧ Q (.str (timesS z n)) H
theorem op_mulS {X : Cx} : OpR X (binaryOp .Mult) rMulS := by
  intro pins s σ H x y u v Q J rx ry want
  obtain ⟨z, n, rfl, rfl, h1, h2, h3, q⟩ := want
  obtain ⟨t, rfl⟩ := rx
  obtain ⟨t2, rfl⟩ := ry
  have c1 : ¬ ((n : Int) < 1) := by omega
  have c2 : ¬ (((n : Int) == 1 || z.length == 0) = true) := by
    simp only [Bool.or_eq_true, beq_iff_eq]
    omega
  refine PySem.P.mul_str ?_ (fun _ _ => ?_) (fun _ _ => ?_) ?_
  · have a1 : ¬ ((n : Int) < -(2 ^ 63 : Int)) := by omega
    have a2 : ¬ ((n : Int) ≥ 2 ^ 63) := by omega
    rw [decide_eq_false a1, decide_eq_false a2]
    rfl
  · rw [h1]
    have : (1 : Int) ≤ (2 ^ 63 - 1) / (n : Int) := by
      rw [Int.le_ediv_iff_mul_le (by omega)]
      omega
    omega
  · unfold Builtin.Str.tooLong
    rw [h1]
    have : ¬ (1 * (n : Int).toNat > sizeLine) := by
      have := sz_of h3
      have e : (n : Int).toNat = n := by simp
      rw [e]
      omega
    exact decide_eq_false this
  · rw [if_neg c1, if_neg c2]
    have fit : (timesS z n).length ≤ sizeLine := by
      have len : ∀ (k : Nat) (acc : Array Nat), ((List.replicate k z.cps).foldl (· ++ ·) acc).size = acc.size + k * z.cps.size := fun k => by
        induction k with
        | zero => intro acc; simp
        | succ k ih =>
          intro acc
          rw [List.replicate_succ, List.foldl_cons, ih, Array.size_append, Nat.succ_mul]
          omega
      have e := len n #[]
      have e1 : z.cps.size = 1 := h1
      rw [e1] at e
      have e2 : (timesS z n).length = n := by
        show ((List.replicate n z.cps).foldl (· ++ ·) #[]).size = n
        rw [e]
        simp
      rw [e2]
      exact sz_of h3
    exact ⟨fit, .str _, H, J.tok _, ⟨_, rfl⟩, q⟩
section
variable {K : PySem.W.Frag} {s : L2.St} {H : Hp} {ta tb te to_ : TE} {z a b : Str} {n : Int}
theorem rv_mulS {k : Nat} (h1 : z.length = 1) (h2 : 2 ≤ k) (h3 : k ≤ 100000) : RV rMulS (.str z) (.int (k : Int)) H (.str (timesS z k)) := fun H1 _ _ q => ⟨z, k, rfl, rfl, h1, h2, h3, q H1 (Ex.refl H1)⟩
theorem rv_addS (h : a.length + b.length ≤ 100000) : RV (fun x y H Q => ∃ i j, x = .str i ∧ y = .str j ∧ i.length + j.length ≤ sizeLine ∧ Q (.str (i ++ j)) H) (.str a) (.str b) H (.str (a ++ b)) := fun H1 _ _ q => ⟨a, b, rfl, rfl, sz_of h, q H1 (Ex.refl H1)⟩
theorem ev_sl {tl th : TO} {lo hi : Option Int} (h : Ev te s H (.str z)) (h1 : EvO tl s H lo) (h2 : EvO th s H hi) (hz : z.length ≤ 100000) : Ev (L2.tSl C8.rSlX te tl th) s H (.str (Txt.slice z lo hi)) := fun H1 e Q q =>
  h H1 e _ fun H2 e2 => h1 H2 (e.trans e2) _ fun H3 e3 => h2 H3 ((e.trans e2).trans e3) _ fun H4 e4 => ⟨z, rfl, sz_of hz, q H4 (e2.trans (e3.trans e4))⟩
theorem ev_strip (h : Ev to_ s H (.str a)) (hb : Ev tb s H (.str b)) (hz : a.length ≤ 100000) :
    Ev (L2.tBM K "str" (fun x xs H Q => ∃ a b, x = .str a ∧ xs = [.str b] ∧ a.length ≤ sizeLine ∧ Q (.str (Txt.stripChars a b)) H) to_ (tCons tb tNil)) s H (.str (Txt.stripChars a b)) := fun H1 e Q q =>
  h H1 e _ fun H2 e2 => ⟨rfl, hb H2 (e.trans e2) _ fun H3 e3 => ⟨a, b, rfl, rfl, sz_of hz, q H3 (e2.trans e3)⟩⟩
theorem ev_starts (h : Ev to_ s H (.str a)) (hb : Ev tb s H (.str b)) :
    Ev (L2.tBM K "str" (fun x xs H Q => ∃ a b, x = .str a ∧ xs = [.str b] ∧ Q (.bl (Txt.startswith a b)) H) to_ (tCons tb tNil)) s H (.bl (Txt.startswith a b)) := fun H1 e Q q =>
  h H1 e _ fun H2 e2 => ⟨rfl, hb H2 (e.trans e2) _ fun H3 e3 => ⟨a, b, rfl, rfl, q H3 (e2.trans e3)⟩⟩
theorem el_split (h : Ev to_ s H (.str a)) (hb : Ev tb s H (.str b)) (hn : (b.length == 0) = false) (hz : a.length ≤ 90000) :
    EvL (L2.tBM K "str" (fun x xs H Q => ∃ a b, x = .str a ∧ xs = [.str b] ∧ (b.length == 0) = false ∧ a.length + 2 ≤ sizeLine ∧ rNewStrs (Txt.split a b) H Q) to_ (tCons tb tNil)) s H ((Txt.split a b).map V.str) := fun H1 e Q q =>
  h H1 e _ fun H2 e2 => ⟨rfl, hb H2 (e.trans e2) _ fun H3 e3 => ⟨a, b, rfl, rfl, hn, sz_of (by omega), fun p np => q p _ (fresh_back (e2.trans e3) np) ((e2.trans e3).trans (Ex.new np)) upd_same⟩⟩
theorem ev_join {ys : List Str} (h : Ev to_ s H (.str a)) (hb : EvP tb s H (IsL (ys.map V.str))) (hz : (ys.map (·.length)).sum + ys.length * a.length ≤ 16777216) :
    Ev (L2.tBM K "str" (fun x xs H Q => ∃ a p, ∃ ys : List Str, x = .str a ∧ xs = [.ref p] ∧ (SqL K H p (ys.map V.str) ∨ SqT K H p (ys.map V.str)) ∧ (ys.map (·.length)).sum + ys.length * a.length ≤ 16777216 ∧ Q (.str (Txt.join a ys)) H) to_ (tCons tb tNil)) s H (.str (Txt.join a ys)) := fun H1 e Q q =>
  h H1 e _ fun H2 e2 => ⟨rfl, hb H2 (e.trans e2) _ fun v H3 e3 ⟨p, ev, hp⟩ => by
    subst ev
    exact ⟨a, p, ys, rfl, rfl, .inl (sq_of hp), hz, q H3 (e2.trans e3)⟩⟩
theorem ev_intS (h : Ev te s H (.str a)) (hn : PySem.intText? a = some n) (hz : a.length ≤ 640) : Ev (tCB (fun xs H Q => ∃ a n, xs = [.str a] ∧ PySem.intText? a = some n ∧ a.length ≤ 640 ∧ Q (.int n) H) (tCons te tNil)) s H (.int n) :=
  ev_cb (ea_cons h ea_nil) fun H1 _ Q q => ⟨a, n, rfl, hn, hz, q H1 (Ex.refl H1)⟩
theorem ev_strI (h : Ev te s H (.int n)) (hz : n.natAbs.log2 < 1920) : Ev (tCB (fun xs H Q => ∃ i : Int, xs = [.int i] ∧ i.natAbs.log2 < 1920 ∧ Q (.str (toString i)) H) (tCons te tNil)) s H (.str (toString n)) :=
  ev_cb (ea_cons h ea_nil) fun H1 _ Q q => ⟨n, rfl, hz, q H1 (Ex.refl H1)⟩
theorem ev_lenS (h : Ev te s H (.str z)) (hz : z.length ≤ 100000) : Ev (tCB (fun xs H Q => ∃ z : Str, xs = [.str z] ∧ z.length ≤ sizeLine ∧ Q (.int z.length) H) (tCons te tNil)) s H (.int z.length) :=
  ev_cb (ea_cons h ea_nil) fun H1 _ Q q => ⟨z, rfl, sz_of hz, q H1 (Ex.refl H1)⟩
end
/-! ### the tests of number_in -/
theorem str_S {p q : List Nat} : (V.str (S p) = V.str (S q)) = (p = q) := propext ⟨fun h => S_inj (V.str.inj h), fun h => by rw [h]⟩
theorem dec_S {p q : List Nat} : decide (V.str (S p) = V.str (S q)) = decide (p = q) := by
  rw [Bool.eq_iff_iff, decide_eq_true_eq, decide_eq_true_eq, str_S]
theorem cut1 (l : List Nat) : Txt.slice (S l) (some 1) none = S (l.drop 1) := slice_from (by decide)
theorem to1 (l : List Nat) : Txt.slice (S l) none (some 1) = S (l.take 1) := slice_to (by decide)
theorem lit0 : ("0" : Str) = S [48] := by decide +kernel
theorem litE : ("" : Str) = S [] := by decide +kernel
theorem litM : ("-" : Str) = S [45] := by decide +kernel
theorem lit_ : (" " : Str) = S [32] := by decide +kernel
theorem figL_neg {l : List Nat} (h : neg? l = true) : figL l = l.drop 1 := by unfold figL; rw [if_pos h]
theorem figL_pos {l : List Nat} (h : neg? l = false) : figL l = l := by unfold figL; rw [h]; rfl
theorem strip_dec (f : List Nat) : (!decide (V.str (Txt.stripChars (S f) "0123456789") = V.str "")) = !f.all digB := by
  congr 1
  rw [Bool.eq_iff_iff, decide_eq_true_eq, ← strip_figs]
  exact ⟨fun h => V.str.inj h, fun h => by rw [h]; rfl⟩
theorem head_at {f : List Nat} (h : 1 ≤ f.length) : atI (S f).cps.toList 0 = some (f.headD 0) := by
  cases f with
  | nil => simp at h
  | cons c r =>
    show atI (c :: r) 0 = some c
    unfold atI ixN
    simp
theorem head_dec {f : List Nat} (h : 1 ≤ f.length) : (f.head? == some 48) = decide (f.headD 0 = 48) := by
  cases f with
  | nil => simp at h
  | cons c r =>
    rw [Bool.eq_iff_iff]
    simp
theorem bad_word (l : List Nat) : (!(decide (1 ≤ ((S (figL l)).length : Int)) && decide (((S (figL l)).length : Int) ≤ 7)) ||
    (!decide (V.str (Txt.stripChars (S (figL l)) "0123456789") = V.str "") || (decide (V.str ⟨#[(figL l).headD 0]⟩ = V.str "0") && !decide (V.str (S l) = V.str "0")))) = !okW l := by
  rw [strip_dec, lit0, show (⟨#[(figL l).headD 0]⟩ : Str) = S [(figL l).headD 0] from rfl, dec_S, dec_S, S_len]
  unfold okW
  by_cases h1 : 1 ≤ (figL l).length
  · rw [head_dec h1]
    have c1 : (decide (1 ≤ ((figL l).length : Int))) = true := decide_eq_true (by omega)
    have c2 : decide (((figL l).length : Int) ≤ 7) = decide ((figL l).length ≤ 7) := by rw [Bool.eq_iff_iff]; simp; omega
    have c3 : (l == [48]) = decide (l = [48]) := by rw [Bool.eq_iff_iff]; simp
    have c4 : decide ([(figL l).headD 0] = [48]) = decide ((figL l).headD 0 = 48) := by rw [Bool.eq_iff_iff]; simp
    rw [c1, c2, c3, c4, decide_eq_true h1]
    cases decide ((figL l).length ≤ 7) <;> cases (figL l).all digB <;> cases decide ((figL l).headD 0 = 48) <;> cases decide (l = [48]) <;> rfl
  · have c1 : (decide (1 ≤ ((figL l).length : Int))) = false := decide_eq_false (by omega)
    rw [c1, decide_eq_false h1]
    rfl
theorem bad_word2 (l : List Nat) : (decide (V.str (S (figL l)) = V.str "") || (decide (((S (figL l)).length : Int) > 7) ||
    (!decide (V.str (Txt.stripChars (S (figL l)) "0123456789") = V.str "") || (decide (V.str ⟨#[(figL l).headD 0]⟩ = V.str "0") && !decide (V.str (S l) = V.str "0"))))) = !okW l := by
  rw [← bad_word l, show decide (V.str (S (figL l)) = V.str "") = decide (figL l = []) from by rw [litE, dec_S], S_len]
  have c : (decide (figL l = []) || decide (((figL l).length : Int) > 7)) = !(decide (1 ≤ ((figL l).length : Int)) && decide (((figL l).length : Int) ≤ 7)) := by
    rw [Bool.eq_iff_iff]
    simp only [Bool.or_eq_true, decide_eq_true_eq, Bool.not_eq_true', Bool.and_eq_false_iff, decide_eq_false_iff_not]
    rw [← List.length_eq_zero_iff]
    omega
  rw [← c, Bool.or_assoc]
end Wk

set_option Elab.async false
set_option linter.all false
set_option maxRecDepth 100000
set_option maxHeartbeats 4000000
namespace Ev
open PySem PySem.Spec L2 Evl Wk
def topS (i : Nat) : Stmt := PySem.Challenge.pw_evenhand_k06_written.main.body.getD i (.Pass ⟨0, 0, 0, 0⟩)
abbrev s_is_whole : Stmt := topS 9
theorem sc_is_whole : FnScope ["thing"] ["thing"] (defScope s_is_whole) := ⟨rfl, rfl, rfl, by decide +kernel, rfl, by decide +kernel, by decide +kernel⟩
abbrev s_is_share : Stmt := topS 10
theorem sc_is_share : FnScope ["thing"] ["thing"] (defScope s_is_share) := ⟨rfl, rfl, rfl, by decide +kernel, rfl, by decide +kernel, by decide +kernel⟩
abbrev s_check_row : Stmt := topS 11
theorem sc_check_row : FnScope ["row", "share"] ["row"] (defScope s_check_row) := ⟨rfl, rfl, rfl, by decide +kernel, rfl, by decide +kernel, by decide +kernel⟩
abbrev s_written : Stmt := topS 14
theorem sc_written : FnScope ["row", "share"] ["row"] (defScope s_written) := ⟨rfl, rfl, rfl, by decide +kernel, rfl, by decide +kernel, by decide +kernel⟩
abbrev s_number_in : Stmt := topS 15
theorem sc_number_in : FnScope ["word", "figures"] ["word"] (defScope s_number_in) := ⟨rfl, rfl, rfl, by decide +kernel, rfl, by decide +kernel, by decide +kernel⟩
abbrev s_read : Stmt := topS 16
theorem sc_read : FnScope ["text", "row", "word"] ["text"] (defScope s_read) := ⟨rfl, rfl, rfl, by decide +kernel, rfl, by decide +kernel, by decide +kernel⟩
abbrev s_law_cell_at : Stmt := topS 18
theorem sc_law_cell_at : FnScope ["_law_script", "_law_k"] ["_law_script", "_law_k"] (defScope s_law_cell_at) := ⟨rfl, rfl, rfl, by decide +kernel, rfl, by decide +kernel, by decide +kernel⟩
abbrev s_law_draw : Stmt := topS 19
theorem sc_law_draw : FnScope ["_law_cell", "_law_k", "_law_many", "_law_primes"] ["_law_cell", "_law_k", "_law_many"] (defScope s_law_draw) := ⟨rfl, rfl, rfl, by decide +kernel, rfl, by decide +kernel, by decide +kernel⟩
abbrev s_law_row : Stmt := topS 20
theorem sc_law_row : FnScope ["_law_script", "_law_most", "_law_row_here", "_law_k", "_law_share"] ["_law_script"] (defScope s_law_row) := ⟨rfl, rfl, rfl, by decide +kernel, rfl, by decide +kernel, by decide +kernel⟩
abbrev s_law_other : Stmt := topS 21
theorem sc_law_other : FnScope ["_law_script", "_law_row_here", "_law_found", "_law_kind", "_law_k", "_law_one", "_law_other_here", "_law_more", "_law_amount"] ["_law_script", "_law_row_here"] (defScope s_law_other) := ⟨rfl, rfl, rfl, by decide +kernel, rfl, by decide +kernel, by decide +kernel⟩
abbrev s_law_numbers : Stmt := topS 22
theorem sc_law_numbers : FnScope ["_law_found", "_law_many", "_law_one"] ["_law_found", "_law_many"] (defScope s_law_numbers) := ⟨rfl, rfl, rfl, by decide +kernel, rfl, by decide +kernel, by decide +kernel⟩
abbrev s_law_number : Stmt := topS 23
theorem sc_law_number : FnScope ["_law_text", "_law_figures"] ["_law_text"] (defScope s_law_number) := ⟨rfl, rfl, rfl, by decide +kernel, rfl, by decide +kernel, by decide +kernel⟩
abbrev s_law_in : Stmt := topS 24
theorem sc_law_in : FnScope ["_law_text", "_law_found", "_law_word"] ["_law_text"] (defScope s_law_in) := ⟨rfl, rfl, rfl, by decide +kernel, rfl, by decide +kernel, by decide +kernel⟩
abbrev s_law_refused : Stmt := topS 25
theorem sc_law_refused : FnScope ["_law_text", "error", "_law_others"] ["_law_text"] (defScope s_law_refused) := ⟨rfl, rfl, rfl, by decide +kernel, rfl, by decide +kernel, by decide +kernel⟩
abbrev s_law_right : Stmt := topS 26
theorem sc_law_right : FnScope ["_law_text", "_law_due", "_law_found"] ["_law_text"] (defScope s_law_right) := ⟨rfl, rfl, rfl, by decide +kernel, rfl, by decide +kernel, by decide +kernel⟩
abbrev s_law_few : Stmt := topS 27
theorem sc_law_few : FnScope ["_law_some"] [] (defScope s_law_few) := ⟨rfl, rfl, rfl, by decide +kernel, rfl, by decide +kernel, by decide +kernel⟩
abbrev s_law : Stmt := topS 28
theorem sc_law : FnScope ["_law_script", "_law_row_here", "_law_text", "_law_handed", "_law_cell", "_law_k", "_law_at", "_law_sign", "_law_share", "_law_thing", "_law_other_here"] ["_law_script"] (defScope s_law) := ⟨rfl, rfl, rfl, by decide +kernel, rfl, by decide +kernel, by decide +kernel⟩
structure Txt (K : PySem.W.Frag) (mg : Str → Option Value) : Prop where
  n_len : mg "len" = none
  n_all : mg "all" = none
  n_any : mg "any" = none
  n_sum : mg "sum" = none
  n_max : mg "max" = none
  n_min : mg "min" = none
  n_sorted : mg "sorted" = none
  n_isinstance : mg "isinstance" = none
  n_range : mg "range" = none
  n_reversed : mg "reversed" = none
  n_zip : mg "zip" = none
  n_list : mg "list" = none
  n_abs : mg "abs" = none
  n_str : mg "str" = none
  n_int : mg "int" = none
  n_set : mg "set" = none
  n_bool : mg "bool" = none
  n_tuple : mg "tuple" = none
  n_ValueError : mg "ValueError" = none
  g_GREATEST : ∃ t, mg "GREATEST" = some (.int 1000000 t)
  g_FIGURES : ∃ t, mg "FIGURES" = some (.str "0123456789" t)
end Ev

set_option Elab.async false
set_option linter.all false
set_option maxRecDepth 100000
set_option maxHeartbeats 4000000
namespace Ev
open PySem PySem.Spec L2 Evl Wk
/-! ### rows: is_whole, is_share, check_row, running, over -/
local macro_rules | `(tactic| walk_at "ev") => `(tactic| first
  | exact ev_c | exact ev_var rfl | assumption
  | (refine ev_op ?_ ?_ rv_I0 <;> walk_at "ev")
  | (refine ev_un ?_ ru_neg; walk_at "ev"))
def tyns : List String := ["int", "bool", "str", "list", "tuple", "dict", "NoneType"]
def spWhole (K : PySem.W.Frag) : Sp := fun vs H Q _ => ∃ (x : V) (n : String), vs = [x] ∧ TyX K H x (.type n) ∧ n ∈ tyns ∧ RetV (.bl (n == "int")) H Q
section
variable {P : Program} {w : World} {K : PySem.W.Frag} {mg : Str → Option Value} {base : Heap}
theorem def_is_whole (R : Raw K mg "is_whole" s_is_whole ["thing"]) (T : Txt K mg) : Def P w K mg base CX0 1 "is_whole" ["thing"] (spWhole K) := by
  refine R.ok fun f fd F => F.ok sc_is_whole (fun vs H Q E h => ?_) (fun cdv A outer s H vs Q E hr h => ?_)
  · obtain ⟨x, n, rfl, _⟩ := h
    rfl
  · obtain ⟨x, n, rfl, ty, hn, q⟩ := h
    refine ⟨_, (pss_cons (ps_ret (pe_and (pe_callB (r := rIsi K) call_isi (by rfl) T.n_isinstance (by decide +kernel) (pa_cons (pv 0) (pa_cons (pe_bltn (v := .ty "int") (u := .type "int") (by rfl) T.n_int (by decide +kernel) rfl) pa_nil))) (pe_one (pe_not (pe_callB (r := rIsi K) call_isi (by rfl) T.n_isinstance (by decide +kernel) (pa_cons (pv 0) (pa_cons (pe_bltn (v := .ty "bool") (u := .type "bool") (by rfl) T.n_bool (by decide +kernel) rfl) pa_nil)))))))
      pss_nil), ?_⟩
    have k1 : ∃ a b : Bool, PySem.W.kitOne K (.type n) (.type "int") = some a ∧ PySem.W.kitOne K (.type n) (.type "bool") = some b ∧ (a && !b) = (n == "int") := by
      simp only [tyns, List.mem_cons, List.not_mem_nil, or_false] at hn
      rcases hn with rfl | rfl | rfl | rfl | rfl | rfl | rfl
      · exact ⟨true, false, kit_ty (by decide +kernel), kit_ty (by decide +kernel), by decide +kernel⟩
      · exact ⟨true, true, kit_ty (by decide +kernel), kit_ty (by decide +kernel), by decide +kernel⟩
      · exact ⟨false, false, kit_ty (by decide +kernel), kit_ty (by decide +kernel), by decide +kernel⟩
      · exact ⟨false, false, kit_ty (by decide +kernel), kit_ty (by decide +kernel), by decide +kernel⟩
      · exact ⟨false, false, kit_ty (by decide +kernel), kit_ty (by decide +kernel), by decide +kernel⟩
      · exact ⟨false, false, kit_ty (by decide +kernel), kit_ty (by decide +kernel), by decide +kernel⟩
      · exact ⟨false, false, kit_ty (by decide +kernel), kit_ty (by decide +kernel), by decide +kernel⟩
    obtain ⟨a, b, k2, k3, k4⟩ := k1
    refine Sv.go (w_ret (v := .bl (a && !b)) (ev_andV (ev_isi (ev_var rfl) ev_c (.ty _) ty k2) fun _ => ev_notV (ev_isi (ev_var rfl) ev_c (.ty _) ty k3)) fun H1 e1 => ?_)
    rw [k4]
    exact q H1 e1
def isSh (i : Int) : Bool := decide (-1000000 ≤ i) && decide (i ≤ 1000000)
/-- what is_share says of a value -/
def shV : V → Bool
  | .int i => isSh i
  | _ => false
def spShare (K : PySem.W.Frag) : Sp := fun vs H Q _ => ∃ (x : V) (n : String), vs = [x] ∧ TyX K H x (.type n) ∧ n ∈ tyns ∧ ((n == "int") = true → ∃ i, x = .int i) ∧ RetV (.bl ((n == "int") && shV x)) H Q
theorem def_is_share (R : Raw K mg "is_share" s_is_share ["thing"]) (T : Txt K mg) (d_is_whole : Def P w K mg base CX0 1 "is_whole" ["thing"] (spWhole K)) : Def P w K mg base CX0 2 "is_share" ["thing"] (spShare K) := by
  refine R.ok fun f fd F => F.ok sc_is_share (fun vs H Q E h => ?_) (fun cdv A outer s H vs Q E hr h => ?_)
  · obtain ⟨x, n, rfl, _⟩ := h
    rfl
  · obtain ⟨x, n, rfl, ty, hn, hi, q⟩ := h
    refine ⟨_, (pss_cons (ps_ret (pe_and (pe_def d_is_whole hr (by decide) (by rfl) pass0 (pa_cons (pv 0) pa_nil)) (pe_one (pe_chain op_le op_le (pe_un un_neg (pe_glob (v := .int 1000000) rfl T.g_GREATEST.choose_spec ⟨_, rfl⟩)) (pv 0) (pe_glob (v := .int 1000000) rfl T.g_GREATEST.choose_spec ⟨_, rfl⟩)))))
      pss_nil), ?_⟩
    refine Sv.go (w_ret (v := .bl ((n == "int") && shV x)) (ev_andV (ev_call (dvs := []) (ea_cons (ev_var rfl) ea_nil) fun H1 e1 Q q E => ⟨x, n, rfl, tyx_mono e1 ty, hn, q⟩) fun hb => ?_) fun H1 e1 => q H1 e1)
    obtain ⟨i, rfl⟩ := hi hb
    exact ev_chain (ev_un ev_c ru_neg) (ev_var rfl) rv_I0 fun _ => ⟨ev_c, rv_I0⟩
/-- a row of shares -/
def RowOk (ns : List Int) : Prop := ns ≠ [] ∧ (∀ x ∈ ns, isSh x = true) ∧ ns.length ≤ 100000
theorem isSh_iff {i : Int} : isSh i = true ↔ -1000000 ≤ i ∧ i ≤ 1000000 := by simp [isSh]
theorem ints_all {α : Type} {f : α → Bool} {l : List α} (h : ∀ x ∈ l, f x = true) : (l.map f).all id = true := by
  rw [List.all_eq_true]
  intro b hb
  obtain ⟨x, hx, rfl⟩ := List.mem_map.mp hb
  exact h x hx
theorem map_bl {α : Type} (f : α → Bool) (l : List α) : l.map (fun x => V.bl (f x)) = (l.map f).map V.bl := by rw [List.map_map]; rfl
theorem map_int {α : Type} (f : α → Int) (l : List α) : l.map (fun x => V.int (f x)) = (l.map f).map V.int := by rw [List.map_map]; rfl
/-- all([is_share(x) for x in row]) -/
theorem ev_shares {s : L2.St} {H : Hp} {tl : TE} {E : XK} {j : Nat} {a : Addr} (ns : List Int) (h : Ev tl s H (.ref a)) (hx : H a = some (.lst (ns.map V.int))) (hz : ns.length ≤ 100000) (hw : ∀ x, wipe ((wipe s [j]).set j (some x)) [j] = wipe s [j])
    (hj : ∀ x, ((wipe s [j]).set j (some x))[j]? = some (some x)) :
    Ev (tCB (rAll K) (tCons (tLc (iList K tl) (gName j) tYes (tCall (spShare K) [] E (tCons (tVar j) tNil)) [j]) tNil)) s H (.bl ((ns.map isSh).all id)) := by
  have h2 := el_map (K := K) (te := tCall (spShare K) [] E (tCons (tVar j) tNil)) ns V.int (fun x => V.bl (isSh x)) h (sq_of hx) hz hw (fun x _ => ev_call (dvs := []) (ea_cons (ev_var (hj _)) ea_nil) fun H1 e1 Q q E => ⟨.int x, "int", rfl, .base (.int x), by simp [tyns], fun _ => ⟨x, rfl⟩, q⟩)
  rw [map_bl] at h2
  exact ev_all h2.p
def spCheckRow : Sp := fun vs H Q _ => ∃ (a : Addr) (ns : List Int), vs = [.ref a] ∧ H a = some (.lst (ns.map V.int)) ∧ RowOk ns ∧ RetV .non H Q
theorem def_check_row (R : Raw K mg "check_row" s_check_row ["row"]) (T : Txt K mg) (d_is_share : Def P w K mg base CX0 2 "is_share" ["thing"] (spShare K)) : Def P w K mg base CX0 3 "check_row" ["row"] spCheckRow := by
  refine R.ok fun f fd F => F.ok sc_check_row (fun vs H Q E h => ?_) (fun cdv A outer s H vs Q E hr h => ?_)
  · obtain ⟨a, ns, rfl, _⟩ := h
    rfl
  · obtain ⟨a, ns, rfl, ha, ⟨h1, h2, h3⟩, q⟩ := h
    refine ⟨_, (pss_cons (ps_if (PW.pt (pw_or (pt_not (pt_val (pe_callB (r := rIsi K) call_isi (by rfl) T.n_isinstance (by decide +kernel) (pa_cons (pv 0) (pa_cons (pe_bltn (v := .ty "list") (u := .type "list") (by rfl) T.n_list (by decide +kernel) rfl) pa_nil))))) (pw_or (pt_cmpR op_eq (pe_callB (r := rLenS K) call_len_seq (by rfl) T.n_len PySem.boot_len (pa_cons (pv 0) pa_nil)) pe_int (nomark _)) (pw_or1 (pt_not (pt_val (pe_callB (r := rAll K) (cr_all rfl) (by rfl) T.n_all (by decide +kernel) (pa_cons (pe_lc (own := [("share", 1)]) (g := gName 1) rfl sc_check_row.nd (pi_list (pv 0)) (blkOk_by (own := [("share", 1)]) (N := ["row", "share"]) (sc := defScope s_check_row) (by decide +kernel)) (fun _ _ _ _ _ => pg_name (i := 1) sc_check_row.nd rfl (Or.inl rfl)) (fun _ _ _ _ _ => pts_nil) (fun _ _ _ _ _ => (pe_def d_is_share hr (by decide) (by rfl) pass0 (pa_cons (pv 1) pa_nil)))) pa_nil))))))))
        (pss_cons ps_never
          pss_nil)
        pss_nil)
      pss_nil), ?_⟩
    have hl : (V.int (((ns.map V.int).length : Nat) : Int) = V.int 0) = False := by
      simp only [V.int.injEq, List.length_map, eq_iff_iff, iff_false]
      have := List.length_pos_iff.mpr h1
      omega
    refine Sv.go (w_if (b := false) (et_is (et_or (et_not (et_B (ev_isi (b := true) (ev_var rfl) ev_c (.ty _) (.base (.lst ha)) (kit_ty (by decide +kernel))))) fun _ => et_or (et_test (ev_op (ev_lenL (ev_var' rfl ha)) ev_c (rv_eq rfl))) fun _ => et_not (et_B (ev_shares ns (ev_var rfl) ha h3 (fun _ => rfl) (fun _ => rfl)))) ?_) (fun h => nomatch h) fun _ => w_nx fun H1 e1 => q H1 e1)
    rw [ints_all h2]
    simp only [hl]
    rfl
/-- the running sums -/
def runs : Int → List Int → List Int
  | _, [] => []
  | t, x :: r => (t + x) :: runs (t + x) r
theorem runs_len : ∀ (t : Int) (l : List Int), (runs t l).length = l.length
  | _, [] => rfl
  | t, x :: r => by simp [runs, runs_len (t + x) r]
theorem runs_snoc : ∀ (t : Int) (l : List Int) (x : Int), runs t (l ++ [x]) = runs t l ++ [t + l.sum + x]
  | t, [], x => by simp [runs]
  | t, y :: l, x => by
    show (t + y) :: runs (t + y) (l ++ [x]) = (t + y) :: (runs (t + y) l ++ [t + (y :: l).sum + x])
    rw [runs_snoc (t + y) l x, List.sum_cons]
    have e : t + y + l.sum + x = t + (y + l.sum) + x := by omega
    rw [e]
theorem int_at {ns : List Int} {i : Nat} {x : V} (h : (ns.map V.int)[i]? = some x) : ∃ n, ns[i]? = some n ∧ x = .int n := by
  rw [List.getElem?_map] at h
  cases e : ns[i]? with
  | none => rw [e] at h; cases h
  | some n => rw [e] at h; exact ⟨n, rfl, (Option.some.inj h).symm⟩
def spRunning : Sp := fun vs H Q _ => ∃ (a : Addr) (ns : List Int), vs = [.ref a] ∧ H a = some (.lst (ns.map V.int)) ∧ ns.length ≤ 10000 ∧ RetL ((runs 0 ns).map V.int) H Q
end
end Ev

set_option Elab.async false
set_option linter.all false
set_option maxRecDepth 100000
set_option maxHeartbeats 4000000
namespace Ev
open PySem PySem.Spec L2 Evl Wk
/-! ### the classes of errors; values of any type; rows and what is none -/
structure Errs (K : PySem.W.Frag) (mg : Str → Option Value) (cS cB cG cA cU cT : Addr) : Prop where
  g_ShareError : mg "ShareError" = some (.ref cS)
  e_BadRow : ErrC K mg "BadRow" cB
  e_BadGifts : ErrC K mg "BadGifts" cG
  e_BadAmount : ErrC K mg "BadAmount" cA
  e_Unlike : ErrC K mg "Unlike" cU
  e_BadText : ErrC K mg "BadText" cT
section
variable {K : PySem.W.Frag} {mg : Str → Option Value} {cS cB cG cA cU cT : Addr}
theorem Errs.g_BadRow (h : Errs K mg cS cB cG cA cU cT) : mg "BadRow" = some (.ref cB) := h.e_BadRow.g
theorem Errs.g_BadGifts (h : Errs K mg cS cB cG cA cU cT) : mg "BadGifts" = some (.ref cG) := h.e_BadGifts.g
theorem Errs.g_BadAmount (h : Errs K mg cS cB cG cA cU cT) : mg "BadAmount" = some (.ref cA) := h.e_BadAmount.g
theorem Errs.g_Unlike (h : Errs K mg cS cB cG cA cU cT) : mg "Unlike" = some (.ref cU) := h.e_Unlike.g
theorem Errs.g_BadText (h : Errs K mg cS cB cG cA cU cT) : mg "BadText" = some (.ref cT) := h.e_BadText.g
end
/-- what isinstance says of built-in types -/
def subT (n m : String) : Bool := n == m || (n == "bool" && m == "int")
theorem kit_tyns {K : PySem.W.Frag} {n m : String} (hn : n ∈ tyns) (hm : m ∈ ["int", "bool", "list", "tuple", "str"]) : PySem.W.kitOne K (.type n) (.type m) = some (subT n m) := by
  simp only [tyns, List.mem_cons, List.not_mem_nil, or_false] at hn hm
  rcases hn with rfl | rfl | rfl | rfl | rfl | rfl | rfl <;> rcases hm with rfl | rfl | rfl | rfl | rfl <;> exact kit_ty (by decide +kernel)
/-- a value of the type n -/
def ValT (K : PySem.W.Frag) (n : String) : V → Hp → Prop := fun x H => TyX K H x (.type n) ∧ n ∈ tyns ∧ ((n == "int") = true → ∃ i, x = .int i) ∧ ((n == "int") = false → shV x = false)
instance {K : PySem.W.Frag} {n : String} : MonoP (ValT K n) := ⟨fun e h => ⟨tyx_mono e h.1, h.2⟩⟩
section
variable {K : PySem.W.Frag} {s : L2.St} {H H' : Hp} {te : TE} {x y : V} {n : String} {E : XK} {a : Addr} {xs : List V} {cB : Addr}
theorem valT_int (i : Int) : ValT K "int" (.int i) H := ⟨.base (.int i), by simp [tyns], fun _ => ⟨i, rfl⟩, fun h => absurd h (by decide)⟩
theorem valT_non : ValT K "NoneType" .non H := ⟨.base .non, by simp [tyns], fun h => absurd h (by decide), fun _ => rfl⟩
theorem valT_bl (b : Bool) : ValT K "bool" (.bl b) H := ⟨.base (.bl b), by simp [tyns], fun h => absurd h (by decide), fun _ => rfl⟩
theorem valT_str (z : Str) : ValT K "str" (.str z) H := ⟨.base (.str z), by simp [tyns], fun h => absurd h (by decide), fun _ => rfl⟩
theorem valT_lst (h : H a = some (.lst xs)) : ValT K "list" (.ref a) H := ⟨.base (.lst h), by simp [tyns], fun h => absurd h (by decide), fun _ => rfl⟩
theorem valT_tup (h : H a = some (.tup xs)) : ValT K "tuple" (.ref a) H := ⟨.base (.tup h), by simp [tyns], fun h => absurd h (by decide), fun _ => rfl⟩
theorem valT_dk {kvs} (h : H a = some (.dK kvs)) : ValT K "dict" (.ref a) H := ⟨.base (.dK h), by simp [tyns], fun h => absurd h (by decide), fun _ => rfl⟩
theorem ev_vshare (h : Ev te s H x) (hv : ValT K n x H) : Ev (tCall (spShare K) [] E (tCons te tNil)) s H (.bl (shV x)) :=
  ev_call (dvs := []) (ea_cons h ea_nil) fun H1 e1 Q q E => ⟨x, n, rfl, tyx_mono e1 hv.1, hv.2.1, hv.2.2.1, by
    have e : ((n == "int") && shV x) = shV x := by
      cases hn : n == "int" with
      | true => rfl
      | false => rw [hv.2.2.2 hn]; rfl
    rw [e]
    exact q⟩
theorem ev_vwhole (h : Ev te s H x) (hv : ValT K n x H) : Ev (tCall (spWhole K) [] E (tCons te tNil)) s H (.bl (n == "int")) :=
  ev_call (dvs := []) (ea_cons h ea_nil) fun H1 e1 Q q E => ⟨x, n, rfl, tyx_mono e1 hv.1, hv.2.1, q⟩
theorem ev_visi {m : String} (h : Ev te s H x) (hv : ValT K n x H) (hm : m ∈ ["int", "bool", "list", "tuple", "str"]) : Ev (tCB (rIsi K) (tCons te (tCons (tC (.ty m)) tNil))) s H (.bl (subT n m)) :=
  ev_isi h ev_c (.ty _) hv.1 (kit_tyns hv.2.1 hm)
/-- what is no row -/
def BadRowV (K : PySem.W.Frag) : V → Hp → Prop := fun x H => (∃ n, ValT K n x H ∧ n ≠ "list") ∨ (∃ a xs, x = .ref a ∧ H a = some (.lst xs) ∧ xs.length ≤ 10000 ∧ (∀ y ∈ xs, ∃ n, ValT K n y H) ∧ (xs.map shV).all id = false) ∨ (∃ a, x = .ref a ∧ H a = some (.lst []))
instance : MonoP (BadRowV K) := ⟨fun e h => h.imp (fun ⟨n, h1, h2⟩ => ⟨n, MonoP.mono e h1, h2⟩) (Or.imp (fun ⟨a, xs, h1, h2, h3, h4, h5⟩ => ⟨a, xs, h1, e _ _ h2, h3, (fun y hy => let ⟨n, h⟩ := h4 y hy; ⟨n, MonoP.mono e h⟩), h5⟩) fun ⟨a, h1, h2⟩ => ⟨a, h1, e _ _ h2⟩)⟩
theorem subT_list (h : n ≠ "list") : subT n "list" = false := by
  unfold subT
  rw [beq_eq_false_iff_ne.mpr h]
  simp
theorem subT_tuple (h : n ≠ "tuple") : subT n "tuple" = false := by
  unfold subT
  rw [beq_eq_false_iff_ne.mpr h]
  simp
def spCheckRowX (K : PySem.W.Frag) (cB : Addr) : Sp := fun vs H Q E => (∃ (a : Addr) (ns : List Int), vs = [.ref a] ∧ H a = some (.lst (ns.map V.int)) ∧ RowOk ns ∧ RetV .non H Q) ∨ (∃ x, vs = [x] ∧ BadRowV K x H ∧ Err cB H E)
theorem ev_rowok {ns : List Int} (h : Ev te s H (.ref a)) (ha : H a = some (.lst (ns.map V.int))) (hR : RowOk ns) : Ev (tCall (spCheckRowX K cB) [] E (tCons te tNil)) s H .non :=
  ev_call (dvs := []) (ea_cons h ea_nil) fun H1 e1 Q q E => .inl ⟨a, ns, rfl, e1 _ _ ha, hR, q⟩
theorem evx_row (h : Ev te s H x) (hx : BadRowV K x H) (er : Err cB H E) : EvX (tCall (spCheckRowX K cB) [] E (tCons te tNil)) s H :=
  evx_call (ap_one h.p) fun vs H1 e1 ⟨v, ev, pv⟩ Q => .inr ⟨x, by rw [ev, pv], MonoP.mono e1 hx, er.mono e1⟩
end
section
variable {P : Program} {w : World} {K : PySem.W.Frag} {mg : Str → Option Value} {base : Heap} {cS cB cG cA cU cT : Addr}
theorem defX_check_row (R : Raw K mg "check_row" s_check_row ["row"]) (T : Txt K mg) (ER : Errs K mg cS cB cG cA cU cT) (d_is_share : Def P w K mg base CX0 2 "is_share" ["thing"] (spShare K)) : Def P w K mg base (L2N.CX P w) 3 "check_row" ["row"] (spCheckRowX K cB) := by
  refine R.ok fun f fd F => F.okN sc_check_row (fun vs H Q E h => ?_) (fun cdv A outer s H vs Q E hr h => ?_)
  · rcases h with ⟨a, ns, rfl, _⟩ | ⟨x, rfl, _⟩ <;> rfl
  · refine ⟨_, (pss_cons (ps_if (PW.pt (pw_or (pt_not (pt_val (pe_callB (r := rIsi K) call_isi (by rfl) T.n_isinstance (by decide +kernel) (pa_cons (pv 0) (pa_cons (pe_bltn (v := .ty "list") (u := .type "list") (by rfl) T.n_list (by decide +kernel) rfl) pa_nil))))) (pw_or (pt_cmpR op_eq (pe_callB (r := rLenS K) call_len_seq (by rfl) T.n_len PySem.boot_len (pa_cons (pv 0) pa_nil)) pe_int (nomark _)) (pw_or1 (pt_not (pt_val (pe_callB (r := rAll K) (cr_all rfl) (by rfl) T.n_all (by decide +kernel) (pa_cons (pe_lc (own := [("share", 1)]) (g := gName 1) rfl sc_check_row.nd (pi_list (pv 0)) (blkOk_by (own := [("share", 1)]) (N := ["row", "share"]) (sc := defScope s_check_row) (by decide +kernel)) (fun _ _ _ _ _ => pg_name (i := 1) sc_check_row.nd rfl (Or.inl rfl)) (fun _ _ _ _ _ => pts_nil) (fun _ _ _ _ _ => (pe_def d_is_share hr (by decide) (by rfl) pass0 (pa_cons (pv 1) pa_nil)))) pa_nil))))))))
        (pss_cons (L2N.ps_raise rfl (L2N.takes_of rfl rfl rfl rfl) (L2N.pmk_own PySem.F.excBase_ValueError ER.e_BadRow.ex ER.e_BadRow.g ER.e_BadRow.kp (raises_own ER.e_BadRow.sb ER.e_BadRow.ty) rfl))
          pss_nil)
        pss_nil)
      pss_nil), ?_⟩
    rcases h with ⟨a, ns, rfl, ha, ⟨h1, h2, h3⟩, q⟩ | ⟨x, rfl, hx, er⟩
    · have hl : (V.int (((ns.map V.int).length : Nat) : Int) = V.int 0) = False := by
        simp only [V.int.injEq, List.length_map, eq_iff_iff, iff_false]
        have := List.length_pos_iff.mpr h1
        omega
      refine Sv.go (w_if (b := false) (et_is (et_or (et_not (et_B (ev_isi (b := true) (ev_var rfl) ev_c (.ty _) (.base (.lst ha)) (kit_ty (by decide +kernel))))) fun _ => et_or (et_test (ev_op (ev_lenL (ev_var' rfl ha)) ev_c (rv_eq rfl))) fun _ => et_not (et_B (ev_shares ns (ev_var rfl) ha h3 (fun _ => rfl) (fun _ => rfl)))) ?_) (fun h => nomatch h) fun _ => w_nx fun H1 e1 => q H1 e1)
      rw [ints_all h2]
      simp only [hl]
      rfl
    · refine Sv.go (w_when (b := true) ?_ (fun _ => w_raise er) (fun h => nomatch h))
      rcases hx with ⟨n, hv, hn⟩ | ⟨a, xs, rfl, ha, hz, hy, hf⟩ | ⟨a, rfl, ha⟩
      · refine et_is (et_or (et_not (et_B (ev_visi (ev_var rfl) hv (by simp)))) (b := true) fun h => ?_) ?_
        · rw [subT_list hn] at h
          cases h
        · rw [subT_list hn]
          rfl
      · refine et_is (et_or (et_not (et_B (ev_isi (b := true) (ev_var rfl) ev_c (.ty _) (.base (.lst ha)) (kit_ty (by decide +kernel))))) fun _ => et_or (et_test (ev_op (ev_lenL (ev_var' rfl ha)) ev_c (rv_eq rfl))) fun _ => et_not (et_B (ev_all (bs := xs.map shV) (EvL.p ?_)))) ?_
        · rw [← map_bl]
          refine el_map xs id (fun x => V.bl (shV x)) (ev_var rfl) (by rw [List.map_id]; exact sq_of ha) (by omega) (fun _ => rfl) fun x hx => ?_
          obtain ⟨n, hv⟩ := hy x hx
          exact ev_vshare (ev_var rfl) hv
        · rw [hf]
          simp
      · refine et_is (et_or (et_not (et_B (ev_isi (b := true) (ev_var rfl) ev_c (.ty _) (.base (.lst ha)) (kit_ty (by decide +kernel))))) fun _ => et_or (et_test (ev_op (ev_lenL (ev_var' rfl ha)) ev_c (rv_eq rfl))) (b := true) fun h => ?_) rfl
        simp at h
end
end Ev

set_option Elab.async false
set_option linter.all false
set_option maxRecDepth 100000
set_option maxHeartbeats 4000000
namespace Ev
open PySem PySem.Spec L2 Evl Wk SX
/-! ### what words tell -/
section
variable {P : Program} {w : World} {K : PySem.W.Frag} {mg : Str → Option Value} {base : Heap} {cS cB cG cA cU cT : Addr}
def spNumX (cT : Addr) : Sp := fun vs H Q E => ∃ l : List Nat, vs = [.str (S l)] ∧ l.length ≤ 9000 ∧ ((okW l = true ∧ RetV (.int (numW l)) H Q) ∨ (okW l = false ∧ Err cT H E))
theorem ev_cut {s : L2.St} {H : Hp} {te tb : TE} {l : List Nat} (h : Ev te s H (.str (S l))) (hb : Ev tb s H (.int 1)) (hz : l.length ≤ 9000) : Ev (L2.tSl C8.rSlX te (tPart tb) tNoPart) s H (.str (S (l.drop 1))) :=
  ev_is (ev_sl h (eo_some hb) eo_none (by rw [S_len]; omega)) (by rw [cut1])
theorem defX_number_in (R : Raw K mg "number_in" s_number_in ["word"]) (T : Txt K mg) (ER : Errs K mg cS cB cG cA cU cT) : Def P w K mg base (L2N.CX P w) 1 "number_in" ["word"] (spNumX cT) := by
  refine R.ok fun f fd F => F.okN sc_number_in (fun vs H Q E h => ?_) (fun cdv A outer s H vs Q E hr h => ?_)
  · obtain ⟨l, rfl, _⟩ := h; rfl
  · obtain ⟨l, rfl, hz, h⟩ := h
    refine ⟨_, (pss_cons (ps_set (i := 1) sc_number_in.nd rfl (Or.inl rfl) (pv 0))
      (pss_cons (ps_if (pt_val (pe_bm PySem.F.plainAttrs_str PySem.F.slot_str_startswith PySem.F.type_str_startswith mt_startswith (pv 0) (pa_cons pe_str pa_nil)))
        (pss_cons (ps_set (i := 1) sc_number_in.nd rfl (Or.inl rfl) (pe_slice C8.sl_txt (pv 0) (po_some pe_int) po_none))
          pss_nil)
        pss_nil)
      (pss_cons (ps_if (PW.pt (pw_or (pt_not (pt_chain op_le op_le pe_int (pe_callB call_len_str (by rfl) T.n_len PySem.boot_len (pa_cons (pv 1) pa_nil)) pe_int)) (pw_or (pt_cmpR op_ne (pe_bm PySem.F.plainAttrs_str PySem.F.slot_str_strip PySem.F.type_str_strip mt_stripChars (pv 1) (pa_cons (pe_glob (v := .str "0123456789") rfl T.g_FIGURES.choose_spec ⟨_, rfl⟩) pa_nil)) pe_str (nomark _)) (pw_or1 (PW.pt (pw_and (pt_cmpR op_eq (pe_ix ix_str (pv 1) pe_int (fun _ _ => rfl)) pe_str (nomark _)) (pw_and1 (pt_cmpR op_ne (pv 0) pe_str (nomark _)))))))))
        (pss_cons (L2N.ps_raise rfl (L2N.takes_of rfl rfl rfl rfl) (L2N.pmk_own PySem.F.excBase_ValueError ER.e_BadText.ex ER.e_BadText.g ER.e_BadText.kp (raises_own ER.e_BadText.sb ER.e_BadText.ty) rfl))
          pss_nil)
        pss_nil)
      (pss_cons (ps_ret (pe_callTy call_int_str (by rfl) T.n_int (by decide +kernel) (pa_cons (pv 0) pa_nil)))
      pss_nil)))), ?_⟩
    have hf : (figL l).length ≤ l.length := by unfold figL; split <;> simp
    have hz2 : (S (figL l)).length ≤ 100000 := by rw [S_len]; omega
    refine Sv.go (w_asg (ev_var rfl) (w_ifAsg (v := .str (S (figL l))) (et_is (et_B (ev_starts (ev_var rfl) ev_c)) (starts_minus l)) (fun n => by rw [figL_neg n]; exact ev_cut (ev_var rfl) ev_c hz) (fun n => by rw [figL_pos n]; rfl) ?_))
    refine w_when (b := !okW l) ?_ (fun n => ?_) fun n => ?_
    · refine et_is (et_or (et_not (et_test (ev_chain ev_c (ev_lenS (ev_var rfl) hz2) rv_I0 fun _ => ⟨ev_c, rv_I0⟩))) fun hl => et_or (et_test (ev_op (ev_strip (ev_var rfl) ev_c hz2) ev_c (rv_ne rfl))) fun _ => et_and (et_test (ev_op (ev_op (ev_var rfl) ev_c (rv_ixS hz2 (head_at ?_))) ev_c (rv_eq rfl))) fun _ => et_test (ev_op (ev_var rfl) ev_c (rv_ne rfl))) (bad_word l)
      have h1 : 1 ≤ ((S (figL l)).length : Int) ∧ ((S (figL l)).length : Int) ≤ 7 := by simpa using hl
      rw [S_len] at h1
      omega
    · rcases h with ⟨h1, _⟩ | ⟨_, er⟩
      · rw [h1] at n
        cases n
      · exact w_raise er
    · rcases h with ⟨h1, q⟩ | ⟨h1, _⟩
      · exact w_ret (ev_intS (ev_var rfl) (okW_num h1).1 (by rw [S_len]; have := okW_len h1; omega)) q
      · rw [h1] at n
        cases n
def numV (l : List Nat) : V := if (okW l && isSh (numW l)) = true then .int (numW l) else .non
def spNumL : Sp := fun vs H Q _ => ∃ l : List Nat, vs = [.str (S l)] ∧ l.length ≤ 9000 ∧ RetV (numV l) H Q
theorem def_law_number (R : Raw K mg "_law_number" s_law_number ["_law_text"]) (T : Txt K mg) : Def P w K mg base CX0 1 "_law_number" ["_law_text"] spNumL := by
  refine R.ok fun f fd F => F.ok sc_law_number (fun vs H Q E h => ?_) (fun cdv A outer s H vs Q E hr h => ?_)
  · obtain ⟨l, rfl, _⟩ := h; rfl
  · obtain ⟨l, rfl, hz, q⟩ := h
    refine ⟨_, (pss_cons (ps_set (i := 1) sc_law_number.nd rfl (Or.inl rfl) (pe_ifExp (pt_cmpR op_eq (pe_slice C8.sl_txt (pv 0) po_none (po_some pe_int)) pe_str (nomark _)) (pe_slice C8.sl_txt (pv 0) (po_some pe_int) po_none) (pv 0)))
      (pss_cons (ps_if (PW.pt (pw_or (pt_cmpR op_eq (pv 1) pe_str (nomark _)) (pw_or (pt_cmpR op_gt (pe_callB call_len_str (by rfl) T.n_len PySem.boot_len (pa_cons (pv 1) pa_nil)) pe_int (nomark _)) (pw_or (pt_cmpR op_ne (pe_bm PySem.F.plainAttrs_str PySem.F.slot_str_strip PySem.F.type_str_strip mt_stripChars (pv 1) (pa_cons pe_str pa_nil)) pe_str (nomark _)) (pw_or1 (PW.pt (pw_and (pt_cmpR op_eq (pe_ix ix_str (pv 1) pe_int (fun _ _ => rfl)) pe_str (nomark _)) (pw_and1 (pt_cmpR op_ne (pv 0) pe_str (nomark _))))))))))
        (pss_cons (ps_ret pe_non)
          pss_nil)
        pss_nil)
      (pss_cons (ps_ret (pe_ifExp (pt_chain op_lt op_lt (pe_un un_neg pe_int) (pe_callTy call_int_str (by rfl) T.n_int (by decide +kernel) (pa_cons (pv 0) pa_nil)) pe_int) (pe_callTy call_int_str (by rfl) T.n_int (by decide +kernel) (pa_cons (pv 0) pa_nil)) pe_non))
      pss_nil))), ?_⟩
    have hf : (figL l).length ≤ l.length := by unfold figL; split <;> simp
    have hz1 : (S l).length ≤ 100000 := by rw [S_len]; omega
    have hz2 : (S (figL l)).length ≤ 100000 := by rw [S_len]; omega
    have hneg : decide (V.str (S (l.take 1)) = V.str "-") = neg? l := by
      rw [litM, dec_S]
      unfold neg?
      cases l with
      | nil => rfl
      | cons a r => rw [Bool.eq_iff_iff]; simp
    refine Sv.go (w_asg (v := .str (S (figL l))) (ev_if (b := neg? l) (et_is (et_test (ev_op (ev_is (ev_sl (ev_var rfl) eo_none (eo_some ev_c) hz1) (by rw [to1])) ev_c (rv_eq rfl))) hneg) (fun n => by rw [figL_neg n]; exact ev_cut (ev_var rfl) ev_c hz) (fun n => by rw [figL_pos n]; exact ev_var rfl)) ?_)
    refine w_when (b := !okW l) ?_ (fun n => ?_) fun n => ?_
    · refine et_is (et_or (et_test (ev_op (ev_var rfl) ev_c (rv_eq rfl))) fun hl => et_or (et_test (ev_op (ev_lenS (ev_var rfl) hz2) ev_c rv_I0)) fun _ => et_or (et_test (ev_op (ev_strip (ev_var rfl) ev_c hz2) ev_c (rv_ne rfl))) fun _ => et_and (et_test (ev_op (ev_op (ev_var rfl) ev_c (rv_ixS hz2 (head_at ?_))) ev_c (rv_eq rfl))) fun _ => et_test (ev_op (ev_var rfl) ev_c (rv_ne rfl))) (bad_word2 l)
      have h1 : figL l ≠ [] := fun e => by
        rw [e] at hl
        exact absurd hl (by decide +kernel)
      have := List.length_pos_iff.mpr h1
      omega
    · refine w_ret ev_c fun H1 e1 => ?_
      have e : numV l = .non := by
        unfold numV
        rw [show okW l = false from by simpa using n]
        rfl
      rw [← e]
      exact q H1 e1
    · have h1 : okW l = true := by simpa using n
      have hi : ∀ {s : L2.St} {H : Hp}, s[0]? = some (some (.str (S l))) → Ev (tCB (fun xs H Q => ∃ a n, xs = [.str a] ∧ PySem.intText? a = some n ∧ a.length ≤ 640 ∧ Q (.int n) H) (tCons (tVar 0) tNil)) s H (.int (numW l)) := fun hs => ev_intS (ev_var hs) (okW_num h1).1 (by rw [S_len]; have := okW_len h1; omega)
      refine w_ret (v := numV l) (ev_if (b := isSh (numW l)) (et_is (et_test (ev_chain (ev_un ev_c ru_neg) (hi rfl) rv_I0 fun _ => ⟨ev_c, rv_I0⟩)) ?_) (fun hb => ?_) fun hb => ?_) q
      · unfold isSh
        rw [Bool.eq_iff_iff]
        simp
        omega
      · unfold numV
        rw [h1, hb]
        exact hi rfl
      · unfold numV
        rw [h1, hb]
        exact ev_c
/-! rows in texts -/
def shown (i : Int) : Str := Str.ofString (toString i)
def rowText (ns : List Int) : Str := Txt.join " " (ns.map shown)
theorem shown_len {i : Int} (h : -10000000 < i ∧ i < 10000000) : (shown i).length ≤ 8 := by
  unfold shown
  have small : ∀ m : Nat, m < 10000000 → (TL.numL m).length ≤ 7 := fun m hm => TL.numL_len (by decide) (show m < 10 ^ 7 from hm)
  rcases Int.lt_or_le i 0 with h0 | h0
  · obtain ⟨m, rfl⟩ : ∃ m : Nat, i = -(m : Int) := ⟨i.natAbs, by omega⟩
    rw [txt_neg (by omega), S_len, List.length_cons]
    have := small m (by omega)
    omega
  · obtain ⟨m, rfl⟩ : ∃ m : Nat, i = (m : Int) := ⟨i.natAbs, by omega⟩
    rw [num_S, S_len]
    have := small m (by omega)
    omega
theorem sum_le : ∀ ys : List Str, (∀ y ∈ ys, y.length ≤ 8) → (ys.map (·.length)).sum ≤ 8 * ys.length
  | [], _ => by simp
  | y :: ys, h => by
    have h1 := sum_le ys fun z hz => h z (List.mem_cons_of_mem _ hz)
    have h2 := h y List.mem_cons_self
    rw [List.map_cons, List.sum_cons, List.length_cons]
    omega
theorem sh_small {i : Int} (h : isSh i = true) : -10000000 < i ∧ i < 10000000 := by
  unfold isSh at h
  simp at h
  omega
theorem log_small {i : Int} (h : -10000000 < i ∧ i < 10000000) : i.natAbs.log2 < 1920 := by
  by_cases h0 : i.natAbs = 0
  · rw [h0]
    decide
  · have h1 : i.natAbs.log2 < 64 := (Nat.log2_lt h0).mpr (by omega)
    omega
theorem join_fits {ns : List Int} (h : ∀ i ∈ ns, isSh i = true) (hz : ns.length ≤ 100000) : ((ns.map shown).map (·.length)).sum + (ns.map shown).length * (" " : Str).length ≤ 16777216 := by
  have h1 := sum_le (ns.map shown) fun y hy => by
    obtain ⟨i, hi, rfl⟩ := List.mem_map.mp hy
    exact shown_len (sh_small (h i hi))
  rw [List.length_map] at h1 ⊢
  rw [show (" " : Str).length = 1 from by rw [lit_]; rfl]
  omega
theorem ev_rowText {s : L2.St} {H : Hp} {to_ te tl : TE} {j : Nat} {vs : List Nat} {a : Addr} {ns : List Int} (h0 : Ev to_ s H (.str " ")) (h : Ev tl s H (.ref a)) (ha : H a = some (.lst (ns.map V.int))) (hs : ∀ i ∈ ns, isSh i = true) (hz : ns.length ≤ 100000)
    (hw : ∀ x, wipe ((wipe s vs).set j (some x)) vs = wipe s vs) (he : ∀ i, i.natAbs.log2 < 1920 → Ev te ((wipe s vs).set j (some (.int i))) H (.str (shown i))) :
    Ev (L2.tBM K "str" (fun x xs H Q => ∃ a p, ∃ ys : List Str, x = .str a ∧ xs = [.ref p] ∧ (SqL K H p (ys.map V.str) ∨ SqT K H p (ys.map V.str)) ∧ (ys.map (·.length)).sum + ys.length * a.length ≤ 16777216 ∧ Q (.str (Txt.join a ys)) H) to_ (tCons (tLc (iList K tl) (gName j) tYes te vs) tNil)) s H (.str (rowText ns)) := by
  have e := el_map (K := K) (te := te) (j := j) (vs := vs) ns V.int (fun i => V.str (shown i)) h (sq_of ha) hz hw fun i hi => he i (log_small (sh_small (hs i hi)))
  have e2 : ns.map (fun i => V.str (shown i)) = (ns.map shown).map V.str := by rw [List.map_map]; rfl
  rw [e2] at e
  exact ev_join h0 e.p (join_fits hs hz)
def spWrittenT : Sp := fun vs H Q _ => ∃ (a : Addr) (ns : List Int), vs = [.ref a] ∧ H a = some (.lst (ns.map V.int)) ∧ RowOk ns ∧ RetV (.str (rowText ns)) H Q
theorem def_written (R : Raw K mg "written" s_written ["row"]) (T : Txt K mg) (x_check_row : Def P w K mg base (L2N.CX P w) 3 "check_row" ["row"] (spCheckRowX K cB)) : Def P w K mg base CX0 4 "written" ["row"] spWrittenT := by
  refine R.ok fun f fd F => F.ok sc_written (fun vs H Q E h => ?_) (fun cdv A outer s H vs Q E hr h => ?_)
  · obtain ⟨a, ns, rfl, _⟩ := h; rfl
  · obtain ⟨a, ns, rfl, ha, hR, q⟩ := h
    refine ⟨_, (pss_cons (ps_expr (pe_def x_check_row hr (by decide) (by rfl) passN (pa_cons (pv 0) pa_nil)))
      (pss_cons (ps_ret (pe_bm PySem.F.plainAttrs_str PySem.F.slot_str_join PySem.F.type_str_join mt_join pe_str (pa_cons (pe_lc (own := [("share", 1)]) (g := gName 1) rfl sc_written.nd (pi_list (pv 0)) (blkOk_by (own := [("share", 1)]) (N := ["row", "share"]) (sc := defScope s_written) (by decide +kernel)) (fun _ _ _ _ _ => pg_name (i := 1) sc_written.nd rfl (Or.inl rfl)) (fun _ _ _ _ _ => pts_nil) (fun _ _ _ _ _ => (pe_callTy call_str_int (by rfl) T.n_str (by decide +kernel) (pa_cons (pv 1) pa_nil)))) pa_nil)))
      pss_nil)), ?_⟩
    exact Sv.go (w_drop (ev_rowok (ev_var rfl) ha hR) (w_ret (ev_rowText ev_c (ev_var rfl) ha hR.2.1 hR.2.2 (fun _ => rfl) fun i hi => ev_strI (ev_var rfl) hi) q))
end
end Ev

set_option Elab.async false
set_option linter.all false
set_option maxRecDepth 100000
set_option maxHeartbeats 4000000
namespace Ev
open PySem PySem.Spec L2 Evl Wk SX
/-! ### read -/
structure KnownT (K : PySem.W.Frag) (cS cB cG cA cU cT : Addr) : Prop where
  exB : PySem.W.exmOne K (.ref cB) (.ref cB) = some true
  ex : PySem.W.exmOne K (.ref cT) (.ref cS) = some true
  ec : ExcC K cT
  k0 : PySem.W.kitOne K (.ref cT) (.ref cB) = some false
  k1 : PySem.W.kitOne K (.ref cT) (.ref cG) = some false
  k2 : PySem.W.kitOne K (.ref cT) (.ref cA) = some false
  k3 : PySem.W.kitOne K (.ref cT) (.ref cU) = some false
  k4 : PySem.W.kitOne K (.ref cT) (.ref cT) = some true
  k5 : PySem.W.kitOne K (.ref cT) (.type "ValueError") = some true
/-- a text's words -/
def wordsL (l : List Nat) : List (List Nat) := TL.spl [32] 0 [] l
def okT (l : List Nat) : Bool := (wordsL l).all fun a => okW a && isSh (numW a)
def numsT (l : List Nat) : List Int := (wordsL l).map numW
theorem words_split (l : List Nat) : Txt.split (S l) " " = (wordsL l).map S := by
  rw [lit_]
  exact split_S (by decide) (by decide)
theorem words_len (l : List Nat) : (wordsL l).length ≤ l.length + 2 := by
  have h := PyProof.Rows.split_le (S l) " "
  rw [words_split, List.length_map, S_len] at h
  exact h
theorem words_short (l : List Nat) : ∀ a ∈ wordsL l, a.length ≤ l.length := by
  have h : ∀ (ws : List (List Nat)), (∀ a ∈ ws, a.length ≤ (TL.joinL [32] ws).length) := by
    intro ws
    induction ws with
    | nil => intro a ha; cases ha
    | cons b ws ih =>
      intro a ha
      cases ws with
      | nil =>
        obtain rfl := List.mem_singleton.mp ha
        exact Nat.le_refl _
      | cons c ws =>
        have e : (TL.joinL [32] (b :: c :: ws)).length = b.length + (1 + (TL.joinL [32] (c :: ws)).length) := by
          simp [TL.joinL]
          omega
        rw [e]
        rcases List.mem_cons.mp ha with rfl | ha
        · omega
        · have := ih a ha
          omega
  have e : S (TL.joinL [32] (wordsL l)) = S l := by
    rw [← join_S, ← words_split, ← lit_]
    show Builtin.Str.glued " " (Txt.split (S l) " ") = S l
    rw [StrLaws.glued_eq_join, StrLaws.join_split]
  have e2 := S_inj e
  intro a ha
  have := h _ a ha
  rw [e2] at this
  exact this
theorem words_ne (l : List Nat) : wordsL l ≠ [] := by
  intro e
  have e1 : S (TL.joinL [32] (wordsL l)) = S l := by
    rw [← join_S, ← words_split, ← lit_]
    show Builtin.Str.glued " " (Txt.split (S l) " ") = S l
    rw [StrLaws.glued_eq_join, StrLaws.join_split]
  rw [e] at e1
  have e2 : ([] : List Nat) = l := S_inj e1
  rw [← e2] at e
  exact absurd e (by decide)
/-- what is read is written so -/
theorem text_back {l : List Nat} (h : okT l = true) : rowText (numsT l) = S l := by
  have e : (numsT l).map shown = (wordsL l).map S := by
    unfold numsT
    rw [List.map_map]
    refine List.map_congr_left fun a ha => ?_
    have h1 := List.all_eq_true.mp h a ha
    rw [Bool.and_eq_true] at h1
    exact (okW_num h1.1).2.1
  unfold rowText
  rw [e, ← words_split]
  show Builtin.Str.glued " " (Txt.split (S l) " ") = S l
  rw [StrLaws.glued_eq_join, StrLaws.join_split]
theorem nums_ok {l : List Nat} (h : okT l = true) (hz : l.length ≤ 9000) : RowOk (numsT l) := by
  refine ⟨fun e => words_ne l (List.map_eq_nil_iff.mp e), fun x hx => ?_, ?_⟩
  · obtain ⟨a, ha, rfl⟩ := List.mem_map.mp hx
    have h1 := List.all_eq_true.mp h a ha
    rw [Bool.and_eq_true] at h1
    exact h1.2
  · unfold numsT
    rw [List.length_map]
    have := words_len l
    omega
section
variable {P : Program} {w : World} {K : PySem.W.Frag} {mg : Str → Option Value} {base : Heap} {cS cB cG cA cU cT : Addr}
/-- what is no text that tells a row -/
def BadT (K : PySem.W.Frag) : V → Hp → Prop := fun x H => (∃ n, ValT K n x H ∧ n ≠ "str") ∨ ∃ l : List Nat, x = .str (S l) ∧ l.length ≤ 9000 ∧ okT l = false
instance : MonoP (BadT K) := ⟨fun e h => h.imp (fun ⟨n, h1, h2⟩ => ⟨n, MonoP.mono e h1, h2⟩) id⟩
def spReadX (K : PySem.W.Frag) (cT : Addr) : Sp := fun vs H Q E => ∃ x, vs = [x] ∧ ((∃ l : List Nat, x = .str (S l) ∧ l.length ≤ 9000 ∧ okT l = true ∧ RetL ((numsT l).map V.int) H Q) ∨ (BadT K x H ∧ Err cT H E))
theorem defX_read (R : Raw K mg "read" s_read ["text"]) (T : Txt K mg) (ER : Errs K mg cS cB cG cA cU cT) (KT : KnownT K cS cB cG cA cU cT) (x_check_row : Def P w K mg base (L2N.CX P w) 3 "check_row" ["row"] (spCheckRowX K cB)) (x_number_in : Def P w K mg base (L2N.CX P w) 1 "number_in" ["word"] (spNumX cT)) :
    Def P w K mg base (CXg P w) 4 "read" ["text"] (spReadX K cT) := by
  obtain ⟨fc, fdc, Fc, gc, kc, bc⟩ := x_check_row
  refine R.ok fun f fd F => F.okG sc_read (fun vs H Q E h => ?_) (fun cdv A outer s H vs Q E hr h => ?_)
  · obtain ⟨x, rfl, _⟩ := h; rfl
  · obtain ⟨x, rfl, h⟩ := h
    refine ⟨_, (pss_cons (ps_if (pt_not (pt_val (pe_callB (r := rIsi K) call_isi (by rfl) T.n_isinstance (by decide +kernel) (pa_cons (pv 0) (pa_cons (pe_bltn (v := .ty "str") (u := .type "str") (by rfl) T.n_str (by decide +kernel) rfl) pa_nil)))))
        (pss_cons (L2N.ps_raise rfl (takesN_of (takesG_of rfl rfl rfl rfl)) (L2N.pmk_own PySem.F.excBase_ValueError ER.e_BadText.ex ER.e_BadText.g ER.e_BadText.kp (raises_own ER.e_BadText.sb ER.e_BadText.ty) rfl)) pss_nil)
        pss_nil)
      (pss_cons (ps_setLcX (i := 1) (own := [("word", 2)]) (g := gName 2) rfl sc_read.nd rfl rfl (takesN_of (takesG_of rfl rfl rfl rfl)) rfl rfl (sw_true rfl rfl rfl (by decide +kernel))
          (pi_list (pe_bm PySem.F.plainAttrs_str PySem.F.slot_str_split PySem.F.type_str_split mt_split (pv 0) (pa_cons pe_str pa_nil))) (blkOk_by (own := [("word", 2)]) (N := ["text", "row", "word"]) (sc := defScope s_read) (by decide +kernel)) (fun _ _ _ _ _ => pg_name (i := 2) sc_read.nd rfl (Or.inl rfl)) (fun _ _ _ _ _ => pts_nil)
          (fun _ _ _ _ _ _ tk => pe_def x_number_in hr (by decide) (by rfl) (L2N.passes_call tk (fun _ _ _ _ h => h)) (pa_cons (pv 2) pa_nil)))
      (pss_cons (L2H.ps_try_onlyX (tb := fun W => tDrop (tCallS (spCheckRowX K cB) (WE W) (tCons (tVar 1) tNil))) (ts := fun _ _ _ => fun _ σ H => (fun (_ : L2.St) (H : Hp) (Q : XK) => Q (.ref cT) none H) σ H fun cls d H' => (fun cls d (_ : L2.St) H => E cls d H) cls d σ H') (Wout := fun _ _ _ _ => False) rfl rfl ⟨rfl, by decide, Or.inl ER.g_BadRow⟩ (L2H.passesAt_of rfl) L2.takes0
          (fun W pn xe tk _ _ => pss_one (ps_expr (pe_callS Fc (hr.mono (by decide)) (by rfl) gc kc bc (fun σ => L2N.passAt tk σ) (pa_cons (pv 1) pa_nil))))
          (fun a oe cls d pn hz hf _ hot => pss_one (ps_raiseG hot (takesG_suite rfl rfl rfl rfl) (L2N.pmk_own PySem.F.excBase_ValueError ER.e_BadText.ex ER.e_BadText.g ER.e_BadText.kp (raises_own ER.e_BadText.sb ER.e_BadText.ty) rfl))))
      (pss_cons (ps_ret (pv 1)) pss_nil)))), ?_⟩
    have notText : ∀ {s : L2.St} {H : Hp} {n : String}, s[0]? = some (some x) → ValT K n x H → EvT (tNot (tB (tCB (rIsi K) (tCons (tVar 0) (tCons (tC (.ty "str")) tNil))))) s H (!subT n "str") := fun hs hv => et_not (et_B (ev_visi (ev_var hs) hv (by simp)))
    have text : ∀ l : List Nat, x = .str (S l) → ∀ H1, Ex H H1 → EvT (tNot (tB (tCB (rIsi K) (tCons (tVar 0) (tCons (tC (.ty "str")) tNil))))) (start ["text", "row", "word"] [x]) H1 false := fun l e H1 _ => et_is (et_not (et_B (ev_visi (ev_var rfl) (by rw [e]; exact valT_str _) (by simp)))) rfl
    have split : ∀ {l : List Nat}, x = .str (S l) → l.length ≤ 9000 → EvL (L2.tBM K "str" (fun x xs H Q => ∃ a b, x = .str a ∧ xs = [.str b] ∧ (b.length == 0) = false ∧ a.length + 2 ≤ sizeLine ∧ rNewStrs (Txt.split a b) H Q) (tVar 0) (tCons (tC (.str " ")) tNil)) (start ["text", "row", "word"] [x]) H ((wordsL l).map fun a => V.str (S a)) := fun {l} e hz => by
      have h1 := el_split (K := K) (H := H) (s := start ["text", "row", "word"] [x]) (to_ := tVar 0) (tb := tC (.str " ")) (a := S l) (b := " ") (by rw [← e]; exact ev_var rfl) ev_c (by decide +kernel) (by rw [S_len]; omega)
      rw [words_split, List.map_map] at h1
      exact h1
    have nil : ∀ {l : List Nat}, l.length ≤ 9000 → ∀ a ∈ wordsL l, a.length ≤ 9000 := fun {l} hz a ha => Nat.le_trans (words_short l a ha) hz
    have wz : ∀ {l : List Nat}, l.length ≤ 9000 → (wordsL l).length ≤ 9100 := fun {l} hz => by have := words_len l; omega
    have num : ∀ {s : L2.St} {H1 : Hp} {a : List Nat}, s[2]? = some (some (.str (S a))) → a.length ≤ 9000 → okW a = true → Ev (tCall (spNumX cT) [] E (tCons (tVar 2) tNil)) s H1 (.int (numW a)) := fun hs hz ok => ev_call (dvs := []) (ea_cons (ev_var hs) ea_nil) fun H1 e1 Q q E => ⟨_, rfl, hz, .inl ⟨ok, q⟩⟩
    rcases h with ⟨l, hx, hz, ok, q⟩ | ⟨bad, er⟩
    · refine Sv.go (w_skip (text l hx H (Ex.refl H)) (w_asgL (xs := (numsT l).map V.int) ?_ fun p H1 np e1 hp => fun H2 e2 => ?_))
      · have h1 := el_mapN (K := K) (te := tCall (spNumX cT) [] E (tCons (tVar 2) tNil)) (j := 2) (vs := [2]) (wordsL l) (fun a => V.str (S a)) (fun a => V.int (numW a)) (EvL.p (split hx hz)) (by have := wz hz; omega) (fun _ => rfl) fun a ha => num rfl (nil hz a ha) (by
          have h2 := List.all_eq_true.mp ok a ha
          rw [Bool.and_eq_true] at h2
          exact h2.1)
        unfold numsT
        rw [List.map_map]
        exact h1
      · exact ⟨_, rfl, .inl ⟨p, numsT l, rfl, e2 _ _ hp, nums_ok ok hz, fun H3 e3 => (w_ret (D := { nx := fun _ H' => Q .non H', rt := Q }) (ev_var (v := .ref p) rfl) fun H4 e4 => q p H4 np (e1.trans (e2.trans (e3.trans e4))) (e4 _ _ (e3 _ _ (e2 _ _ hp)))).go⟩⟩
    · rcases bad with ⟨n, hv, hn⟩ | ⟨l, hx, hz, no⟩
      · refine Sv.go (w_when (b := true) (et_is (notText rfl hv) ?_) (fun _ => w_raise er) (fun h => nomatch h))
        have : subT n "str" = false := by
          unfold subT
          rw [beq_eq_false_iff_ne.mpr hn]
          simp
        rw [this]
        rfl
      · by_cases words : (wordsL l).all okW = true
        · refine Sv.go (w_skip (text l hx H (Ex.refl H)) (w_asgL (xs := (numsT l).map V.int) ?_ fun p H1 np e1 hp => fun H2 e2 => ?_))
          · have h1 := el_mapN (K := K) (te := tCall (spNumX cT) [] E (tCons (tVar 2) tNil)) (j := 2) (vs := [2]) (wordsL l) (fun a => V.str (S a)) (fun a => V.int (numW a)) (EvL.p (split hx hz)) (by have := wz hz; omega) (fun _ => rfl) fun a ha => num rfl (nil hz a ha) (List.all_eq_true.mp words a ha)
            unfold numsT
            rw [List.map_map]
            exact h1
          · refine ⟨_, rfl, .inr ⟨_, rfl, .inr (.inl ⟨p, (numsT l).map V.int, rfl, e2 _ _ hp, ?_, ?_, ?_⟩), fun H3 e3 => ⟨true, KT.exB, fun _ a na => er H3 (e1.trans (e2.trans e3)), fun h => nomatch h⟩⟩⟩
            · unfold numsT
              rw [List.length_map, List.length_map]
              have := wz hz
              omega
            · intro y hy
              obtain ⟨i, _, rfl⟩ := List.mem_map.mp hy
              exact ⟨"int", valT_int i⟩
            · have e : (((numsT l).map V.int).map shV).all id = okT l := by
                unfold numsT okT
                rw [List.map_map, List.map_map, List.all_map, Bool.eq_iff_iff, List.all_eq_true, List.all_eq_true]
                constructor
                · intro h a ha
                  rw [List.all_eq_true.mp words a ha]
                  exact h a ha
                · intro h a ha
                  have h2 := h a ha
                  rw [Bool.and_eq_true] at h2
                  exact h2.2
              rw [e]
              exact no
        · refine Sv.go (w_skip (text l hx H (Ex.refl H)) (w_asgX ?_))
          exact evx_mapN (wordsL l) (fun a => V.str (S a)) (fun a => V.int (numW a)) okW (EvL.p (split hx hz)) (by have := wz hz; omega) (fun _ => rfl) (fun a ha ok => num rfl (nil hz a ha) ok)
            (fun a ha bad => evx_call (ap_one (Ev.p (ev_var (v := .str (S a)) rfl))) fun vs H1 e1 ⟨v, ev, pv⟩ Q => ⟨a, by rw [ev, pv], nil hz a ha, .inr ⟨bad, er.mono e1⟩⟩) (by simpa using words)
end
end Ev

set_option Elab.async false
set_option linter.all false
set_option maxRecDepth 100000
set_option maxHeartbeats 4000000
namespace Ev
open PySem PySem.Spec L2 Evl Wk SX
/-! ### what the law asks -/
section
variable {P : Program} {w : World} {K : PySem.W.Frag} {mg : Str → Option Value} {base : Heap} {cS cB cG cA cU cT : Addr}
theorem none_in : ∀ ws : List (List Nat), inV .non (ws.map numV) = !(ws.all fun a => okW a && isSh (numW a))
  | [] => rfl
  | a :: ws => by
    have h1 := none_in ws
    have e : inV .non ((a :: ws).map numV) = (eqV (numV a) .non || inV .non (ws.map numV)) := rfl
    rw [e, h1, List.all_cons]
    have e2 : eqV (numV a) .non = !(okW a && isSh (numW a)) := by
      unfold numV
      cases okW a && isSh (numW a) <;> rfl
    rw [e2]
    cases okW a && isSh (numW a) <;> rfl
theorem numV_flat (ws : List (List Nat)) : (ws.map numV).all flatV = true := by
  rw [List.all_map, List.all_eq_true]
  intro a _
  show flatV (numV a) = true
  unfold numV
  split <;> rfl
theorem numV_ok {l : List Nat} (h : okT l = true) : (wordsL l).map numV = (numsT l).map V.int := by
  unfold numsT
  rw [List.map_map]
  refine List.map_congr_left fun a ha => ?_
  have h1 := List.all_eq_true.mp h a ha
  unfold numV
  rw [h1]
  rfl
def spIn : Sp := fun vs H Q _ => ∃ l : List Nat, vs = [.str (S l)] ∧ l.length ≤ 9000 ∧ ((okT l = true ∧ RetL ((numsT l).map V.int) H Q) ∨ (okT l = false ∧ RetV .non H Q))
theorem def_law_in (R : Raw K mg "_law_in" s_law_in ["_law_text"]) (T : Txt K mg) (d_law_number : Def P w K mg base CX0 1 "_law_number" ["_law_text"] spNumL) : Def P w K mg base CX0 2 "_law_in" ["_law_text"] spIn := by
  refine R.ok fun f fd F => F.ok sc_law_in (fun vs H Q E h => ?_) (fun cdv A outer s H vs Q E hr h => ?_)
  · obtain ⟨l, rfl, _⟩ := h; rfl
  · obtain ⟨l, rfl, hz, h⟩ := h
    refine ⟨_, (pss_cons (ps_setLc (i := 1) (own := [("_law_word", 2)]) (g := gName 2) rfl sc_law_in.nd rfl rfl (sw_true rfl rfl rfl (by decide +kernel)) (pi_list (pe_bm PySem.F.plainAttrs_str PySem.F.slot_str_split PySem.F.type_str_split mt_split (pv 0) (pa_cons pe_str pa_nil))) (blkOk_by (own := [("_law_word", 2)]) (N := ["_law_text", "_law_found", "_law_word"]) (sc := defScope s_law_in) (by decide +kernel)) (fun _ _ _ _ _ => pg_name (i := 2) sc_law_in.nd rfl (Or.inl rfl)) (fun _ _ _ _ _ => pts_nil) (fun _ _ _ _ _ => (pe_def d_law_number hr (by decide) (by rfl) pass0 (pa_cons (pv 2) pa_nil))))
      (pss_cons (ps_ret (pe_ifExp (pt_cmpR (r := rIn K false) op_in_seq pe_non (pv 1) (by rfl)) pe_non (pv 1)))
      pss_nil)), ?_⟩
    have wz : (wordsL l).length ≤ 9100 := by have := words_len l; omega
    refine Sv.go (w_asgL (xs := (wordsL l).map numV) ?_ fun p H1 np e1 hp => ?_)
    · refine el_mapN (wordsL l) (fun a => V.str (S a)) numV (EvL.p ?_) (by omega) (fun _ => rfl) fun a ha => ev_call (dvs := []) (ea_cons (ev_var rfl) ea_nil) fun H1 e1 Q q E => ⟨a, rfl, Nat.le_trans (words_short l a ha) hz, q⟩
      have h1 := el_split (K := K) (H := H) (s := start ["_law_text", "_law_found", "_law_word"] [.str (S l)]) (to_ := tVar 0) (tb := tC (.str " ")) (a := S l) (b := " ") (ev_var rfl) ev_c (by decide +kernel) (by rw [S_len]; omega)
      rw [words_split, List.map_map] at h1
      exact h1
    · have test : ∀ {s : L2.St}, s[1]? = some (some (.ref p)) → EvT (tTest (tOp (rIn K false) (tC .non) (tVar 1))) s H1 (!okT l) := fun hs => et_is (et_test (ev_op ev_c (ev_var hs) (rv_isL (sq_of hp) rfl (numV_flat _)))) (none_in _)
      rcases h with ⟨ok, q⟩ | ⟨no, q⟩
      · refine w_ret (v := .ref p) (ev_if (test rfl) (fun n => by rw [ok] at n; cases n) fun _ => ev_var rfl) fun H2 e2 => q p H2 np (e1.trans e2) ?_
        rw [← numV_ok ok]
        exact e2 _ _ hp
      · exact w_ret (v := .non) (ev_if (test rfl) (fun _ => ev_c) fun n => by rw [no] at n; cases n) fun H2 e2 => q H2 (e1.trans e2)
/-! the refusal -/
def rIsA (K : PySem.W.Frag) (a : Addr) (cls : Value) (d : Option Addr) : List V → Hp → VK → Prop := fun xs H Q => ∃ (D : Addr) (c : V) (u : Value) (b : Bool), cls = .ref D ∧ d = none ∧ ExcC K D ∧ xs = [.ref a, c] ∧ ClsV c u ∧ PySem.W.kitOne K (.ref D) u = some b ∧ Q (.bl b) H
theorem call_isA {X : Cx} {p : Addr × Obj} {cls : Value} {d : Option Addr} (hc : p.2.cls = cls) (hd : p.2.dict = d) (hot : HotG X p) : CallR X (.builtin "isinstance") (rIsA X.K p.1 cls d) := by
  intro pins s σ H xs us Q I r h
  obtain ⟨D, c, u, b, e1, e2, C, e3, k, e4, q⟩ := h
  obtain ⟨_, mem, vs, dt, _⟩ := hot
  exact call_isP (p := p) C (hc.trans e1) (hd.trans e2) ⟨vs, dt⟩ mem pins s σ H xs us Q I r ⟨c, u, b, e3, k, e4, q⟩
theorem ev_isA {s : L2.St} {H : Hp} {ta tc : TE} {a D : Addr} {c : V} {u : Value} {b : Bool} (C : ExcC K D) (ha : Ev ta s H (.ref a)) (hc : Ev tc s H c) (k : ClsV c u) (e : PySem.W.kitOne K (.ref D) u = some b) : Ev (tCB (rIsA K a (.ref D) none) (tCons ta (tCons tc tNil))) s H (.bl b) :=
  ev_cbP (ap_two ha.p hc.p) fun vs H1 _ ⟨v, w, ev, pv, pw⟩ H2 e2 Q q => ⟨D, c, u, b, rfl, rfl, C, by rw [ev, pv, pw], k, e, q H2 (Ex.refl H2)⟩
def spRefused (K : PySem.W.Frag) : Sp := fun vs H Q _ => ∃ x, vs = [x] ∧ BadT K x H ∧ RetV (.bl true) H Q
theorem def_law_refused (R : Raw K mg "_law_refused" s_law_refused ["_law_text"]) (T : Txt K mg) (ER : Errs K mg cS cB cG cA cU cT) (KT : KnownT K cS cB cG cA cU cT) (x_read : Def P w K mg base (CXg P w) 4 "read" ["text"] (spReadX K cT)) :
    Def P w K mg base CX0 5 "_law_refused" ["_law_text"] (spRefused K) := by
  obtain ⟨fr, fdr, Fr, gr, kr, br⟩ := x_read
  refine R.ok fun f fd F => F.ok sc_law_refused (fun vs H Q E h => ?_) (fun cdv A outer s H vs Q E hr h => ?_)
  · obtain ⟨x, rfl, _⟩ := h; rfl
  · obtain ⟨x, rfl, bad, q⟩ := h
    refine ⟨_, pss_cons (ps_try_asG (i := 1) (tb := fun W => tDrop (tCallS (spReadX K cT) (WE W) (tCons (tVar 0) tNil))) rfl rfl sc_law_refused.nd rfl rfl ⟨rfl, by decide, Or.inl ER.g_ShareError⟩
        (fun W pn xe tk _ => pss_one (ps_expr (pe_callS Fr (hr.mono (by decide)) (by rfl) gr kr br (fun σ => passG tk σ) (pa_cons (pv 0) pa_nil))))
        (fun a oe cls d pn hc hd hot => (pss_cons (ps_set (i := 2) sc_law_refused.nd rfl (Or.inl rfl) (pe_lst (pa_cons (pe_callB (r := rIsA K a cls d) (call_isA hc hd hot) (by rfl) T.n_isinstance (by decide +kernel) (pa_cons (pv 1) (pa_cons (pe_glob (v := .ref _) rfl ER.g_BadAmount rfl) pa_nil))) (pa_cons (pe_callB (r := rIsA K a cls d) (call_isA hc hd hot) (by rfl) T.n_isinstance (by decide +kernel) (pa_cons (pv 1) (pa_cons (pe_glob (v := .ref _) rfl ER.g_BadGifts rfl) pa_nil))) (pa_cons (pe_callB (r := rIsA K a cls d) (call_isA hc hd hot) (by rfl) T.n_isinstance (by decide +kernel) (pa_cons (pv 1) (pa_cons (pe_glob (v := .ref _) rfl ER.g_BadRow rfl) pa_nil))) pa_nil)))))
        (pss_cons (ps_set (i := 2) sc_law_refused.nd rfl (Or.inl rfl) (pe_op op_cat (pv 2) (pe_lst (pa_cons (pe_callB (r := rIsA K a cls d) (call_isA hc hd hot) (by rfl) T.n_isinstance (by decide +kernel) (pa_cons (pv 1) (pa_cons (pe_glob (v := .ref _) rfl ER.g_Unlike rfl) pa_nil))) (pa_cons (pe_not (pe_callB (r := rIsA K a cls d) (call_isA hc hd hot) (by rfl) T.n_isinstance (by decide +kernel) (pa_cons (pv 1) (pa_cons (pe_bltn (v := .ty "ValueError") (u := .type "ValueError") (by rfl) T.n_ValueError (by decide +kernel) rfl) pa_nil)))) pa_nil)))))
        (pss_cons (ps_ret (pe_and (pe_callB (r := rIsA K a cls d) (call_isA hc hd hot) (by rfl) T.n_isinstance (by decide +kernel) (pa_cons (pv 1) (pa_cons (pe_glob (v := .ref _) rfl ER.g_BadText rfl) pa_nil))) (pe_one (pe_not (pe_callB (r := rAny K) (cr_anyG hot) (by rfl) T.n_any (by decide +kernel) (pa_cons (pv 2) pa_nil))))))
        pss_nil)))))
      (pss_cons (ps_ret pe_bl) pss_nil), ?_⟩
    refine ⟨_, rfl, ⟨_, rfl, .inr ⟨bad, fun H1 e1 => ⟨KT.ex, fun a na => ?_⟩⟩⟩⟩
    refine Sv.go (w_asgL (xs := [V.bl false, V.bl false, V.bl false]) (el_lst (ea_cons (ev_isA KT.ec (ev_var rfl) ev_c (.own _) KT.k2) (ea_cons (ev_isA KT.ec (ev_var rfl) ev_c (.own _) KT.k1) (ea_cons (ev_isA KT.ec (ev_var rfl) ev_c (.own _) KT.k0) ea_nil))) (by show 3 ≤ 100000; decide)) fun p H2 np e2 hp => ?_)
    refine w_asgL (xs := [V.bl false, V.bl false, V.bl false, V.bl false, V.bl false]) (el_cat (ev_var' rfl hp) (EvL.p (el_lst (vs := [V.bl false, V.bl false]) (ea_cons (ev_isA KT.ec (ev_var rfl) ev_c (.own _) KT.k3) (ea_cons (ev_is (ev_notV (ev_isA KT.ec (ev_var rfl) ev_c (.ty _) KT.k5)) rfl) ea_nil)) (by show 2 ≤ 100000; decide))) (by show 5 ≤ 100000; decide)) fun p2 H3 np2 e3 hp2 => ?_
    refine w_ret (v := .bl true) (ev_is (ev_andV (ev_isA KT.ec (ev_var rfl) ev_c (.own _) KT.k4) fun _ => ev_notV (ev_any (bs := [false, false, false, false, false]) (ev_var' rfl hp2))) rfl) fun H4 e4 => ?_
    exact q H4 (e1.trans (e2.trans (e3.trans e4)))
/-! any text is rightly read or refused -/
theorem rv_isN {x : V} {H : Hp} : RV (fun x y H Q => y = .non ∧ Q (.bl (decide (x = .non))) H) x .non H (.bl (decide (x = .non))) := fun H1 _ _ q => ⟨rfl, q H1 (Ex.refl H1)⟩
/-- a text -/
def IsT (v : V) : Prop := ∃ l : List Nat, v = .str (S l) ∧ l.length ≤ 9000
theorem isT_of {z : Str} (h : z.length ≤ 9000) : IsT (.str z) := ⟨z.cps.toList, by rw [S_tl], by rw [Array.length_toList]; exact h⟩
def spRight : Sp := fun vs H Q _ => ∃ v, vs = [v] ∧ IsT v ∧ RetV (.bl true) H Q
theorem def_law_right (R : Raw K mg "_law_right" s_law_right ["_law_text"]) (T : Txt K mg) (d_law_in : Def P w K mg base CX0 2 "_law_in" ["_law_text"] spIn) (d_law_refused : Def P w K mg base CX0 5 "_law_refused" ["_law_text"] (spRefused K))
    (x_read : Def P w K mg base (CXg P w) 4 "read" ["text"] (spReadX K cT)) (d_written : Def P w K mg base CX0 4 "written" ["row"] spWrittenT) : Def P w K mg base CX0 6 "_law_right" ["_law_text"] spRight := by
  refine R.ok fun f fd F => F.ok sc_law_right (fun vs H Q E h => ?_) (fun cdv A outer s H vs Q E hr h => ?_)
  · obtain ⟨x, rfl, _⟩ := h; rfl
  · obtain ⟨x, rfl, ⟨l, rfl, hz⟩, q⟩ := h
    refine ⟨_, (pss_cons (ps_set (i := 1) sc_law_right.nd rfl (Or.inl rfl) (pe_def d_law_in hr (by decide) (by rfl) pass0 (pa_cons (pv 0) pa_nil)))
      (pss_cons (ps_if (pt_cmpR op_isN (pv 1) pe_non (nomark _))
        (pss_cons (ps_ret (pe_def d_law_refused hr (by decide) (by rfl) pass0 (pa_cons (pv 0) pa_nil)))
          pss_nil)
        pss_nil)
      (pss_cons (ps_set (i := 2) sc_law_right.nd rfl (Or.inl rfl) (pe_def x_read hr (by decide) (by rfl) passGn (pa_cons (pv 0) pa_nil)))
      (pss_cons (ps_if (PW.pt (pw_or (pt_not (pt_val (pe_callB (r := rIsi K) call_isi (by rfl) T.n_isinstance (by decide +kernel) (pa_cons (pv 2) (pa_cons (pe_bltn (v := .ty "list") (u := .type "list") (by rfl) T.n_list (by decide +kernel) rfl) pa_nil))))) (pw_or (pt_cmpR (r := rNeD K) (op_neD hr.units) (pv 2) (pv 1) (nomark _)) (pw_or1 (pt_cmpR op_ne (pe_def d_written hr (by decide) (by rfl) pass0 (pa_cons (pv 2) pa_nil)) (pv 0) (nomark _))))))
        (pss_cons (ps_ret pe_bl)
          pss_nil)
        pss_nil)
      (pss_cons (ps_expr (pe_bm PySem.F.plainAttrs_list PySem.F.slot_list_append PySem.F.type_list_append mt_append (pv 2) (pa_cons pe_int pa_nil)))
      (pss_cons (ps_ret (pe_cmpR (r := rEqD K) (op_eqD hr.units) (pe_def x_read hr (by decide) (by rfl) passGn (pa_cons (pv 0) pa_nil)) (pv 1) (nomark _)))
      pss_nil)))))), ?_⟩
    cases ok : okT l with
    | false =>
      refine Sv.go (w_asg (v := .non) (ev_call (dvs := []) (ea_cons (ev_var rfl) ea_nil) fun H1 e1 Q q E => ⟨l, rfl, hz, .inr ⟨ok, q⟩⟩) (w_when (b := true) (et_is (et_test (ev_op (ev_var rfl) ev_c rv_isN)) rfl) (fun _ => ?_) (fun h => nomatch h)))
      exact w_ret (v := .bl true) (ev_call (dvs := []) (ea_cons (ev_var rfl) ea_nil) fun H1 e1 Q q E => ⟨_, rfl, .inr ⟨l, rfl, hz, ok⟩, q⟩) q
    | true =>
      have read : ∀ {s : L2.St} {H1 : Hp}, s[0]? = some (some (.str (S l))) → EvL (tCall (spReadX K cT) [] E0 (tCons (tVar 0) tNil)) s H1 ((numsT l).map V.int) := fun hs => el_call (dvs := []) (ea_cons (ev_var hs) ea_nil) fun H2 e2 Q q E => ⟨_, rfl, .inl ⟨l, rfl, hz, ok, q⟩⟩
      refine Sv.go (w_asgL (xs := (numsT l).map V.int) (el_call (dvs := []) (ea_cons (ev_var rfl) ea_nil) fun H1 e1 Q q E => ⟨l, rfl, hz, .inl ⟨ok, q⟩⟩) fun p1 H1 n1 e1 hp1 => ?_)
      refine w_skip (et_is (et_test (ev_op (ev_var rfl) ev_c rv_isN)) (decide_eq_false (fun h => nomatch h))) (w_asgL (read rfl) fun p2 H2 n2 e2 hp2 => ?_)
      have hR := nums_ok ok hz
      refine w_skip (et_is (et_or (et_not (et_B (ev_isi (b := true) (ev_var rfl) ev_c (.ty _) (.base (.lst hp2)) (kit_ty (by decide +kernel))))) fun _ => et_or (et_test (ev_neL (ev_var' rfl hp2) (ev_var' rfl (e2 _ _ hp1)))) fun _ =>
        et_test (ev_op (ev_call (dvs := []) (z := .str (rowText (numsT l))) (ea_cons (ev_var rfl) ea_nil) fun H3 e3 Q q E => ⟨p2, numsT l, rfl, e3 _ _ hp2, hR, q⟩) (ev_var rfl) (rv_ne rfl))) ?_) ?_
      · rw [text_back ok]
        simp
      · refine w_app (v := .int 0) hp2 (ev_var rfl) ev_c (by rw [List.length_map]; unfold numsT; rw [List.length_map]; have := words_len l; omega) fun H3 put => ?_
        have e3 : Ex H1 H3 := put.ex e2 n2
        exact w_ret (ev_is (ev_eqL (EvL.p (read rfl)) (ev_var' rfl (e3 _ _ hp1))) (by simp)) fun H4 e4 => q H4 (e1.trans (e3.trans e4))
def spFew : Sp := fun vs H Q _ => vs = [] ∧ ∀ ts : List V, ts.length ≤ 100 → (∀ v ∈ ts, IsT v) → RetL ts H Q
theorem times_len {z : Str} {n : Nat} : (timesS z n).length = n * z.length := by
  have len : ∀ (k : Nat) (acc : Array Nat), ((List.replicate k z.cps).foldl (· ++ ·) acc).size = acc.size + k * z.cps.size := fun k => by
    induction k with
    | zero => intro acc; simp
    | succ k ih =>
      intro acc
      rw [List.replicate_succ, List.foldl_cons, ih, Array.size_append, Nat.succ_mul]
      omega
  show ((List.replicate n z.cps).foldl (· ++ ·) #[]).size = n * z.cps.size
  rw [len]
  simp
theorem def_law_few (R : Raw K mg "_law_few" s_law_few []) (T : Txt K mg) : Def P w K mg base CX0 1 "_law_few" [] spFew := by
  refine R.ok fun f fd F => F.ok sc_law_few (fun vs H Q E h => ?_) (fun cdv A outer s H vs Q E hr h => ?_)
  · obtain ⟨rfl, _⟩ := h; rfl
  · obtain ⟨rfl, q⟩ := h
    refine ⟨_, (pss_cons (ps_set (i := 0) sc_law_few.nd rfl (Or.inl rfl) (pe_lst (pa_cons pe_str (pa_cons pe_str (pa_cons pe_str (pa_cons pe_str (pa_cons pe_str (pa_cons pe_str (pa_cons pe_str (pa_cons pe_str (pa_cons pe_str (pa_cons pe_str (pa_cons pe_str (pa_cons pe_str (pa_cons pe_str (pa_cons pe_str (pa_cons pe_str (pa_cons pe_str pa_nil))))))))))))))))))
      (pss_cons (ps_set (i := 0) sc_law_few.nd rfl (Or.inl rfl) (pe_op op_cat (pv 0) (pe_lst (pa_cons pe_str (pa_cons pe_str (pa_cons pe_str (pa_cons pe_str (pa_cons pe_str (pa_cons pe_str (pa_cons pe_str (pa_cons pe_str pa_nil)))))))))))
      (pss_cons (ps_set (i := 0) sc_law_few.nd rfl (Or.inl rfl) (pe_op op_cat (pv 0) (pe_lst (pa_cons pe_str (pa_cons pe_str (pa_cons pe_str (pa_cons pe_str (pa_cons pe_str (pa_cons pe_str (pa_cons (pe_op op_add_str (pe_op op_mulS pe_str pe_int) pe_str) (pa_cons (pe_op op_add_str pe_str (pe_op op_mulS pe_str pe_int)) (pa_cons pe_str pa_nil))))))))))))
      (pss_cons (ps_ret (pv 0))
      pss_nil)))), ?_⟩
    refine Sv.go (w_asgL (el_lst (ea_cons ev_c (ea_cons ev_c (ea_cons ev_c (ea_cons ev_c (ea_cons ev_c (ea_cons ev_c (ea_cons ev_c (ea_cons ev_c (ea_cons ev_c (ea_cons ev_c (ea_cons ev_c (ea_cons ev_c (ea_cons ev_c (ea_cons ev_c (ea_cons ev_c (ea_cons ev_c ea_nil)))))))))))))))) (by show 16 ≤ 100000; decide)) fun p1 H1 n1 e1 hp1 => ?_)
    refine w_asgL (el_cat (ev_var' rfl hp1) (EvL.p (el_lst (ea_cons ev_c (ea_cons ev_c (ea_cons ev_c (ea_cons ev_c (ea_cons ev_c (ea_cons ev_c (ea_cons ev_c (ea_cons ev_c ea_nil)))))))) (by show 8 ≤ 100000; decide))) (by show 24 ≤ 100000; decide)) fun p2 H2 n2 e2 hp2 => ?_
    refine w_asgL (el_cat (ev_var' rfl hp2) (EvL.p (el_lst (ea_cons ev_c (ea_cons ev_c (ea_cons ev_c (ea_cons ev_c (ea_cons ev_c (ea_cons ev_c (ea_cons (ev_op (ev_op ev_c ev_c (rv_mulS (k := 4000) (by decide +kernel) (by decide) (by decide))) ev_c (rv_addS (by rw [times_len]; decide +kernel))) (ea_cons (ev_op ev_c (ev_op ev_c ev_c (rv_mulS (k := 50) (by decide +kernel) (by decide) (by decide))) (rv_addS (by rw [times_len]; decide +kernel))) (ea_cons ev_c ea_nil))))))))) (by show 9 ≤ 100000; decide))) (by show 33 ≤ 100000; decide)) fun p3 H3 n3 e3 hp3 => ?_
    refine w_ret (v := .ref p3) (ev_var rfl) fun H4 e4 => q _ ?_ ?_ p3 H4 (fresh_back (e1.trans e2) n3) (e1.trans (e2.trans (e3.trans e4))) (e4 _ _ hp3)
    · show 33 ≤ 100
      decide
    · intro v hv
      simp only [List.cons_append, List.nil_append, List.mem_cons, List.not_mem_nil, or_false] at hv
      repeat (first | (rcases hv with rfl | hv; first | exact isT_of (by decide +kernel) | exact isT_of (by rw [Str.length_append, times_len]; decide +kernel)) | (subst hv; exact isT_of (by decide +kernel)))
end
end Ev

set_option Elab.async false
set_option linter.all false
set_option maxRecDepth 100000
set_option maxHeartbeats 4000000
namespace Ev
open PySem PySem.Spec L2 Evl Wk
/-! ### what every law draws: cells, numbers, a row -/
def primes : List Int := [1000003, 1000033, 1000037, 1000039, 1000081, 1000099, 1000117, 1000121, 1000133, 1000151, 1000159, 1000171, 1000183, 1000187, 1000193, 1000199]
theorem at_ints {ns : List Int} {i : Int} (h0 : 0 ≤ i) (h1 : i < ns.length) : ∃ n, n ∈ ns ∧ atI (ns.map V.int) i = some (.int n) := by
  have hi : i.toNat < ns.length := by omega
  refine ⟨ns[i.toNat], List.getElem_mem hi, ?_⟩
  have h := atI_nat (xs := ns.map V.int) (j := i.toNat) (v := .int ns[i.toNat]) (by rw [List.getElem?_map, List.getElem?_eq_getElem hi]; rfl)
  rw [Int.toNat_of_nonneg h0] at h
  exact h
section
variable {P : Program} {w : World} {K : PySem.W.Frag} {mg : Str → Option Value} {base : Heap}
def spCell (K : PySem.W.Frag) : Sp := fun vs H Q _ => ∃ (a : Addr) (ns : List Int) (k : Int), vs = [.ref a, .int k] ∧ SqL K H a (ns.map V.int) ∧ 0 ≤ k ∧ ∀ i, RetV (.int i) H Q
theorem def_law_cell_at (R : Raw K mg "_law_cell_at" s_law_cell_at ["_law_script", "_law_k"]) (T : Txt K mg) : Def P w K mg base CX0 1 "_law_cell_at" ["_law_script", "_law_k"] (spCell K) := by
  refine R.ok fun f fd F => F.ok sc_law_cell_at (fun vs H Q E h => ?_) (fun cdv A outer s H vs Q E hr h => ?_)
  · obtain ⟨a, ns, k, rfl, _⟩ := h
    rfl
  · obtain ⟨a, ns, k, rfl, ha, h0, q⟩ := h
    refine ⟨_, (pss_cons (ps_if (pt_cmpR op_lt (pv 1) (pe_callB (r := rLenS K) call_len_seq (by rfl) T.n_len PySem.boot_len (pa_cons (pv 0) pa_nil)) (nomark _))
        (pss_cons (ps_ret (pe_ix (r := rIxL K) ix_list (pv 0) (pv 1) (fun _ _ => rfl)))
          pss_nil)
        pss_nil)
      (pss_cons (ps_ret pe_int)
      pss_nil)), ?_⟩
    refine Sv.go (w_when (et_test (ev_op (ev_var rfl) (ev_len (ev_var rfl) ha) rv_I0)) (fun hb => ?_) fun hb => w_ret ev_c fun H1 e1 => q 0 H1 e1)
    have hk := of_decide_eq_true hb
    rw [List.length_map] at hk
    obtain ⟨n, _, hn⟩ := at_ints h0 hk
    exact w_ret (ev_op (ev_var rfl) (ev_var rfl) (rv_ixL ha hn)) fun H1 e1 => q n H1 e1
def spDraw : Sp := fun vs H Q _ => ∃ c k m : Int, vs = [.int c, .int k, .int m] ∧ 0 < m ∧ ∀ d, 0 ≤ d → d < m → RetV (.int d) H Q
theorem def_law_draw (R : Raw K mg "_law_draw" s_law_draw ["_law_cell", "_law_k", "_law_many"]) (T : Txt K mg) : Def P w K mg base CX0 1 "_law_draw" ["_law_cell", "_law_k", "_law_many"] spDraw := by
  refine R.ok fun f fd F => F.ok sc_law_draw (fun vs H Q E h => ?_) (fun cdv A outer s H vs Q E hr h => ?_)
  · obtain ⟨c, k, m, rfl, _⟩ := h
    rfl
  · obtain ⟨c, k, m, rfl, h0, q⟩ := h
    refine ⟨_, (pss_cons (ps_set (i := 3) sc_law_draw.nd rfl (Or.inl rfl) (pe_tup (pa_cons pe_int (pa_cons pe_int (pa_cons pe_int (pa_cons pe_int (pa_cons pe_int (pa_cons pe_int (pa_cons pe_int (pa_cons pe_int (pa_cons pe_int (pa_cons pe_int (pa_cons pe_int (pa_cons pe_int (pa_cons pe_int (pa_cons pe_int (pa_cons pe_int (pa_cons pe_int pa_nil))))))))))))))))))
      (pss_cons (ps_ret (pe_op op_mod (pe_op op_mod (pe_op op_add (pe_op op_mul (pv 0) pe_int) (pe_op op_mul (pv 1) pe_int)) (pe_ix (r := rIxT K) ix_tup (pv 3) (pe_op op_mod (pv 1) pe_int) (fun _ _ => rfl))) (pv 2)))
      pss_nil)), ?_⟩
    have hp : ∃ n, n ∈ primes ∧ atI (primes.map V.int) (k % 16) = some (.int n) := at_ints (by omega) (by show k % 16 < 16; omega)
    obtain ⟨n, hn, hat⟩ := hp
    have hpos : 0 < n := by
      have h : ∀ x ∈ primes, 0 < x := by decide
      exact h n hn
    refine Sv.go (w_asgU (xs := primes.map V.int) (eu_tup (vs := primes.map V.int) (ea_cons ev_c (ea_cons ev_c (ea_cons ev_c (ea_cons ev_c (ea_cons ev_c (ea_cons ev_c (ea_cons ev_c (ea_cons ev_c (ea_cons ev_c (ea_cons ev_c (ea_cons ev_c (ea_cons ev_c (ea_cons ev_c (ea_cons ev_c (ea_cons ev_c (ea_cons ev_c ea_nil)))))))))))))))) (by decide)) fun p H1 np e1 hp => ?_)
    exact w_ret (ev_op (ev_op (ev_op (ev_op (ev_var rfl) ev_c (rv_I (.inr (by omega)))) (ev_op (ev_var rfl) ev_c (rv_I (.inr (by omega)))) rv_I0) (ev_ixU (ev_varU rfl hp) (ev_op (ev_var rfl) ev_c (rv_I (by omega))) hat) (rv_I hpos)) (ev_var rfl) (rv_I h0))
      fun H2 e2 => q _ (Int.emod_nonneg _ (by omega)) (Int.emod_lt_of_pos _ h0) H2 (e1.trans e2)
/-- a call of _law_draw -/
theorem evp_draw {s : L2.St} {H : Hp} {ta tb tc : TE} {p : Int → Prop} {m : Int} (ha : EvP ta s H (IsI p)) (hb : EvP tb s H (IsI fun _ => True)) (hc : Ev tc s H (.int m)) (hm : 0 < m) : EvP (tCall spDraw [] E0 (tCons ta (tCons tb (tCons tc tNil)))) s H (IsI fun d => 0 ≤ d ∧ d < m) :=
  evp_callP (ap_three ha hb hc.p) fun vs H1 e1 ⟨v, w, x, ev, ⟨c, ec, _⟩, ⟨k, ek, _⟩, ex⟩ Q q => ⟨c, k, m, by rw [ev, ec, ek, ex], hm, fun d h0 h1 H2 e2 => q _ H2 e2 ⟨d, rfl, h0, h1⟩⟩
/-- a call of _law_cell_at -/
theorem evp_cell {s : L2.St} {H : Hp} {ta tb : TE} {a : Addr} {ns : List Int} {k : Int} (ha : Ev ta s H (.ref a)) (hs : SqL K H a (ns.map V.int)) (hb : Ev tb s H (.int k)) (h0 : 0 ≤ k) : EvP (tCall (spCell K) [] E0 (tCons ta (tCons tb tNil))) s H (IsI fun _ => True) :=
  evp_callP (ap_two ha.p hb.p) fun vs H1 e1 ⟨v, w, ev, ea, ew⟩ Q q => ⟨a, ns, k, by rw [ev, ea, ew], ex_l e1 hs, h0, fun i H2 e2 => q _ H2 e2 ⟨i, rfl, trivial⟩⟩
theorem evt_of {s : L2.St} {H : Hp} {te : TE} {b : Bool} (h : Ev te s H (.bl b)) : EvT (tTest te) s H b := et_test h
/-- a == b of ints of which little is known, as a test -/
theorem et2_eq {s : L2.St} {H : Hp} {ta tb : TE} {p q : Int → Prop} (ha : EvP ta s H (IsI p)) (hb : EvP tb s H (IsI q)) : ∀ H1, Ex H H1 → ∀ Q : Bool → Hp → Prop, (∀ b H2, Ex H1 H2 → Q b H2) → tTest (tOp rEq ta tb) s H1 Q := fun H1 e Q k =>
  ha H1 e _ fun a H2 e2 ⟨i, ea, _⟩ => hb H2 (e.trans e2) _ fun b H3 e3 ⟨j, eb, _⟩ => by
    subst ea eb
    exact ⟨rfl, _, rfl, k _ H3 (e2.trans e3)⟩
def Within (B : Int) (l : List Int) : Prop := ∀ x ∈ l, -B ≤ x ∧ x ≤ B
def spRow (K : PySem.W.Frag) : Sp := fun vs H Q _ => ∃ (a : Addr) (ns : List Int), vs = [.ref a] ∧ SqL K H a (ns.map V.int) ∧ ns.length ≤ 63 ∧ ∀ rs : List Int, rs.length = ns.length + 1 → Within 900000 rs → RetL (rs.map V.int) H Q
theorem def_law_row (R : Raw K mg "_law_row" s_law_row ["_law_script"]) (T : Txt K mg) (d_law_cell_at : Def P w K mg base CX0 1 "_law_cell_at" ["_law_script", "_law_k"] (spCell K)) (d_law_draw : Def P w K mg base CX0 1 "_law_draw" ["_law_cell", "_law_k", "_law_many"] spDraw) :
    Def P w K mg base CX0 2 "_law_row" ["_law_script"] (spRow K) := by
  refine R.ok fun f fd F => F.ok sc_law_row (fun vs H Q E h => ?_) (fun cdv A outer s H vs Q E hr h => ?_)
  · obtain ⟨a, ns, rfl, _⟩ := h
    rfl
  · obtain ⟨a, ns, rfl, ha, hz, q⟩ := h
    refine ⟨_, (pss_cons (ps_set (i := 1) sc_law_row.nd rfl (Or.inl rfl) (pe_ix (r := rIxT K) ix_tup (pe_tup (pa_cons pe_int (pa_cons pe_int (pa_cons pe_int (pa_cons pe_int pa_nil))))) (pe_def d_law_draw hr (by decide) (by rfl) pass0 (pa_cons (pe_def d_law_cell_at hr (by decide) (by rfl) pass0 (pa_cons (pv 0) (pa_cons pe_int pa_nil))) (pa_cons pe_int (pa_cons pe_int pa_nil)))) (fun _ _ => rfl)))
      (pss_cons (ps_set (i := 2) sc_law_row.nd rfl (Or.inl rfl) (pe_lst (pa_cons (pe_op op_sub (pe_def d_law_draw hr (by decide) (by rfl) pass0 (pa_cons (pe_def d_law_cell_at hr (by decide) (by rfl) pass0 (pa_cons (pv 0) (pa_cons pe_int pa_nil))) (pa_cons pe_int (pa_cons pe_int pa_nil)))) pe_int) pa_nil)))
      (pss_cons (ps_for PassesOwn.never rfl (pi_range1 (by rfl) T.n_range (pa_cons (pe_callB (r := rLenS K) call_len_seq (by rfl) T.n_len PySem.boot_len (pa_cons (pv 0) pa_nil)) pa_nil)) (pg_name (i := 3) sc_law_row.nd rfl (Or.inl rfl))
        (pss_cons (ps_set (i := 4) sc_law_row.nd rfl (Or.inl rfl) (pe_def d_law_draw hr (by decide) (by rfl) pass0 (pa_cons (pe_ix (r := rIxL K) ix_list (pv 0) (pv 3) (fun _ _ => rfl)) (pa_cons (pe_op op_add (pe_op op_mod (pv 3) pe_int) pe_int) (pa_cons (pe_op op_add (pv 1) pe_int) pa_nil)))))
          (pss_cons (ps_expr (pe_bm PySem.F.plainAttrs_list PySem.F.slot_list_append PySem.F.type_list_append mt_append (pv 2) (pa_cons (pe_ifExp (pt_cmpR op_eq (pe_def d_law_draw hr (by decide) (by rfl) pass0 (pa_cons (pe_ix (r := rIxL K) ix_list (pv 0) (pv 3) (fun _ _ => rfl)) (pa_cons (pe_op op_add (pe_op op_mod (pv 3) pe_int) pe_int) (pa_cons pe_int pa_nil)))) pe_int (nomark _)) (pv 4) (pe_un un_neg (pv 4))) pa_nil)))
          pss_nil)))
      (pss_cons (ps_ret (pv 2))
      pss_nil)))), ?_⟩
    refine Sv.go (w_asgP (P := IsI fun m => 0 < m ∧ m ≤ 900000) (evp_op (evU_p (eu_tup (vs := ([2, 9, 400, 900000] : List Int).map V.int) (ea_cons ev_c (ea_cons ev_c (ea_cons ev_c (ea_cons ev_c ea_nil)))) (by decide))) (evp_draw (evp_cell (ev_var rfl) ha ev_c (by omega)) (ev_i ev_c trivial) ev_c (by omega)) ?_) ?_)
    · intro x y H1 e1 ⟨p, ex, hp⟩ ⟨d, ey, h0, h1⟩ H2 e2 Q k
      obtain ⟨n, hn, hat⟩ := at_ints (ns := [2, 9, 400, 900000]) h0 (by simpa using h1)
      refine ⟨p, _, d, .int n, ex, ey, st_of (e2 _ _ hp), hat, k _ H2 (Ex.refl H2) ⟨n, rfl, ?_⟩⟩
      have hall : ∀ x ∈ ([2, 9, 400, 900000] : List Int), 0 < x ∧ x ≤ 900000 := by decide
      exact hall n hn
    · rintro v H1 e1 ⟨m, rfl, hm0, hm1⟩
      have hL : EvP (tLst (tCons (tOp (rI0 fun i j => .int (i - j)) (tCall spDraw [] E0 (tCons (tCall (spCell K) [] E0 (tCons (tVar 0) (tCons (tC (.int 1)) tNil))) (tCons (tC (.int 7)) (tCons (tC (.int 5)) tNil)))) (tC (.int 2))) tNil)) [some (.ref a), some (.int m), none, none, none] H1 (fun x H2 => ∃ p rs, x = .ref p ∧ H1 p = none ∧ H2 p = some (.lst (rs.map V.int)) ∧ rs.length = 1 ∧ Within 900000 rs) := by
        intro H2 e2 Q k
        refine evp_int (w := fun i => -2 ≤ i ∧ i ≤ 2) (evp_draw (evp_cell (ev_var rfl) (ex_l e1 ha) ev_c (by omega)) (ev_i ev_c trivial) ev_c (by omega)) (ev_i (p := fun i => i = 2) ev_c rfl) (fun i j h1 h2 => ⟨by omega, by omega⟩) H2 e2 _ fun x H3 e3 ⟨i, ex, h1, h2⟩ => ?_
        refine ⟨by show 1 ≤ sizeLine; decide, fun p hp => k _ _ (e3.trans (Ex.new hp)) ⟨p, [i], rfl, fresh_back (e2.trans e3) hp, ?_, rfl, fun y hy => ?_⟩⟩
        · subst ex
          exact upd_same
        · have : y = i := by simpa using hy
          subst this
          exact ⟨by omega, by omega⟩
      refine w_asgP hL fun x H2 e2 ⟨p, rs0, ex, np, hp, hl0, hw0⟩ => ?_
      subst ex
      have ha2 : SqL K H2 a (ns.map V.int) := ex_l (e1.trans e2) ha
      have np0 : H p = none := fresh_back e1 np
      refine w_forR1 (ea_cons (ev_len (ev_var rfl) ha2) ea_nil) (by rw [List.length_map]; omega) (fun i s' H' => ∃ y z rs, s' = [some (.ref a), some (.int m), some (.ref p), y, z] ∧ Ex H H' ∧ H' p = some (.lst (rs.map V.int)) ∧ rs.length = i + 1 ∧ Within 900000 rs) (fun H3 e3 => ⟨none, none, rs0, rfl, (e1.trans e2).trans e3, e3 _ _ hp, hl0, hw0⟩) ?_ ?_
      · rintro i s' H' hi ⟨y, z, rs, rfl, ex, hp', hl, hw⟩
        rw [List.length_map] at hi
        obtain ⟨n, _, hn⟩ := at_ints (ns := ns) (i := (i : Int)) (by omega) (by omega)
        have ha3 : SqL K H' a (ns.map V.int) := ex_l ex ha
        refine w_asgP (P := IsI fun d => 0 ≤ d ∧ d < m + 1) (evp_draw (p := fun _ => True) (ev_i (ev_op (ev_var rfl) (ev_var rfl) (rv_ixL ha3 hn)) trivial) (ev_i (ev_op (ev_op (ev_var rfl) ev_c (rv_I (by omega))) ev_c rv_I0) trivial) (ev_op (ev_var rfl) ev_c rv_I0) (by omega)) ?_
        rintro v H3 e3 ⟨d, rfl, d0, d1⟩
        have ha4 := ex_l e3 ha3
        refine w_appP (P := IsI fun v => -900000 ≤ v ∧ v ≤ 900000) (e3 _ _ hp') (ev_var rfl) (evp_if2 (et2_eq (evp_draw (p := fun _ => True) (ev_i (ev_op (ev_var rfl) (ev_var rfl) (rv_ixL ha4 hn)) trivial) (ev_i (ev_op (ev_op (ev_var rfl) ev_c (rv_I (by omega))) ev_c rv_I0) trivial) ev_c (by omega)) (ev_i (p := fun _ => True) ev_c trivial)) (ev_i (ev_var rfl) ⟨by omega, by omega⟩) (evp_neg (p := fun v => v = d) (ev_i (ev_var rfl) rfl) fun i hi => ⟨by omega, by omega⟩)) (by rw [List.length_map]; omega) ?_ (fun v H o h => h)
        rintro v H4 ⟨x, rfl, x0, x1⟩ pt
        refine w_nx fun H5 e5 => Exists.intro (some (.int (i : Int))) ⟨some (.int d), rs ++ [x], rfl, (pt.ex (ex.trans e3) np0).trans e5, ?_, by rw [List.length_append, hl]; rfl, fun y hy => ?_⟩
        · rw [e5 _ _ pt.new, List.map_append]
          rfl
        · rcases List.mem_append.mp hy with hy | hy
          · exact hw y hy
          · have : y = x := by simpa using hy
            subst this
            exact ⟨x0, x1⟩
      · rintro s' H' ⟨y, z, rs, rfl, ex, hp', hl, hw⟩
        rw [List.length_map] at hl
        exact w_ret (ev_var rfl) fun H2 e2 => q rs (by omega) hw p H2 np0 (ex.trans e2) (e2 _ _ hp')
end
end Ev

set_option Elab.async false
set_option linter.all false
set_option maxRecDepth 100000
set_option maxHeartbeats 4000000
namespace Ev
open PySem PySem.Spec L2 Evl Wk SX
/-! ### the law -/
def IsTx (n : Nat) : V → Hp → Prop := fun v _ => ∃ l : List Nat, v = .str (S l) ∧ l.length ≤ n
instance {n : Nat} : MonoP (IsTx n) := ⟨fun _ h => h⟩
section
variable {K : PySem.W.Frag} {s : L2.St} {H : Hp} {te ta tb tl : TE} {m n : Nat}
theorem tx_of {z : Str} (h : Ev te s H (.str z)) (hz : z.length ≤ n) : EvP te s H (IsTx n) := h.p.imp fun v _ _ ev => ⟨z.cps.toList, by rw [show v = .str z from ev, S_tl], by rw [Array.length_toList]; exact hz⟩
theorem tx_add (ha : EvP ta s H (IsTx m)) (hb : EvP tb s H (IsTx n)) (hz : m + n ≤ 100000) : EvP (tOp (fun x y H Q => ∃ i j, x = .str i ∧ y = .str j ∧ i.length + j.length ≤ sizeLine ∧ Q (.str (i ++ j)) H) ta tb) s H (IsTx (m + n)) :=
  evp_op ha hb fun x y H1 _ ⟨l, ex, hl⟩ ⟨k, ey, hk⟩ H2 _ Q q => ⟨S l, S k, ex, ey, by rw [S_len, S_len]; exact sz_of (by omega), q _ H2 (Ex.refl H2) ⟨l ++ k, by rw [S_cat], by rw [List.length_append]; omega⟩⟩
theorem slice_len (z : Str) (lo hi : Option Int) : (Txt.slice z lo hi).length ≤ z.length := by
  rw [← C8.cutS_slice]
  exact cutS_length z lo hi
theorem tx_from {l : List Nat} {p : Int → Prop} (h : Ev te s H (.str (S l))) (hi : EvP ta s H (IsI p)) (hz : l.length ≤ n) (hn : n ≤ 100000) : EvP (L2.tSl C8.rSlX te (tPart ta) tNoPart) s H (IsTx n) := fun H1 e Q q =>
  h H1 e _ fun H2 e2 => hi H2 (e.trans e2) _ fun v H3 e3 ⟨i, ev, _⟩ => ⟨i, ev, ⟨S l, rfl, by rw [S_len]; exact sz_of (by omega), q _ H3 (e2.trans e3) ⟨(Txt.slice (S l) (some i) none).cps.toList, by rw [S_tl], by
    rw [Array.length_toList]
    have := slice_len (S l) (some i) none
    rw [S_len] at this
    exact Nat.le_trans this hz⟩⟩⟩
theorem tx_to {l : List Nat} {i : Int} (h : Ev te s H (.str (S l))) (hi : Ev ta s H (.int i)) (hz : l.length ≤ n) (hn : n ≤ 100000) : EvP (L2.tSl C8.rSlX te tNoPart (tPart ta)) s H (IsTx n) :=
  tx_of (ev_sl h eo_none (eo_some hi) (by rw [S_len]; omega)) (Nat.le_trans (slice_len _ _ _) (by rw [S_len]; exact hz))
theorem at_lt {α : Type} {l : List α} {i : Int} (h0 : 0 ≤ i) (h1 : i < l.length) : ∃ c, atI l i = some c := by
  refine ⟨l[i.toNat]'(by omega), ?_⟩
  unfold atI ixN
  rw [if_pos h0, if_pos h1]
  exact List.getElem?_eq_getElem _
/-- a sign of a text, drawn -/
theorem tx_sign {z : Str} {k : Int} (h : Ev te s H (.str z)) (hi : EvP ta s H (IsI fun d => 0 ≤ d ∧ d < k)) (hk : k = z.cps.toList.length) (hz : z.length ≤ 100000) : EvP (tOp rIxS te ta) s H (IsTx 1) :=
  evp_op h.p hi fun x y H1 _ ex ⟨d, ey, h0, h1⟩ H2 _ Q q => by
    obtain ⟨c, hc⟩ := at_lt (l := z.cps.toList) h0 (by omega)
    exact ⟨z, d, c, ex, ey, sz_of hz, hc, q _ H2 (Ex.refl H2) ⟨[c], rfl, Nat.le_refl _⟩⟩
def TwoTx (n : Nat) : V → Hp → Prop := fun x H1 => ∃ p v w, x = .ref p ∧ H1 p = some (.tup [v, w]) ∧ IsTx n v H1 ∧ IsTx n w H1
instance {n : Nat} : MonoP (TwoTx n) := ⟨fun e ⟨p, v, w, a, b, c⟩ => ⟨p, v, w, a, e _ _ b, c⟩⟩
/-- one of two texts, drawn -/
theorem tx_pick {tc : TE} (ha : EvP ta s H (IsTx n)) (hb : EvP tb s H (IsTx n)) (hi : EvP tc s H (IsI fun d => 0 ≤ d ∧ d < 2)) : EvP (tOp (rIxT K) (tTup (tCons ta (tCons tb tNil))) tc) s H (IsTx n) :=
  evp_op (P := TwoTx n) ((evp_tup2 (ap_two ha hb) fun vs _ ⟨v, w, e, _⟩ => by rw [e]; show 2 ≤ 100000; decide).imp fun x H1 _ ⟨p, vs, G, ex, _, hp, ⟨v, w, ev, hv, hw⟩, _⟩ => ⟨p, v, w, ex, by rw [← ev]; exact hp, hv, hw⟩) hi
    fun x y H1 _ ⟨p, v, w, ex, hp, hv, hw⟩ ⟨d, ey, h0, h1⟩ H2 e2 Q q => by
      have hd : d = 0 ∨ d = 1 := by omega
      rcases hd with rfl | rfl
      · exact ⟨p, _, 0, v, ex, ey, st_of (e2 _ _ hp), rfl, q _ H2 (Ex.refl H2) hv⟩
      · exact ⟨p, _, 1, w, ex, ey, st_of (e2 _ _ hp), rfl, q _ H2 (Ex.refl H2) hw⟩
theorem ev_right {sp : Sp} (hsp : sp = spRight) (h : EvP te s H (IsTx 9000)) : Ev (tCall sp [] E0 (tCons te tNil)) s H (.bl true) := by
  subst hsp
  exact ev_callP (ap_one h) fun vs H1 _ ⟨v, ev, pv⟩ Q q => ⟨v, ev, pv, q⟩
/-! all of what is asked of a list's things -/
def IsR (b : V) : V → Hp → Prop := fun v H => ∃ p n, v = .ref p ∧ H p = some (.lst (List.replicate n b))
theorem evp_mapR {j : Nat} {vs : List Nat} {good : V → Hp → Prop} {b : V} (h : EvP tl s H (fun v H1 => ∃ p ts, v = .ref p ∧ H1 p = some (.lst ts) ∧ ts.length ≤ 100 ∧ ∀ x ∈ ts, good x H1)) (hw : ∀ x, wipe ((wipe s vs).set j (some x)) vs = wipe s vs)
    (he : ∀ x H1, Ex H H1 → good x H1 → Ev te ((wipe s vs).set j (some x)) H1 b) : EvP (tLc (iList K tl) (gName j) tYes te vs) s H (IsR b) := fun H0 e Q q => h H0 e _ fun v H1 e1 ⟨p, ts, ev, hp, hz, hg⟩ => by
  subst ev
  have k := el_mapN (K := K) (s := s) (H := H1) (te := te) (tl := tC (.ref p)) (j := j) (vs := vs) ts id (fun _ => b) ((ev_c (v := .ref p)).p.imp fun v H2 e2 ev => ⟨p, ev, by rw [List.map_id]; exact e2 _ _ hp⟩) (by omega) hw fun x hx => he x H1 (e.trans e1) (hg x hx)
  exact k H1 (Ex.refl H1) Q fun p2 H2 _ e2 hp2 => q _ H2 (e1.trans e2) ⟨p2, ts.length, rfl, by rw [hp2, List.map_const']⟩
theorem ev_allR (h : EvP te s H (IsR (.bl true))) : Ev (tCB (rAll K) (tCons te tNil)) s H (.bl true) :=
  ev_cbP (ap_one h) fun vs H1 _ ⟨v, ev, p, n, pv, hp⟩ H2 e2 Q q => ⟨p, List.replicate n true, by rw [ev, pv], sq_of (by rw [List.map_replicate]; exact e2 _ _ hp), by
    rw [show (List.replicate n true).all id = true from by simp]
    exact q H2 (Ex.refl H2)⟩
end
theorem rowText_len {rs : List Int} (h : ∀ i ∈ rs, isSh i = true) (hz : rs.length ≤ 64) : (rowText rs).length ≤ 600 := by
  have h1 := StrLaws.join_length_le " " (rs.map shown)
  have h2 := sum_le (rs.map shown) fun y hy => by
    obtain ⟨i, hi, rfl⟩ := List.mem_map.mp hy
    exact shown_len (sh_small (h i hi))
  rw [List.length_map] at h1 h2
  rw [show (" " : Str).length = 1 from by rw [lit_]; rfl] at h1
  unfold rowText
  show (Builtin.Str.glued " " (rs.map shown)).length ≤ 600
  rw [StrLaws.glued_eq_join]
  omega
def spLawX (K : PySem.W.Frag) : Sp := fun vs H Q _ => ∃ (a : Addr) (ns : List Int), vs = [.ref a] ∧ SqL K H a (ns.map V.int) ∧ ns.length ≤ 63 ∧ ∀ H', Q (.bl true) H'
section
variable {P : Program} {w : World} {K : PySem.W.Frag} {mg : Str → Option Value} {base : Heap} {cS cB cG cA cU cT : Addr}
theorem ok_law {f : Addr} {fd : FuncData} (F : Fun K "law" "law" s_law f fd) (T : Txt K mg) (d_law_cell_at : Def P w K mg base CX0 1 "_law_cell_at" ["_law_script", "_law_k"] (spCell K)) (d_law_draw : Def P w K mg base CX0 1 "_law_draw" ["_law_cell", "_law_k", "_law_many"] spDraw)
    (d_law_row : Def P w K mg base CX0 2 "_law_row" ["_law_script"] (spRow K)) (d_written : Def P w K mg base CX0 4 "written" ["row"] spWrittenT) (d_law_right : Def P w K mg base CX0 6 "_law_right" ["_law_text"] spRight) (d_law_few : Def P w K mg base CX0 1 "_law_few" [] spFew) (d_law_refused : Def P w K mg base CX0 5 "_law_refused" ["_law_text"] (spRefused K)) : FnOk P w K mg base CX0 7 f fd ["_law_script"] (spLawX K) := by
  refine F.ok sc_law (fun vs H Q E h => ?_) (fun cdv A outer s H vs Q E hr h => ?_)
  · obtain ⟨a, ns, rfl, _⟩ := h
    rfl
  · obtain ⟨a, ns, rfl, ha, hz, q⟩ := h
    refine ⟨_, (pss_cons (ps_set (i := 1) sc_law.nd rfl (Or.inl rfl) (pe_def d_law_row hr (by decide) (by rfl) pass0 (pa_cons (pv 0) pa_nil)))
      (pss_cons (ps_set (i := 2) sc_law.nd rfl (Or.inl rfl) (pe_bm PySem.F.plainAttrs_str PySem.F.slot_str_join PySem.F.type_str_join mt_join pe_str (pa_cons (pe_lc (own := [("_law_share", 8)]) (g := gName 8) rfl sc_law.nd (pi_list (pv 1)) (blkOk_by (own := [("_law_share", 8)]) (N := ["_law_script", "_law_row_here", "_law_text", "_law_handed", "_law_cell", "_law_k", "_law_at", "_law_sign", "_law_share", "_law_thing", "_law_other_here"]) (sc := defScope s_law) (by decide +kernel)) (fun _ _ _ _ _ => pg_name (i := 8) sc_law.nd rfl (Or.inl rfl)) (fun _ _ _ _ _ => pts_nil) (fun _ _ _ _ _ => (pe_callTy call_str_int (by rfl) T.n_str (by decide +kernel) (pa_cons (pv 8) pa_nil)))) pa_nil)))
      (pss_cons (ps_set (i := 3) sc_law.nd rfl (Or.inl rfl) (pe_callTy (r := rListS K) call_list_of (by rfl) T.n_list (by decide +kernel) (pa_cons (pv 1) pa_nil)))
      (pss_cons (ps_if (PW.pt (pw_or (pt_cmpR op_ne (pe_def d_written hr (by decide) (by rfl) pass0 (pa_cons (pv 3) pa_nil)) (pv 2) (nomark _)) (pw_or (pt_cmpR (r := rNeD K) (op_neD hr.units) (pv 3) (pv 1) (nomark _)) (pw_or1 (pt_not (pt_val (pe_def d_law_right hr (by decide) (by rfl) pass0 (pa_cons (pv 2) pa_nil))))))))
        (pss_cons (ps_ret pe_bl)
          pss_nil)
        pss_nil)
      (pss_cons (ps_set (i := 4) sc_law.nd rfl (Or.inl rfl) (pe_op op_add (pe_def d_law_cell_at hr (by decide) (by rfl) pass0 (pa_cons (pv 0) (pa_cons pe_int pa_nil))) (pe_op op_mul pe_int (pe_def d_law_cell_at hr (by decide) (by rfl) pass0 (pa_cons (pv 0) (pa_cons pe_int pa_nil))))))
      (pss_cons (ps_for PassesOwn.never rfl (pi_range1 (by rfl) T.n_range (pa_cons pe_int pa_nil)) (pg_name (i := 5) sc_law.nd rfl (Or.inl rfl))
        (pss_cons (ps_set (i := 6) sc_law.nd rfl (Or.inl rfl) (pe_def d_law_draw hr (by decide) (by rfl) pass0 (pa_cons (pe_op op_add (pv 4) (pv 5)) (pa_cons pe_int (pa_cons (pe_op op_add (pe_callB call_len_str (by rfl) T.n_len PySem.boot_len (pa_cons (pv 2) pa_nil)) pe_int) pa_nil)))))
          (pss_cons (ps_set (i := 7) sc_law.nd rfl (Or.inl rfl) (pe_ix (r := rIxT K) ix_tup (pe_tup (pa_cons pe_str (pa_cons (pe_ix ix_str pe_str (pe_def d_law_draw hr (by decide) (by rfl) pass0 (pa_cons (pe_op op_add (pv 4) (pv 5)) (pa_cons pe_int (pa_cons pe_int pa_nil)))) (fun _ _ => rfl)) pa_nil))) (pe_def d_law_draw hr (by decide) (by rfl) pass0 (pa_cons (pe_op op_add (pv 4) (pv 5)) (pa_cons pe_int (pa_cons pe_int pa_nil)))) (fun _ _ => rfl)))
          (pss_cons (ps_if (pt_not (pt_val (pe_def d_law_right hr (by decide) (by rfl) pass0 (pa_cons (pe_op op_add_str (pe_op op_add_str (pe_slice C8.sl_txt (pv 2) po_none (po_some (pv 6))) (pv 7)) (pe_slice C8.sl_txt (pv 2) (po_some (pe_op op_add (pv 6) (pe_def d_law_draw hr (by decide) (by rfl) pass0 (pa_cons (pe_op op_add (pv 4) (pv 5)) (pa_cons pe_int (pa_cons pe_int pa_nil)))))) po_none)) pa_nil))))
            (pss_cons (ps_ret pe_bl)
              pss_nil)
            pss_nil)
          pss_nil))))
      (pss_cons (ps_if (pt_not (pt_val (pe_callB (r := rAll K) (cr_all rfl) (by rfl) T.n_all (by decide +kernel) (pa_cons (pe_lc (own := [("_law_other_here", 10)]) (g := gName 10) rfl sc_law.nd (pi_list (pe_def0 d_law_few hr (by decide) (by rfl) pass0)) (blkOk_by (own := [("_law_other_here", 10)]) (N := ["_law_script", "_law_row_here", "_law_text", "_law_handed", "_law_cell", "_law_k", "_law_at", "_law_sign", "_law_share", "_law_thing", "_law_other_here"]) (sc := defScope s_law) (by decide +kernel)) (fun _ _ _ _ _ => pg_name (i := 10) sc_law.nd rfl (Or.inl rfl)) (fun _ _ _ _ _ => pts_nil) (fun _ _ _ _ _ => (pe_def d_law_right hr (by decide) (by rfl) pass0 (pa_cons (pv 10) pa_nil)))) pa_nil))))
        (pss_cons (ps_ret pe_bl)
          pss_nil)
        pss_nil)
      (pss_cons (ps_ret (pe_callB (r := rAll K) (cr_all rfl) (by rfl) T.n_all (by decide +kernel) (pa_cons (pe_lc (own := [("_law_thing", 9)]) (g := gName 9) rfl sc_law.nd (pi_list (pe_lst (pa_cons pe_non (pa_cons pe_int (pa_cons (pe_lst (pa_cons pe_str pa_nil)) (pa_cons pe_bl pa_nil)))))) (blkOk_by (own := [("_law_thing", 9)]) (N := ["_law_script", "_law_row_here", "_law_text", "_law_handed", "_law_cell", "_law_k", "_law_at", "_law_sign", "_law_share", "_law_thing", "_law_other_here"]) (sc := defScope s_law) (by decide +kernel)) (fun _ _ _ _ _ => pg_name (i := 9) sc_law.nd rfl (Or.inl rfl)) (fun _ _ _ _ _ => pts_nil) (fun _ _ _ _ _ => (pe_def d_law_refused hr (by decide) (by rfl) pass0 (pa_cons (pv 9) pa_nil)))) pa_nil)))
      pss_nil)))))))), ?_⟩
    -- the row
    refine Sv.go (w_asgP (P := fun x H2 => ∃ p rs, x = .ref p ∧ H2 p = some (.lst (rs.map V.int)) ∧ rs.length = ns.length + 1 ∧ Within 900000 rs) (evp_callP (ap_one (ev_var rfl).p) fun vs H1 e1 ⟨v, ev, pv⟩ Q q => ⟨a, ns, by rw [ev, pv], ex_l e1 ha, hz, fun rs h1 h2 p H2 np e2 hp => q _ H2 e2 ⟨p, rs, rfl, hp, h1, h2⟩⟩) ?_)
    rintro x H1 e1 ⟨pr, rs, rfl, hpr, hl, hw⟩
    have hR : RowOk rs := ⟨fun h => by rw [h] at hl; simp at hl, fun x hx => by
      have := hw x hx
      unfold isSh
      simp
      omega, by omega⟩
    -- its text
    have hlen := rowText_len hR.2.1 (by omega)
    obtain ⟨L, hL⟩ : ∃ L : List Nat, rowText rs = S L := ⟨_, (S_tl _).symm⟩
    have hLz : L.length ≤ 600 := by
      rw [hL, S_len] at hlen
      exact hlen
    refine w_asg (v := .str (S L)) (by rw [← hL]; exact ev_rowText ev_c (ev_var rfl) hpr hR.2.1 hR.2.2 (fun _ => rfl) fun i hi => ev_strI (ev_var rfl) hi) ?_
    refine w_asgL (xs := rs.map V.int) (el_listL (ev_var' rfl hpr)) fun ph H2 nh e2 hph => ?_
    have hpr2 := e2 _ _ hpr
    have ha2 := ex_l (e1.trans e2) ha
    refine w_skip (et_is (et_or (et_test (ev_op (ev_call (dvs := []) (z := .str (rowText rs)) (ea_cons (ev_var rfl) ea_nil) fun H3 e3 Q q E => ⟨ph, rs, rfl, e3 _ _ hph, hR, q⟩) (ev_var rfl) (rv_ne rfl))) fun _ => et_or (et_test (ev_neL (ev_var' rfl hph) (ev_var' rfl hpr2))) fun _ => et_not (et_B (ev_right rfl ((ev_var (v := .str (S L)) rfl).p.imp fun v _ _ ev => ⟨L, ev, by omega⟩)))) ?_) ?_
    · rw [hL]
      simp
    -- edits
    refine w_asgP (P := IsI fun _ => True) (evp_int (p := fun _ => True) (q := fun _ => True) (evp_cell (ev_var rfl) ha2 ev_c (by omega)) (evp_intC (p := fun i => i = 7) (q := fun _ => True) (w := fun _ => True) (ev_i ev_c rfl) (evp_cell (ev_var rfl) ha2 ev_c (by omega)) (fun i j h _ => .inl (by omega)) fun _ _ _ _ => trivial) fun _ _ _ _ => trivial) ?_
    rintro v H3 e3 ⟨c, rfl, _⟩
    refine w_forR1 (n := 2) (ea_cons ev_c ea_nil) (by omega) (fun i s' H' => ∃ y5 y6 y7, s' = [some (.ref a), some (.ref pr), some (.str (S L)), some (.ref ph), some (.int c), y5, y6, y7, none, none, none]) (fun H4 e4 => ⟨none, none, none, rfl⟩) ?_ ?_
    · rintro i s' H' hi ⟨y5, y6, y7, rfl⟩
      have cell : ∀ {s : L2.St} {G : Hp}, s[4]? = some (some (.int c)) → s[5]? = some (some (.int (i : Int))) → EvP (tOp (rI0 fun i j => .int (i + j)) (tVar 4) (tVar 5)) s G (IsI fun _ => True) := fun h4 h5 => ev_i (ev_op (ev_var h4) (ev_var h5) rv_I0) trivial
      have draw : ∀ {s : L2.St} {G : Hp} {tk tm : TE} {k m : Int}, s[4]? = some (some (.int c)) → s[5]? = some (some (.int (i : Int))) → Ev tk s G (.int k) → Ev tm s G (.int m) → 0 < m → EvP (tCall spDraw [] E0 (tCons (tOp (rI0 fun i j => .int (i + j)) (tVar 4) (tVar 5)) (tCons tk (tCons tm tNil)))) s G (IsI fun d => 0 ≤ d ∧ d < m) := fun h4 h5 hk hm h0 => evp_draw (cell h4 h5) (ev_i hk trivial) hm h0
      refine w_asgP (P := IsI fun d => 0 ≤ d ∧ d < ((S L).length : Int) + 1) (draw rfl rfl ev_c (ev_op (ev_lenS (ev_var rfl) (by rw [S_len]; omega)) ev_c rv_I0) (by omega)) ?_
      rintro v H4 e4 ⟨d, rfl, _⟩
      refine w_asgP (P := IsTx 1) (tx_pick (tx_of ev_c (by decide +kernel)) (tx_sign ev_c (draw rfl rfl ev_c ev_c (by decide)) (by decide +kernel) (by decide +kernel)) (draw rfl rfl ev_c ev_c (by decide))) ?_
      rintro v H5 e5 ⟨t, rfl, ht⟩
      refine w_skip (et_is (et_not (et_B (ev_right rfl ((tx_add (m := 601) (n := 600) (tx_add (m := 600) (n := 1) (tx_to (ev_var rfl) (ev_var rfl) hLz (by omega)) ((ev_var (v := .str (S t)) rfl).p.imp fun v _ _ ev => ⟨t, ev, ht⟩) (by omega)) (tx_from (ev_var rfl) (evp_int (p := fun _ => True) (w := fun _ => True) (ev_i (ev_var rfl) trivial) (draw rfl rfl ev_c ev_c (by decide)) fun _ _ _ _ => trivial) hLz (by omega)) (by omega)).imp fun v _ _ ⟨l, ev, hl⟩ => ⟨l, ev, by omega⟩)))) rfl) ?_
      exact w_nx fun H6 e6 => ⟨some (.int (i : Int)), some (.int d), some (.str (S t)), rfl⟩
    · rintro s' H4 ⟨y5, y6, y7, rfl⟩
      refine w_skip (et_is (et_not (et_B (ev_allR (evp_mapR (good := fun x _ => IsT x) (evp_callP (R := fun v H1 => ∃ p ts, v = .ref p ∧ H1 p = some (.lst ts) ∧ ts.length ≤ 100 ∧ ∀ x ∈ ts, IsT x) ap_nil fun vs H5 e5 ev Q q => ⟨ev, fun ts h1 h2 p H6 np e6 hp => q _ H6 e6 ⟨p, ts, rfl, hp, h1, h2⟩⟩) (fun _ => rfl) fun x H5 e5 hx => ev_right rfl ((ev_var (v := x) rfl).p.imp fun v _ _ ev => by rw [show v = x from ev]; exact hx))))) rfl) ?_
      have bad : ∀ {s : L2.St} {G : Hp} {te : TE} {v : V} {n : String}, Ev te s G v → (∀ G1, ValT K n v G1) → n ≠ "str" → EvP te s G (BadT K) := fun h hv hn => h.p.imp fun x G1 _ ev => .inl ⟨_, by rw [show x = _ from ev]; exact hv G1, hn⟩
      refine w_ret (v := .bl true) (ev_allR (evp_mapR (good := BadT K) ((evp_lst2 (ap_cons (P := BadT K) (bad ev_c (fun _ => valT_non) (by decide)) (ap_cons (P := BadT K) (bad ev_c (fun _ => valT_int _) (by decide)) (ap_cons (P := BadT K) ((EvL.p (el_lst (vs := [.str "0"]) (ea_cons ev_c ea_nil) (by show 1 ≤ 100000; decide))).imp fun v G _ ⟨p, ev, hp⟩ => .inl ⟨"list", by rw [ev]; exact valT_lst hp, by decide⟩) (ap_cons (P := BadT K) (bad ev_c (fun _ => valT_bl _) (by decide)) ap_nil)))) (fun vs G ⟨v1, r1, z1, _, v2, r2, z2, _, v3, r3, z3, _, v4, r4, z4, _, z5⟩ => by rw [z1, z2, z3, z4, z5]; show 4 ≤ 100000; decide)).imp
        fun v G _ ⟨p, vs, G1, ev, _, hp, ⟨v1, r1, z1, b1, v2, r2, z2, b2, v3, r3, z3, b3, v4, r4, z4, b4, z5⟩, e⟩ => ⟨p, vs, ev, hp, by rw [z1, z2, z3, z4, z5]; show 4 ≤ 100; decide, fun x hx => by
          rw [z1, z2, z3, z4, z5] at hx
          simp only [List.mem_cons, List.not_mem_nil, or_false] at hx
          rcases hx with rfl | rfl | rfl | rfl
          · exact MonoP.mono e b1
          · exact MonoP.mono e b2
          · exact MonoP.mono e b3
          · exact MonoP.mono e b4⟩) (fun _ => rfl) fun x H5 e5 hx => ev_callP (ap_one (ev_var (v := x) rfl).p) fun vs H6 e6 ⟨v, ev, pv⟩ Q q => ⟨x, by rw [ev, show v = x from pv], MonoP.mono e6 hx, q⟩)) fun G e => q G
end
end Ev

set_option Elab.async false
set_option linter.all false
set_option maxRecDepth 100000
set_option maxHeartbeats 4000000
namespace Ev
open PySem PySem.Spec L2 Evl Wk LamX Sk
theorem all_mk {l : PySem.W.OpenLaw} {w : World} {K : PySem.W.Frag} {h : Heap} {mg : Str → Option Value} {fa cS cB cG cA cU cT : Addr} (X : K.In h) (G : h.Ns mainGlobals mg) (hfa : mg "law" = some (.ref fa))
    {f0 : Addr} {od0 an0 : Option Addr} {sl0 : Array (Option Value)} {oc0 kV0 dc0 pm0 cd0 ct0 : Value}
    {f1 : Addr} {od1 an1 : Option Addr} {sl1 : Array (Option Value)} {oc1 kV1 dc1 pm1 cd1 ct1 : Value}
    {f2 : Addr} {od2 an2 : Option Addr} {sl2 : Array (Option Value)} {oc2 kV2 dc2 pm2 cd2 ct2 : Value}
    {f3 : Addr} {od3 an3 : Option Addr} {sl3 : Array (Option Value)} {oc3 kV3 dc3 pm3 cd3 ct3 : Value}
    {f4 : Addr} {od4 an4 : Option Addr} {sl4 : Array (Option Value)} {oc4 kV4 dc4 pm4 cd4 ct4 : Value}
    {f5 : Addr} {od5 an5 : Option Addr} {sl5 : Array (Option Value)} {oc5 kV5 dc5 pm5 cd5 ct5 : Value}
    {f6 : Addr} {od6 an6 : Option Addr} {sl6 : Array (Option Value)} {oc6 kV6 dc6 pm6 cd6 ct6 : Value}
    {f7 : Addr} {od7 an7 : Option Addr} {sl7 : Array (Option Value)} {oc7 kV7 dc7 pm7 cd7 ct7 : Value}
    {f8 : Addr} {od8 an8 : Option Addr} {sl8 : Array (Option Value)} {oc8 kV8 dc8 pm8 cd8 ct8 : Value}
    {f9 : Addr} {od9 an9 : Option Addr} {sl9 : Array (Option Value)} {oc9 kV9 dc9 pm9 cd9 ct9 : Value}
    {f10 : Addr} {od10 an10 : Option Addr} {sl10 : Array (Option Value)} {oc10 kV10 dc10 pm10 cd10 ct10 : Value}
    {f11 : Addr} {od11 an11 : Option Addr} {sl11 : Array (Option Value)} {oc11 kV11 dc11 pm11 cd11 ct11 : Value}
    {f12 : Addr} {od12 an12 : Option Addr} {sl12 : Array (Option Value)} {oc12 kV12 dc12 pm12 cd12 ct12 : Value}
    {f13 : Addr} {od13 an13 : Option Addr} {sl13 : Array (Option Value)} {oc13 kV13 dc13 pm13 cd13 ct13 : Value}
    {f14 : Addr} {od14 an14 : Option Addr} {sl14 : Array (Option Value)} {oc14 kV14 dc14 pm14 cd14 ct14 : Value}
    {t_GREATEST : Tok}
    {t_FIGURES : Tok}
    (g_ShareError : PySem.W.nsIn K mainGlobals "ShareError" = some (some (.ref cS)))
    (sbS : PySem.W.subIn K (.ref cS) (.type "BaseException") = some true)
    (tyS : PySem.W.typeIn K (.ref cS) = some (.type "type"))
    (g_BadRow : PySem.W.nsIn K mainGlobals "BadRow" = some (some (.ref cB)))
    (sbB : PySem.W.subIn K (.ref cB) (.type "BaseException") = some true)
    (tyB : PySem.W.typeIn K (.ref cB) = some (.type "type"))
    (exB : PySem.W.excIn K cB [.type "ValueError", .type "Exception", .type "BaseException", .type "object"] "ValueError.__new__" = true)
    (kpB : PySem.W.keepIn K (.ref cB) = true)
    (g_BadGifts : PySem.W.nsIn K mainGlobals "BadGifts" = some (some (.ref cG)))
    (sbG : PySem.W.subIn K (.ref cG) (.type "BaseException") = some true)
    (tyG : PySem.W.typeIn K (.ref cG) = some (.type "type"))
    (exG : PySem.W.excIn K cG [.type "ValueError", .type "Exception", .type "BaseException", .type "object"] "ValueError.__new__" = true)
    (kpG : PySem.W.keepIn K (.ref cG) = true)
    (g_BadAmount : PySem.W.nsIn K mainGlobals "BadAmount" = some (some (.ref cA)))
    (sbA : PySem.W.subIn K (.ref cA) (.type "BaseException") = some true)
    (tyA : PySem.W.typeIn K (.ref cA) = some (.type "type"))
    (exA : PySem.W.excIn K cA [.type "ValueError", .type "Exception", .type "BaseException", .type "object"] "ValueError.__new__" = true)
    (kpA : PySem.W.keepIn K (.ref cA) = true)
    (g_Unlike : PySem.W.nsIn K mainGlobals "Unlike" = some (some (.ref cU)))
    (sbU : PySem.W.subIn K (.ref cU) (.type "BaseException") = some true)
    (tyU : PySem.W.typeIn K (.ref cU) = some (.type "type"))
    (exU : PySem.W.excIn K cU [.type "ValueError", .type "Exception", .type "BaseException", .type "object"] "ValueError.__new__" = true)
    (kpU : PySem.W.keepIn K (.ref cU) = true)
    (g_BadText : PySem.W.nsIn K mainGlobals "BadText" = some (some (.ref cT)))
    (sbT : PySem.W.subIn K (.ref cT) (.type "BaseException") = some true)
    (tyT : PySem.W.typeIn K (.ref cT) = some (.type "type"))
    (exT : PySem.W.excIn K cT [.type "ValueError", .type "Exception", .type "BaseException", .type "object"] "ValueError.__new__" = true)
    (kpT : PySem.W.keepIn K (.ref cT) = true)
    (suBB : PySem.W.subIn K (.ref cB) (.ref cB) = some true)
    (hdB : PySem.W.hasDictIn K cB = true)
    (hdS : PySem.W.hasDictIn K cS = true)
    (hdT : PySem.W.hasDictIn K cT = true)
    (suT : PySem.W.subIn K (.ref cT) (.ref cS) = some true)
    (hgT : PySem.W.findIn K (.ref cT) "__getattribute__" = some (some (.builtin "BaseException.__getattribute__")))
    (hkT : PySem.W.findIn K (.ref cT) "__getattr__" = some none)
    (haT : PySem.W.findIn K (.ref cT) "__class__" = some (some (.builtin "object.__class__")))
    (hmT : PySem.W.mroIn K cT (.type "object") = some true)
    (kTB : PySem.W.kitOne K (.ref cT) (.ref cB) = some false)
    (kTG : PySem.W.kitOne K (.ref cT) (.ref cG) = some false)
    (kTA : PySem.W.kitOne K (.ref cT) (.ref cA) = some false)
    (kTU : PySem.W.kitOne K (.ref cT) (.ref cU) = some false)
    (kTT : PySem.W.kitOne K (.ref cT) (.ref cT) = some true)
    (kvT : PySem.W.kitOne K (.ref cT) (.type "ValueError") = some true)
    (hn : PySem.W.specialIn K (.builtin "object.__class__") "__get__" = some (some (.builtin "getset_descriptor.__get__")))
    (htk : PySem.W.takesIn K (.builtin "object.__class__") = some true)
    (a0 : PySem.W.nsIn K mainGlobals "is_whole" = some (some (.ref f0)))
    (l0 : K.lookup f0 = some ⟨oc0, od0, .func (PySem.W.fnOf "is_whole" "is_whole" (defArgs s_is_whole) (defBody s_is_whole) (defScope s_is_whole) .none kV0 dc0 pm0 an0 cd0 ct0), sl0⟩)
    (c0 : PySem.W.codeIn K cd0 "is_whole" = true)
    (k0 : PySem.W.keepIn K (.ref f0) = true)
    (a1 : PySem.W.nsIn K mainGlobals "is_share" = some (some (.ref f1)))
    (l1 : K.lookup f1 = some ⟨oc1, od1, .func (PySem.W.fnOf "is_share" "is_share" (defArgs s_is_share) (defBody s_is_share) (defScope s_is_share) .none kV1 dc1 pm1 an1 cd1 ct1), sl1⟩)
    (c1 : PySem.W.codeIn K cd1 "is_share" = true)
    (k1 : PySem.W.keepIn K (.ref f1) = true)
    (a2 : PySem.W.nsIn K mainGlobals "check_row" = some (some (.ref f2)))
    (l2 : K.lookup f2 = some ⟨oc2, od2, .func (PySem.W.fnOf "check_row" "check_row" (defArgs s_check_row) (defBody s_check_row) (defScope s_check_row) .none kV2 dc2 pm2 an2 cd2 ct2), sl2⟩)
    (c2 : PySem.W.codeIn K cd2 "check_row" = true)
    (k2 : PySem.W.keepIn K (.ref f2) = true)
    (a3 : PySem.W.nsIn K mainGlobals "number_in" = some (some (.ref f3)))
    (l3 : K.lookup f3 = some ⟨oc3, od3, .func (PySem.W.fnOf "number_in" "number_in" (defArgs s_number_in) (defBody s_number_in) (defScope s_number_in) .none kV3 dc3 pm3 an3 cd3 ct3), sl3⟩)
    (c3 : PySem.W.codeIn K cd3 "number_in" = true)
    (k3 : PySem.W.keepIn K (.ref f3) = true)
    (a4 : PySem.W.nsIn K mainGlobals "_law_number" = some (some (.ref f4)))
    (l4 : K.lookup f4 = some ⟨oc4, od4, .func (PySem.W.fnOf "_law_number" "_law_number" (defArgs s_law_number) (defBody s_law_number) (defScope s_law_number) .none kV4 dc4 pm4 an4 cd4 ct4), sl4⟩)
    (c4 : PySem.W.codeIn K cd4 "_law_number" = true)
    (k4 : PySem.W.keepIn K (.ref f4) = true)
    (a5 : PySem.W.nsIn K mainGlobals "written" = some (some (.ref f5)))
    (l5 : K.lookup f5 = some ⟨oc5, od5, .func (PySem.W.fnOf "written" "written" (defArgs s_written) (defBody s_written) (defScope s_written) .none kV5 dc5 pm5 an5 cd5 ct5), sl5⟩)
    (c5 : PySem.W.codeIn K cd5 "written" = true)
    (k5 : PySem.W.keepIn K (.ref f5) = true)
    (a6 : PySem.W.nsIn K mainGlobals "read" = some (some (.ref f6)))
    (l6 : K.lookup f6 = some ⟨oc6, od6, .func (PySem.W.fnOf "read" "read" (defArgs s_read) (defBody s_read) (defScope s_read) .none kV6 dc6 pm6 an6 cd6 ct6), sl6⟩)
    (c6 : PySem.W.codeIn K cd6 "read" = true)
    (k6 : PySem.W.keepIn K (.ref f6) = true)
    (a7 : PySem.W.nsIn K mainGlobals "_law_in" = some (some (.ref f7)))
    (l7 : K.lookup f7 = some ⟨oc7, od7, .func (PySem.W.fnOf "_law_in" "_law_in" (defArgs s_law_in) (defBody s_law_in) (defScope s_law_in) .none kV7 dc7 pm7 an7 cd7 ct7), sl7⟩)
    (c7 : PySem.W.codeIn K cd7 "_law_in" = true)
    (k7 : PySem.W.keepIn K (.ref f7) = true)
    (a8 : PySem.W.nsIn K mainGlobals "_law_refused" = some (some (.ref f8)))
    (l8 : K.lookup f8 = some ⟨oc8, od8, .func (PySem.W.fnOf "_law_refused" "_law_refused" (defArgs s_law_refused) (defBody s_law_refused) (defScope s_law_refused) .none kV8 dc8 pm8 an8 cd8 ct8), sl8⟩)
    (c8 : PySem.W.codeIn K cd8 "_law_refused" = true)
    (k8 : PySem.W.keepIn K (.ref f8) = true)
    (a9 : PySem.W.nsIn K mainGlobals "_law_right" = some (some (.ref f9)))
    (l9 : K.lookup f9 = some ⟨oc9, od9, .func (PySem.W.fnOf "_law_right" "_law_right" (defArgs s_law_right) (defBody s_law_right) (defScope s_law_right) .none kV9 dc9 pm9 an9 cd9 ct9), sl9⟩)
    (c9 : PySem.W.codeIn K cd9 "_law_right" = true)
    (k9 : PySem.W.keepIn K (.ref f9) = true)
    (a10 : PySem.W.nsIn K mainGlobals "_law_few" = some (some (.ref f10)))
    (l10 : K.lookup f10 = some ⟨oc10, od10, .func (PySem.W.fnOf "_law_few" "_law_few" (defArgs s_law_few) (defBody s_law_few) (defScope s_law_few) .none kV10 dc10 pm10 an10 cd10 ct10), sl10⟩)
    (c10 : PySem.W.codeIn K cd10 "_law_few" = true)
    (k10 : PySem.W.keepIn K (.ref f10) = true)
    (a11 : PySem.W.nsIn K mainGlobals "_law_cell_at" = some (some (.ref f11)))
    (l11 : K.lookup f11 = some ⟨oc11, od11, .func (PySem.W.fnOf "_law_cell_at" "_law_cell_at" (defArgs s_law_cell_at) (defBody s_law_cell_at) (defScope s_law_cell_at) .none kV11 dc11 pm11 an11 cd11 ct11), sl11⟩)
    (c11 : PySem.W.codeIn K cd11 "_law_cell_at" = true)
    (k11 : PySem.W.keepIn K (.ref f11) = true)
    (a12 : PySem.W.nsIn K mainGlobals "_law_draw" = some (some (.ref f12)))
    (l12 : K.lookup f12 = some ⟨oc12, od12, .func (PySem.W.fnOf "_law_draw" "_law_draw" (defArgs s_law_draw) (defBody s_law_draw) (defScope s_law_draw) .none kV12 dc12 pm12 an12 cd12 ct12), sl12⟩)
    (c12 : PySem.W.codeIn K cd12 "_law_draw" = true)
    (k12 : PySem.W.keepIn K (.ref f12) = true)
    (a13 : PySem.W.nsIn K mainGlobals "_law_row" = some (some (.ref f13)))
    (l13 : K.lookup f13 = some ⟨oc13, od13, .func (PySem.W.fnOf "_law_row" "_law_row" (defArgs s_law_row) (defBody s_law_row) (defScope s_law_row) .none kV13 dc13 pm13 an13 cd13 ct13), sl13⟩)
    (c13 : PySem.W.codeIn K cd13 "_law_row" = true)
    (k13 : PySem.W.keepIn K (.ref f13) = true)
    (a14 : PySem.W.nsIn K mainGlobals "law" = some (some (.ref f14)))
    (l14 : K.lookup f14 = some ⟨oc14, od14, .func (PySem.W.fnOf "law" "law" (defArgs s_law) (defBody s_law) (defScope s_law) .none kV14 dc14 pm14 an14 cd14 ct14), sl14⟩)
    (c14 : PySem.W.codeIn K cd14 "law" = true)
    (k14 : PySem.W.keepIn K (.ref f14) = true)
    (z_len : PySem.W.nsIn K mainGlobals "len" = some none)
    (z_all : PySem.W.nsIn K mainGlobals "all" = some none)
    (z_any : PySem.W.nsIn K mainGlobals "any" = some none)
    (z_sum : PySem.W.nsIn K mainGlobals "sum" = some none)
    (z_max : PySem.W.nsIn K mainGlobals "max" = some none)
    (z_min : PySem.W.nsIn K mainGlobals "min" = some none)
    (z_sorted : PySem.W.nsIn K mainGlobals "sorted" = some none)
    (z_isinstance : PySem.W.nsIn K mainGlobals "isinstance" = some none)
    (z_range : PySem.W.nsIn K mainGlobals "range" = some none)
    (z_reversed : PySem.W.nsIn K mainGlobals "reversed" = some none)
    (z_zip : PySem.W.nsIn K mainGlobals "zip" = some none)
    (z_list : PySem.W.nsIn K mainGlobals "list" = some none)
    (z_abs : PySem.W.nsIn K mainGlobals "abs" = some none)
    (z_str : PySem.W.nsIn K mainGlobals "str" = some none)
    (z_int : PySem.W.nsIn K mainGlobals "int" = some none)
    (z_set : PySem.W.nsIn K mainGlobals "set" = some none)
    (z_bool : PySem.W.nsIn K mainGlobals "bool" = some none)
    (z_tuple : PySem.W.nsIn K mainGlobals "tuple" = some none)
    (z_ValueError : PySem.W.nsIn K mainGlobals "ValueError" = some none)
    (v_GREATEST : PySem.W.nsIn K mainGlobals "GREATEST" = some (some (.int 1000000 t_GREATEST)))
    (v_FIGURES : PySem.W.nsIn K mainGlobals "FIGURES" = some (some (.str "0123456789" t_FIGURES))) :
    ∃ fd : FuncData, (∀ (s : Shared) (v : Value), BindsTo s fd ⟨[v], []⟩ [("_law_script", v)]) ∧ ∀ base : Heap, K.In base → base.Ns mainGlobals mg → FnOk l.prog w K mg base CX0 7 fa fd ["_law_script"] (spLawX K) := by
  have e := hfa.symm.trans (PySem.W.mg_of X G a14)
  cases e
  have F0 := fun_mk (st := s_is_whole) l0 c0 k0
  have R0 : Raw K mg "is_whole" s_is_whole ["thing"] := ⟨_, _, F0, PySem.W.mg_of X G a0, F0.binds (fun _ _ _ _ _ _ us hl => match us, hl with | [_], _ => rfl)⟩
  have F1 := fun_mk (st := s_is_share) l1 c1 k1
  have R1 : Raw K mg "is_share" s_is_share ["thing"] := ⟨_, _, F1, PySem.W.mg_of X G a1, F1.binds (fun _ _ _ _ _ _ us hl => match us, hl with | [_], _ => rfl)⟩
  have F2 := fun_mk (st := s_check_row) l2 c2 k2
  have R2 : Raw K mg "check_row" s_check_row ["row"] := ⟨_, _, F2, PySem.W.mg_of X G a2, F2.binds (fun _ _ _ _ _ _ us hl => match us, hl with | [_], _ => rfl)⟩
  have F3 := fun_mk (st := s_number_in) l3 c3 k3
  have R3 : Raw K mg "number_in" s_number_in ["word"] := ⟨_, _, F3, PySem.W.mg_of X G a3, F3.binds (fun _ _ _ _ _ _ us hl => match us, hl with | [_], _ => rfl)⟩
  have F4 := fun_mk (st := s_law_number) l4 c4 k4
  have R4 : Raw K mg "_law_number" s_law_number ["_law_text"] := ⟨_, _, F4, PySem.W.mg_of X G a4, F4.binds (fun _ _ _ _ _ _ us hl => match us, hl with | [_], _ => rfl)⟩
  have F5 := fun_mk (st := s_written) l5 c5 k5
  have R5 : Raw K mg "written" s_written ["row"] := ⟨_, _, F5, PySem.W.mg_of X G a5, F5.binds (fun _ _ _ _ _ _ us hl => match us, hl with | [_], _ => rfl)⟩
  have F6 := fun_mk (st := s_read) l6 c6 k6
  have R6 : Raw K mg "read" s_read ["text"] := ⟨_, _, F6, PySem.W.mg_of X G a6, F6.binds (fun _ _ _ _ _ _ us hl => match us, hl with | [_], _ => rfl)⟩
  have F7 := fun_mk (st := s_law_in) l7 c7 k7
  have R7 : Raw K mg "_law_in" s_law_in ["_law_text"] := ⟨_, _, F7, PySem.W.mg_of X G a7, F7.binds (fun _ _ _ _ _ _ us hl => match us, hl with | [_], _ => rfl)⟩
  have F8 := fun_mk (st := s_law_refused) l8 c8 k8
  have R8 : Raw K mg "_law_refused" s_law_refused ["_law_text"] := ⟨_, _, F8, PySem.W.mg_of X G a8, F8.binds (fun _ _ _ _ _ _ us hl => match us, hl with | [_], _ => rfl)⟩
  have F9 := fun_mk (st := s_law_right) l9 c9 k9
  have R9 : Raw K mg "_law_right" s_law_right ["_law_text"] := ⟨_, _, F9, PySem.W.mg_of X G a9, F9.binds (fun _ _ _ _ _ _ us hl => match us, hl with | [_], _ => rfl)⟩
  have F10 := fun_mk (st := s_law_few) l10 c10 k10
  have R10 : Raw K mg "_law_few" s_law_few [] := ⟨_, _, F10, PySem.W.mg_of X G a10, F10.binds (fun _ _ _ _ _ _ us hl => match us, hl with | [], _ => rfl)⟩
  have F11 := fun_mk (st := s_law_cell_at) l11 c11 k11
  have R11 : Raw K mg "_law_cell_at" s_law_cell_at ["_law_script", "_law_k"] := ⟨_, _, F11, PySem.W.mg_of X G a11, F11.binds (fun _ _ _ _ _ _ us hl => match us, hl with | [_, _], _ => rfl)⟩
  have F12 := fun_mk (st := s_law_draw) l12 c12 k12
  have R12 : Raw K mg "_law_draw" s_law_draw ["_law_cell", "_law_k", "_law_many"] := ⟨_, _, F12, PySem.W.mg_of X G a12, F12.binds (fun _ _ _ _ _ _ us hl => match us, hl with | [_, _, _], _ => rfl)⟩
  have F13 := fun_mk (st := s_law_row) l13 c13 k13
  have R13 : Raw K mg "_law_row" s_law_row ["_law_script"] := ⟨_, _, F13, PySem.W.mg_of X G a13, F13.binds (fun _ _ _ _ _ _ us hl => match us, hl with | [_], _ => rfl)⟩
  have F14 := fun_mk (st := s_law) l14 c14 k14
  have T : Txt K mg := ⟨PySem.W.mg_none_of X G z_len, PySem.W.mg_none_of X G z_all, PySem.W.mg_none_of X G z_any, PySem.W.mg_none_of X G z_sum, PySem.W.mg_none_of X G z_max, PySem.W.mg_none_of X G z_min, PySem.W.mg_none_of X G z_sorted, PySem.W.mg_none_of X G z_isinstance, PySem.W.mg_none_of X G z_range, PySem.W.mg_none_of X G z_reversed, PySem.W.mg_none_of X G z_zip, PySem.W.mg_none_of X G z_list, PySem.W.mg_none_of X G z_abs, PySem.W.mg_none_of X G z_str, PySem.W.mg_none_of X G z_int, PySem.W.mg_none_of X G z_set, PySem.W.mg_none_of X G z_bool, PySem.W.mg_none_of X G z_tuple, PySem.W.mg_none_of X G z_ValueError, ⟨_, PySem.W.mg_of X G v_GREATEST⟩, ⟨_, PySem.W.mg_of X G v_FIGURES⟩⟩
  have ER : Errs K mg cS cB cG cA cU cT := ⟨PySem.W.mg_of X G g_ShareError, ⟨exB, PySem.W.mg_of X G g_BadRow, kpB, sbB, tyB⟩, ⟨exG, PySem.W.mg_of X G g_BadGifts, kpG, sbG, tyG⟩, ⟨exA, PySem.W.mg_of X G g_BadAmount, kpA, sbA, tyA⟩, ⟨exU, PySem.W.mg_of X G g_Unlike, kpU, sbU, tyU⟩, ⟨exT, PySem.W.mg_of X G g_BadText, kpT, sbT, tyT⟩⟩
  have KT : KnownT K cS cB cG cA cU cT := ⟨PySem.W.exm_ref sbB hdB tyB suBB, PySem.W.exm_ref sbS hdS tyS suT, ⟨hgT, hkT, sbT, hdT, haT, hn, htk, hmT⟩, kTB, kTG, kTA, kTU, kTT, kvT⟩
  refine ⟨PySem.W.fnOf "law" "law" (defArgs s_law) (defBody s_law) (defScope s_law) .none kV14 dc14 pm14 an14 cd14 ct14, fun s v => .of_eq rfl, fun base _ _ => ?_⟩
  have d_is_whole := def_is_whole (P := l.prog) (w := w) (base := base) R0 T
  have d_is_share := def_is_share (P := l.prog) (w := w) (base := base) R1 T d_is_whole
  have x_check_row := defX_check_row (P := l.prog) (w := w) (base := base) R2 T ER d_is_share
  have x_number_in := defX_number_in (P := l.prog) (w := w) (base := base) R3 T ER
  have d_law_number := def_law_number (P := l.prog) (w := w) (base := base) R4 T
  have d_written := def_written (P := l.prog) (w := w) (base := base) R5 T x_check_row
  have x_read := defX_read (P := l.prog) (w := w) (base := base) R6 T ER KT x_check_row x_number_in
  have d_law_in := def_law_in (P := l.prog) (w := w) (base := base) R7 T d_law_number
  have d_law_refused := def_law_refused (P := l.prog) (w := w) (base := base) R8 T ER KT x_read
  have d_law_right := def_law_right (P := l.prog) (w := w) (base := base) R9 T d_law_in d_law_refused x_read d_written
  have d_law_few := def_law_few (P := l.prog) (w := w) (base := base) R10 T
  have d_law_cell_at := def_law_cell_at (P := l.prog) (w := w) (base := base) R11 T
  have d_law_draw := def_law_draw (P := l.prog) (w := w) (base := base) R12 T
  have d_law_row := def_law_row (P := l.prog) (w := w) (base := base) R13 T d_law_cell_at d_law_draw
  exact ok_law F14 T d_law_cell_at d_law_draw d_law_row d_written d_law_right d_law_few d_law_refused
theorem walk {l : PySem.W.OpenLaw} {q : Program} {loose : List Str} {XP : (Str → Option Value) → Heap → Prop} {YP : World → Heap → Prop} {d : DefRec} {K : Params → PySem.W.Frag} (hn : l.most = some 63) (hdf : d.params.defaults = [])
    (hY : ∀ (w : World) (h : Heap), YP w h → (K w.params).In h)
    (F : ∀ (w : World) (mg : Str → Option Value) (fa : Addr) (h : Heap), (K w.params).In h → h.Ns mainGlobals mg → mg d.name = some (.ref fa) →
      ∃ fd : FuncData, (∀ (s : Shared) (u : Value), BindsTo s fd ⟨[u], []⟩ [("_law_script", u)]) ∧ ∀ base : Heap, (K w.params).In base → base.Ns mainGlobals mg → FnOk l.prog w (K w.params) mg base CX0 7 fa fd ["_law_script"] (spLawX (K w.params))) :
    PySem.W.WalkO q loose XP YP l.row.toRowW d [] (fun f vs => PySem.call f vs) :=
  L2.walk_of (n := 63) (k := 7) (x := "_law_script") (CX := fun _ => CX0) (sp := fun w => spLawX (K w.params)) hn (by decide) hdf ⟨rfl, by decide, by decide⟩ hY F (fun _ _ a ns hl _ hS => ⟨a, ns, rfl, hS, hl, fun _ => rfl⟩) fun _ _ _ _ _ z => z
end Ev
open PySem PySem.W PyProof.Rows in
set_option maxRecDepth 100000 in
set_option maxHeartbeats 0 in
theorem PySem.Challenge.cw_evenhand_k06_written_holds : PySem.Challenge.rw_evenhand_k06_written.Holds := by
  w_on; o_law; k_head; (case hw => w_witness2)
  k_fill
  refine Ev.walk (l := PySem.Challenge.rw_evenhand_k06_written) rfl rfl (fun w h Y => PySem.W.kIn_of Y) ?F
  case F =>
    intro w mg fa h KX G hmg
    refine' Ev.all_mk KX G hmg ?g_ShareError ?sbS ?tyS ?g_BadRow ?sbB ?tyB ?exB ?kpB ?g_BadGifts ?sbG ?tyG ?exG ?kpG ?g_BadAmount ?sbA ?tyA ?exA ?kpA ?g_Unlike ?sbU ?tyU ?exU ?kpU ?g_BadText ?sbT ?tyT ?exT ?kpT ?suBB ?hdB ?hdS ?hdT ?suT ?hgT ?hkT ?haT ?hmT ?kTB ?kTG ?kTA ?kTU ?kTT ?kvT ?hn ?htk ?a0 ?l0 ?c0 ?k0 ?a1 ?l1 ?c1 ?k1 ?a2 ?l2 ?c2 ?k2 ?a3 ?l3 ?c3 ?k3 ?a4 ?l4 ?c4 ?k4 ?a5 ?l5 ?c5 ?k5 ?a6 ?l6 ?c6 ?k6 ?a7 ?l7 ?c7 ?k7 ?a8 ?l8 ?c8 ?k8 ?a9 ?l9 ?c9 ?k9 ?a10 ?l10 ?c10 ?k10 ?a11 ?l11 ?c11 ?k11 ?a12 ?l12 ?c12 ?k12 ?a13 ?l13 ?c13 ?k13 ?a14 ?l14 ?c14 ?k14 ?z_len ?z_all ?z_any ?z_sum ?z_max ?z_min ?z_sorted ?z_isinstance ?z_range ?z_reversed ?z_zip ?z_list ?z_abs ?z_str ?z_int ?z_set ?z_bool ?z_tuple ?z_ValueError ?v_GREATEST ?v_FIGURES
    (case g_ShareError => k_is)
    (case sbS => k_is)
    (case tyS => k_is)
    (case g_BadRow => k_is)
    (case sbB => k_is)
    (case tyB => k_is)
    (case exB => k_exc)
    (case kpB => k_is)
    (case g_BadGifts => k_is)
    (case sbG => k_is)
    (case tyG => k_is)
    (case exG => k_exc)
    (case kpG => k_is)
    (case g_BadAmount => k_is)
    (case sbA => k_is)
    (case tyA => k_is)
    (case exA => k_exc)
    (case kpA => k_is)
    (case g_Unlike => k_is)
    (case sbU => k_is)
    (case tyU => k_is)
    (case exU => k_exc)
    (case kpU => k_is)
    (case g_BadText => k_is)
    (case sbT => k_is)
    (case tyT => k_is)
    (case exT => k_exc)
    (case kpT => k_is)
    (case suBB => k_is)
    (case hdB => k_is)
    (case hdS => k_is)
    (case hdT => k_is)
    (case suT => k_is)
    (case hgT => k_is)
    (case hkT => k_is)
    (case haT => k_is)
    (case hmT => k_is)
    (case kTB => kernel_rfl)
    (case kTG => kernel_rfl)
    (case kTA => kernel_rfl)
    (case kTU => kernel_rfl)
    (case kTT => kernel_rfl)
    (case kvT => kernel_rfl)
    (case hn => k_is)
    (case htk => k_is)
    (case a0 => k_is)
    (case l0 => k_is)
    (case c0 => k_is)
    (case k0 => k_is)
    (case a1 => k_is)
    (case l1 => k_is)
    (case c1 => k_is)
    (case k1 => k_is)
    (case a2 => k_is)
    (case l2 => k_is)
    (case c2 => k_is)
    (case k2 => k_is)
    (case a3 => k_is)
    (case l3 => k_is)
    (case c3 => k_is)
    (case k3 => k_is)
    (case a4 => k_is)
    (case l4 => k_is)
    (case c4 => k_is)
    (case k4 => k_is)
    (case a5 => k_is)
    (case l5 => k_is)
    (case c5 => k_is)
    (case k5 => k_is)
    (case a6 => k_is)
    (case l6 => k_is)
    (case c6 => k_is)
    (case k6 => k_is)
    (case a7 => k_is)
    (case l7 => k_is)
    (case c7 => k_is)
    (case k7 => k_is)
    (case a8 => k_is)
    (case l8 => k_is)
    (case c8 => k_is)
    (case k8 => k_is)
    (case a9 => k_is)
    (case l9 => k_is)
    (case c9 => k_is)
    (case k9 => k_is)
    (case a10 => k_is)
    (case l10 => k_is)
    (case c10 => k_is)
    (case k10 => k_is)
    (case a11 => k_is)
    (case l11 => k_is)
    (case c11 => k_is)
    (case k11 => k_is)
    (case a12 => k_is)
    (case l12 => k_is)
    (case c12 => k_is)
    (case k12 => k_is)
    (case a13 => k_is)
    (case l13 => k_is)
    (case c13 => k_is)
    (case k13 => k_is)
    (case a14 => k_is)
    (case l14 => k_is)
    (case c14 => k_is)
    (case k14 => k_is)
    (case z_len => k_is)
    (case z_all => k_is)
    (case z_any => k_is)
    (case z_sum => k_is)
    (case z_max => k_is)
    (case z_min => k_is)
    (case z_sorted => k_is)
    (case z_isinstance => k_is)
    (case z_range => k_is)
    (case z_reversed => k_is)
    (case z_zip => k_is)
    (case z_list => k_is)
    (case z_abs => k_is)
    (case z_str => k_is)
    (case z_int => k_is)
    (case z_set => k_is)
    (case z_bool => k_is)
    (case z_tuple => k_is)
    (case z_ValueError => k_is)
    (case v_GREATEST => k_is)
    (case v_FIGURES => k_is)

